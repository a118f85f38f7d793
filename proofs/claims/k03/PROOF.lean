import PyProof.Rows.All
import Wide.All
import OpenK.AllK
import Wide.FinOn
import HandS.ForExc
import HandS.ForMost
import HandS.Defaults
import HandS.Lambda
import HandS.HeadHook1
import KE.DataEq
import HandS.TupAny
import HandS.IsInst
import HandS.Wide
import HandS.TupMul
import HandS.Codes
import HandS.Zip
import PyProof.CollectIter
import PyProof.WalksMore
import KE.GoesEnum
import KE.GoesZip
import KE.KItemsList
import HandS.Conv
import HandS.TryOnly
import HandS.SortInts
import HandS.Dict
import HandS.ExcInit
import HandS.ExcField
import KE.KMinKey
import HandS.SortKw
import KE.KDictDisplayH
import HandS.Style
import HandS.SetFor
import HandS.CallSlots
import HandS.WordsDict
import HandS.DictComp
import HandS.Iter
import HandS.OwnEq
import KE.KFmtOwn
import PyProof.InstNe
import HandS.MakeKwOnly
import HandS.FStr
import KE.KEqDict
import PyProof.NeKinds
import HandS.Small
import HandS.Head0
import HandS.Head1
import HandS.Head2
import HandS.HeadEnd
import HandS.HeadHook2
import HandS.HeadHook4
import HandS.HeadWalk
import HandS.EndTab
import PySem.Challenge.RW_hidelater_k03_counts_and_rooms
set_option Elab.async false
set_option linter.all false
set_option maxRecDepth 100000
set_option maxHeartbeats 0
namespace Ab
open PySem PySem.Spec PyProof.Rows L2
/-! ### values as data -/
inductive W where
  | non | bl (b : Bool) | int (i : Int) | str (x : Str) | tup (xs : List W) | lst (xs : List W) | dct (ks vs : List W) | ref (a : Addr) | ty (n : String)
instance : Inhabited W := ⟨.non⟩
/-- a key of a dict: a flat one, or a tuple of flat ones -/
def keyF : W → Option Key
  | .int i => some (.inl i)
  | .str x => some (.inr x)
  | _ => none
def keyFs : List W → Option (List Key)
  | [] => some []
  | w :: ws => match keyF w, keyFs ws with
    | some k, some ks => some (k :: ks)
    | _, _ => none
def keyT : W → Option (List Key)
  | .tup ws => keyFs ws
  | _ => none
def Imm : HO → Prop
  | .tup _ => True
  | .frz _ _ => True
  | _ => False
/-- a list that no one writes any more -/
def LsF (H : Hp) (a : Addr) (vs : List V) : Prop := ∃ o, H a = some (.frz o (.lst vs))
theorem LsF.sq {K : PySem.W.Frag} {H : Hp} {a : Addr} {vs : List V} (h : LsF H a vs) : SqL K H a vs := let ⟨o, h⟩ := h; .inl (.inr ⟨o, h⟩)
/-- a tuple's object: the abstract heap's own, or one of the written part -/
def TqT (K : PySem.W.Frag) (H : Hp) (a : Addr) (xs : List V) : Prop :=
  H a = some (.tup xs) ∨ xs ≠ [] ∧ ∃ (o : Obj) (its : Array Value) (n : Nat), K.lookup a = some o ∧ o.cls = .type "tuple" ∧ o.data = .seq its n ∧ its.size ≤ sizeLine ∧ Vals xs its.toList
theorem TqT.sq {K : PySem.W.Frag} {H : Hp} {a : Addr} {xs : List V} (h : TqT K H a xs) : SqT K H a xs := h.imp .inl (·.2)
mutual
def Rep (K : PySem.W.Frag) (H : Hp) : W → V → Prop
  | .non, v => v = .non
  | .bl b, v => v = .bl b
  | .int i, v => v = .int i
  | .str x, v => v = .str x
  | .tup ws, v => ∃ a vs, v = .ref a ∧ TqT K H a vs ∧ RepL K H ws vs
  | .lst ws, v => ∃ a vs, v = .ref a ∧ LsF H a vs ∧ RepL K H ws vs
  | .dct ks ws, v => ∃ a, v = .ref a ∧ ((∃ o kvs, H a = some (.frz o (.dK kvs)) ∧ ks.map keyF = kvs.map (fun p => some p.1) ∧ RepL K H ws (kvs.map (·.2))) ∨
      ∃ o kvs, H a = some (.frz o (.dT kvs)) ∧ (∃ r, ks = .lst [] :: r ∧ r.map keyT = kvs.map (fun p => some p.1)) ∧ RepL K H ws (.non :: kvs.map (·.2)))
  | .ref a, v => v = .ref a
  | .ty n, v => v = .ty n
def RepL (K : PySem.W.Frag) (H : Hp) : List W → List V → Prop
  | [], vs => vs = []
  | w :: ws, vs => ∃ v r, vs = v :: r ∧ Rep K H w v ∧ RepL K H ws r
end
def Keeps (H H' : Hp) : Prop := ∀ a o, H a = some o → Imm o → H' a = some o
theorem Keeps.refl (H : Hp) : Keeps H H := fun _ _ h _ => h
theorem Keeps.trans {H H1 H2 : Hp} (a : Keeps H H1) (b : Keeps H1 H2) : Keeps H H2 := fun p o h i => b p o (a p o h i) i
theorem Keeps.tqT {K : PySem.W.Frag} {H H' : Hp} (k : Keeps H H') {a : Addr} {vs : List V} (h : TqT K H a vs) : TqT K H' a vs := h.imp (fun e => k _ _ e trivial) id
theorem Keeps.sqT {K : PySem.W.Frag} {H H' : Hp} (k : Keeps H H') {a : Addr} {vs : List V} (h : SqT K H a vs) : SqT K H' a vs := by
  rcases h with (h | ⟨o, h⟩) | h
  · exact .inl (.inl (k _ _ h trivial))
  · exact .inl (.inr ⟨o, k _ _ h trivial⟩)
  · exact .inr h
theorem Keeps.lsF {H H' : Hp} (k : Keeps H H') {a : Addr} {vs : List V} (h : LsF H a vs) : LsF H' a vs := let ⟨o, h⟩ := h; ⟨o, k _ _ h trivial⟩
mutual
theorem Rep.mono {K : PySem.W.Frag} {H H' : Hp} (k : Keeps H H') : ∀ (w : W) (v : V), Rep K H w v → Rep K H' w v
  | .non, _, h => by simpa only [Rep] using h
  | .bl _, _, h => by simpa only [Rep] using h
  | .int _, _, h => by simpa only [Rep] using h
  | .str _, _, h => by simpa only [Rep] using h
  | .ref _, _, h => by simpa only [Rep] using h
  | .ty _, _, h => by simpa only [Rep] using h
  | .tup ws, v, h => by
    simp only [Rep] at h ⊢
    obtain ⟨a, vs, e, s, r⟩ := h
    exact ⟨a, vs, e, k.tqT s, RepL.mono k ws vs r⟩
  | .lst ws, v, h => by
    simp only [Rep] at h ⊢
    obtain ⟨a, vs, e, s, r⟩ := h
    exact ⟨a, vs, e, k.lsF s, RepL.mono k ws vs r⟩
  | .dct ks ws, v, h => by
    simp only [Rep] at h ⊢
    obtain ⟨a, e, ⟨o, kvs, s, t, r⟩ | ⟨o, kvs, s, t, r⟩⟩ := h
    · exact ⟨a, e, .inl ⟨o, kvs, k _ _ s trivial, t, RepL.mono k ws _ r⟩⟩
    · exact ⟨a, e, .inr ⟨o, kvs, k _ _ s trivial, t, RepL.mono k ws _ r⟩⟩
theorem RepL.mono {K : PySem.W.Frag} {H H' : Hp} (k : Keeps H H') : ∀ (ws : List W) (vs : List V), RepL K H ws vs → RepL K H' ws vs
  | [], vs, h => by simpa only [RepL] using h
  | w :: ws, vs, h => by
    simp only [RepL] at h ⊢
    obtain ⟨v, r, e, a, b⟩ := h
    exact ⟨v, r, e, Rep.mono k w v a, RepL.mono k ws r b⟩
end
section
variable {K : PySem.W.Frag} {H : Hp}
theorem Rep.of_int {i : Int} {v : V} (h : Rep K H (.int i) v) : v = .int i := by simpa only [Rep] using h
theorem Rep.of_str {i : Str} {v : V} (h : Rep K H (.str i) v) : v = .str i := by simpa only [Rep] using h
theorem Rep.of_bl {i : Bool} {v : V} (h : Rep K H (.bl i) v) : v = .bl i := by simpa only [Rep] using h
theorem Rep.of_non {v : V} (h : Rep K H .non v) : v = .non := by simpa only [Rep] using h
theorem Rep.of_ref {a : Addr} {v : V} (h : Rep K H (.ref a) v) : v = .ref a := by simpa only [Rep] using h
theorem Rep.of_ty {n : String} {v : V} (h : Rep K H (.ty n) v) : v = .ty n := by simpa only [Rep] using h
theorem Rep.of_tupT {ws : List W} {v : V} (h : Rep K H (.tup ws) v) : ∃ a vs, v = .ref a ∧ TqT K H a vs ∧ RepL K H ws vs := by simpa only [Rep] using h
theorem Rep.of_tup {ws : List W} {v : V} (h : Rep K H (.tup ws) v) : ∃ a vs, v = .ref a ∧ SqT K H a vs ∧ RepL K H ws vs := let ⟨a, vs, e, s, r⟩ := h.of_tupT; ⟨a, vs, e, s.sq, r⟩
theorem Rep.of_lst {ws : List W} {v : V} (h : Rep K H (.lst ws) v) : ∃ a vs, v = .ref a ∧ LsF H a vs ∧ RepL K H ws vs := by simpa only [Rep] using h
theorem Rep.int {i : Int} : Rep K H (.int i) (.int i) := by simp only [Rep]
theorem Rep.str {i : Str} : Rep K H (.str i) (.str i) := by simp only [Rep]
theorem Rep.bl {i : Bool} : Rep K H (.bl i) (.bl i) := by simp only [Rep]
theorem Rep.non : Rep K H .non .non := by simp only [Rep]
theorem Rep.ref {a : Addr} : Rep K H (.ref a) (.ref a) := by simp only [Rep]
theorem Rep.ty {n : String} : Rep K H (.ty n) (.ty n) := by simp only [Rep]
theorem Rep.tup {ws : List W} {a : Addr} {vs : List V} (s : TqT K H a vs) (r : RepL K H ws vs) : Rep K H (.tup ws) (.ref a) := by
  simp only [Rep]; exact ⟨a, vs, rfl, s, r⟩
theorem Rep.lst {ws : List W} {a : Addr} {vs : List V} (s : LsF H a vs) (r : RepL K H ws vs) : Rep K H (.lst ws) (.ref a) := by
  simp only [Rep]; exact ⟨a, vs, rfl, s, r⟩
theorem RepL.nil : RepL K H [] [] := by simp only [RepL]
theorem RepL.cons {w : W} {ws : List W} {v : V} {vs : List V} (a : Rep K H w v) (b : RepL K H ws vs) : RepL K H (w :: ws) (v :: vs) := by
  simp only [RepL]; exact ⟨v, vs, rfl, a, b⟩
theorem RepL.of_nil {vs : List V} (h : RepL K H [] vs) : vs = [] := by simpa only [RepL] using h
theorem RepL.of_cons {w : W} {ws : List W} {vs : List V} (h : RepL K H (w :: ws) vs) : ∃ v r, vs = v :: r ∧ Rep K H w v ∧ RepL K H ws r := by simpa only [RepL] using h
theorem RepL.length : ∀ {ws : List W} {vs : List V}, RepL K H ws vs → ws.length = vs.length
  | [], vs, h => by rw [h.of_nil]; rfl
  | w :: ws, vs, h => by
    obtain ⟨v, r, e, _, t⟩ := h.of_cons
    rw [e, List.length_cons, List.length_cons, t.length]
theorem RepL.get : ∀ {ws : List W} {vs : List V} {i : Nat} {w : W}, RepL K H ws vs → ws[i]? = some w → ∃ v, vs[i]? = some v ∧ Rep K H w v
  | [], _, _, _, _, e => by simp at e
  | w :: ws, vs, 0, x, h, e => by
    obtain ⟨v, r, rfl, a, _⟩ := h.of_cons
    simp at e; subst e; exact ⟨v, rfl, a⟩
  | w :: ws, vs, i + 1, x, h, e => by
    obtain ⟨v, r, rfl, _, t⟩ := h.of_cons
    obtain ⟨u, h1, h2⟩ := t.get (i := i) (by simpa using e)
    exact ⟨u, by simpa using h1, h2⟩
theorem RepL.append : ∀ {ws xs : List W} {vs us : List V}, RepL K H ws vs → RepL K H xs us → RepL K H (ws ++ xs) (vs ++ us)
  | [], xs, vs, us, h, g => by rw [h.of_nil]; exact g
  | w :: ws, xs, vs, us, h, g => by
    obtain ⟨v, r, rfl, a, t⟩ := h.of_cons
    exact .cons a (t.append g)
theorem RepL.set : ∀ {ws : List W} {vs : List V} (i : Nat) {w : W} {v : V}, RepL K H ws vs → Rep K H w v → RepL K H (ws.set i w) (vs.set i v)
  | [], vs, i, w, v, h, g => by rw [h.of_nil]; exact .nil
  | x :: ws, vs, 0, w, v, h, g => by
    obtain ⟨u, r, rfl, a, t⟩ := h.of_cons
    exact .cons g t
  | x :: ws, vs, i + 1, w, v, h, g => by
    obtain ⟨u, r, rfl, a, t⟩ := h.of_cons
    exact .cons a (t.set i g)
theorem RepL.take : ∀ {ws : List W} {vs : List V} (n : Nat), RepL K H ws vs → RepL K H (ws.take n) (vs.take n)
  | _, _, 0, _ => .nil
  | [], vs, n + 1, h => by rw [h.of_nil]; exact .nil
  | w :: ws, vs, n + 1, h => by
    obtain ⟨v, r, rfl, a, t⟩ := h.of_cons
    exact .cons a (t.take n)
theorem RepL.drop : ∀ {ws : List W} {vs : List V} (n : Nat), RepL K H ws vs → RepL K H (ws.drop n) (vs.drop n)
  | _, _, 0, h => h
  | [], vs, n + 1, h => by rw [h.of_nil]; exact .nil
  | w :: ws, vs, n + 1, h => by
    obtain ⟨v, r, rfl, a, t⟩ := h.of_cons
    exact t.drop n
theorem RepL.rep {ws : List W} {vs : List V} (h : RepL K H ws vs) : ∀ k : Nat, RepL K H (List.replicate k ws).flatten (List.replicate k vs).flatten
  | 0 => .nil
  | k + 1 => by
    rw [List.replicate_succ, List.replicate_succ, List.flatten_cons, List.flatten_cons]
    exact h.append (h.rep k)
theorem RepL.ints {ns : List Int} : RepL K H (ns.map W.int) (ns.map V.int) := by
  induction ns with
  | nil => exact .nil
  | cons n r ih => exact .cons .int ih
theorem RepL.of_ints {ns : List Int} {vs : List V} (h : RepL K H (ns.map W.int) vs) : vs = ns.map V.int := by
  induction ns generalizing vs with
  | nil => exact h.of_nil
  | cons n r ih =>
    obtain ⟨v, t, rfl, a, b⟩ := h.of_cons
    rw [a.of_int, ih b]; rfl
theorem RepL.of_bls {ns : List Bool} {vs : List V} (h : RepL K H (ns.map W.bl) vs) : vs = ns.map V.bl := by
  induction ns generalizing vs with
  | nil => exact h.of_nil
  | cons n r ih =>
    obtain ⟨v, t, rfl, a, b⟩ := h.of_cons
    rw [a.of_bl, ih b]; rfl
end
/-! ### contents, abstract heaps, environments -/
inductive Cont where
  | seq (ws : List W) | map (kvs : List (W × W))
def Cont.fz : Cont → W
  | .seq ws => .lst ws
  | .map kvs => .dct (kvs.map (·.1)) (kvs.map (·.2))
inductive AO where
  | cont (c : Cont) | ins (C : Str) (fs : List (Str × W))
abbrev AH := Addr → Option AO
inductive SV where
  | val (w : W) | own (c : Cont)
abbrev AEnv := List (Option SV)
def CRep (K : PySem.W.Frag) (H : Hp) (p : Addr) : Cont → Prop
  | .seq ws => ∃ vs, H p = some (.lst vs) ∧ RepL K H ws vs
  | .map kvs => (∃ ks, H p = some (.dK ks) ∧ (kvs.map (·.1)).map keyF = ks.map (fun q => some q.1) ∧ RepL K H (kvs.map (·.2)) (ks.map (·.2))) ∨
      ∃ ks, H p = some (.dT ks) ∧ (∃ r, kvs.map (·.1) = .lst [] :: r ∧ r.map keyT = ks.map (fun q => some q.1)) ∧ RepL K H (kvs.map (·.2)) (.non :: ks.map (·.2))
def FRep (K : PySem.W.Frag) (H : Hp) (fs : List (Str × W)) (vs : List (Str × V)) : Prop := fs.map (·.1) = vs.map (·.1) ∧ RepL K H (fs.map (·.2)) (vs.map (·.2))
def ORep (K : PySem.W.Frag) (H : Hp) (a : Addr) : AO → Prop
  | .cont c => CRep K H a c
  | .ins C fs => ∃ dx vs, H a = some (.ins (He.ga K C) dx vs) ∧ FRep K H fs vs
def Mu : HO → Prop
  | .lst _ => True
  | .dK _ => True
  | .dT _ => True
  | .ins _ _ _ => True
  | _ => False
theorem Mu.mut {o : HO} (h : Mu o) : Mut (some o) := by cases o <;> first | trivial | exact h.elim
/-- no table of code objects -/
def NT (o : HO) : Prop := ∀ ps, o ≠ .tbl ps
theorem Mu.nt {o : HO} (h : Mu o) : NT o := fun _ e => by subst e; exact h
theorem Imm.nt {o : HO} (h : Imm o) : NT o := fun _ e => by subst e; exact h
/-! ### tables of code objects: those of the code objects behind the mark -/
def markA : Addr := builtinsNs
/-- code object, its table, the name of what is made there -/
def cs1 (K : PySem.W.Frag) (p : Addr × Obj) : Option ((Addr × Addr) × Str) := match p.2.data with
  | .fields vs => (match vs.getD 11 .none, vs.getD 1 .none with
    | .ref P, .str q _ => some ((p.1, P), q ++ ".<locals>." ++ "<lambda>")
    | _, _ => none)
  | _ => none
def csOf (K : PySem.W.Frag) : List ((Addr × Addr) × Str) := ((K.dropWhile fun p => decide (p.1 ≠ markA)).tail).filterMap (cs1 K)
def tabsOf (K : PySem.W.Frag) : List (Addr × Str) := (csOf K).map fun p => (p.1.2, p.2)
abbrev TabsK (K : PySem.W.Frag) (H : Hp) : Prop := LamX.Tabs (tabsOf K) H
theorem TabsK.keep {K : PySem.W.Frag} {H H' : Hp} (t : TabsK K H) (k : ∀ a o, H a = some o → (¬ Mu o) → H' a = some o) : TabsK K H' := fun p hp => by
  obtain ⟨ps, h1, h2, h3⟩ := t p hp
  refine ⟨ps, k _ _ h1 (fun z => z), h2, fun pos cv hc => ?_⟩
  obtain ⟨c, e1, e2⟩ := h3 pos cv hc
  exact ⟨c, e1, k _ _ e2 (fun z => z)⟩
theorem TabsK.upd {K : PySem.W.Frag} {H : Hp} {p : Addr} {u : HO} (t : TabsK K H) (n : ∀ o, H p = some o → Mu o) : TabsK K (upd H p u) := t.keep fun a o e m => by
  have ne : a ≠ p := fun z => m (n o (z ▸ e))
  rw [upd_ne ne]; exact e
theorem Mu.imm {o : HO} (h : Mu o) : ¬ Imm o := by cases o <;> first | exact h.elim | (intro z; exact z)
theorem CRep.there {K : PySem.W.Frag} {H : Hp} {p : Addr} {c : Cont} (h : CRep K H p c) : ∃ o, H p = some o ∧ Mu o := by
  cases c with
  | seq ws => obtain ⟨vs, e, _⟩ := h; exact ⟨_, e, trivial⟩
  | map kvs =>
    rcases h with ⟨ks, e, _⟩ | ⟨ks, e, _⟩
    · exact ⟨_, e, trivial⟩
    · exact ⟨_, e, trivial⟩
theorem CRep.mu_at {K : PySem.W.Frag} {H : Hp} {p : Addr} {c : Cont} {o : HO} (h : CRep K H p c) (e : H p = some o) : Mu o := by
  obtain ⟨u, e', m⟩ := h.there
  rw [e] at e'; cases e'; exact m
theorem ORep.there {K : PySem.W.Frag} {H : Hp} {p : Addr} {o : AO} (h : ORep K H p o) : ∃ u, H p = some u ∧ Mu u := by
  cases o with
  | cont c => exact CRep.there h
  | ins C fs => obtain ⟨dx, vs, e, _⟩ := h; exact ⟨_, e, trivial⟩
theorem CRep.mono {K : PySem.W.Frag} {H H' : Hp} (k : Keeps H H') {p : Addr} (s : H' p = H p) {c : Cont} (h : CRep K H p c) : CRep K H' p c := by
  cases c with
  | seq ws => obtain ⟨vs, e, r⟩ := h; exact ⟨vs, s.trans e, RepL.mono k _ _ r⟩
  | map kvs =>
    rcases h with ⟨ks, e, t, r⟩ | ⟨ks, e, t, r⟩
    · exact .inl ⟨ks, s.trans e, t, RepL.mono k _ _ r⟩
    · exact .inr ⟨ks, s.trans e, t, RepL.mono k _ _ r⟩
theorem ORep.mono {K : PySem.W.Frag} {H H' : Hp} (k : Keeps H H') {p : Addr} (s : H' p = H p) {o : AO} (h : ORep K H p o) : ORep K H' p o := by
  cases o with
  | cont c => exact CRep.mono k s h
  | ins C fs => obtain ⟨dx, vs, e, t, r⟩ := h; exact ⟨dx, vs, s.trans e, t, RepL.mono k _ _ r⟩
/-- the ghost: the written part; abstract and tracked heap at the def's entry -/
structure AExc where
  n : Str
  fs : List (Str × W)
structure Gx where
  K : PySem.W.Frag
  h0 : AH
  H0 : Hp
def OwnAt (env : AEnv) (σ : L2.St) (p : Addr) : Prop := ∃ (i : Nat) (c : Cont), env[i]? = some (some (SV.own c)) ∧ σ[i]? = some (some (V.ref p))
structure BS (G : Gx) (env : AEnv) (h : AH) (σ : L2.St) (H : Hp) : Prop where
  len : env.length = σ.length
  val : ∀ (i : Nat) (w : W), env[i]? = some (some (SV.val w)) → ∃ v, σ[i]? = some (some v) ∧ Rep G.K H w v
  own : ∀ (i : Nat) (c : Cont), env[i]? = some (some (SV.own c)) → ∃ p, σ[i]? = some (some (V.ref p)) ∧ CRep G.K H p c ∧ h p = none ∧ G.H0 p = none
  uni : ∀ (i j : Nat) (c c' : Cont) (p : Addr), env[i]? = some (some (SV.own c)) → env[j]? = some (some (SV.own c')) → σ[i]? = some (some (V.ref p)) → σ[j]? = some (some (V.ref p)) → i = j
  hp : ∀ a o, h a = some o → ORep G.K H a o
  fr : ∀ p o, G.H0 p = some o → G.h0 p = none → NT o → H p = some o
  ext : ∀ a o, h a = some o → G.h0 a = none → G.H0 a = none
  tr : ∀ p o, G.H0 p = some o → ∃ u, H p = some u
  tabs : TabsK G.K H
/-- a step of an expression: all but what is owned or in the abstract heap stays -/
structure Xt (env : AEnv) (h : AH) (σ : L2.St) (H : Hp) (env' : AEnv) (h' : AH) (H' : Hp) : Prop where
  fr : ∀ p o, H p = some o → h p = none → ¬ OwnAt env σ p → NT o → H' p = some o
  hn : ∀ p o, h' p = some o → h p = none → H p = none
  th : ∀ p o, H p = some o → ∃ o', H' p = some o'
  sl : ∀ (i : Nat) (c' : Cont), env'[i]? = some (some (SV.own c')) → ∃ c, env[i]? = some (some (SV.own c))
section
variable {G : Gx} {env env' env2 : AEnv} {h h' h2 : AH} {σ : L2.St} {H H' H2 : Hp}
theorem BS.imm (S : BS G env h σ H) {p : Addr} {o : HO} (e : H p = some o) (i : Imm o) : h p = none ∧ ¬ OwnAt env σ p := by
  refine ⟨?_, fun ⟨j, c, a, b⟩ => ?_⟩
  · cases q : h p with
    | none => rfl
    | some u =>
      obtain ⟨o', e', m⟩ := (S.hp p u q).there
      rw [e] at e'; cases e'
      exact absurd i m.imm
  · obtain ⟨p', b', cr, _⟩ := S.own j c a
    rw [b] at b'; cases b'
    obtain ⟨o', e', m⟩ := cr.there
    rw [e] at e'; cases e'
    exact absurd i m.imm
theorem Xt.keeps (x : Xt env h σ H env' h' H') (S : BS G env h σ H) : Keeps H H' := fun p o e i => x.fr p o e (S.imm e i).1 (S.imm e i).2 i.nt
theorem Xt.refl : Xt env h σ H env h H := ⟨fun _ _ e _ _ _ => e, fun p o e n => (by rw [n] at e; cases e), fun _ o e => ⟨o, e⟩, fun i c e => ⟨c, e⟩⟩
theorem Xt.own (x : Xt env h σ H env' h' H') {p : Addr} (o : OwnAt env' σ p) : OwnAt env σ p := by
  obtain ⟨i, c, e1, e2⟩ := o
  obtain ⟨c0, z⟩ := x.sl i c e1
  exact ⟨i, c0, z, e2⟩
theorem Xt.trans (a : Xt env h σ H env' h' H') (b : Xt env' h' σ H' env2 h2 H2) : Xt env h σ H env2 h2 H2 := by
  refine ⟨fun p o e n w nt => ?_, fun p o e n => ?_, fun p o e => ?_, fun i c e => ?_⟩
  · refine b.fr p o (a.fr p o e n w nt) ?_ (fun q => w (a.own q)) nt
    cases q : h' p with
    | none => rfl
    | some u => rw [a.hn p u q n] at e; cases e
  · cases q : h' p with
    | none =>
      have z := b.hn p o e q
      cases q2 : H p with
      | none => rfl
      | some u =>
        obtain ⟨o', e'⟩ := a.th p u q2
        rw [z] at e'; cases e'
    | some u => exact a.hn p u q n
  · obtain ⟨o', e'⟩ := a.th p o e
    exact b.th p o' e'
  · obtain ⟨c1, z⟩ := b.sl i c e
    exact a.sl i c1 z
end
end Ab

namespace Ab
open PySem PySem.Spec PyProof.Rows L2
/-! ### results -/
/-- an expression's result: a value; a new list or dict; the list or dict that the i-th slot owns -/
inductive RV where
  | val (w : W) | own (c : Cont) | slot (i : Nat)
/-- what is to be read there -/
inductive Vw where
  | wv (x : W) | cv (x : Cont) | bad
def viewS : Option (Option SV) → Vw
  | some (some (.val w)) => .wv w
  | some (some (.own c)) => .cv c
  | _ => .bad
/-- what stands behind a value: of an address in the abstract heap its content -/
def viewW (h : AH) : W → Vw
  | .ref a => match h a with
    | some (.cont c) => .cv c
    | _ => .wv (.ref a)
  | w => .wv w
def view (env : AEnv) (h : AH) : RV → Vw
  | .val w => viewW h w
  | .own c => .cv c
  | .slot i => viewS env[i]?
def Vw.toW : Vw → W
  | .wv w => w
  | .cv c => c.fz
  | .bad => .non
def RvRep (G : Gx) (env : AEnv) (h : AH) (σ : L2.St) (H : Hp) : RV → V → Prop
  | .val w, v => Rep G.K H w v
  | .own c, v => ∃ p, v = .ref p ∧ CRep G.K H p c ∧ h p = none ∧ G.H0 p = none ∧ ¬ OwnAt env σ p
  | .slot i, v => σ[i]? = some (some v)
def VR (K : PySem.W.Frag) (H : Hp) : Vw → V → Prop
  | .wv w, v => Rep K H w v
  | .cv c, v => ∃ p, v = .ref p ∧ CRep K H p c
  | .bad, _ => True
section
variable {G : Gx} {env env' : AEnv} {h h' : AH} {σ : L2.St} {H H' : Hp}
theorem VR.viewW (S : BS G env h σ H) {w : W} {v : V} (x : Rep G.K H w v) : VR G.K H (viewW h w) v := by
  cases w with
  | ref a =>
    have e : v = .ref a := Rep.of_ref x
    subst e
    show VR G.K H (match h a with
      | some (.cont c) => .cv c
      | _ => .wv (.ref a)) _
    cases q : h a with
    | none => exact x
    | some o =>
      cases o with
      | cont c => exact ⟨a, rfl, S.hp a _ q⟩
      | ins C fs => exact x
  | _ => exact x
theorem RvRep.vr (S : BS G env h σ H) {r : RV} {v : V} (x : RvRep G env h σ H r v) : VR G.K H (view env h r) v := by
  cases r with
  | val w => exact VR.viewW S x
  | own c => obtain ⟨p, e, c, _⟩ := x; exact ⟨p, e, c⟩
  | slot i =>
    have e1 : σ[i]? = some (some v) := x
    show VR G.K H (viewS env[i]?) v
    cases e2 : env[i]? with
    | none => trivial
    | some o =>
      cases o with
      | none => trivial
      | some sv =>
        cases sv with
        | val w =>
          obtain ⟨u, e3, r⟩ := S.val i w e2
          rw [e1] at e3; cases e3
          exact r
        | own c =>
          obtain ⟨p, e3, r, _⟩ := S.own i c e2
          rw [e1] at e3; cases e3
          exact ⟨p, rfl, r⟩
theorem RvRep.xt (S : BS G env h σ H) (x : Xt env h σ H env' h' H') {r : RV} {v : V} (a : RvRep G env h σ H r v) : RvRep G env' h' σ H' r v := by
  cases r with
  | val w => exact Rep.mono (x.keeps S) w v a
  | own c =>
    obtain ⟨p, e, c, n, n0, no⟩ := a
    obtain ⟨o, eo, _⟩ := c.there
    refine ⟨p, e, c.mono (x.keeps S) ((x.fr p o eo n no (c.mu_at eo).nt).trans eo.symm), ?_, n0, fun q => no (x.own q)⟩
    cases q : h' p with
    | none => rfl
    | some u => rw [x.hn p u q n] at eo; cases eo
  | slot i => exact a
/-- nothing but new things -/
def New (H H' : Hp) : Prop := ∀ p o, H p = some o → H' p = some o
theorem New.refl (H : Hp) : New H H := fun _ _ e => e
theorem New.upd {p : Addr} {o : HO} (n : H p = none) : New H (upd H p o) := fun q u e => by rw [upd_ne (ne_of_none e n)]; exact e
theorem New.keeps (n : New H H') : Keeps H H' := fun p o e _ => n p o e
theorem New.xt (n : New H H') : Xt env h σ H env h H' := ⟨fun p o e _ _ _ => n p o e, fun p o e q => (by rw [q] at e; cases e), fun p o e => ⟨o, n p o e⟩, fun i c e => ⟨c, e⟩⟩
theorem New.bs (n : New H H') (S : BS G env h σ H) : BS G env h σ H' where
  len := S.len
  val := fun i w e => let ⟨v, a, b⟩ := S.val i w e; ⟨v, a, Rep.mono n.keeps w v b⟩
  own := fun i c e => by
    obtain ⟨p, a, b, d, f⟩ := S.own i c e
    obtain ⟨o, eo, _⟩ := b.there
    exact ⟨p, a, b.mono n.keeps ((n p o eo).trans eo.symm), d, f⟩
  uni := S.uni
  hp := fun a o e => by
    obtain ⟨u, eu, _⟩ := (S.hp a o e).there
    exact (S.hp a o e).mono n.keeps ((n a u eu).trans eu.symm)
  fr := fun p o e q t => n p o (S.fr p o e q t)
  ext := S.ext
  tr := fun p o e => let ⟨u, q⟩ := S.tr p o e; ⟨u, n p u q⟩
  tabs := S.tabs.keep fun a o e _ => n a o e
end
/-! ### readings -/
abbrev AT := AEnv → AH → (RV → AEnv → AH → Prop) → Prop
abbrev AVT := AEnv → AH → (W → AEnv → AH → Prop) → Prop
abbrev AAT := AEnv → AH → (List W → AEnv → AH → Prop) → Prop
abbrev ABT := AEnv → AH → (Bool → AEnv → AH → Prop) → Prop
def Mono {α : Type} (t : AEnv → AH → (α → AEnv → AH → Prop) → Prop) : Prop := ∀ env h Q Q', (∀ r e k, Q r e k → Q' r e k) → t env h Q → t env h Q'
/-- what is new is new -/
def Fsh (H : Hp) : RV → V → Prop
  | .own _, v => ∀ p, v = .ref p → H p = none
  | _, _ => True
def cE (G : Gx) (t : AT) : TE := fun σ H Q => ∃ env h, BS G env h σ H ∧ t env h fun r env' h' => ∀ v H', BS G env' h' σ H' → Xt env h σ H env' h' H' → RvRep G env' h' σ H' r v → Fsh H r v → Q v H'
def cV (G : Gx) (t : AVT) : TE := fun σ H Q => ∃ env h, BS G env h σ H ∧ t env h fun w env' h' => ∀ v H', BS G env' h' σ H' → Xt env h σ H env' h' H' → Rep G.K H' w v → Q v H'
def cA (G : Gx) (t : AAT) : TA := fun σ H Q => ∃ env h, BS G env h σ H ∧ t env h fun ws env' h' => ∀ vs H', BS G env' h' σ H' → Xt env h σ H env' h' H' → RepL G.K H' ws vs → Q vs H'
def cT (G : Gx) (t : ABT) : TT := fun σ H Q => ∃ env h, BS G env h σ H ∧ t env h fun b env' h' => ∀ H', BS G env' h' σ H' → Xt env h σ H env' h' H' → Q b H'
structure AE (X : Cx) (G : Gx) (e : Expr) (t : AT) : Prop where
  mono : Mono t
  pe : PE X e (cE G t)
structure AV (X : Cx) (G : Gx) (e : Expr) (t : AVT) : Prop where
  mono : Mono t
  pe : PE X e (cV G t)
structure AA (X : Cx) (G : Gx) (es : List Expr) (t : AAT) : Prop where
  mono : Mono t
  pa : PA X es (cA G t)
structure AP (X : Cx) (G : Gx) (e : Expr) (t : ABT) : Prop where
  mono : Mono t
  pt : PT X e (cT G t)
theorem PE.imp {X : Cx} {e : Expr} {t t' : TE} (h : PE X e t) (i : ∀ σ H Q, t' σ H Q → t σ H Q) : PE X e t' := ⟨fun pins s σ H Q I q => h.run pins s σ H Q I (i σ H Q q)⟩
theorem PA.imp {X : Cx} {e : List Expr} {t t' : TA} (h : PA X e t) (i : ∀ σ H Q, t' σ H Q → t σ H Q) : PA X e t' := ⟨fun pos pins s σ H Q I q => h.run pos pins s σ H Q I (i σ H Q q)⟩
theorem PT.imp {X : Cx} {e : Expr} {t t' : TT} (h : PT X e t) (i : ∀ σ H Q, t' σ H Q → t σ H Q) : PT X e t' := ⟨fun pins s σ H Q I q => h.run pins s σ H Q I (i σ H Q q)⟩
theorem PS.imp {X : Cx} {e : Stmt} {t t' : TS} (h : PS X e t) (i : ∀ D σ H, t' D σ H → t D σ H) : PS X e t' := ⟨fun pins s σ H Q I q => h.run pins s σ H Q I (i Q σ H q)⟩
theorem PSs.imp {X : Cx} {e : List Stmt} {t t' : TS} (h : PSs X e t) (i : ∀ D σ H, t' D σ H → t D σ H) : PSs X e t' := ⟨fun pins s σ H Q I q => h.run pins s σ H Q I (i Q σ H q)⟩
section
variable {X : Cx} {G : Gx}
/-! ### names, constants -/
def aVar (i : Nat) : AT := fun env h Q => match env[i]? with
  | some (some (.val w)) => Q (.val w) env h
  | some (some (.own _)) => Q (.slot i) env h
  | _ => False
def aC (w : W) : AT := fun env h Q => Q (.val w) env h
theorem aVar.mono {i : Nat} : Mono (aVar i) := fun env h Q Q' k q => by
  unfold aVar at q ⊢
  split at q
  · exact k _ _ _ q
  · exact k _ _ _ q
  · exact q
theorem aC.mono {w : W} : Mono (aC w) := fun env h Q Q' k q => k _ _ _ q
theorem ae_var {e : Expr} {i : Nat} (h : PE X e (tVar i)) : AE X G e (aVar i) := by
  refine ⟨aVar.mono, PE.imp h fun σ H Q ⟨env, k, S, q⟩ => ?_⟩
  unfold aVar at q
  split at q
  · rename_i w e
    obtain ⟨v, e1, r⟩ := S.val i w e
    exact ⟨v, e1, q v H S .refl r trivial⟩
  · rename_i c e
    obtain ⟨p, e1, r⟩ := S.own i c e
    exact ⟨_, e1, q _ H S .refl e1 trivial⟩
  · exact q.elim
theorem ae_c {e : Expr} {w : W} {v : V} (h : PE X e (tC v)) (r : ∀ H, Rep G.K H w v) : AE X G e (aC w) :=
  ⟨aC.mono, PE.imp h fun σ H Q ⟨env, k, S, q⟩ => q v H S .refl (r H) trivial⟩
theorem ae_int {i j pos} : AE X G (.Constant (.int i) j pos) (aC (.int i)) := ae_c pe_int fun _ => .int
theorem ae_bl {i j pos} : AE X G (.Constant (.bool i) j pos) (aC (.bl i)) := ae_c pe_bl fun _ => .bl
theorem ae_non {j pos} : AE X G (.Constant .none j pos) (aC .non) := ae_c pe_non fun _ => .non
theorem ae_str {i j pos} : AE X G (.Constant (.str i) j pos) (aC (.str i)) := ae_c pe_str fun _ => .str
/-! ### a list is frozen -/
def aFz (t : AT) : AVT := fun env h Q => t env h fun r env' h' => match r with
  | .val w => Q w env' h'
  | .own c => Q c.fz env' h'
  | .slot i => match env'[i]? with
    | some (some (.val w)) => Q w env' h'
    | some (some (.own c)) => Q c.fz (env'.set i (some (.val c.fz))) h'
    | _ => False
theorem aFz.mono {t : AT} (m : Mono t) : Mono (aFz t) := fun env h Q Q' k q => by
  refine m env h _ _ (fun r e g z => ?_) q
  cases r with
  | val w => exact k _ _ _ z
  | own c => exact k _ _ _ z
  | slot i =>
    show match e[i]? with
      | some (some (.val w)) => Q' w e g
      | some (some (.own c)) => Q' c.fz (e.set i (some (.val c.fz))) g
      | _ => False
    have z : match e[i]? with
      | some (some (.val w)) => Q w e g
      | some (some (.own c)) => Q c.fz (e.set i (some (.val c.fz))) g
      | _ => False := z
    split at z
    · exact k _ _ _ z
    · exact k _ _ _ z
    · exact z
/-- locked for good -/
theorem fz_rep {K : PySem.W.Frag} {H : Hp} {p : Addr} {c : Cont} (r : CRep K H p c) (hp : ∃ u, H p = some u ∧ Mu u) : ∃ u, H p = some u ∧ Mu u ∧ ∀ od, Rep K (upd H p (.frz od u)) c.fz (.ref p) := by
  have keep : ∀ (u : HO) (od : Obj), H p = some u → Mu u → Keeps H (upd H p (.frz od u)) := fun u od e m q o e' i => by
    have n : q ≠ p := fun z => by rw [z, e] at e'; cases e'; exact m.imm i
    rw [upd_ne n]; exact e'
  cases c with
  | seq ws =>
    obtain ⟨vs, e, r⟩ := r
    refine ⟨_, e, trivial, fun od => ?_⟩
    exact .lst ⟨od, upd_same⟩ (RepL.mono (keep _ od e trivial) _ _ r)
  | map kvs =>
    rcases r with ⟨ks, e, t, r⟩ | ⟨ks, e, t, r⟩
    · refine ⟨_, e, trivial, fun od => ?_⟩
      show Rep K _ (.dct _ _) _
      simp only [Rep]
      exact ⟨p, rfl, .inl ⟨od, ks, upd_same, t, RepL.mono (keep _ od e trivial) _ _ r⟩⟩
    · refine ⟨_, e, trivial, fun od => ?_⟩
      show Rep K _ (.dct _ _) _
      simp only [Rep]
      exact ⟨p, rfl, .inr ⟨od, ks, upd_same, t, RepL.mono (keep _ od e trivial) _ _ r⟩⟩
/-- the state behind a freezing of what stands at p: not in the abstract heap; owned by no slot but those in `off` -/
theorem BS.freeze {env env' : AEnv} {h : AH} {σ : L2.St} {H : Hp} (S : BS G env h σ H) {p : Addr} {u : HO} (od : Obj) (e : H p = some u) (m : Mu u) (n : h p = none) (n0 : G.H0 p = none)
    (len : env'.length = env.length)
    (v' : ∀ (i : Nat) (w : W), env'[i]? = some (some (SV.val w)) → env[i]? = some (some (SV.val w)) ∨ ∃ v, σ[i]? = some (some v) ∧ Rep G.K (upd H p (.frz od u)) w v)
    (o' : ∀ (i : Nat) (c : Cont), env'[i]? = some (some (SV.own c)) → env[i]? = some (some (SV.own c)) ∧ σ[i]? ≠ some (some (V.ref p))) : BS G env' h σ (upd H p (.frz od u)) := by
  have keep : Keeps H (upd H p (.frz od u)) := fun q o e' i => by
    have n : q ≠ p := fun z => by rw [z, e] at e'; cases e'; exact m.imm i
    rw [upd_ne n]; exact e'
  refine ⟨len.trans S.len, fun i w z => ?_, fun i c z => ?_, fun i j c c' q a b => ?_, fun a o z => ?_, fun q o z y t => ?_, S.ext, fun q o z => ?_, S.tabs.upd fun o z => (by rw [e] at z; cases z; exact m)⟩
  · rcases v' i w z with z | z
    · obtain ⟨v, a, b⟩ := S.val i w z
      exact ⟨v, a, Rep.mono keep w v b⟩
    · exact z
  · obtain ⟨z, ne⟩ := o' i c z
    obtain ⟨q, a, b, d, f⟩ := S.own i c z
    have nq : q ≠ p := fun y => ne (by rw [a, y])
    exact ⟨q, a, b.mono keep (upd_ne nq), d, f⟩
  · exact S.uni i j c c' q (o' i c a).1 (o' j c' b).1
  · have na : a ≠ p := fun y => by rw [y, n] at z; cases z
    exact (S.hp a o z).mono keep (upd_ne na)
  · have nq : q ≠ p := fun x => by rw [x, n0] at z; cases z
    rw [upd_ne nq]; exact S.fr q o z y t
  · by_cases hq : q = p
    · subst hq; exact ⟨_, upd_same⟩
    · obtain ⟨u', e'⟩ := S.tr q o z
      exact ⟨u', by rw [upd_ne hq]; exact e'⟩
theorem Xt.freeze {env env' env2 : AEnv} {h h' : AH} {σ : L2.St} {H H1 : Hp} {p : Addr} {u : HO} {od : Obj} (x : Xt env h σ H env' h' H1) (e : H1 p = some u) (f : H p = none ∨ OwnAt env σ p)
    (sl : ∀ (i : Nat) (c : Cont), env2[i]? = some (some (SV.own c)) → env'[i]? = some (some (SV.own c))) : Xt env h σ H env2 h' (upd H1 p (.frz od u)) := by
  refine ⟨fun q o e n w t => ?_, x.hn, fun q o e => ?_, fun i c e => x.sl i c (sl i c e)⟩
  · have nq : q ≠ p := fun y => by
      rcases f with f | f
      · rw [y, f] at e; cases e
      · exact w (y ▸ f)
    rw [upd_ne nq]; exact x.fr q o e n w t
  · by_cases hq : q = p
    · subst hq; exact ⟨_, upd_same⟩
    · rw [upd_ne hq]; exact x.th q o e
theorem set_slot {env : AEnv} {i j : Nat} {sv sv' : SV} (e : env[i]? = some (some sv)) : (env.set i (some sv'))[j]? = if j = i then some (some sv') else env[j]? := by
  have hi : i < env.length := (List.getElem?_eq_some_iff.mp e).1
  by_cases hj : j = i
  · subst hj; rw [if_pos rfl, List.getElem?_set_self hi]
  · rw [if_neg hj, List.getElem?_set_ne (Ne.symm hj)]
/-- freezing the very slot -/
theorem slot_freeze {env env' : AEnv} {h h' : AH} {σ : L2.St} {H H1 : Hp} {i : Nat} {c : Cont} {pins : List (Addr × Obj)} {s : Shared} (S : BS G env' h' σ H1) (x : Xt env h σ H env' h' H1) (I : Inv X pins σ H1 s) (e : env'[i]? = some (some (.own c))) :
    ∃ p H2, σ[i]? = some (some (V.ref p)) ∧ Inv X pins σ H2 s ∧ BS G (env'.set i (some (.val c.fz))) h' σ H2 ∧ Xt env h σ H (env'.set i (some (.val c.fz))) h' H2 ∧ Rep G.K H2 c.fz (.ref p) := by
  obtain ⟨p, es, cr, n, n0⟩ := S.own i c e
  obtain ⟨u, eu, mu, fr⟩ := fz_rep cr cr.there
  obtain ⟨od, I2⟩ := I.lock eu mu.mut
  refine ⟨p, _, es, I2, S.freeze od eu mu n n0 (by simp) (fun j w z => ?_) (fun j d z => ?_), x.freeze eu (.inr ?_) (fun j d z => ?_), fr od⟩
  · rw [set_slot e] at z
    by_cases hj : j = i
    · rw [if_pos hj] at z
      cases z
      exact .inr ⟨_, hj ▸ es, fr od⟩
    · rw [if_neg hj] at z; exact .inl z
  · rw [set_slot e] at z
    by_cases hj : j = i
    · rw [if_pos hj] at z; cases z
    · rw [if_neg hj] at z
      exact ⟨z, fun y => hj (S.uni j i d c p z e y es)⟩
  · exact x.own ⟨i, c, e, es⟩
  · rw [set_slot e] at z
    by_cases hj : j = i
    · rw [if_pos hj] at z; cases z
    · rw [if_neg hj] at z; exact z
theorem own_freeze {env env' : AEnv} {h h' : AH} {σ : L2.St} {H H1 : Hp} {c : Cont} {v : V} {pins : List (Addr × Obj)} {s : Shared} (S : BS G env' h' σ H1) (x : Xt env h σ H env' h' H1) (I : Inv X pins σ H1 s) (r : RvRep G env' h' σ H1 (.own c) v) (f : Fsh H (.own c) v) :
    ∃ H2, Inv X pins σ H2 s ∧ BS G env' h' σ H2 ∧ Xt env h σ H env' h' H2 ∧ Rep G.K H2 c.fz v := by
  obtain ⟨p, ex, cr, n, n0, no⟩ := r
  obtain ⟨u, eu, mu, fr⟩ := fz_rep cr cr.there
  obtain ⟨od, I2⟩ := I.lock eu mu.mut
  subst ex
  exact ⟨_, I2, S.freeze od eu mu n n0 rfl (fun i w e => .inl e) fun i c e => ⟨e, fun y => no ⟨i, c, e, y⟩⟩, x.freeze eu (.inl (f p rfl)) fun i c e => e, fr od⟩
theorem av_of {e : Expr} {t : AT} (a : AE X G e t) : AV X G e (aFz t) := by
  refine ⟨aFz.mono a.mono, ⟨fun pins s σ H Q I ⟨env, h, S, q⟩ => ?_⟩⟩
  refine thn (a.pe.run pins s σ H (fun v H1 => ∃ r env' h', BS G env' h' σ H1 ∧ Xt env h σ H env' h' H1 ∧ RvRep G env' h' σ H1 r v ∧ Fsh H r v ∧ match r with
    | .val w => ∀ v H', BS G env' h' σ H' → Xt env h σ H env' h' H' → Rep G.K H' w v → Q v H'
    | .own c => ∀ v H', BS G env' h' σ H' → Xt env h σ H env' h' H' → Rep G.K H' c.fz v → Q v H'
    | .slot i => match env'[i]? with
      | some (some (.val w)) => ∀ v H', BS G env' h' σ H' → Xt env h σ H env' h' H' → Rep G.K H' w v → Q v H'
      | some (some (.own c)) => ∀ v H', BS G (env'.set i (some (.val c.fz))) h' σ H' → Xt env h σ H (env'.set i (some (.val c.fz))) h' H' → Rep G.K H' c.fz v → Q v H'
      | _ => False) I ⟨env, h, S, a.mono env h _ _ (fun r env' h' z v H1 S1 x1 r1 f1 => ⟨r, env', h', S1, x1, r1, f1, z⟩) q⟩) fun v s1 ⟨x, H1, I1, r1, r, env', h', S1, x1, rr, f1, z⟩ => ?_
  cases r with
  | val w => exact ⟨x, H1, I1, r1, z x H1 S1 x1 rr⟩
  | own c =>
    obtain ⟨H2, I2, S2, x2, r2⟩ := own_freeze S1 x1 I1 rr f1
    exact ⟨x, H2, I2, r1, z x H2 S2 x2 r2⟩
  | slot i =>
    have es : σ[i]? = some (some x) := rr
    have z : match env'[i]? with
      | some (some (.val w)) => ∀ v H', BS G env' h' σ H' → Xt env h σ H env' h' H' → Rep G.K H' w v → Q v H'
      | some (some (.own c)) => ∀ v H', BS G (env'.set i (some (.val c.fz))) h' σ H' → Xt env h σ H (env'.set i (some (.val c.fz))) h' H' → Rep G.K H' c.fz v → Q v H'
      | _ => False := z
    split at z
    · rename_i w e
      obtain ⟨u, e3, r⟩ := S1.val i w e
      rw [es] at e3; cases e3
      exact ⟨x, H1, I1, r1, z x H1 S1 x1 r⟩
    · rename_i c e
      obtain ⟨p, H2, ep, I2, S2, x2, r2⟩ := slot_freeze S1 x1 I1 e
      rw [es] at ep; cases ep
      exact ⟨_, H2, I2, r1, z _ H2 S2 x2 r2⟩
    · exact z.elim
/-! ### argument lists -/
def aNil : AAT := fun env h Q => Q [] env h
def aCons (t : AVT) (u : AAT) : AAT := fun env h Q => t env h fun w env' h' => u env' h' fun ws env2 h2 => Q (w :: ws) env2 h2
theorem aNil.mono : Mono aNil := fun env h Q Q' k q => k _ _ _ q
theorem aCons.mono {t : AVT} {u : AAT} (m : Mono t) (n : Mono u) : Mono (aCons t u) := fun env h Q Q' k q => m env h _ _ (fun w e g z => n e g _ _ (fun ws e2 g2 z2 => k _ _ _ z2) z) q
theorem aa_nil : AA X G [] aNil := ⟨aNil.mono, PA.imp pa_nil fun σ H Q ⟨env, h, S, q⟩ => q [] H S .refl .nil⟩
theorem aa_cons {e : Expr} {es : List Expr} {t : AVT} {u : AAT} (a : AV X G e t) (b : AA X G es u) (hs : starEach (e :: es) X.env = (false, eval e X.env) :: starEach es X.env := by rfl) : AA X G (e :: es) (aCons t u) := by
  refine ⟨aCons.mono a.mono b.mono, PA.imp (pa_cons a.pe b.pa hs) fun σ H Q ⟨env, h, S, q⟩ => ?_⟩
  refine ⟨env, h, S, a.mono env h _ _ (fun w env1 h1 z v H1 S1 x1 r1 => ?_) q⟩
  refine ⟨env1, h1, S1, b.mono env1 h1 _ _ (fun ws env2 h2 z vs H2 S2 x2 r2 => ?_) z⟩
  exact z (v :: vs) H2 S2 (x1.trans x2) (.cons (Rep.mono (x2.keeps S1) w v r1) r2)
/-! ### displays -/
def aTup (t : AAT) : AT := fun env h Q => t env h fun ws env' h' => ws.length ≤ sizeLine ∧ Q (.val (.tup ws)) env' h'
def aLst (t : AAT) : AT := fun env h Q => t env h fun ws env' h' => ws.length ≤ sizeLine ∧ Q (.own (.seq ws)) env' h'
theorem aTup.mono {t : AAT} (m : Mono t) : Mono (aTup t) := fun env h Q Q' k q => m env h _ _ (fun ws e g z => ⟨z.1, k _ _ _ z.2⟩) q
theorem aLst.mono {t : AAT} (m : Mono t) : Mono (aLst t) := fun env h Q Q' k q => m env h _ _ (fun ws e g z => ⟨z.1, k _ _ _ z.2⟩) q
section
variable {env : AEnv} {h : AH} {σ : L2.St} {H : Hp}
theorem BS.noAt (S : BS G env h σ H) {p : Addr} (n : H p = none) : h p = none ∧ G.H0 p = none ∧ ¬ OwnAt env σ p := by
  refine ⟨?_, ?_, fun ⟨i, c, e1, e2⟩ => ?_⟩
  · cases q : h p with
    | none => rfl
    | some u => obtain ⟨o, e, _⟩ := (S.hp p u q).there; rw [n] at e; cases e
  · cases q : G.H0 p with
    | none => rfl
    | some o => obtain ⟨u, e⟩ := S.tr p o q; rw [n] at e; cases e
  · obtain ⟨q, e3, cr, _⟩ := S.own i c e1
    rw [e2] at e3; cases e3
    obtain ⟨o, e, _⟩ := cr.there; rw [n] at e; cases e
theorem ae_tup {es : List Expr} {t : AAT} {x1 pos} (a : AA X G es t) : AE X G (.Tuple es x1 pos) (aTup t) := by
  refine ⟨aTup.mono a.mono, PE.imp (pe_tup a.pa) fun σ H Q ⟨env, h, S, q⟩ => ?_⟩
  refine ⟨env, h, S, a.mono env h _ _ (fun ws env1 h1 z vs H1 S1 x1 r1 => ⟨by rw [← r1.length]; exact z.1, fun p n => ?_⟩) q⟩
  have nw : New H1 (upd H1 p (.tup vs)) := New.upd n
  exact z.2 (.ref p) _ (nw.bs S1) (x1.trans nw.xt) (.tup (.inl upd_same) (RepL.mono nw.keeps _ _ r1)) trivial
theorem Xt.fresh {env env' : AEnv} {h' : AH} {H' : Hp} (x : Xt env h σ H env' h' H') {p : Addr} (n : H' p = none) : H p = none := by
  cases q : H p with
  | none => rfl
  | some o => obtain ⟨u, e⟩ := x.th p o q; rw [n] at e; cases e
/-- a new list, dict -/
theorem own_new {env env1 : AEnv} {h h1 : AH} {σ : L2.St} {H H1 : Hp} {p : Addr} {o : HO} {c : Cont} (S : BS G env1 h1 σ H1) (x : Xt env h σ H env1 h1 H1) (n : H1 p = none) (r : New H1 (upd H1 p o) → CRep G.K (upd H1 p o) p c) :
    BS G env1 h1 σ (upd H1 p o) ∧ Xt env h σ H env1 h1 (upd H1 p o) ∧ RvRep G env1 h1 σ (upd H1 p o) (.own c) (.ref p) ∧ Fsh H (.own c) (.ref p) := by
  have nw : New H1 (upd H1 p o) := New.upd n
  obtain ⟨a, b, d⟩ := S.noAt n
  exact ⟨nw.bs S, x.trans nw.xt, ⟨p, rfl, r nw, a, b, d⟩, fun q e => by cases e; exact x.fresh n⟩
theorem ae_lst {es : List Expr} {t : AAT} {pos} (a : AA X G es t) : AE X G (.List es pos) (aLst t) := by
  refine ⟨aLst.mono a.mono, PE.imp (pe_lst a.pa) fun σ H Q ⟨env, h, S, q⟩ => ?_⟩
  refine ⟨env, h, S, a.mono env h _ _ (fun ws env1 h1 z vs H1 S1 x1 r1 => ⟨by rw [← r1.length]; exact z.1, fun p n => ?_⟩) q⟩
  obtain ⟨S2, x2, r2, f2⟩ := own_new S1 x1 n (o := .lst vs) (c := .seq ws) fun nw => ⟨vs, upd_same, RepL.mono nw.keeps _ _ r1⟩
  exact z.2 _ _ S2 x2 r2 f2
end
end
end Ab

namespace Ab
open PySem PySem.Spec PyProof.Rows L2
/-! ### views of lists and tuples -/
def Vw.seq : Vw → Option (List W)
  | .wv (.lst xs) => some xs
  | .cv (.seq xs) => some xs
  | _ => none
def Vw.tpl : Vw → Option (List W)
  | .wv (.tup xs) => some xs
  | _ => none
section
variable {K : PySem.W.Frag} {H : Hp} {a : Vw} {v : V} {xs : List W}
theorem VR.seq (r : VR K H a v) (e : a.seq = some xs) : ∃ p vs, v = .ref p ∧ Rd H p (.lst vs) ∧ RepL K H xs vs := by
  cases a with
  | wv w =>
    cases w with
    | lst ys =>
      cases e
      obtain ⟨p, vs, e1, ⟨o, l⟩, r⟩ := Rep.of_lst r
      exact ⟨p, vs, e1, .inr ⟨o, l⟩, r⟩
    | _ => cases e
  | cv c =>
    cases c with
    | seq ys =>
      cases e
      obtain ⟨p, e1, vs, l, r⟩ := r
      exact ⟨p, vs, e1, .inl l, r⟩
    | map _ => cases e
  | bad => cases e
theorem VR.tplT (r : VR K H a v) (e : a.tpl = some xs) : ∃ p vs, v = .ref p ∧ TqT K H p vs ∧ RepL K H xs vs := by
  cases a with
  | wv w =>
    cases w with
    | tup ys => cases e; exact Rep.of_tupT r
    | _ => cases e
  | _ => cases e
theorem VR.tpl (r : VR K H a v) (e : a.tpl = some xs) : ∃ p vs, v = .ref p ∧ SqT K H p vs ∧ RepL K H xs vs := let ⟨p, vs, e, s, r⟩ := r.tplT e; ⟨p, vs, e, s.sq, r⟩
theorem VR.int {i : Int} (r : VR K H (.wv (.int i)) v) : v = .int i := Rep.of_int (K := K) (H := H) r
theorem VR.str {i : Str} (r : VR K H (.wv (.str i)) v) : v = .str i := Rep.of_str (K := K) (H := H) r
theorem VR.bl {i : Bool} (r : VR K H (.wv (.bl i)) v) : v = .bl i := Rep.of_bl (K := K) (H := H) r
theorem VR.non (r : VR K H (.wv .non) v) : v = .non := Rep.of_non (K := K) (H := H) r
end
/-! ### what an operation gives: an old value or a new tuple, a new list -/
def OutR (K : PySem.W.Frag) (H : Hp) (Q : RV → Prop) (v : V) (H' : Hp) : Prop :=
  (H' = H ∧ ∃ w, Q (.val w) ∧ Rep K H w v) ∨ ∃ p o, H p = none ∧ H' = upd H p o ∧ v = .ref p ∧ ((∃ w, Q (.val w) ∧ Rep K H' w v) ∨ ∃ c, Q (.own c) ∧ CRep K H' p c)
theorem OutR.val {K : PySem.W.Frag} {H : Hp} {Q : RV → Prop} {w : W} {v : V} (q : Q (.val w)) (r : Rep K H w v) : OutR K H Q v H := .inl ⟨rfl, w, q, r⟩
theorem OutR.tup {K : PySem.W.Frag} {H : Hp} {Q : RV → Prop} {ws : List W} {vs : List V} {p : Addr} (n : H p = none) (q : Q (.val (.tup ws))) (r : RepL K H ws vs) : OutR K H Q (.ref p) (upd H p (.tup vs)) :=
  .inr ⟨p, _, n, rfl, rfl, .inl ⟨_, q, .tup (.inl upd_same) (RepL.mono (New.upd n).keeps _ _ r)⟩⟩
theorem OutR.lst {K : PySem.W.Frag} {H : Hp} {Q : RV → Prop} {ws : List W} {vs : List V} {p : Addr} (n : H p = none) (q : Q (.own (.seq ws))) (r : RepL K H ws vs) : OutR K H Q (.ref p) (upd H p (.lst vs)) :=
  .inr ⟨p, _, n, rfl, rfl, .inr ⟨_, q, vs, upd_same, RepL.mono (New.upd n).keeps _ _ r⟩⟩
section
variable {G : Gx} {env env1 : AEnv} {h h1 : AH} {σ : L2.St} {H H1 H2 : Hp}
theorem OutR.end {Q0 : RV → Prop} {v : V} (S : BS G env1 h1 σ H1) (x : Xt env h σ H env1 h1 H1) (o : OutR G.K H1 Q0 v H2) :
    ∃ r, Q0 r ∧ BS G env1 h1 σ H2 ∧ Xt env h σ H env1 h1 H2 ∧ RvRep G env1 h1 σ H2 r v ∧ Fsh H r v := by
  rcases o with ⟨rfl, w, q, r⟩ | ⟨p, o, n, rfl, rfl, ⟨w, q, r⟩ | ⟨c, q, r⟩⟩
  · exact ⟨_, q, S, x, r, trivial⟩
  · have nw : New H1 (upd H1 p o) := New.upd n
    exact ⟨_, q, nw.bs S, x.trans nw.xt, r, trivial⟩
  · obtain ⟨a, b, c, d⟩ := own_new S x n fun _ => r
    exact ⟨_, q, a, b, c, d⟩
end
/-! ### operations on two -/
abbrev Op2 := Vw → Vw → (RV → Prop) → Prop
structure OpA (K : PySem.W.Frag) (r : R2) (o : Op2) : Prop where
  mono : ∀ a b Q Q', (∀ r, Q r → Q' r) → o a b Q → o a b Q'
  ok : ∀ a b x y H Q0 Q, VR K H a x → VR K H b y → o a b Q0 → (∀ v H', OutR K H Q0 v H' → Q v H') → r x y H Q
def aOp2 (o : Op2) (ta tb : AT) : AT := fun env h Q => ta env h fun rx env1 h1 => tb env1 h1 fun ry env2 h2 => o (view env2 h2 rx) (view env2 h2 ry) fun r => Q r env2 h2
theorem aOp2.mono {K : PySem.W.Frag} {r : R2} {o : Op2} (oa : OpA K r o) {ta tb : AT} (a : Mono ta) (b : Mono tb) : Mono (aOp2 o ta tb) := fun env h Q Q' k q =>
  a env h _ _ (fun rx e g z => b e g _ _ (fun ry e2 g2 z2 => oa.mono _ _ _ _ (fun r z3 => k _ _ _ z3) z2) z) q
section
variable {X : Cx} {G : Gx}
theorem two_step {ta tb : AT} {o : Op2} {r : R2} (ma : Mono ta) (mb : Mono tb) (oa : OpA G.K r o) {σ : L2.St} {H : Hp} {Q : VK} (q : cE G (aOp2 o ta tb) σ H Q) : tOp r (cE G ta) (cE G tb) σ H Q := by
  obtain ⟨env, h, S, q⟩ := q
  refine ⟨env, h, S, ma env h _ _ (fun rx env1 h1 z x H1 S1 x1 r1 f1 => ?_) q⟩
  refine ⟨env1, h1, S1, mb env1 h1 _ _ (fun ry env2 h2 z2 y H2 S2 x2 r2 f2 => ?_) z⟩
  refine oa.ok _ _ _ _ _ _ _ ((r1.xt S1 x2).vr S2) (r2.vr S2) z2 fun v H3 out => ?_
  obtain ⟨res, q0, S3, x3, r3, f3⟩ := out.end S2 (x1.trans x2)
  exact q0 v H3 S3 x3 r3 f3
theorem ae_op {op : Operator} {r : R2} {o : Op2} {a b : Expr} {ta tb : AT} {pos : Pos} (ho : OpR X (binaryOp op) r) (oa : OpA G.K r o) (ha : AE X G a ta) (hb : AE X G b tb) : AE X G (.BinOp a op b pos) (aOp2 o ta tb) :=
  ⟨aOp2.mono oa ha.mono hb.mono, PE.imp (pe_op ho ha.pe hb.pe) fun _ _ _ q => two_step ha.mono hb.mono oa q⟩
theorem ae_cmp {op : CmpOp} {r : R2} {o : Op2} {a b : Expr} {ta tb : AT} {pos : Pos} (ho : OpR X (compareOp op) r) (oa : OpA G.K r o) (ha : AE X G a ta) (hb : AE X G b tb) (hm : behindInMarks op b = false) : AE X G (.Compare a [op] [b] pos) (aOp2 o ta tb) :=
  ⟨aOp2.mono oa ha.mono hb.mono, PE.imp (pe_cmpR ho ha.pe hb.pe hm) fun _ _ _ q => two_step ha.mono hb.mono oa q⟩
end
theorem OpA.or {K : PySem.W.Frag} {r r' : R2} {o o' : Op2} (a : OpA K r o) (b : OpA K r' o') : OpA K (fun x y H Q => r x y H Q ∨ r' x y H Q) (fun x y Q => o x y Q ∨ o' x y Q) :=
  ⟨fun x y Q Q' k q => q.elim (fun z => .inl (a.mono x y Q Q' k z)) fun z => .inr (b.mono x y Q Q' k z), fun x y u v H Q0 Q r1 r2 q k => q.elim (fun z => .inl (a.ok x y u v H Q0 Q r1 r2 z k)) fun z => .inr (b.ok x y u v H Q0 Q r1 r2 z k)⟩
/-- the same by another reading of what is asked -/
theorem OpA.as {K : PySem.W.Frag} {r : R2} {o o' : Op2} (a : OpA K r o) (i : ∀ x y Q, o' x y Q → o x y Q) (m : ∀ a b Q Q', (∀ r, Q r → Q' r) → o' a b Q → o' a b Q') : OpA K r o' := ⟨m, fun x y u v H Q0 Q r1 r2 q k => a.ok x y u v H Q0 Q r1 r2 (i _ _ _ q) k⟩
/-- two ints -/
def oII (C : Int → Int → Prop) (g : Int → Int → W) : Op2 := fun a b Q => match a, b with
  | .wv (.int i), .wv (.int j) => C i j ∧ Q (.val (g i j))
  | _, _ => False
theorem oII.mono {C : Int → Int → Prop} {g : Int → Int → W} (a b : Vw) (Q Q' : RV → Prop) (k : ∀ r, Q r → Q' r) (q : oII C g a b Q) : oII C g a b Q' := by
  unfold oII at q ⊢
  split at q
  · exact ⟨q.1, k _ q.2⟩
  · exact q.elim
theorem oII.get {C : Int → Int → Prop} {g : Int → Int → W} {a b : Vw} {Q : RV → Prop} (q : oII C g a b Q) : ∃ i j, a = .wv (.int i) ∧ b = .wv (.int j) ∧ C i j ∧ Q (.val (g i j)) := by
  unfold oII at q
  split at q
  · exact ⟨_, _, rfl, rfl, q⟩
  · exact q.elim
theorem opa_int {K : PySem.W.Frag} {C : Int → Int → Prop} {g : Int → Int → V} {g' : Int → Int → W} (hg : ∀ H i j, Rep K H (g' i j) (g i j)) : OpA K (rI C g) (oII C g') :=
  ⟨fun a b Q Q' k q => oII.mono a b Q Q' k q, fun a b x y H Q0 Q ra rb q k => by
    obtain ⟨i, j, rfl, rfl, c, q⟩ := q.get
    exact ⟨i, j, ra.int, rb.int, c, k _ _ (.val q (hg H i j))⟩⟩
theorem opa_int0 {K : PySem.W.Frag} {g : Int → Int → V} {g' : Int → Int → W} (hg : ∀ H i j, Rep K H (g' i j) (g i j)) : OpA K (rI0 g) (oII (fun _ _ => True) g') :=
  ⟨fun a b Q Q' k q => oII.mono a b Q Q' k q, fun a b x y H Q0 Q ra rb q k => by
    obtain ⟨i, j, rfl, rfl, c, q⟩ := q.get
    exact ⟨i, j, ra.int, rb.int, k _ _ (.val q (hg H i j))⟩⟩
def CMod (_ j : Int) : Prop := 0 < j
section
variable {X : Cx} {G : Gx} {a b : Expr} {ta tb : AT} {pos : Pos}
/-! ### ints -/
theorem ae_sub (ha : AE X G a ta) (hb : AE X G b tb) : AE X G (.BinOp a .Sub b pos) (aOp2 (oII (fun _ _ => True) fun i j => .int (i - j)) ta tb) := ae_op op_sub (opa_int0 fun _ _ _ => .int) ha hb
theorem ae_mod (ha : AE X G a ta) (hb : AE X G b tb) : AE X G (.BinOp a .Mod b pos) (aOp2 (oII CMod fun i j => .int (i % j)) ta tb) := ae_op op_mod (opa_int (C := fun _ j => 0 < j) fun _ _ _ => .int) ha hb
theorem ae_fdiv (ha : AE X G a ta) (hb : AE X G b tb) : AE X G (.BinOp a .FloorDiv b pos) (aOp2 (oII CDivW fun i j => .int (i / j)) ta tb) := ae_op op_fdivW (opa_int fun _ _ _ => .int) ha hb
end
end Ab

namespace Ab
open PySem PySem.Spec PyProof.Rows L2
section
variable {X : Cx}
/-- a list that may be read now -/
theorem rd_get {pins : List (Addr × Obj)} {σ : L2.St} {H : Hp} {s : Shared} {l : Addr} {xs : List V} (I : Inv X pins σ H s) (r : Rd H l (.lst xs)) :
    xs.length ≤ sizeLine ∧ ∃ (us : List Value) (n : Nat), Vals xs us ∧ s.heap.get? l = some { cls := .type "list", data := .seq us.toArray n } := r.ok I.hok
/-- list + list, whoever owns them -/
def rCatR : R2 := fun x y H Q => ∃ l b xs zs, x = .ref l ∧ y = .ref b ∧ Rd H l (.lst xs) ∧ Rd H b (.lst zs) ∧ xs.length + zs.length ≤ sizeLine ∧ ∀ p, H p = none → Q (.ref p) (upd H p (.lst (xs ++ zs)))
theorem op_catR : OpR X (binaryOp .Add) rCatR := fun pins s σ H x y v u Q I rx ry h => by
  obtain ⟨l, b, xs, zs, rfl, rfl, h1, h2, hz, q⟩ := h
  obtain rfl : v = .ref l := rx
  obtain rfl : u = .ref b := ry
  obtain ⟨_, us, n, r1, e1⟩ := rd_get I h1
  obtain ⟨_, ws, m, r2, e2⟩ := rd_get I h2
  have z : us.toArray.size + ws.toArray.size ≤ sizeLine := by
    rw [List.size_toArray, List.size_toArray, ← r1.length, ← r2.length]; exact hz
  have w := r1.append r2
  refine PySem.P.add_list e1 e2 ?_ z
  rw [show us.toArray ++ ws.toArray = (us ++ ws).toArray from by simp]
  refine ⟨.ref _, _, I.lnew (t' := s.toks) w ?_, rfl, q _ I.fresh⟩
  rw [List.length_append]; exact hz
end
def oCat : Op2 := fun a b Q => ∃ xs ys, a.seq = some xs ∧ b.seq = some ys ∧ xs.length + ys.length ≤ sizeLine ∧ Q (.own (.seq (xs ++ ys)))
theorem opa_cat {K : PySem.W.Frag} : OpA K rCatR oCat :=
  ⟨fun a b Q Q' k ⟨xs, ys, e, f, z, q⟩ => ⟨xs, ys, e, f, z, k _ q⟩, fun a b x y H Q0 Q ra rb q k => by
    obtain ⟨xs, ys, e, f, z, q⟩ := q
    obtain ⟨p, vs, rfl, d1, r1⟩ := ra.seq e
    obtain ⟨p', us, rfl, d2, r2⟩ := rb.seq f
    exact ⟨p, p', vs, us, rfl, rfl, d1, d2, by rw [← r1.length, ← r2.length]; exact z, fun l n => k _ _ (.lst n q (r1.append r2))⟩⟩
def oCatT : Op2 := fun a b Q => ∃ xs ys, a.tpl = some xs ∧ b.tpl = some ys ∧ xs.length + ys.length ≤ sizeLine ∧ Q (.val (.tup (xs ++ ys)))
theorem opa_catT {K : PySem.W.Frag} : OpA K (rCatA K) oCatT :=
  ⟨fun a b Q Q' k ⟨xs, ys, e, f, z, q⟩ => ⟨xs, ys, e, f, z, k _ q⟩, fun a b x y H Q0 Q ra rb q k => by
    obtain ⟨xs, ys, e, f, z, q⟩ := q
    obtain ⟨p, vs, rfl, d1, r1⟩ := ra.tplT e
    obtain ⟨p', us, rfl, d2, r2⟩ := rb.tplT f
    refine ⟨p, p', vs, us, rfl, rfl, d1.sq, d2.sq, by rw [← r1.length, ← r2.length]; exact z, fun h0 => ?_, fun _ h0 => ?_, fun _ _ l n => k _ _ (.tup n q (r1.append r2))⟩
    · have e0 : xs = [] := List.eq_nil_of_length_eq_zero (by rw [r1.length, h0]; rfl)
      subst e0
      exact k _ _ (.val q (.tup d2 r2))
    · have e0 : ys = [] := List.eq_nil_of_length_eq_zero (by rw [r2.length, h0]; rfl)
      subst e0
      rw [List.append_nil] at q
      exact k _ _ (.val q (.tup d1 r1))⟩
def oCatS : Op2 := fun a b Q => match a, b with
  | .wv (.str x), .wv (.str y) => x.length + y.length ≤ sizeLine ∧ Q (.val (.str (x ++ y)))
  | _, _ => False
theorem opa_catS {K : PySem.W.Frag} : OpA K (fun x y H Q => ∃ i j, x = .str i ∧ y = .str j ∧ i.length + j.length ≤ sizeLine ∧ Q (.str (i ++ j)) H) oCatS :=
  ⟨fun a b Q Q' k q => by
    unfold oCatS at q ⊢
    split at q
    · exact ⟨q.1, k _ q.2⟩
    · exact q.elim, fun a b x y H Q0 Q ra rb q k => by
    unfold oCatS at q
    split at q
    · exact ⟨_, _, ra.str, rb.str, q.1, k _ _ (.val q.2 .str)⟩
    · exact q.elim⟩
/-- + : what it asks and gives by what stands on its sides -/
def oAdd : Op2 := fun a b Q => match a, b with
  | .wv (.int i), .wv (.int j) => Q (.val (.int (i + j)))
  | .wv (.str x), .wv (.str y) => x.length + y.length ≤ sizeLine ∧ Q (.val (.str (x ++ y)))
  | .wv (.tup xs), .wv (.tup ys) => xs.length + ys.length ≤ sizeLine ∧ Q (.val (.tup (xs ++ ys)))
  | .wv (.lst xs), .wv (.lst ys) => xs.length + ys.length ≤ sizeLine ∧ Q (.own (.seq (xs ++ ys)))
  | .wv (.lst xs), .cv (.seq ys) => xs.length + ys.length ≤ sizeLine ∧ Q (.own (.seq (xs ++ ys)))
  | .cv (.seq xs), .wv (.lst ys) => xs.length + ys.length ≤ sizeLine ∧ Q (.own (.seq (xs ++ ys)))
  | .cv (.seq xs), .cv (.seq ys) => xs.length + ys.length ≤ sizeLine ∧ Q (.own (.seq (xs ++ ys)))
  | _, _ => False
theorem oAdd.as (a b : Vw) (Q : RV → Prop) (q : oAdd a b Q) : ((oII (fun _ _ => True) (fun i j => .int (i + j)) a b Q ∨ oCatS a b Q) ∨ oCatT a b Q) ∨ oCat a b Q := by
  unfold oAdd at q
  split at q
  · exact .inl (.inl (.inl ⟨trivial, q⟩))
  · exact .inl (.inl (.inr q))
  · exact .inl (.inr ⟨_, _, rfl, rfl, q⟩)
  · exact .inr ⟨_, _, rfl, rfl, q⟩
  · exact .inr ⟨_, _, rfl, rfl, q⟩
  · exact .inr ⟨_, _, rfl, rfl, q⟩
  · exact .inr ⟨_, _, rfl, rfl, q⟩
  · exact q.elim
theorem oAdd.mono (a b : Vw) (Q Q' : RV → Prop) (k : ∀ r, Q r → Q' r) (q : oAdd a b Q) : oAdd a b Q' := by
  unfold oAdd at q ⊢
  split at q <;> first | exact ⟨q.1, k _ q.2⟩ | exact k _ q | exact q.elim
section
variable {X : Cx} {G : Gx} {a b c : Expr} {ta tb tc : AT} {pos : Pos}
theorem ae_add (gk : G.K = X.K) (ha : AE X G a ta) (hb : AE X G b tb) : AE X G (.BinOp a .Add b pos) (aOp2 oAdd ta tb) :=
  ae_op (((op_add.or op_add_str).or op_catA).or op_catR) ((((opa_int0 fun _ _ _ => .int).or opa_catS).or (gk ▸ opa_catT)).or opa_cat |>.as (o' := oAdd) oAdd.as oAdd.mono) ha hb
end
/-! ### == and != of data at any depth -/
mutual
def W.pd : W → PyData
  | .non => .none
  | .bl b => .bool b
  | .int i => .int i
  | .str x => .str x
  | .tup xs => .tuple (W.pds xs)
  | .lst xs => .list (W.pds xs)
  | .dct _ _ => .none
  | .ref _ => .none
  | .ty _ => .none
def W.pds : List W → List PyData
  | [] => []
  | x :: xs => x.pd :: W.pds xs
end
/-- data alone, nested at most so deep -/
def W.dat : Nat → W → Bool
  | _, .non => true
  | _, .bl _ => true
  | _, .int _ => true
  | _, .str _ => true
  | n + 1, .tup xs => xs.all (W.dat n)
  | n + 1, .lst xs => xs.all (W.dat n)
  | _, _ => false
theorem W.depth_all {n : Nat} : ∀ xs : List W, (∀ x ∈ xs, x.pd.depth ≤ n) → PyData.depthAll (W.pds xs) ≤ n
  | [], _ => Nat.zero_le _
  | x :: xs, h => by
    simp only [W.pds, PyData.depthAll]
    exact Nat.max_le.mpr ⟨h x List.mem_cons_self, W.depth_all xs fun y hy => h y (List.mem_cons_of_mem _ hy)⟩
theorem W.dat_depth : ∀ (n : Nat) (w : W), w.dat n = true → w.pd.depth ≤ n
  | _, .non, _ => by simp only [W.pd, PyData.depth]; omega
  | _, .bl _, _ => by simp only [W.pd, PyData.depth]; omega
  | _, .int _, _ => by simp only [W.pd, PyData.depth]; omega
  | _, .str _, _ => by simp only [W.pd, PyData.depth]; omega
  | 0, .tup _, h => by simp [W.dat] at h
  | 0, .lst _, h => by simp [W.dat] at h
  | n + 1, .tup xs, h => by
    simp only [W.pd, PyData.depth]
    have z := W.depth_all xs fun x hx => W.dat_depth n x (List.all_eq_true.mp (by simpa only [W.dat] using h) x hx)
    omega
  | n + 1, .lst xs, h => by
    simp only [W.pd, PyData.depth]
    have z := W.depth_all xs fun x hx => W.dat_depth n x (List.all_eq_true.mp (by simpa only [W.dat] using h) x hx)
    omega
  | n, .dct _ _, h => by simp [W.dat] at h
  | n, .ref _, h => by simp [W.dat] at h
  | n, .ty _, h => by simp [W.dat] at h
mutual
theorem W.pd_plain : ∀ w : W, w.pd.plain = true
  | .non => rfl
  | .bl _ => rfl
  | .int _ => rfl
  | .str _ => rfl
  | .tup xs => by simp only [W.pd, PyData.plain]; exact W.pds_plain xs
  | .lst xs => by simp only [W.pd, PyData.plain]; exact W.pds_plain xs
  | .dct _ _ => rfl
  | .ref _ => rfl
  | .ty _ => rfl
theorem W.pds_plain : ∀ ws : List W, PyData.plainAll (W.pds ws) = true
  | [] => rfl
  | w :: ws => by simp only [W.pds, PyData.plainAll, Bool.and_eq_true]; exact ⟨W.pd_plain w, W.pds_plain ws⟩
end
section
variable {K : PySem.W.Frag} {H : Hp}
theorem rd_sq {a : Addr} {vs : List V} (h : Rd H a (.lst vs)) : SqL K H a vs := .inl h
theorem RepL.dp {n : Nat} (ih : ∀ (w : W) (v : V), Rep K H w v → w.dat n = true → Dp K H v w.pd) : ∀ (ws : List W) (vs : List V), RepL K H ws vs → ws.all (W.dat n) = true → DpAll K H vs (W.pds ws)
  | [], vs, r, _ => by rw [r.of_nil]; exact .nil
  | w :: ws, vs, r, d => by
    obtain ⟨v, t, rfl, a, b⟩ := r.of_cons
    rw [List.all_cons, Bool.and_eq_true] at d
    exact .cons (ih w v a d.1) (RepL.dp ih ws t b d.2)
theorem Rep.dp : ∀ (n : Nat) (w : W) (v : V), Rep K H w v → w.dat n = true → Dp K H v w.pd
  | _, .non, _, r, _ => by rw [Rep.of_non (K := K) (H := H) r]; exact .non
  | _, .bl _, _, r, _ => by rw [Rep.of_bl (K := K) (H := H) r]; exact .bl _
  | _, .int _, _, r, _ => by rw [Rep.of_int (K := K) (H := H) r]; exact .int _
  | _, .str _, _, r, _ => by rw [Rep.of_str (K := K) (H := H) r]; exact .str _
  | n + 1, .tup xs, v, r, d => by
    obtain ⟨a, vs, rfl, s, r⟩ := Rep.of_tup r
    simp only [W.pd]
    exact .tup s (RepL.dp (Rep.dp n) xs vs r (by simpa only [W.dat] using d))
  | n + 1, .lst xs, v, r, d => by
    obtain ⟨a, vs, rfl, ⟨o, s⟩, r⟩ := Rep.of_lst r
    simp only [W.pd]
    exact .lst (rd_sq (.inr ⟨o, s⟩)) (RepL.dp (Rep.dp n) xs vs r (by simpa only [W.dat] using d))
  | 0, .tup _, _, _, d => by simp [W.dat] at d
  | 0, .lst _, _, _, d => by simp [W.dat] at d
  | _, .dct _ _, _, _, d => by simp [W.dat] at d
  | _, .ref _, _, _, d => by simp [W.dat] at d
  | _, .ty _, _, _, d => by simp [W.dat] at d
end
theorem VR.dp {K : PySem.W.Frag} {H : Hp} {a : Vw} {v : V} {n : Nat} (r : VR K H a v) (d : a.toW.dat n = true) (nb : a ≠ .bad) : Dp K H v a.toW.pd := by
  cases a with
  | wv w => exact Rep.dp n w v r d
  | bad => exact absurd rfl nb
  | cv c =>
    cases c with
    | map kvs => simp [Vw.toW, Cont.fz, W.dat] at d
    | seq ws =>
      obtain ⟨p, rfl, vs, e, r⟩ := r
      have d : (W.lst ws).dat n = true := d
      cases n with
      | zero => simp [W.dat] at d
      | succ n =>
        simp only [W.dat] at d
        show Dp K H _ (W.lst ws).pd
        simp only [W.pd]
        exact .lst (rd_sq (.inl e)) (RepL.dp (Rep.dp n) ws vs r d)
/-- whether two data are equal, as == tells it -/
def eqw (a b : W) : Bool := PyData.eqv a.pd b.pd
def Vw.ok : Vw → Bool
  | .bad => false
  | v => v.toW.dat 60
theorem Vw.of_ok {a : Vw} (h : a.ok = true) : a.toW.dat 60 = true ∧ a ≠ .bad := by
  cases a with
  | bad => cases h
  | wv w => exact ⟨h, fun z => nomatch z⟩
  | cv c => exact ⟨h, fun z => nomatch z⟩
def oEq (neg : Bool) : Op2 := fun a b Q => a.ok = true ∧ b.ok = true ∧ Q (.val (.bl (if neg then !eqw a.toW b.toW else eqw a.toW b.toW)))
def rEqP (K : PySem.W.Frag) (neg : Bool) : R2 := fun x y H Q => ∃ d e, Dp K H x d ∧ Dp K H y e ∧ d.plain = true ∧ e.plain = true ∧ d.depth ≤ 60 ∧ Q (.bl (if neg then !PyData.eqv d e else PyData.eqv d e)) H
theorem opa_eq {K : PySem.W.Frag} {neg : Bool} : OpA K (rEqP K neg) (oEq neg) :=
  ⟨fun a b Q Q' k ⟨x, y, q⟩ => ⟨x, y, k _ q⟩, fun a b x y H Q0 Q ra rb ⟨da, db, q⟩ k =>
    ⟨_, _, ra.dp (Vw.of_ok da).1 (Vw.of_ok da).2, rb.dp (Vw.of_ok db).1 (Vw.of_ok db).2, W.pd_plain _, W.pd_plain _, W.dat_depth _ _ (Vw.of_ok da).1, k _ _ (.val q .bl)⟩⟩
section
variable {X : Cx} {G : Gx} {a b c : Expr} {ta tb tc : AT} {pos : Pos}
theorem op_eqP (hu : X.A.units + 64 < cLine) : OpR X (compareOp .Eq) (rEqP X.K false) := fun pins s σ H x y v u Q I rx ry ⟨d, e, hd, he, pd, pe, dp, q⟩ => by
  obtain ⟨as, r1⟩ := Dp.reads I d x v hd rx
  obtain ⟨bs, r2⟩ := Dp.reads I e y u he ry
  have z := Nat.min_le_left d.depth e.depth
  exact SeqAt.eq_plain r1 r2 pd pe (by omega) ⟨.bl _, H, I, rfl, q⟩
theorem op_neP (hu : X.A.units + 64 < cLine) : OpR X (compareOp .NotEq) (rEqP X.K true) := fun pins s σ H x y v u Q I rx ry ⟨d, e, hd, he, pd, pe, dp, q⟩ => by
  obtain ⟨as, r1⟩ := Dp.reads I d x v hd rx
  obtain ⟨bs, r2⟩ := Dp.reads I e y u he ry
  have z := Nat.min_le_left d.depth e.depth
  exact SeqAt.ne_plain r1 r2 pd pe (by omega) ⟨.bl _, H, I, rfl, q⟩
theorem ae_eq (gk : G.K = X.K) (hu : X.A.units + 64 < cLine) (ha : AE X G a ta) (hb : AE X G b tb) : AE X G (.Compare a [.Eq] [b] pos) (aOp2 (oEq false) ta tb) := ae_cmp (op_eqP hu) (gk ▸ opa_eq) ha hb (nomark _)
end
end Ab

namespace Ab
open PySem PySem.Spec PyProof.Rows L2
/-! ### is None; in -/
def Vw.isNon : Vw → Bool
  | .wv .non => true
  | _ => false
def oIsN (neg : Bool) : Op2 := fun a b Q => b = .wv .non ∧ a ≠ .bad ∧ Q (.val (.bl (if neg then !a.isNon else a.isNon)))
theorem VR.isN {K : PySem.W.Frag} {H : Hp} : ∀ {a : Vw} {v : V}, VR K H a v → a ≠ .bad → decide (v = .non) = a.isNon
  | .bad, _, _, nb => absurd rfl nb
  | .cv c, v, r, _ => by obtain ⟨p, e, _⟩ := r; subst e; rfl
  | .wv .non, v, r, _ => by have e := r.non; subst e; rfl
  | .wv (.bl b), v, r, _ => by have e := r.bl; subst e; rfl
  | .wv (.int b), v, r, _ => by have e := r.int; subst e; rfl
  | .wv (.str b), v, r, _ => by have e := r.str; subst e; rfl
  | .wv (.tup b), v, r, _ => by obtain ⟨p, vs, e, _⟩ := Rep.of_tup (K := K) (H := H) r; subst e; rfl
  | .wv (.lst b), v, r, _ => by obtain ⟨p, vs, e, _⟩ := Rep.of_lst (K := K) (H := H) r; subst e; rfl
  | .wv (.ref a), v, r, _ => by have e := Rep.of_ref (K := K) (H := H) r; subst e; rfl
  | .wv (.ty a), v, r, _ => by have e := Rep.of_ty (K := K) (H := H) r; subst e; rfl
  | .wv (.dct ks vs), v, r, _ => by
    have z : Rep K H (.dct ks vs) v := r
    simp only [Rep] at z
    obtain ⟨p, e, _⟩ := z; subst e; rfl
theorem opa_isN {K : PySem.W.Frag} : OpA K (fun x y H Q => y = .non ∧ Q (.bl (decide (x = .non))) H) (oIsN false) :=
  ⟨fun a b Q Q' k ⟨x, y, q⟩ => ⟨x, y, k _ q⟩, fun a b x y H Q0 Q ra rb ⟨e, nb, q⟩ k => by
    subst e
    refine ⟨rb.non, k _ _ (.val q ?_)⟩
    rw [ra.isN nb]
    exact .bl⟩
def Vw.items : Vw → Option (List W)
  | .wv (.lst xs) => some xs
  | .wv (.tup xs) => some xs
  | .cv (.seq xs) => some xs
  | _ => none
theorem VR.itemsT {K : PySem.W.Frag} {H : Hp} {a : Vw} {v : V} {xs : List W} (r : VR K H a v) (e : a.items = some xs) : ∃ p vs, v = .ref p ∧ (Rd H p (.lst vs) ∨ TqT K H p vs) ∧ RepL K H xs vs := by
  cases a with
  | bad => cases e
  | cv c =>
    cases c with
    | map _ => cases e
    | seq ws => obtain ⟨p, vs, a, b, c⟩ := r.seq e; exact ⟨p, vs, a, .inl b, c⟩
  | wv w =>
    cases w with
    | lst ws => obtain ⟨p, vs, a, b, c⟩ := r.seq e; exact ⟨p, vs, a, .inl b, c⟩
    | tup ws => obtain ⟨p, vs, a, b, c⟩ := r.tplT e; exact ⟨p, vs, a, .inr b, c⟩
    | _ => cases e
theorem VR.items {K : PySem.W.Frag} {H : Hp} {a : Vw} {v : V} {xs : List W} (r : VR K H a v) (e : a.items = some xs) : ∃ p vs, v = .ref p ∧ (Rd H p (.lst vs) ∨ SqT K H p vs) ∧ RepL K H xs vs := let ⟨p, vs, q, s, r⟩ := r.itemsT e; ⟨p, vs, q, s.imp id TqT.sq, r⟩
section
variable {X : Cx}
end
/-! ### tests -/
def aTst (t : AT) : ABT := fun env h Q => t env h fun r env' h' => match view env' h' r with
  | .wv (.bl b) => Q b env' h'
  | _ => False
theorem aTst.mono {t : AT} (m : Mono t) : Mono (aTst t) := fun env h Q Q' k q => m env h _ _ (fun r e g z => by
  show match view e g r with
    | .wv (.bl b) => Q' b e g
    | _ => False
  have z : match view e g r with
    | .wv (.bl b) => Q b e g
    | _ => False := z
  split at z
  · exact k _ _ _ z
  · exact z) q
def aAndT (t u : ABT) : ABT := fun env h Q => t env h fun b env' h' => if b = true then u env' h' Q else Q false env' h'
def aOrT (t u : ABT) : ABT := fun env h Q => t env h fun b env' h' => if b = true then Q true env' h' else u env' h' Q
def aNotT (t : ABT) : ABT := fun env h Q => t env h fun b env' h' => Q (!b) env' h'
def aIfE (t : ABT) (a b : AT) : AT := fun env h Q => t env h fun c env' h' => if c = true then a env' h' Q else b env' h' Q
theorem aAndT.mono {t u : ABT} (m : Mono t) (n : Mono u) : Mono (aAndT t u) := fun env h Q Q' k q => m env h _ _ (fun b e g z => by
  cases b with
  | true => exact iteT (n e g _ _ k (by simpa using z))
  | false => exact iteF (k _ _ _ (by simpa using z))) q
theorem aOrT.mono {t u : ABT} (m : Mono t) (n : Mono u) : Mono (aOrT t u) := fun env h Q Q' k q => m env h _ _ (fun b e g z => by
  cases b with
  | true => exact iteT (k _ _ _ (by simpa using z))
  | false => exact iteF (n e g _ _ k (by simpa using z))) q
theorem aNotT.mono {t : ABT} (m : Mono t) : Mono (aNotT t) := fun env h Q Q' k q => m env h _ _ (fun b e g z => k _ _ _ z) q
theorem aIfE.mono {t : ABT} {a b : AT} (m : Mono t) (n : Mono a) (o : Mono b) : Mono (aIfE t a b) := fun env h Q Q' k q => m env h _ _ (fun c e g z => by
  cases c with
  | true => exact iteT (n e g _ _ k (by simpa using z))
  | false => exact iteF (o e g _ _ k (by simpa using z))) q
section
variable {X : Cx} {G : Gx} {a b c : Expr} {ta tb tc : AT} {t u : ABT} {pos : Pos} {rest : List Expr}
/-- a test by its value, a truth value -/
theorem ap_val (h : AE X G a ta) (hv : ∀ t : TE, PE X a t → PT X a (tTest t)) : AP X G a (aTst ta) := by
  refine ⟨aTst.mono h.mono, PT.imp (hv _ h.pe) fun σ H Q ⟨env, k, S, q⟩ => ?_⟩
  refine ⟨env, k, S, h.mono env k _ _ (fun r env1 h1 z v H1 S1 x1 r1 f1 => ?_) q⟩
  have r2 := r1.vr S1
  split at z
  · rename_i b e
    rw [e] at r2
    exact ⟨b, r2.bl, z H1 S1 x1⟩
  · exact z.elim
theorem ap_cmp {op : CmpOp} {r : R2} {o : Op2} (ho : OpR X (compareOp op) r) (oa : OpA G.K r o) (ha : AE X G a ta) (hb : AE X G b tb) (hm : behindInMarks op b = false) : AP X G (.Compare a [op] [b] pos) (aTst (aOp2 o ta tb)) := by
  refine ⟨aTst.mono (aOp2.mono oa ha.mono hb.mono), PT.imp (pt_cmpR ho ha.pe hb.pe hm) fun σ H Q ⟨env, k, S, q⟩ => ?_⟩
  refine two_step ha.mono hb.mono oa ⟨env, k, S, aOp2.mono oa ha.mono hb.mono env k _ _ (fun r env1 h1 z v H1 S1 x1 r1 f1 => ?_) q⟩
  have r2 := r1.vr S1
  split at z
  · rename_i b e
    rw [e] at r2
    exact ⟨b, r2.bl, z H1 S1 x1⟩
  · exact z.elim
theorem ap_not (h : AP X G a t) : AP X G (.UnaryOp .Not a pos) (aNotT t) :=
  ⟨aNotT.mono h.mono, PT.imp (pt_not h.pt) fun σ H Q ⟨env, k, S, q⟩ => ⟨env, k, S, q⟩⟩
structure AW (X : Cx) (G : Gx) (e : Expr) (t : ABT) : Prop where
  mono : Mono t
  pw : PW X e (cT G t)
theorem PW.imp {e : Expr} {t t' : TT} (h : PW X e t) (i : ∀ σ H Q, t' σ H Q → t σ H Q) : PW X e t' := ⟨fun w pins s σ H Q I q => h.run w pins s σ H Q I (i σ H Q q)⟩
theorem AW.ap (h : AW X G a t) : AP X G a t := ⟨h.mono, h.pw.pt⟩
theorem aw_and1 (h : AP X G a t) : AW X G (.BoolOp .And [a] pos) t := ⟨h.mono, pw_and1 h.pt⟩
theorem aw_or1 (h : AP X G a t) : AW X G (.BoolOp .Or [a] pos) t := ⟨h.mono, pw_or1 h.pt⟩
theorem and_step {σ : L2.St} {H : Hp} {Q : Bool → Hp → Prop} (mt : Mono t) (mu : Mono u) (q : cT G (aAndT t u) σ H Q) : tAnd (cT G t) (cT G u) σ H Q := by
  obtain ⟨env, k, S, q⟩ := q
  refine ⟨env, k, S, mt env k _ _ (fun b env1 h1 z H1 S1 x1 => ?_) q⟩
  cases b with
  | true =>
    rw [if_pos rfl] at z
    exact iteT ⟨env1, h1, S1, mu env1 h1 _ _ (fun c env2 h2 z2 H2 S2 x2 => z2 H2 S2 (x1.trans x2)) z⟩
  | false =>
    rw [if_neg Bool.false_ne_true] at z ⊢
    exact z H1 S1 x1
theorem or_step {σ : L2.St} {H : Hp} {Q : Bool → Hp → Prop} (mt : Mono t) (mu : Mono u) (q : cT G (aOrT t u) σ H Q) : tOr (cT G t) (cT G u) σ H Q := by
  obtain ⟨env, k, S, q⟩ := q
  refine ⟨env, k, S, mt env k _ _ (fun b env1 h1 z H1 S1 x1 => ?_) q⟩
  cases b with
  | false =>
    rw [if_neg Bool.false_ne_true] at z
    exact iteF ⟨env1, h1, S1, mu env1 h1 _ _ (fun c env2 h2 z2 H2 S2 x2 => z2 H2 S2 (x1.trans x2)) z⟩
  | true =>
    rw [if_pos rfl] at z ⊢
    exact z H1 S1 x1
theorem aw_and (ha : AP X G a t) (hb : AW X G (.BoolOp .And (b :: rest) pos) u) : AW X G (.BoolOp .And (a :: b :: rest) pos) (aAndT t u) :=
  ⟨aAndT.mono ha.mono hb.mono, PW.imp (pw_and ha.pt hb.pw) fun _ _ _ q => and_step ha.mono hb.mono q⟩
theorem aw_or (ha : AP X G a t) (hb : AW X G (.BoolOp .Or (b :: rest) pos) u) : AW X G (.BoolOp .Or (a :: b :: rest) pos) (aOrT t u) :=
  ⟨aOrT.mono ha.mono hb.mono, PW.imp (pw_or ha.pt hb.pw) fun _ _ _ q => or_step ha.mono hb.mono q⟩
theorem ae_if (hc : AP X G c t) (ha : AE X G a ta) (hb : AE X G b tb) : AE X G (.IfExp c a b pos) (aIfE t ta tb) := by
  refine ⟨aIfE.mono hc.mono ha.mono hb.mono, PE.imp (pe_ifExp hc.pt ha.pe hb.pe) fun σ H Q ⟨env, k, S, q⟩ => ?_⟩
  refine ⟨env, k, S, hc.mono env k _ _ (fun d env1 h1 z H1 S1 x1 => ?_) q⟩
  have fin : ∀ {t : AT}, Mono t → t env1 h1 (fun r env2 h2 => ∀ v H', BS G env2 h2 σ H' → Xt env k σ H env2 h2 H' → RvRep G env2 h2 σ H' r v → Fsh H r v → Q v H') → cE G t σ H1 Q := fun m y =>
    ⟨env1, h1, S1, m env1 h1 _ _ (fun r env2 h2 z2 v H2 S2 x2 r2 f2 => z2 v H2 S2 (x1.trans x2) r2 (by
      cases r with
      | own c => exact fun p e => x1.fresh (f2 p e)
      | _ => trivial)) y⟩
  cases d with
  | true => exact iteT (fin ha.mono (by simpa using z))
  | false => exact iteF (fin hb.mono (by simpa using z))
end
end Ab

namespace Ab
open PySem PySem.Spec PyProof.Rows L2
/-! ### places -/
theorem RepL.atI {K : PySem.W.Frag} {H : Hp} {ws : List W} {vs : List V} {i : Int} {w : W} (r : RepL K H ws vs) (e : L2.atI ws i = some w) : ∃ v, L2.atI vs i = some v ∧ Rep K H w v := by
  unfold L2.atI at e ⊢
  rw [← r.length]
  cases q : ixN ws.length i with
  | none => rw [q] at e; cases e
  | some j =>
    rw [q] at e
    exact r.get (i := j) e
def oIx : Op2 := fun a b Q => match b with
  | .wv (.int i) => match a with
    | .wv (.str x) => x.length ≤ sizeLine ∧ ∃ c, L2.atI x.cps.toList i = some c ∧ Q (.val (.str ⟨#[c]⟩))
    | a => ∃ xs w, a.items = some xs ∧ L2.atI xs i = some w ∧ Q (.val w)
  | _ => False
theorem oIx.mono (a b : Vw) (Q Q' : RV → Prop) (k : ∀ r, Q r → Q' r) (q : oIx a b Q) : oIx a b Q' := by
  unfold oIx at q ⊢
  split at q
  · split at q
    · obtain ⟨z, c, e, q⟩ := q; exact ⟨z, c, e, k _ q⟩
    · obtain ⟨xs, w, e, f, q⟩ := q; exact ⟨xs, w, e, f, k _ q⟩
  · exact q
theorem opa_ix {K : PySem.W.Frag} : OpA K (rIx K) oIx :=
  ⟨oIx.mono, fun a b x y H Q0 Q ra rb q k => by
    unfold oIx at q
    split at q
    · rename_i i
      split at q
      · obtain ⟨z, c, e, q⟩ := q
        exact .inr (.inr ⟨_, i, c, ra.str, rb.int, z, e, k _ _ (.val q .str)⟩)
      · obtain ⟨xs, w, e, f, q⟩ := q
        obtain ⟨p, vs, rfl, hs, rv⟩ := ra.items e
        obtain ⟨v, g, r⟩ := rv.atI f
        rcases hs with hs | hs
        · exact .inl ⟨p, vs, i, v, rfl, rb.int, rd_sq hs, g, k _ _ (.val q r)⟩
        · exact .inr (.inl ⟨p, vs, i, v, rfl, rb.int, hs, g, k _ _ (.val q r)⟩)
    · exact q.elim⟩
section
variable {X : Cx} {G : Gx} {a b c : Expr} {ta tb tc : AT} {pos : Pos}
theorem ae_ix (gk : G.K = X.K) (ha : AE X G a ta) (hb : AE X G b tb) (hs : PlainIx b) : AE X G (.Subscript a b pos) (aOp2 oIx ta tb) :=
  ⟨aOp2.mono (opa_ix (K := G.K)) ha.mono hb.mono, PE.imp (pe_ix ix_seq ha.pe hb.pe hs) fun _ _ _ q => two_step ha.mono hb.mono (gk ▸ opa_ix) q⟩
end
/-! ### slices -/
abbrev AOT := AEnv → AH → (Option Int → AEnv → AH → Prop) → Prop
def cO (G : Gx) (t : AOT) : TO := fun σ H Q => ∃ env h, BS G env h σ H ∧ t env h fun o env' h' => ∀ H', BS G env' h' σ H' → Xt env h σ H env' h' H' → Q o H'
structure AOp (X : Cx) (G : Gx) (e : Option Expr) (t : AOT) : Prop where
  mono : Mono t
  po : PO X e (cO G t)
def aNoPart : AOT := fun env h Q => Q none env h
def aPart (t : AT) : AOT := fun env h Q => t env h fun r env' h' => match view env' h' r with
  | .wv (.int i) => Q (some i) env' h'
  | _ => False
theorem PO.imp {X : Cx} {e : Option Expr} {t t' : TO} (h : PO X e t) (i : ∀ σ H Q, t' σ H Q → t σ H Q) : PO X e t' := ⟨fun pins s σ H Q I q => h.run pins s σ H Q I (i σ H Q q)⟩
section
variable {X : Cx} {G : Gx} {a b c : Expr} {ta tb tc : AT} {pos p2 : Pos} {lo hi : Option Expr} {tl th : AOT}
theorem ao_none : AOp X G none aNoPart := ⟨fun env h Q Q' k q => k _ _ _ q, PO.imp po_none fun σ H Q ⟨env, h, S, q⟩ => q H S .refl⟩
theorem ao_some (ha : AE X G a ta) : AOp X G (some a) (aPart ta) := by
  refine ⟨fun env h Q Q' k q => ha.mono env h _ _ (fun r e g z => ?_) q, PO.imp (po_some ha.pe) fun σ H Q ⟨env, h, S, q⟩ => ?_⟩
  · split at z
    · exact k _ _ _ z
    · exact z
  · refine ⟨env, h, S, ha.mono env h _ _ (fun r env1 h1 z v H1 S1 x1 r1 f1 => ?_) q⟩
    have r2 := r1.vr S1
    split at z
    · rename_i i e
      rw [e] at r2
      exact ⟨i, r2.int, z H1 S1 x1⟩
    · exact z.elim
def cutW (xs : List W) (lo hi : Option Int) : List W := (xs.drop (HT.sIx xs.length 0 lo)).take (HT.sIx xs.length xs.length hi - HT.sIx xs.length 0 lo)
def oSl (a : Vw) (lo hi : Option Int) (Q : RV → Prop) : Prop := match a with
  | .wv (.str x) => x.length ≤ sizeLine ∧ Q (.val (.str (Txt.slice x lo hi)))
  | .wv (.tup xs) => Q (.val (.tup (cutW xs lo hi)))
  | .wv (.lst xs) => Q (.own (.seq (cutW xs lo hi)))
  | .cv (.seq xs) => Q (.own (.seq (cutW xs lo hi)))
  | _ => False
theorem oSl.mono {a : Vw} {lo hi : Option Int} {Q Q' : RV → Prop} (k : ∀ r, Q r → Q' r) (q : oSl a lo hi Q) : oSl a lo hi Q' := by
  unfold oSl at q ⊢
  split at q <;> first | exact ⟨q.1, k _ q.2⟩ | exact k _ q | exact q.elim
def aSl (ta : AT) (tl th : AOT) : AT := fun env h Q => ta env h fun r env1 h1 => tl env1 h1 fun lo env2 h2 => th env2 h2 fun hi env3 h3 => oSl (view env3 h3 r) lo hi fun r => Q r env3 h3
theorem RepL.cut {K : PySem.W.Frag} {H : Hp} {ws : List W} {vs : List V} (r : RepL K H ws vs) (lo hi : Option Int) : RepL K H (cutW ws lo hi) (cutV vs lo hi) := by
  unfold cutW cutV
  rw [← r.length]
  exact (r.drop _).take _
theorem cut_whole {ws : List W} {lo hi : Option Int} (h : HT.sIx ws.length 0 lo = 0 ∧ HT.sIx ws.length ws.length hi = ws.length) : cutW ws lo hi = ws := by
  unfold cutW
  rw [h.1, h.2]
  simp
theorem ae_slice (gk : G.K = X.K) (ha : AE X G a ta) (hl : AOp X G lo tl) (hu : AOp X G hi th) : AE X G (.Subscript a (.Slice lo hi none p2) pos) (aSl ta tl th) := by
  refine ⟨fun env h Q Q' k q => ha.mono env h _ _ (fun r e g z => hl.mono e g _ _ (fun l e g z => hu.mono e g _ _ (fun u e g z => oSl.mono (fun r q => k _ _ _ q) z) z) z) q, PE.imp (pe_slice ((C8.sl_txt.or sl_tupA).or sl_list) ha.pe hl.po hu.po) fun σ H Q ⟨env, h, S, q⟩ => ?_⟩
  refine ⟨env, h, S, ha.mono env h _ _ (fun r env1 h1 z v H1 S1 x1 r1 f1 => ?_) q⟩
  refine ⟨env1, h1, S1, hl.mono env1 h1 _ _ (fun l env2 h2 z H2 S2 x2 => ?_) z⟩
  refine ⟨env2, h2, S2, hu.mono env2 h2 _ _ (fun u env3 h3 z H3 S3 x3 => ?_) z⟩
  have rr := ((r1.xt S1 x2).xt S2 x3).vr S3
  have fin : ∀ {v : V} {H' : Hp}, OutR G.K H3 (fun r => ∀ v H', BS G env3 h3 σ H' → Xt env h σ H env3 h3 H' → RvRep G env3 h3 σ H' r v → Fsh H r v → Q v H') v H' → Q v H' := fun o => by
    obtain ⟨res, q0, a, b, c, d⟩ := o.end S3 (x1.trans (x2.trans x3))
    exact q0 _ _ a b c d
  unfold oSl at z
  split at z
  · rename_i x e
    rw [e] at rr
    exact .inl (.inl ⟨x, rr.str, z.1, fin (.val z.2 .str)⟩)
  · rename_i xs e
    rw [e] at rr
    obtain ⟨p, vs, rfl, hs, rv⟩ := rr.tplT rfl
    refine .inl (.inr ⟨p, vs, rfl, gk ▸ hs.sq, fun y => ?_, fun _ m n => fin (.tup n z (rv.cut _ _))⟩)
    rw [← rv.length] at y
    rw [cut_whole y] at z
    exact fin (.val z (.tup hs rv))
  · rename_i xs e
    rw [e] at rr
    obtain ⟨p, vs, rfl, hs, rv⟩ := rr.seq rfl
    exact .inr ⟨p, vs, rfl, rd_sq hs, fun m n => fin (.lst n z (rv.cut _ _))⟩
  · rename_i xs e
    rw [e] at rr
    obtain ⟨p, vs, rfl, hs, rv⟩ := rr.seq rfl
    exact .inr ⟨p, vs, rfl, rd_sq hs, fun m n => fin (.lst n z (rv.cut _ _))⟩
  · exact z.elim
/-! ### calls of built-ins: what is handed in is borrowed -/
abbrev ART := AEnv → AH → (List RV → AEnv → AH → Prop) → Prop
inductive RvL (G : Gx) (env : AEnv) (h : AH) (σ : L2.St) (H : Hp) : List RV → List V → Prop where
  | nil : RvL G env h σ H [] []
  | cons {r : RV} {rs : List RV} {v : V} {vs : List V} : RvRep G env h σ H r v → RvL G env h σ H rs vs → RvL G env h σ H (r :: rs) (v :: vs)
def cR (G : Gx) (t : ART) : TA := fun σ H Q => ∃ env h, BS G env h σ H ∧ t env h fun rs env' h' => ∀ vs H', BS G env' h' σ H' → Xt env h σ H env' h' H' → RvL G env' h' σ H' rs vs → Q vs H'
structure AR (X : Cx) (G : Gx) (es : List Expr) (t : ART) : Prop where
  mono : Mono t
  pa : PA X es (cR G t)
def rNil : ART := fun env h Q => Q [] env h
def rCons (t : AT) (u : ART) : ART := fun env h Q => t env h fun r env' h' => u env' h' fun rs env2 h2 => Q (r :: rs) env2 h2
theorem ar_nil : AR X G [] rNil := ⟨fun env h Q Q' k q => k _ _ _ q, PA.imp pa_nil fun σ H Q ⟨env, h, S, q⟩ => q [] H S .refl .nil⟩
theorem ar_cons {e : Expr} {es : List Expr} {t : AT} {u : ART} (a : AE X G e t) (b : AR X G es u) (hs : starEach (e :: es) X.env = (false, eval e X.env) :: starEach es X.env := by rfl) : AR X G (e :: es) (rCons t u) := by
  refine ⟨fun env h Q Q' k q => a.mono env h _ _ (fun r e g z => b.mono e g _ _ (fun rs e2 g2 z2 => k _ _ _ z2) z) q, PA.imp (pa_cons a.pe b.pa hs) fun σ H Q ⟨env, h, S, q⟩ => ?_⟩
  refine ⟨env, h, S, a.mono env h _ _ (fun r env1 h1 z v H1 S1 x1 r1 f1 => ?_) q⟩
  refine ⟨env1, h1, S1, b.mono env1 h1 _ _ (fun rs env2 h2 z vs H2 S2 x2 r2 => ?_) z⟩
  exact z (v :: vs) H2 S2 (x1.trans x2) (.cons (r1.xt S1 x2) r2)
inductive VRL (K : PySem.W.Frag) (H : Hp) : List Vw → List V → Prop where
  | nil : VRL K H [] []
  | cons {a : Vw} {as : List Vw} {v : V} {vs : List V} : VR K H a v → VRL K H as vs → VRL K H (a :: as) (v :: vs)
theorem RvL.vrl {env : AEnv} {h : AH} {σ : L2.St} {H : Hp} (S : BS G env h σ H) {rs : List RV} {vs : List V} (r : RvL G env h σ H rs vs) : VRL G.K H (rs.map (view env h)) vs := by
  induction r with
  | nil => exact .nil
  | cons a _ ih => exact .cons (a.vr S) ih
abbrev OpN := List Vw → (RV → Prop) → Prop
structure CallA (K : PySem.W.Frag) (r : List V → Hp → VK → Prop) (o : OpN) : Prop where
  mono : ∀ as Q Q', (∀ r, Q r → Q' r) → o as Q → o as Q'
  ok : ∀ as vs H Q0 Q, VRL K H as vs → o as Q0 → (∀ v H', OutR K H Q0 v H' → Q v H') → r vs H Q
def aCB (o : OpN) (t : ART) : AT := fun env h Q => t env h fun rs env1 h1 => o (rs.map (view env1 h1)) fun r => Q r env1 h1
theorem CallA.or {K : PySem.W.Frag} {r r' : List V → Hp → VK → Prop} {o o' : OpN} (a : CallA K r o) (b : CallA K r' o') : CallA K (fun vs H Q => r vs H Q ∨ r' vs H Q) (fun as Q => o as Q ∨ o' as Q) :=
  ⟨fun as Q Q' k q => q.imp (a.mono as Q Q' k) (b.mono as Q Q' k), fun as vs H Q0 Q r q k => q.imp (fun z => a.ok as vs H Q0 Q r z k) fun z => b.ok as vs H Q0 Q r z k⟩
theorem CallA.as {K : PySem.W.Frag} {r : List V → Hp → VK → Prop} {o o' : OpN} (a : CallA K r o) (i : ∀ as Q, o' as Q → o as Q) (m : ∀ as Q Q', (∀ r, Q r → Q' r) → o' as Q → o' as Q') : CallA K r o' := ⟨m, fun as vs H Q0 Q r q k => a.ok as vs H Q0 Q r (i _ _ q) k⟩
theorem cb_step {r : List V → Hp → VK → Prop} {o : OpN} {t : ART} (ca : CallA G.K r o) (m : Mono t) {σ : L2.St} {H : Hp} {Q : VK} (q : cE G (aCB o t) σ H Q) : tCB r (cR G t) σ H Q := by
  obtain ⟨env, h, S, q⟩ := q
  refine ⟨env, h, S, m env h _ _ (fun rs env1 h1 z vs H1 S1 x1 r1 => ?_) q⟩
  refine ca.ok _ _ _ _ _ (r1.vrl S1) z fun v H2 out => ?_
  obtain ⟨res, q0, a, b, c, d⟩ := out.end S1 x1
  exact q0 v H2 a b c d
theorem aCB.mono {r : List V → Hp → VK → Prop} {o : OpN} {t : ART} (ca : CallA G.K r o) (m : Mono t) : Mono (aCB o t) := fun env h Q Q' k q => m env h _ _ (fun rs e g z => ca.mono _ _ _ (fun r q => k _ _ _ q) z) q
theorem ae_callB {id : String} {x : Str} {e : Expr} {es : List Expr} {p : Pos} {r : List V → Hp → VK → Prop} {o : OpN} {t : ART} (hc : CallR X (.builtin id) r) (ca : CallA G.K r o) (hg : Gl X x) (hm : X.mg x = none) (hv : bootBuiltins x = some (.builtin id)) (ha : AR X G (e :: es) t)
    (hn : x ≠ "__name__" := by decide) (hdb : (x == ("__debug__" : Str)) = false := by decide) (he : starEach (e :: es) X.env = (false, eval e X.env) :: starEach es X.env := by rfl) (hpl : (backTo pos (starEach es X.env)).any (·.1) = false := by rfl) :
    AE X G (.Call (.Name x p) (e :: es) [] pos) (aCB o t) :=
  ⟨aCB.mono ca ha.mono, PE.imp (pe_callB hc hg hm hv ha.pa hn hdb he hpl) fun _ _ _ q => cb_step ca ha.mono q⟩
theorem ae_callTy {T : String} {x : Str} {e : Expr} {es : List Expr} {p : Pos} {r : List V → Hp → VK → Prop} {o : OpN} {t : ART} (hc : CallR X (.type T) r) (ca : CallA G.K r o) (hg : Gl X x) (hm : X.mg x = none) (hv : bootBuiltins x = some (.type T)) (ha : AR X G (e :: es) t)
    (hn : x ≠ "__name__" := by decide) (hdb : (x == ("__debug__" : Str)) = false := by decide) (he : starEach (e :: es) X.env = (false, eval e X.env) :: starEach es X.env := by rfl) (hpl : (backTo pos (starEach es X.env)).any (·.1) = false := by rfl) :
    AE X G (.Call (.Name x p) (e :: es) [] pos) (aCB o t) :=
  ⟨aCB.mono ca ha.mono, PE.imp (pe_callTy hc hg hm hv ha.pa hn hdb he hpl) fun _ _ _ q => cb_step ca ha.mono q⟩
end
theorem VRL.one {K : PySem.W.Frag} {H : Hp} {a : Vw} {vs : List V} (r : VRL K H [a] vs) : ∃ v, vs = [v] ∧ VR K H a v := by
  cases r with
  | cons r t => cases t; exact ⟨_, rfl, r⟩
theorem VRL.two {K : PySem.W.Frag} {H : Hp} {a b : Vw} {vs : List V} (r : VRL K H [a, b] vs) : ∃ v u, vs = [v, u] ∧ VR K H a v ∧ VR K H b u := by
  cases r with
  | cons r t => obtain ⟨u, rfl, q⟩ := t.one; exact ⟨_, u, rfl, r, q⟩
/-- len -/
def oLen : OpN := fun as Q => match as with
  | [.wv (.str x)] => x.length ≤ sizeLine ∧ Q (.val (.int x.length))
  | [a] => ∃ xs, a.items = some xs ∧ Q (.val (.int xs.length))
  | _ => False
theorem ca_len {K : PySem.W.Frag} : CallA K (fun xs H Q => ∃ x n, xs = [x] ∧ LenV K x H n ∧ Q (.int n) H) oLen :=
  ⟨fun as Q Q' k q => by
    unfold oLen at q ⊢
    split at q
    · exact ⟨q.1, k _ q.2⟩
    · obtain ⟨xs, e, q⟩ := q; exact ⟨xs, e, k _ q⟩
    · exact q, fun as vs H Q0 Q r q k => by
    unfold oLen at q
    split at q
    · obtain ⟨v, rfl, r1⟩ := r.one
      cases r1.str
      exact ⟨_, _, rfl, ⟨q.1, rfl⟩, k _ _ (.val q.2 .int)⟩
    · obtain ⟨v, rfl, r1⟩ := r.one
      obtain ⟨xs, e, q⟩ := q
      obtain ⟨p, us, rfl, hs, rv⟩ := r1.items e
      refine ⟨_, us.length, rfl, ?_, k _ _ (.val q (by rw [rv.length]; exact .int))⟩
      rcases hs with hs | hs
      · exact .inl ⟨us, rd_sq hs, rfl⟩
      · exact .inr ⟨us, hs, rfl⟩
    · exact q.elim⟩
/-- min, max of two ints; abs -/
def o2I (g : Int → Int → Int) : OpN := fun as Q => match as with
  | [.wv (.int i), .wv (.int j)] => Q (.val (.int (g i j)))
  | _ => False
def o1I (g : Int → Int) : OpN := fun as Q => match as with
  | [.wv (.int i)] => Q (.val (.int (g i)))
  | _ => False
/-- sum, min, max of a list of ints -/
def oInts (g : List Int → (RV → Prop) → Prop) : OpN := fun as Q => match as with
  | [a] => ∃ ns : List Int, a.seq = some (ns.map W.int) ∧ g ns Q
  | _ => False
theorem oInts.mono {g : List Int → (RV → Prop) → Prop} (m : ∀ ns Q Q', (∀ r, Q r → Q' r) → g ns Q → g ns Q') (as : List Vw) (Q Q' : RV → Prop) (k : ∀ r, Q r → Q' r) (q : oInts g as Q) : oInts g as Q' := by
  unfold oInts at q ⊢
  split at q
  · obtain ⟨ns, e, q⟩ := q; exact ⟨ns, e, m _ _ _ k q⟩
  · exact q
theorem oInts.get {K : PySem.W.Frag} {H : Hp} {g : List Int → (RV → Prop) → Prop} {as : List Vw} {vs : List V} {Q : RV → Prop} (r : VRL K H as vs) (q : oInts g as Q) : ∃ p ns, vs = [.ref p] ∧ SqL K H p (ns.map V.int) ∧ g ns Q := by
  unfold oInts at q
  split at q
  · obtain ⟨v, rfl, r1⟩ := r.one
    obtain ⟨ns, e, q⟩ := q
    obtain ⟨p, us, rfl, hs, rv⟩ := r1.seq e
    rw [rv.of_ints] at hs
    exact ⟨p, ns, rfl, rd_sq hs, q⟩
  · exact q.elim
/-- any, all of a list of truth values -/
def oBls (g : List Bool → Bool) : OpN := fun as Q => match as with
  | [a] => ∃ bs : List Bool, a.seq = some (bs.map W.bl) ∧ Q (.val (.bl (g bs)))
  | _ => False
theorem oBls.mono {g : List Bool → Bool} (as : List Vw) (Q Q' : RV → Prop) (k : ∀ r, Q r → Q' r) (q : oBls g as Q) : oBls g as Q' := by
  unfold oBls at q ⊢
  split at q
  · obtain ⟨ns, e, q⟩ := q; exact ⟨ns, e, k _ q⟩
  · exact q
theorem oBls.get {K : PySem.W.Frag} {H : Hp} {g : List Bool → Bool} {as : List Vw} {vs : List V} {Q : RV → Prop} (r : VRL K H as vs) (q : oBls g as Q) : ∃ p bs, vs = [.ref p] ∧ SqL K H p (bs.map V.bl) ∧ Q (.val (.bl (g bs))) := by
  unfold oBls at q
  split at q
  · obtain ⟨v, rfl, r1⟩ := r.one
    obtain ⟨ns, e, q⟩ := q
    obtain ⟨p, us, rfl, hs, rv⟩ := r1.seq e
    rw [rv.of_bls] at hs
    exact ⟨p, ns, rfl, rd_sq hs, q⟩
  · exact q.elim
theorem ca_all {K : PySem.W.Frag} : CallA K (rAll K) (oBls fun bs => bs.all id) :=
  ⟨oBls.mono, fun as vs H Q0 Q r q k => by
    obtain ⟨p, ns, rfl, hs, q⟩ := oBls.get r q
    exact ⟨p, ns, rfl, hs, k _ _ (.val q .bl)⟩⟩
/-- tuple(..), list(..) of a list or tuple -/
def oTupC : OpN := fun as Q => match as with
  | [a] => ∃ xs, a.items = some xs ∧ Q (.val (.tup xs))
  | _ => False
theorem ca_tup {K : PySem.W.Frag} : CallA K (fun xs H Q => ∃ p ys, xs = [.ref p] ∧ ((SqL K H p ys ∧ ∀ l, H l = none → Q (.ref l) (upd H l (.tup ys))) ∨ (SqT K H p ys ∧ Q (.ref p) H))) oTupC :=
  ⟨fun as Q Q' k q => by
    unfold oTupC at q ⊢
    split at q
    · obtain ⟨xs, e, q⟩ := q; exact ⟨xs, e, k _ q⟩
    · exact q, fun as vs H Q0 Q r q k => by
    unfold oTupC at q
    split at q
    · obtain ⟨v, rfl, r1⟩ := r.one
      obtain ⟨xs, e, q⟩ := q
      obtain ⟨p, us, rfl, hs, rv⟩ := r1.itemsT e
      refine ⟨p, us, rfl, ?_⟩
      rcases hs with hs | hs
      · exact .inl ⟨rd_sq hs, fun l n => k _ _ (.tup n q rv)⟩
      · exact .inr ⟨hs.sq, k _ _ (.val q (.tup hs rv))⟩
    · exact q.elim⟩
def oLstC : OpN := fun as Q => match as with
  | [a] => ∃ xs, a.items = some xs ∧ Q (.own (.seq xs))
  | _ => False
theorem ca_lst {K : PySem.W.Frag} : CallA K (fun xs H Q => ∃ p ys, xs = [.ref p] ∧ (SqL K H p ys ∨ SqT K H p ys) ∧ ∀ l, H l = none → Q (.ref l) (upd H l (.lst ys))) oLstC :=
  ⟨fun as Q Q' k q => by
    unfold oLstC at q ⊢
    split at q
    · obtain ⟨xs, e, q⟩ := q; exact ⟨xs, e, k _ q⟩
    · exact q, fun as vs H Q0 Q r q k => by
    unfold oLstC at q
    split at q
    · obtain ⟨v, rfl, r1⟩ := r.one
      obtain ⟨xs, e, q⟩ := q
      obtain ⟨p, us, rfl, hs, rv⟩ := r1.items e
      exact ⟨p, us, rfl, hs.imp_left rd_sq, fun l n => k _ _ (.lst n q rv)⟩
    · exact q.elim⟩
/-- isinstance(x, T), T one of bool, int, str, tuple, list -/
def W.tyName : W → Option String
  | .non => some "NoneType"
  | .bl _ => some "bool"
  | .int _ => some "int"
  | .str _ => some "str"
  | .tup _ => some "tuple"
  | .lst _ => some "list"
  | _ => none
def Vw.tyName : Vw → Option String
  | .wv w => w.tyName
  | .cv (.seq _) => some "list"
  | _ => none
def isiB : String → String → Option Bool
  | "NoneType", "bool" => some false
  | "NoneType", "int" => some false
  | "NoneType", "str" => some false
  | "NoneType", "tuple" => some false
  | "NoneType", "list" => some false
  | "bool", "bool" => some true
  | "bool", "int" => some true
  | "bool", "str" => some false
  | "bool", "tuple" => some false
  | "bool", "list" => some false
  | "int", "bool" => some false
  | "int", "int" => some true
  | "int", "str" => some false
  | "int", "tuple" => some false
  | "int", "list" => some false
  | "str", "bool" => some false
  | "str", "int" => some false
  | "str", "str" => some true
  | "str", "tuple" => some false
  | "str", "list" => some false
  | "tuple", "bool" => some false
  | "tuple", "int" => some false
  | "tuple", "str" => some false
  | "tuple", "tuple" => some true
  | "tuple", "list" => some false
  | "list", "bool" => some false
  | "list", "int" => some false
  | "list", "str" => some false
  | "list", "tuple" => some false
  | "list", "list" => some true
  | _, _ => none
def oIsi : OpN := fun as Q => match as with
  | [a, .wv (.ty T)] => ∃ n b, a.tyName = some n ∧ isiB n T = some b ∧ Q (.val (.bl b))
  | _ => False
theorem VR.tyX {K : PySem.W.Frag} {H : Hp} : ∀ {a : Vw} {v : V} {n : String}, VR K H a v → a.tyName = some n → (∀ ws, a ≠ .wv (.tup ws)) → TyX K H v (.type n)
  | .bad, _, _, _, e, _ => by cases e
  | .cv (.seq ws), _, _, r, e, _ => by cases e; obtain ⟨p, rfl, vs, l, _⟩ := r; exact .base (.lst l)
  | .cv (.map _), _, _, _, e, _ => by cases e
  | .wv .non, _, _, r, e, _ => by cases e; cases r.non; exact .base .non
  | .wv (.bl _), _, _, r, e, _ => by cases e; cases r.bl; exact .base (.bl _)
  | .wv (.int _), _, _, r, e, _ => by cases e; cases r.int; exact .base (.int _)
  | .wv (.str _), _, _, r, e, _ => by cases e; cases r.str; exact .base (.str _)
  | .wv (.tup ws), _, _, _, _, h => absurd rfl (h ws)
  | .wv (.lst ws), _, _, r, e, _ => by cases e; obtain ⟨p, vs, rfl, ⟨o, l⟩, _⟩ := Rep.of_lst (K := K) (H := H) r; exact .base (.frz l)
  | .wv (.dct _ _), _, _, _, e, _ => by cases e
  | .wv (.ref _), _, _, _, e, _ => by cases e
  | .wv (.ty _), _, _, _, e, _ => by cases e
end Ab

namespace Ab
open PySem PySem.Spec PyProof.Rows L2
theorem isi_kit {K : PySem.W.Frag} {n T : String} {b : Bool} (h : isiB n T = some b) : PySem.W.kitOne K (.type n) (.type T) = some b := by
  unfold isiB at h
  split at h
  all_goals first
    | (cases h; exact kit_ty (by decide +kernel))
    | cases h
theorem sq_tyX {K : PySem.W.Frag} {H : Hp} {a : Addr} {vs : List V} (h : SqT K H a vs) : TyX K H (.ref a) (.type "tuple") := by
  rcases h with (h | ⟨o, h⟩) | ⟨o, its, n, e, c, _⟩
  · exact .base (.tup h)
  · exact .fTuple h
  · exact .kTuple e c
theorem VR.ty {K : PySem.W.Frag} {H : Hp} {a : Vw} {v : V} {n : String} (r : VR K H a v) (e : a.tyName = some n) : TyX K H v (.type n) := by
  by_cases h : ∃ ws, a = .wv (.tup ws)
  · obtain ⟨ws, rfl⟩ := h
    cases e
    obtain ⟨p, vs, rfl, s, _⟩ := Rep.of_tup (K := K) (H := H) r
    exact sq_tyX s
  · exact r.tyX e fun ws z => h ⟨ws, z⟩
theorem ca_isi {K : PySem.W.Frag} : CallA K (rIsi K) oIsi :=
  ⟨fun as Q Q' k q => by
    unfold oIsi at q ⊢
    split at q
    · obtain ⟨n, b, e, f, q⟩ := q; exact ⟨n, b, e, f, k _ q⟩
    · exact q, fun as vs H Q0 Q r q k => by
    unfold oIsi at q
    split at q
    · rename_i a T
      obtain ⟨v, u, rfl, r1, r2⟩ := r.two
      cases Rep.of_ty (K := K) (H := H) r2
      obtain ⟨n, b, e, f, q⟩ := q
      exact ⟨v, .ty T, .type n, .type T, b, rfl, ClsV.ty T, r1.ty e, isi_kit f, k _ _ (.val q .bl)⟩
    · exact q.elim⟩
end Ab

namespace Ab
open PySem PySem.Spec PyProof.Rows L2
/-! ### heaps at a call's two ends -/
structure HS (G : Gx) (h : AH) (H : Hp) : Prop where
  hp : ∀ a o, h a = some o → ORep G.K H a o
  fr : ∀ p o, G.H0 p = some o → G.h0 p = none → NT o → H p = some o
  ext : ∀ a o, h a = some o → G.h0 a = none → G.H0 a = none
  tr : ∀ p o, G.H0 p = some o → ∃ u, H p = some u
  tabs : TabsK G.K H
theorem BS.hs {G : Gx} {env : AEnv} {h : AH} {σ : L2.St} {H : Hp} (S : BS G env h σ H) : HS G h H := ⟨S.hp, S.fr, S.ext, S.tr, S.tabs⟩
def XRep (K : PySem.W.Frag) (H : Hp) (x : AExc) (cls : Value) (d : Option Addr) : Prop := cls = .ref (He.ga K x.n) ∧ ∃ dd vs, d = some dd ∧ H dd = some (.xd vs) ∧ FRep K H x.fs vs
/-- a def's result -/
inductive RR where
  | val (w : W) | own (c : Cont)
def RrRep (G : Gx) (h : AH) (H : Hp) : RR → V → Prop
  | .val w, v => Rep G.K H w v
  | .own c, v => ∃ p, v = .ref p ∧ CRep G.K H p c ∧ h p = none ∧ G.H0 p = none
/-- a def's promise over data: what is handed in, the abstract heap, the wish of what it tells, the wish of what it raises -/
abbrev ASp := List W → AH → (RR → AH → Prop) → (AExc → AH → Prop) → Prop
def cSp (K : PySem.W.Frag) (n : Nat) (sp : ASp) : Sp := fun vs H Q E => ∃ ws h Qa Ea, ws.length = n ∧ (∀ a o, h a = some o → ORep K H a o) ∧ TabsK K H ∧ RepL K H ws vs ∧ sp ws h Qa Ea ∧
  (∀ r h' v H', Qa r h' → HS ⟨K, h, H⟩ h' H' → RrRep ⟨K, h, H⟩ h' H' r v → Q v H') ∧
  (∀ x h' cls d H', Ea x h' → HS ⟨K, h, H⟩ h' H' → XRep K H' x cls d → E cls d H')
section
variable {G : Gx} {env : AEnv} {h1 h2 : AH} {σ : L2.St} {H1 H2 : Hp}
/-- behind a call -/
theorem BS.after (S : BS G env h1 σ H1) (c : HS ⟨G.K, h1, H1⟩ h2 H2) : BS G env h2 σ H2 ∧ Xt env h1 σ H1 env h2 H2 := by
  have kp : Keeps H1 H2 := fun p o e i => c.fr p o e (S.imm e i).1 i.nt
  have x : Xt env h1 σ H1 env h2 H2 := by
    refine ⟨fun p o e n _ t => c.fr p o e n t, fun p o e n => c.ext p o e n, c.tr, fun i d e => ⟨d, e⟩⟩
  refine ⟨⟨S.len, fun i w e => ?_, fun i a e => ?_, S.uni, c.hp, fun p o e n t => ?_, fun a o e n => ?_, fun p o e => ?_, c.tabs⟩, x⟩
  · obtain ⟨v, a, b⟩ := S.val i w e; exact ⟨v, a, Rep.mono kp w v b⟩
  · obtain ⟨p, q, r, n, n0⟩ := S.own i a e
    obtain ⟨o, eo, _⟩ := r.there
    refine ⟨p, q, r.mono kp ((c.fr p o eo n (r.mu_at eo).nt).trans eo.symm), ?_, n0⟩
    cases z : h2 p with
    | none => rfl
    | some u => have y : H1 p = none := c.ext p u z n; rw [y] at eo; cases eo
  · have n1 : h1 p = none := by
      cases z : h1 p with
      | none => rfl
      | some u => have y := S.ext p u z n; rw [y] at e; cases e
    exact c.fr p o (S.fr p o e n t) n1 t
  · cases z : h1 a with
    | some u => exact S.ext a u z n
    | none =>
      have y : H1 a = none := c.ext a o e z
      cases w : G.H0 a with
      | none => rfl
      | some u => obtain ⟨t, q⟩ := S.tr a u w; rw [y] at q; cases q
  · obtain ⟨u, q⟩ := S.tr p o e; exact c.tr p u q
end
/-! ### a def is called -/
def aCall (E : AExc → AEnv → AH → Prop) (sp : ASp) (t : AAT) : AT := fun env h Q => t env h fun ws env1 h1 => sp ws h1 (fun r h2 => match r with
  | .val w => Q (.val w) env1 h2
  | .own c => Q (.own c) env1 h2) fun x h2 => E x env1 h2
/-- a promise's wishes may be weakened -/
def SpMono (sp : ASp) : Prop := ∀ ws h Q Q' E E', (∀ r k, Q r k → Q' r k) → (∀ x k, E x k → E' x k) → sp ws h Q E → sp ws h Q' E'
theorem aCall.mono {E : AExc → AEnv → AH → Prop} {sp : ASp} {t : AAT} (m : SpMono sp) (n : Mono t) : Mono (aCall E sp t) := fun env h Q Q' k q => n env h _ _ (fun ws e g z => m _ _ _ _ _ _ (fun r f y => by
  cases r with
  | val w => exact k _ _ _ y
  | own c => exact k _ _ _ y) (fun x f y => y) z) q
def cW (G : Gx) (E : AExc → AEnv → AH → Prop) : WX := fun cls d σ H => ∃ x env h, BS G env h σ H ∧ XRep G.K H x cls d ∧ E x env h
theorem tk_none {X : Cx} {G : Gx} : Takes X (cW G fun _ _ _ => False) := takes0.imp fun _ _ _ _ ⟨_, _, _, _, _, z⟩ => z
section
variable {X : Cx} {G : Gx} {sp : ASp} {k n : Nat} {f : Addr} {fd : FuncData} {ps : List Str} {x : Str} {p pos : Pos} {e : Expr} {es : List Expr} {t : AAT} {E : AExc → AEnv → AH → Prop}
theorem call_step {σ : L2.St} {H : Hp} {Q : VK} (m : Mono t) (sm : SpMono sp) (hn : ∀ env h (R : List W → AEnv → AH → Prop), t env h R → t env h fun ws e g => ws.length = n ∧ R ws e g) (q : cE G (aCall E sp t) σ H Q) :
    tCallS (cSp G.K n sp) (WE (cW G E)) (cA G t) σ H Q := by
  obtain ⟨env, h, S, q⟩ := q
  refine ⟨env, h, S, m env h _ _ (fun ws env1 h1 ⟨hl, z⟩ vs H1 S1 x1 r1 => ?_) (hn _ _ _ q)⟩
  refine ⟨ws, h1, _, _, hl, S1.hp, S1.tabs, r1, z, fun r h' v H' y c rr => ?_, fun x h' cls d H' y c xr => ?_⟩
  · obtain ⟨S2, x2⟩ := S1.after c
    cases r with
    | val w => exact y v H' S2 (x1.trans x2) rr trivial
    | own c0 =>
      obtain ⟨p, e, cr, a, b⟩ := rr
      have nw : H1 p = none := b
      obtain ⟨_, g0, no⟩ := S1.noAt nw
      exact y v H' S2 (x1.trans x2) ⟨p, e, cr, a, g0, no⟩ fun p' e' => by
        rw [e] at e'; cases e'; exact x1.fresh nw
  · obtain ⟨S2, x2⟩ := S1.after c
    exact ⟨x, env1, h', S2, xr, y⟩
/-- f(e, ..) -/
theorem ae_call (F : FnOk X.prog X.w X.K X.mg X.base (L2.CX X.prog X.w) k f fd ps (cSp G.K n sp)) (sm : SpMono sp) (hr : Room k X.A) (hg : Gl X x) (hm : X.mg x = some (.ref f)) (hk : PySem.W.keepIn X.K (.ref f) = true) (hb : Binds X.K fd ps []) (tk : Takes X (cW G E))
    (ha : AA X G (e :: es) t) (hn : ∀ env h (R : List W → AEnv → AH → Prop), t env h R → t env h fun ws e g => ws.length = n ∧ R ws e g)
    (hdb : (x == ("__debug__" : Str)) = false := by decide) (he : starEach (e :: es) X.env = (false, eval e X.env) :: starEach es X.env := by rfl) (hpl : (backTo pos (starEach es X.env)).any (·.1) = false := by rfl) :
    AE X G (.Call (.Name x p) (e :: es) [] pos) (aCall E sp t) :=
  ⟨aCall.mono sm ha.mono, PE.imp (pe_callS F hr hg hm hk hb (fun σ => passAt tk σ) ha.pa hdb he hpl) fun _ _ _ q => call_step ha.mono sm hn q⟩
end
/-! ### how many are handed in -/
theorem len_nil : ∀ env h (R : List W → AEnv → AH → Prop), aNil env h R → aNil env h fun ws e g => ws.length = 0 ∧ R ws e g := fun _ _ _ q => ⟨rfl, q⟩
theorem len_cons {t : AVT} {u : AAT} {n : Nat} (mt : Mono t) (hu : ∀ env h (R : List W → AEnv → AH → Prop), u env h R → u env h fun ws e g => ws.length = n ∧ R ws e g) (mu : Mono u) :
    ∀ env h (R : List W → AEnv → AH → Prop), aCons t u env h R → aCons t u env h fun ws e g => ws.length = n + 1 ∧ R ws e g := fun env h R q =>
  mt env h _ _ (fun w e g z => mu e g _ _ (fun ws e2 g2 ⟨y1, y2⟩ => ⟨by rw [List.length_cons, y1], y2⟩) (hu e g _ z)) q
/-! ### statements -/
structure AEnds where
  nx : AEnv → AH → Prop
  rt : RV → AEnv → AH → Prop
  bk : AEnv → AH → Prop := fun _ _ => False
  ct : AEnv → AH → Prop := fun _ _ => False
structure AEnds.Le (D D' : AEnds) : Prop where
  nx : ∀ e h, D.nx e h → D'.nx e h
  rt : ∀ r e h, D.rt r e h → D'.rt r e h
  bk : ∀ e h, D.bk e h → D'.bk e h
  ct : ∀ e h, D.ct e h → D'.ct e h
theorem AEnds.Le.refl (D : AEnds) : D.Le D := ⟨fun _ _ q => q, fun _ _ _ q => q, fun _ _ q => q, fun _ _ q => q⟩
abbrev ATS := AEnds → AEnv → AH → Prop
def MonoS (t : ATS) : Prop := ∀ D D' env h, D.Le D' → t D env h → t D' env h
/-- the wishes behind a statement, of the two layers -/
structure Link (G : Gx) (H0 : Hp) (Da : AEnds) (D : Ends) : Prop where
  nx : ∀ env h σ H, BS G env h σ H → Keeps H0 H → Da.nx env h → D.nx σ H
  rt : ∀ r env h σ H v, BS G env h σ H → Keeps H0 H → RvRep G env h σ H r v → Da.rt r env h → D.rt v H
  bk : ∀ env h σ H, BS G env h σ H → Keeps H0 H → Da.bk env h → D.bk σ H
  ct : ∀ env h σ H, BS G env h σ H → Keeps H0 H → Da.ct env h → D.ct σ H
theorem Link.from {G : Gx} {H H1 : Hp} {Da : AEnds} {D : Ends} (l : Link G H Da D) (k : Keeps H H1) : Link G H1 Da D :=
  ⟨fun e h σ H' S q => l.nx e h σ H' S (k.trans q), fun r e h σ H' v S q => l.rt r e h σ H' v S (k.trans q), fun e h σ H' S q => l.bk e h σ H' S (k.trans q), fun e h σ H' S q => l.ct e h σ H' S (k.trans q)⟩
def cS (G : Gx) (t : ATS) : TS := fun D σ H => ∃ env h Da, BS G env h σ H ∧ t Da env h ∧ Link G H Da D
structure AS (X : Cx) (G : Gx) (st : Stmt) (t : ATS) : Prop where
  mono : MonoS t
  ps : PS X st (cS G t)
structure ASs (X : Cx) (G : Gx) (st : List Stmt) (t : ATS) : Prop where
  mono : MonoS t
  ps : PSs X st (cS G t)
def aNext : ATS := fun D env h => D.nx env h
def aSeq (t u : ATS) : ATS := fun D env h => t { D with nx := u D } env h
theorem aSeq.mono {t u : ATS} (m : MonoS t) (n : MonoS u) : MonoS (aSeq t u) := fun D D' env h l q => m { D with nx := u D } { D' with nx := u D' } env h ⟨fun e g z => n D D' e g l z, l.rt, l.bk, l.ct⟩ q
section
variable {X : Cx} {G : Gx} {st : Stmt} {rest : List Stmt} {t u : ATS} {e : Expr} {te : AT} {tv : AVT} {pos : Pos}
theorem ass_nil : ASs X G [] aNext := ⟨fun D D' env h l q => l.nx _ _ q, PSs.imp pss_nil fun D σ H ⟨env, h, Da, S, q, l⟩ => l.nx _ _ _ _ S (.refl _) q⟩
theorem ass_cons (a : AS X G st t) (b : ASs X G rest u) : ASs X G (st :: rest) (aSeq t u) :=
  ⟨aSeq.mono a.mono b.mono, PSs.imp (pss_cons a.ps b.ps) fun D σ H ⟨env, h, Da, S, q, l⟩ => ⟨env, h, { Da with nx := u Da }, S, q, ⟨fun e g σ' H' S' y z => ⟨e, g, Da, S', z, l.from y⟩, l.rt, l.bk, l.ct⟩⟩⟩
theorem ass_one (a : AS X G st t) : ASs X G [st] t := ⟨a.mono, pss_one a.ps⟩
def aDrop (t : AT) : ATS := fun D env h => t env h fun _ env1 h1 => D.nx env1 h1
theorem as_expr (a : AE X G e te) (hs : swapsWith e none pos.line X.env = pure false := by rfl) : AS X G (.Expr e pos) (aDrop te) :=
  ⟨fun D D' env h l q => a.mono env h _ _ (fun _ e g z => l.nx _ _ z) q, PS.imp (ps_expr a.pe hs) fun D σ H ⟨env, h, Da, S, q, l⟩ => ⟨env, h, S, a.mono env h _ _ (fun r e g z v H1 S1 x1 _ _ => l.nx _ _ _ _ S1 (x1.keeps S) z) q⟩⟩
def aRet (t : AT) : ATS := fun D env h => t env h D.rt
theorem as_ret (a : AE X G e te) : AS X G (.Return (some e) pos) (aRet te) :=
  ⟨fun D D' env h l q => a.mono env h _ _ l.rt q, PS.imp (ps_ret a.pe) fun D σ H ⟨env, h, Da, S, q, l⟩ => ⟨env, h, S, a.mono env h _ _ (fun r e g z v H1 S1 x1 r1 _ => l.rt _ _ _ _ _ _ S1 (x1.keeps S) r1 z) q⟩⟩
def aIf (c : ABT) (t u : ATS) : ATS := fun D env h => c env h fun b env1 h1 => if b = true then t D env1 h1 else u D env1 h1
theorem as_if {c : Expr} {a b : List Stmt} {tc : ABT} (hc : AP X G c tc) (ha : ASs X G a t) (hb : ASs X G b u) : AS X G (.If c a b pos) (aIf tc t u) := by
  refine ⟨fun D D' env h l q => hc.mono env h _ _ (fun d e g z => ?_) q, PS.imp (ps_if hc.pt ha.ps hb.ps) fun D σ H ⟨env, h, Da, S, q, l⟩ => ⟨env, h, S, hc.mono env h _ _ (fun d e g z H1 S1 x1 => ?_) q⟩⟩
  · cases d with
    | true => rw [if_pos rfl] at z ⊢; exact ha.mono _ _ _ _ l z
    | false => rw [if_neg Bool.false_ne_true] at z ⊢; exact hb.mono _ _ _ _ l z
  · cases d with
    | true => rw [if_pos rfl] at z ⊢; exact ⟨e, g, Da, S1, z, l.from (x1.keeps S)⟩
    | false => rw [if_neg Bool.false_ne_true] at z ⊢; exact ⟨e, g, Da, S1, z, l.from (x1.keeps S)⟩
/-! ### names are stored -/
/-- no result is a slot's own list: it is frozen -/
def aNs (t : AT) : AT := fun env h Q => t env h fun r env' h' => match r with
  | .slot i => match env'[i]? with
    | some (some (.val w)) => Q (.val w) env' h'
    | some (some (.own c)) => Q (.val c.fz) (env'.set i (some (.val c.fz))) h'
    | _ => False
  | r => Q r env' h'
def NoSlot : RV → Prop
  | .slot _ => False
  | _ => True
theorem aNs.mono (m : Mono te) : Mono (aNs te) := fun env h Q Q' k q => by
  refine m env h _ _ (fun r e g z => ?_) q
  cases r with
  | val w => exact k _ _ _ z
  | own c => exact k _ _ _ z
  | slot i =>
    show match e[i]? with
      | some (some (.val w)) => Q' (.val w) e g
      | some (some (.own c)) => Q' (.val c.fz) (e.set i (some (.val c.fz))) g
      | _ => False
    have z : match e[i]? with
      | some (some (.val w)) => Q (.val w) e g
      | some (some (.own c)) => Q (.val c.fz) (e.set i (some (.val c.fz))) g
      | _ => False := z
    split at z
    · exact k _ _ _ z
    · exact k _ _ _ z
    · exact z
/-- the reading of what is stored: never a slot's -/
def cN (G : Gx) (t : AT) : TE := fun σ H Q => ∃ env h, BS G env h σ H ∧ t env h fun r env' h' => ∀ v H', BS G env' h' σ H' → Xt env h σ H env' h' H' → RvRep G env' h' σ H' r v → Fsh H r v → NoSlot r → Q v H'
theorem pe_ns (a : AE X G e te) : PE X e (cN G (aNs te)) := by
  refine ⟨fun pins s σ H Q I ⟨env, h, S, q⟩ => ?_⟩
  refine thn (a.pe.run pins s σ H (fun v H1 => ∃ r env' h', BS G env' h' σ H1 ∧ Xt env h σ H env' h' H1 ∧ RvRep G env' h' σ H1 r v ∧ Fsh H r v ∧ match r with
    | .slot i => match env'[i]? with
      | some (some (.val w)) => ∀ v H', BS G env' h' σ H' → Xt env h σ H env' h' H' → RvRep G env' h' σ H' (.val w) v → Fsh H (.val w) v → NoSlot (.val w) → Q v H'
      | some (some (.own c)) => ∀ v H', BS G (env'.set i (some (.val c.fz))) h' σ H' → Xt env h σ H (env'.set i (some (.val c.fz))) h' H' → RvRep G (env'.set i (some (.val c.fz))) h' σ H' (.val c.fz) v → Fsh H (.val c.fz) v → NoSlot (.val c.fz) → Q v H'
      | _ => False
    | r => ∀ v H', BS G env' h' σ H' → Xt env h σ H env' h' H' → RvRep G env' h' σ H' r v → Fsh H r v → NoSlot r → Q v H') I ⟨env, h, S, a.mono env h _ _ (fun r env' h' z v H1 S1 x1 r1 f1 => ⟨r, env', h', S1, x1, r1, f1, z⟩) q⟩) fun v s1 ⟨x, H1, I1, r1, r, env', h', S1, x1, rr, f1, z⟩ => ?_
  cases r with
  | val w => exact ⟨x, H1, I1, r1, z x H1 S1 x1 rr f1 trivial⟩
  | own c => exact ⟨x, H1, I1, r1, z x H1 S1 x1 rr f1 trivial⟩
  | slot i =>
    have es : σ[i]? = some (some x) := rr
    have z : match env'[i]? with
      | some (some (.val w)) => ∀ v H', BS G env' h' σ H' → Xt env h σ H env' h' H' → RvRep G env' h' σ H' (.val w) v → Fsh H (.val w) v → NoSlot (.val w) → Q v H'
      | some (some (.own c)) => ∀ v H', BS G (env'.set i (some (.val c.fz))) h' σ H' → Xt env h σ H (env'.set i (some (.val c.fz))) h' H' → RvRep G (env'.set i (some (.val c.fz))) h' σ H' (.val c.fz) v → Fsh H (.val c.fz) v → NoSlot (.val c.fz) → Q v H'
      | _ => False := z
    split at z
    · rename_i w e
      obtain ⟨u, e3, r⟩ := S1.val i w e
      rw [es] at e3; cases e3
      exact ⟨x, H1, I1, r1, z x H1 S1 x1 r trivial trivial⟩
    · rename_i c e
      obtain ⟨p, H2, ep, I2, S2, x2, r2⟩ := slot_freeze S1 x1 I1 e
      rw [es] at ep; cases ep
      exact ⟨_, H2, I2, r1, z _ H2 S2 x2 r2 trivial trivial⟩
    · exact z.elim
def RV.sv : RV → SV
  | .val w => .val w
  | .own c => .own c
  | .slot _ => .val .non
/-- the i-th slot holds it -/
theorem BS.set {env : AEnv} {h : AH} {σ : L2.St} {H : Hp} (S : BS G env h σ H) {r : RV} {v : V} (i : Nat) (rr : RvRep G env h σ H r v) (ns : NoSlot r) : BS G (env.set i (some r.sv)) h (σ.set i (some v)) H := by
  have at_ : ∀ (j : Nat) (sv : SV), (env.set i (some r.sv))[j]? = some (some sv) → (j = i ∧ sv = r.sv ∧ (σ.set i (some v))[j]? = some (some v)) ∨ (j ≠ i ∧ env[j]? = some (some sv) ∧ (σ.set i (some v))[j]? = σ[j]?) := fun j sv e => by
    by_cases hj : j = i
    · subst hj
      have hl : j < env.length := by
        cases Nat.lt_or_ge j env.length with
        | inl z => exact z
        | inr z => rw [List.getElem?_eq_none (by rw [List.length_set]; exact z)] at e; cases e
      rw [List.getElem?_set_self hl] at e
      exact .inl ⟨rfl, by injection e with e; injection e with e; exact e.symm, List.getElem?_set_self (by rw [← S.len]; exact hl)⟩
    · rw [List.getElem?_set_ne (Ne.symm hj)] at e
      exact .inr ⟨hj, e, List.getElem?_set_ne (Ne.symm hj)⟩
  refine ⟨by rw [List.length_set, List.length_set]; exact S.len, fun j w e => ?_, fun j c e => ?_, fun j k c c' p e1 e2 f1 f2 => ?_, S.hp, S.fr, S.ext, S.tr, S.tabs⟩
  · rcases at_ j _ e with ⟨rfl, z, y⟩ | ⟨_, z, y⟩
    · cases r with
      | val w' => cases z; exact ⟨v, y, rr⟩
      | own c => cases z
      | slot _ => exact ns.elim
    · obtain ⟨u, a, b⟩ := S.val j w z; exact ⟨u, y.trans a, b⟩
  · rcases at_ j _ e with ⟨rfl, z, y⟩ | ⟨_, z, y⟩
    · cases r with
      | val w' => cases z
      | own c' => cases z; obtain ⟨p, rfl, a, b, d, _⟩ := rr; exact ⟨p, y, a, b, d⟩
      | slot _ => exact ns.elim
    · obtain ⟨p, a, b⟩ := S.own j c z; exact ⟨p, y.trans a, b⟩
  · have other : ∀ (m : Nat) (d : Cont), env[m]? = some (some (SV.own d)) → σ[m]? = some (some (V.ref p)) → r.sv = .own c ∨ r.sv = .own c' → v = .ref p → False := fun m d a b z y => by
      cases r with
      | val w => rcases z with z | z <;> cases z
      | slot _ => exact ns
      | own c0 => obtain ⟨q, e, _, _, _, no⟩ := rr; rw [e] at y; cases y; exact no ⟨m, d, a, b⟩
    rcases at_ j _ e1 with ⟨j1, z1, y1⟩ | ⟨j1, z1, y1⟩
    · rcases at_ k _ e2 with ⟨k1, z2, y2⟩ | ⟨k1, z2, y2⟩
      · rw [j1, k1]
      · rw [y1] at f1; injection f1 with f1; injection f1 with f1
        rw [y2] at f2
        exact (other k c' z2 f2 (.inl z1.symm) f1).elim
    · rcases at_ k _ e2 with ⟨k1, z2, y2⟩ | ⟨k1, z2, y2⟩
      · rw [y2] at f2; injection f2 with f2; injection f2 with f2
        rw [y1] at f1
        exact (other j c z1 f1 (.inr z2.symm) f2).elim
      · rw [y1] at f1; rw [y2] at f2
        exact S.uni j k c c' p z1 z2 f1 f2
def aSet (i : Nat) (t : AT) : ATS := fun D env h => aNs t env h fun r env1 h1 => D.nx (env1.set i (some r.sv)) h1
theorem as_set {i : Nat} {x : Str} {pos' : Pos} (hN : X.N.Nodup) (hi : X.N[i]? = some x) (hx : Loc X.env.scope x) (a : AE X G e te) (hs : swapsWith e (some (.Name x pos')) pos.line X.env = pure false := by rfl) (hf : X.fn x = true ∨ X.env.scope.names.lookup x = some .local := by first | exact .inl rfl | exact .inr rfl | assumption) :
    AS X G (.Assign [.Name x pos'] e pos) (aSet i te) := by
  refine ⟨fun D D' env h l q => aNs.mono a.mono env h _ _ (fun _ e g z => l.nx _ _ z) q, PS.imp (ps_set hN hi hx (pe_ns a) hs hf) fun D σ H ⟨env, h, Da, S, q, l⟩ => ?_⟩
  exact ⟨env, h, S, aNs.mono a.mono env h _ _ (fun r e g z v H1 S1 x1 r1 _ ns => l.nx _ _ _ _ (S1.set i r1 ns) (x1.keeps S) z) q⟩
end
end Ab

namespace Ab
open PySem PySem.Spec PyProof.Rows L2
/-! ### targets -/
abbrev AGT := W → AEnv → AH → (AEnv → AH → Prop) → Prop
abbrev AGTs := List W → AEnv → AH → (AEnv → AH → Prop) → Prop
def MonoG {α : Type} (g : α → AEnv → AH → (AEnv → AH → Prop) → Prop) : Prop := ∀ w env h Q Q', (∀ e k, Q e k → Q' e k) → g w env h Q → g w env h Q'
/-- alike but in these slots -/
def But (sl : List Nat) (σ σ' : L2.St) : Prop := σ'.length = σ.length ∧ ∀ i : Nat, i ∉ sl → σ'[i]? = σ[i]?
theorem But.refl {sl : List Nat} (σ : L2.St) : But sl σ σ := ⟨rfl, fun _ _ => rfl⟩
theorem But.trans {sl sl' : List Nat} {σ σ1 σ2 : L2.St} (a : But sl σ σ1) (b : But sl' σ1 σ2) : But (sl ++ sl') σ σ2 :=
  ⟨b.1.trans a.1, fun i hi => (b.2 i fun z => hi (List.mem_append_right _ z)).trans (a.2 i fun z => hi (List.mem_append_left _ z))⟩
/-- a target's step: the slots sl may hold something else, what is owned or in the abstract heap may have been written -/
structure Xg (sl : List Nat) (env : AEnv) (h : AH) (σ : L2.St) (H : Hp) (env' : AEnv) (h' : AH) (σ' : L2.St) (H' : Hp) : Prop where
  fr : ∀ p o, H p = some o → h p = none → ¬ OwnAt env σ p → NT o → H' p = some o
  hn : ∀ p o, h' p = some o → h p = none → H p = none
  th : ∀ p o, H p = some o → ∃ o', H' p = some o'
  ow : ∀ p, OwnAt env' σ' p → OwnAt env σ p
  so : ∀ (i : Nat) (c' : Cont), env'[i]? = some (some (SV.own c')) → ∃ c, env[i]? = some (some (SV.own c))
  bt : But sl σ σ'
theorem Xg.keeps {sl : List Nat} {G : Gx} {env env' : AEnv} {h h' : AH} {σ σ' : L2.St} {H H' : Hp} (x : Xg sl env h σ H env' h' σ' H') (S : BS G env h σ H) : Keeps H H' := fun p o e i => x.fr p o e (S.imm e i).1 (S.imm e i).2 i.nt
theorem Xg.refl {sl : List Nat} {env : AEnv} {h : AH} {σ : L2.St} {H : Hp} : Xg sl env h σ H env h σ H := ⟨fun _ _ e _ _ _ => e, fun p o e n => (by rw [n] at e; cases e), fun _ o e => ⟨o, e⟩, fun _ q => q, fun i c e => ⟨c, e⟩, .refl σ⟩
theorem Xg.trans {sl sl' : List Nat} {env env1 env2 : AEnv} {h h1 h2 : AH} {σ σ1 σ2 : L2.St} {H H1 H2 : Hp} (a : Xg sl env h σ H env1 h1 σ1 H1) (b : Xg sl' env1 h1 σ1 H1 env2 h2 σ2 H2) : Xg (sl ++ sl') env h σ H env2 h2 σ2 H2 := by
  refine ⟨fun p o e n w t => ?_, fun p o e n => ?_, fun p o e => ?_, fun p q => a.ow p (b.ow p q), fun i c e => ?_, a.bt.trans b.bt⟩
  · refine b.fr p o (a.fr p o e n w t) ?_ (fun q => w (a.ow p q)) t
    cases q : h1 p with
    | none => rfl
    | some u => rw [a.hn p u q n] at e; cases e
  · cases q : h1 p with
    | some u => exact a.hn p u q n
    | none =>
      have z := b.hn p o e q
      cases q2 : H p with
      | none => rfl
      | some u => obtain ⟨o', e'⟩ := a.th p u q2; rw [z] at e'; cases e'
  · obtain ⟨o', e'⟩ := a.th p o e; exact b.th p o' e'
  · obtain ⟨c1, z⟩ := b.so i c e
    exact a.so i c1 z
theorem Xt.xg {env env' : AEnv} {h h' : AH} {σ : L2.St} {H H' : Hp} (x : Xt env h σ H env' h' H') : Xg [] env h σ H env' h' σ H' :=
  ⟨x.fr, x.hn, x.th, fun _ q => x.own q, x.sl, .refl σ⟩
def cG (G : Gx) (sl : List Nat) (g : AGT) : TG := fun v σ H Q => ∃ w env h, Rep G.K H w v ∧ BS G env h σ H ∧ g w env h fun env' h' => ∀ σ' H', BS G env' h' σ' H' → Xg sl env h σ H env' h' σ' H' → Q σ' H'
def cGs (G : Gx) (sl : List Nat) (g : AGTs) : TGs := fun vs σ H Q => ∃ ws env h, RepL G.K H ws vs ∧ BS G env h σ H ∧ g ws env h fun env' h' => ∀ σ' H', BS G env' h' σ' H' → Xg sl env h σ H env' h' σ' H' → Q σ' H'
structure AG (X : Cx) (G : Gx) (tg : Expr) (sl : List Nat) (g : AGT) : Prop where
  mono : MonoG g
  pg : PG X tg (cG G sl g)
structure AGs (X : Cx) (G : Gx) (tg : List Expr) (sl : List Nat) (g : AGTs) : Prop where
  mono : MonoG g
  pg : PGs X tg (cGs G sl g)
theorem PG.imp {X : Cx} {e : Expr} {t t' : TG} (h : PG X e t) (i : ∀ v σ H Q, t' v σ H Q → t v σ H Q) : PG X e t' := ⟨fun pins s σ H v u Q I r q => h.run pins s σ H v u Q I r (i _ _ _ _ q)⟩
theorem PGs.imp {X : Cx} {e : List Expr} {t t' : TGs} (h : PGs X e t) (i : ∀ v σ H Q, t' v σ H Q → t v σ H Q) : PGs X e t' := ⟨fun pins s σ H v u Q I r q => h.run pins s σ H v u Q I r (i _ _ _ _ q)⟩
section
variable {X : Cx} {G : Gx} {pos : Pos} {x : Str}
def gNm (i : Nat) : AGT := fun w env h Q => Q (env.set i (some (.val w))) h
theorem ag_name {i : Nat} (hN : X.N.Nodup) (hi : X.N[i]? = some x) (hx : Loc X.env.scope x) (hf : X.fn x = true ∨ X.env.scope.names.lookup x = some .local := by first | exact .inl rfl | exact .inr rfl | assumption) : AG X G (.Name x pos) [i] (gNm i) := by
  refine ⟨fun w env h Q Q' k q => k _ _ q, PG.imp (pg_name hN hi hx hf) fun v σ H Q ⟨w, env, h, r, S, q⟩ => ?_⟩
  have ne : ∀ {j : Nat}, j ∉ [i] → i ≠ j := fun hj z => hj (by simp [z])
  refine q _ H (S.set (r := .val w) i r trivial) ⟨fun _ _ e _ _ _ => e, fun p o e n => (by rw [n] at e; cases e), fun _ o e => ⟨o, e⟩, fun p ⟨j, c, e1, e2⟩ => ?_, fun j c e1 => ?_, List.length_set, fun j hj => List.getElem?_set_ne (ne hj)⟩
  · by_cases hj : i = j
    · subst hj
      have hl : i < env.length := by
        have := (List.getElem?_eq_some_iff.mp e1).1
        rwa [List.length_set] at this
      rw [List.getElem?_set_self hl] at e1
      cases e1
    · rw [List.getElem?_set_ne hj] at e1 e2
      exact ⟨j, c, e1, e2⟩
  · by_cases hj : i = j
    · subst hj
      have hl : i < env.length := by
        have := (List.getElem?_eq_some_iff.mp e1).1
        rwa [List.length_set] at this
      rw [List.getElem?_set_self hl] at e1
      cases e1
    · rw [List.getElem?_set_ne hj] at e1
      exact ⟨c, e1⟩
def gsNil : AGTs := fun ws env h Q => ws = [] ∧ Q env h
def gsCons (t : AGT) (u : AGTs) : AGTs := fun ws env h Q => ∃ w r, ws = w :: r ∧ t w env h fun env' h' => u r env' h' Q
theorem ags_nil : AGs X G [] [] gsNil := ⟨fun w env h Q Q' k q => ⟨q.1, k _ _ q.2⟩, PGs.imp pgs_nil fun v σ H Q ⟨ws, env, h, r, S, e, q⟩ => by
  subst e
  exact ⟨r.of_nil, q σ H S .refl⟩⟩
theorem ags_cons {e : Expr} {es : List Expr} {t : AGT} {u : AGTs} {sl sl' : List Nat} (a : AG X G e sl t) (b : AGs X G es sl' u) (hs : (assignEach (e :: es) X.env).map (·.2) = assign e X.env :: (assignEach es X.env).map (·.2) := by rfl) : AGs X G (e :: es) (sl ++ sl') (gsCons t u) := by
  refine ⟨fun w env h Q Q' k ⟨x, r, e, q⟩ => ⟨x, r, e, a.mono _ _ _ _ _ (fun e g z => b.mono _ _ _ _ _ k z) q⟩, PGs.imp (pgs_cons a.pg b.pg hs) fun v σ H Q ⟨ws, env, h, r, S, w, rs, e, q⟩ => ?_⟩
  subst e
  obtain ⟨v0, vr, rfl, r0, rr⟩ := r.of_cons
  refine ⟨v0, vr, rfl, w, env, h, r0, S, a.mono _ _ _ _ _ (fun env1 h1 z σ1 H1 S1 x1 => ?_) q⟩
  exact ⟨rs, env1, h1, RepL.mono (x1.keeps S) _ _ rr, S1, b.mono _ _ _ _ _ (fun env2 h2 z2 σ2 H2 S2 x2 => z2 σ2 H2 S2 (x1.trans x2)) z⟩
def gTp (n : Nat) (u : AGTs) : AGT := fun w env h Q => match w with
  | .tup ws => ws.length = n ∧ u ws env h Q
  | _ => False
theorem ag_tup {es : List Expr} {k n : Nat} {u : AGTs} {sl : List Nat} (gk : G.K = X.K) (hc : X.calm = true) (b : AGs X G es sl u)
    (hn : (assignEach es X.env).length = n := by rfl) (hst : (assignEach es X.env).findIdx? (·.1) = none := by rfl) : AG X G (.Tuple es k pos) sl (gTp n u) := by
  refine ⟨fun w env h Q Q' k q => ?_, PG.imp (pg_tup hc b.pg hn hst) fun v σ H Q ⟨w, env, h, r, S, q⟩ => ?_⟩
  · unfold gTp at q ⊢
    split at q
    · exact ⟨q.1, b.mono _ _ _ _ _ k q.2⟩
    · exact q
  · unfold gTp at q
    split at q
    · obtain ⟨a, vs, rfl, s, r⟩ := Rep.of_tup r
      exact ⟨a, vs, rfl, gk ▸ s, r.length.symm.trans q.1, _, env, h, r, S, q.2⟩
    · exact q.elim
end
/-! ### what is walked -/
abbrev AIT := AEnv → AH → (List W → AEnv → AH → Prop) → Prop
def Gives (K : PySem.W.Frag) (J : It) (H1 : Hp) (ws : List W) : Prop := ∀ H, Keeps H1 H → ∀ i : Nat, (ws.length ≤ i → J.stop i H) ∧ ∀ w, ws[i]? = some w → J.go i H ∧ ∀ x H', J.yld i H x H' → New H H' ∧ Rep K H' w x
def cI (G : Gx) (t : AIT) : TI := fun σ H R => ∃ env h, BS G env h σ H ∧ t env h fun ws env' h' => ∀ J H', BS G env' h' σ H' → Xt env h σ H env' h' H' → Gives G.K J H' ws → R J H'
structure AI (X : Cx) (G : Gx) (tg iter : Expr) (t : AIT) : Prop where
  mono : Mono t
  pi : PI X tg iter (cI G t)
theorem PI.imp {X : Cx} {tg e : Expr} {t t' : TI} (h : PI X tg e t) (i : ∀ σ H R, t' σ H R → t σ H R) : PI X tg e t' := ⟨fun pins s σ H R I q => h.run pins s σ H R I (i _ _ _ q)⟩
section
variable {X : Cx} {G : Gx} {tg e : Expr} {pos : Pos} {x : Str}
def iLst (t : AVT) : AIT := fun env h Q => t env h fun w env' h' => match w with
  | .lst ws => Q ws env' h'
  | _ => False
def iTpl (t : AVT) : AIT := fun env h Q => t env h fun w env' h' => match w with
  | .tup ws => Q ws env' h'
  | _ => False
theorem iLst.mono {t : AVT} (m : Mono t) : Mono (iLst t) := fun env h Q Q' k q => m env h _ _ (fun w e g z => by
  cases w <;> first | exact k _ _ _ z | exact z) q
theorem iTpl.mono {t : AVT} (m : Mono t) : Mono (iTpl t) := fun env h Q Q' k q => m env h _ _ (fun w e g z => by
  cases w <;> first | exact k _ _ _ z | exact z) q
theorem gives_list {K : PySem.W.Frag} {H : Hp} {a : Addr} {ws : List W} {vs : List V} (l : LsF H a vs) (r : RepL K H ws vs) : Gives K (Itl K a) H ws := fun H' k i => by
  have l' := (k.lsF l).sq (K := K)
  have r' := RepL.mono k _ _ r
  refine ⟨fun h => ⟨vs, l', by rw [← r'.length]; exact h⟩, fun w e => ?_⟩
  obtain ⟨v, ev, rv⟩ := r'.get e
  exact ⟨⟨vs, v, l', ev⟩, fun x H2 ⟨e1, q⟩ => by
    subst e1
    have z := q vs l'
    rw [ev] at z; cases z
    exact ⟨.refl _, rv⟩⟩
theorem gives_tup {K : PySem.W.Frag} {H : Hp} {a : Addr} {ws : List W} {vs : List V} (l : SqT K H a vs) (r : RepL K H ws vs) : Gives K (Itt K a) H ws := fun H' k i => by
  have l' := k.sqT l
  have r' := RepL.mono k _ _ r
  refine ⟨fun h => ⟨vs, l', by rw [← r'.length]; exact h⟩, fun w e => ?_⟩
  obtain ⟨v, ev, rv⟩ := r'.get e
  exact ⟨⟨vs, v, l', ev⟩, fun x H2 ⟨e1, q⟩ => by
    subst e1
    have z := q vs l'
    rw [ev] at z; cases z
    exact ⟨.refl _, rv⟩⟩
theorem PI.or {t u : TI} (a : PI X tg e t) (b : PI X tg e u) : PI X tg e (fun σ H R => t σ H R ∨ u σ H R) := ⟨fun pins s σ H R I q => q.elim (fun z => a.run pins s σ H R I z) fun z => b.run pins s σ H R I z⟩
/-- range(n) -/
def rngW (lo : Int) (n : Nat) : List W := (List.range n).map fun (i : Nat) => W.int (lo + i)
theorem gives_range {K : PySem.W.Frag} {H : Hp} {lo : Int} {n : Nat} : Gives K (Itr lo n) H (rngW lo n) := fun H' k i => by
  have hl : (rngW lo n).length = n := by simp [rngW]
  refine ⟨fun h => (show n ≤ i by omega), fun w e => ?_⟩
  unfold rngW at e
  rw [List.getElem?_map] at e
  cases q : (List.range n)[i]? with
  | none => rw [q] at e; cases e
  | some j =>
    rw [q] at e
    obtain ⟨hi, ej⟩ := List.getElem?_eq_some_iff.mp q
    rw [List.getElem_range] at ej
    subst ej
    cases e
    rw [List.length_range] at hi
    exact ⟨hi, fun x H2 ⟨e1, e2⟩ => by subst e1; subst e2; exact ⟨.refl _, .int⟩⟩
def iRg1 (t : ART) : AIT := fun env h Q => t env h fun rs env' h' => match rs.map (view env' h') with
  | [.wv (.int j)] => -(2 ^ 62) ≤ j ∧ j < 2 ^ 62 ∧ Q (rngW 0 j.toNat) env' h'
  | _ => False
theorem ai_range1 {a : Expr} {ta : ART} {p : Pos} (hg : Gl X "range") (hm : X.mg "range" = none) (ha : AR X G [a] ta) (hs : starEach [a] X.env = [(false, eval a X.env)] := by rfl) : AI X G tg (.Call (.Name "range" p) [a] [] pos) (iRg1 ta) := by
  refine ⟨fun env h Q Q' k q => ha.mono env h _ _ (fun rs e g z => ?_) q, PI.imp (pi_range1 hg hm ha.pa hs) fun σ H R ⟨env, h, S, q⟩ => ?_⟩
  · split at z
    · exact ⟨z.1, z.2.1, k _ _ _ z.2.2⟩
    · exact z
  · refine ⟨env, h, S, ha.mono env h _ _ (fun rs env1 h1 z vs H1 S1 x1 r1 => ?_) q⟩
    have rr := r1.vrl S1
    split at z
    · rename_i j e
      rw [e] at rr
      obtain ⟨v, rfl, rv⟩ := rr.one
      cases rv.int
      exact ⟨j, rfl, z.1, z.2.1, z.2.2 _ H1 S1 x1 gives_range⟩
    · exact z.elim
end
/-! ### for -/
def aLoop (g : AGT) (tb : ATS) (D : AEnds) : List W → AEnv → AH → Prop
  | [] => D.nx
  | w :: ws => fun env h => g w env h fun env1 h1 => tb { D with nx := aLoop g tb D ws, ct := aLoop g tb D ws, bk := D.nx } env1 h1
def aFor (ti : AIT) (g : AGT) (tb : ATS) : ATS := fun D env h => ti env h fun ws env1 h1 => aLoop g tb D ws env1 h1
theorem aLoop.mono {g : AGT} {tb : ATS} (mg : MonoG g) (mt : MonoS tb) {D D' : AEnds} (l : D.Le D') : ∀ (ws : List W) env h, aLoop g tb D ws env h → aLoop g tb D' ws env h
  | [], env, h, q => l.nx _ _ q
  | w :: ws, env, h, q => mg w env h _ _ (fun e k z => mt { D with nx := aLoop g tb D ws, ct := aLoop g tb D ws, bk := D.nx } { D' with nx := aLoop g tb D' ws, ct := aLoop g tb D' ws, bk := D'.nx } e k ⟨aLoop.mono mg mt l ws, l.rt, l.nx, aLoop.mono mg mt l ws⟩ z) q
section
variable {X : Cx} {G : Gx} {tg iter : Expr} {body : List Stmt} {pos : Pos}
theorem as_for {ti : AIT} {g : AGT} {tb : ATS} {sl : List Nat} (hp : PassesOwn (model X.prog X.w) X.A X.env X.xe) (hc : X.calm = true) (hi : AI X G tg iter ti) (hg : AG X G tg sl g) (hb : ASs X G body tb)
    (hs : ∀ x, foldedSetIterable iter X.env x = pure x := by intro _; rfl) : AS X G (.For tg iter body [] pos) (aFor ti g tb) := by
  refine ⟨fun D D' env h l q => hi.mono env h _ _ (fun ws e k z => aLoop.mono hg.mono hb.mono l ws e k z) q, PS.imp (ps_for hp hc hi.pi hg.pg hb.ps hs) fun D σ H ⟨env, h, Da, S, q, l⟩ => ?_⟩
  refine ⟨env, h, S, hi.mono env h _ _ (fun ws env1 h1 z J H1 S1 x1 gv => ?_) q⟩
  have kp := x1.keeps S
  refine ⟨fun i m σ' H' => ws.length ≤ i + m ∧ Keeps H1 H' ∧ ∃ e k, BS G e k σ' H' ∧ aLoop g tb Da (ws.drop i) e k, ⟨ws.length, by omega, .refl H1, env1, h1, S1, by simpa using z⟩, ?_⟩
  rintro i m σ2 H2 ⟨hm, k2, e2, g2, S2, z2⟩
  have gi := gv H2 k2 i
  cases e : ws[i]? with
  | none =>
    have hl := List.getElem?_eq_none_iff.mp e
    rw [List.drop_eq_nil_of_le hl] at z2
    exact .inl ⟨gi.1 hl, l.nx _ _ _ _ S2 (kp.trans k2) z2⟩
  | some w =>
    obtain ⟨hl, ew⟩ := List.getElem?_eq_some_iff.mp e
    have ed : ws.drop i = w :: ws.drop (i + 1) := by rw [List.drop_eq_getElem_cons hl, ew]
    rw [ed] at z2
    obtain ⟨go, yl⟩ := gi.2 w e
    refine .inr ⟨go, fun σ' H' => Keeps H1 H' ∧ ∃ e k, BS G e k σ' H' ∧ aLoop g tb Da (ws.drop (i + 1)) e k, fun σ' H' n => ⟨m - 1, by omega, by omega, n.1, n.2⟩, fun x H3 y => ?_⟩
    obtain ⟨nw, rx⟩ := yl x H3 y
    have k3 := k2.trans nw.keeps
    refine ⟨w, e2, g2, rx, nw.bs S2, hg.mono w e2 g2 _ _ (fun e4 g4 z4 σ4 H4 S4 x4 => ?_) z2⟩
    have k4 := x4.keeps (nw.bs S2)
    refine ⟨e4, g4, _, S4, z4, ⟨fun e k σ H S' kk y => ⟨(k3.trans k4).trans kk, e, k, S', y⟩, fun r e k σ H v S' kk => l.rt r e k σ H v S' (kp.trans ((k3.trans k4).trans kk)), fun e k σ H S' kk => l.nx e k σ H S' (kp.trans ((k3.trans k4).trans kk)), fun e k σ H S' kk y => ⟨(k3.trans k4).trans kk, e, k, S', y⟩⟩⟩
end
end Ab

namespace Ab
open PySem PySem.Spec PyProof.Rows L2
/-! ### the slots of a comprehension's own names -/
def wipeA (env : AEnv) : List Nat → AEnv
  | [] => env
  | v :: vs => (wipeA env vs).set v none
def keepV : Option (Option SV) → Option SV
  | some (some (.val w)) => some (.val w)
  | _ => none
def mend (env e2 : AEnv) : List Nat → AEnv
  | [] => e2
  | v :: vs => (mend env e2 vs).set v (keepV env[v]?)
theorem wipeA_len (env : AEnv) : ∀ vs, (wipeA env vs).length = env.length
  | [] => rfl
  | v :: vs => by rw [wipeA, List.length_set, wipeA_len env vs]
theorem mend_len (env e2 : AEnv) : ∀ vs, (mend env e2 vs).length = e2.length
  | [] => rfl
  | v :: vs => by rw [mend, List.length_set, mend_len env e2 vs]
theorem wipeA_some {env : AEnv} {i : Nat} {x : SV} : ∀ {vs : List Nat}, (wipeA env vs)[i]? = some (some x) → env[i]? = some (some x) ∧ i ∉ vs
  | [], h => ⟨h, by simp⟩
  | v :: vs, h => by
    rw [wipeA] at h
    by_cases hi : v = i
    · subst hi
      by_cases hl : v < (wipeA env vs).length
      · rw [List.getElem?_set_self hl] at h; cases h
      · rw [List.getElem?_eq_none (by rw [List.length_set]; omega)] at h; cases h
    · rw [List.getElem?_set_ne hi] at h
      obtain ⟨a, b⟩ := wipeA_some h
      exact ⟨a, by simp only [List.mem_cons, not_or]; exact ⟨fun z => hi z.symm, b⟩⟩
theorem mend_out {env e2 : AEnv} {i : Nat} : ∀ {vs : List Nat}, i ∉ vs → (mend env e2 vs)[i]? = e2[i]?
  | [], _ => rfl
  | v :: vs, h => by
    rw [mend, List.getElem?_set_ne (fun z => h (by simp [z])), mend_out fun z => h (List.mem_cons_of_mem _ z)]
theorem mend_in {env e2 : AEnv} {i : Nat} {x : SV} : ∀ {vs : List Nat}, i ∈ vs → (mend env e2 vs)[i]? = some (some x) → ∃ w, x = .val w ∧ env[i]? = some (some (.val w))
  | v :: vs, hi, h => by
    rw [mend] at h
    by_cases e : v = i
    · subst e
      by_cases hl : v < (mend env e2 vs).length
      · rw [List.getElem?_set_self hl] at h
        cases q : env[v]? with
        | none => rw [q] at h; cases h
        | some o =>
          cases o with
          | none => rw [q] at h; cases h
          | some sv =>
            cases sv with
            | val w => rw [q] at h; cases h; exact ⟨w, rfl, rfl⟩
            | own c => rw [q] at h; cases h
      · rw [List.getElem?_eq_none (by rw [List.length_set]; omega)] at h; cases h
    · rw [List.getElem?_set_ne e] at h
      rcases List.mem_cons.mp hi with z | z
      · exact absurd z.symm e
      · exact mend_in z h
theorem wipe_len (σ : L2.St) (vs : List Nat) : (wipe σ vs).length = σ.length := wipe_length σ vs
theorem wipe_out' {σ : L2.St} {i : Nat} : ∀ {vs : List Nat}, i ∉ vs → (wipe σ vs)[i]? = σ[i]?
  | [], _ => rfl
  | v :: vs, h => by
    rw [wipe, List.getElem?_set_ne (fun z => h (by simp [z])), wipe_out' fun z => h (List.mem_cons_of_mem _ z)]
theorem wipe_in {σ : L2.St} {i : Nat} : ∀ {vs : List Nat}, i ∈ vs → (wipe σ vs)[i]? = if i < σ.length then some none else none
  | v :: vs, h => by
    rw [wipe]
    by_cases e : v = i
    · subst e
      by_cases hl : v < σ.length
      · rw [if_pos hl, List.getElem?_set_self (by rw [wipe_len]; exact hl)]
      · rw [if_neg hl, List.getElem?_eq_none (by rw [List.length_set, wipe_len]; omega)]
    · rw [List.getElem?_set_ne e]
      rcases List.mem_cons.mp h with z | z
      · exact absurd z.symm e
      · exact wipe_in z
theorem wipe_but {σ σ2 : L2.St} {vs sl : List Nat} (b : But sl (wipe σ vs) σ2) (h : ∀ i ∈ sl, i ∈ vs) : wipe σ2 vs = wipe σ vs := by
  have hl : σ2.length = σ.length := b.1.trans (wipe_len _ _)
  apply List.ext_getElem?
  intro i
  by_cases hi : i ∈ vs
  · rw [wipe_in hi, wipe_in hi, hl]
  · rw [wipe_out' hi, b.2 i fun z => hi (h i z)]
section
variable {G : Gx} {env e2 : AEnv} {h h2 : AH} {σ σ2 : L2.St} {H H2 : Hp} {vs sl : List Nat}
theorem OwnAt.wiped {p : Addr} (o : OwnAt (wipeA env vs) (wipe σ vs) p) : OwnAt env σ p := by
  obtain ⟨i, c, a, b⟩ := o
  obtain ⟨a1, hi⟩ := wipeA_some a
  rw [wipe_out' hi] at b
  exact ⟨i, c, a1, b⟩
theorem BS.wipe (S : BS G env h σ H) : BS G (wipeA env vs) h (L2.wipe σ vs) H := by
  refine ⟨by rw [wipeA_len, wipe_len]; exact S.len, fun i w e => ?_, fun i c e => ?_, fun i j c c' p e1 e2 f1 f2 => ?_, S.hp, S.fr, S.ext, S.tr, S.tabs⟩
  · obtain ⟨a, hi⟩ := wipeA_some e
    rw [wipe_out' hi]; exact S.val i w a
  · obtain ⟨a, hi⟩ := wipeA_some e
    rw [wipe_out' hi]; exact S.own i c a
  · obtain ⟨a, hi⟩ := wipeA_some e1
    obtain ⟨b, hj⟩ := wipeA_some e2
    rw [wipe_out' hi] at f1; rw [wipe_out' hj] at f2
    exact S.uni i j c c' p a b f1 f2
/-- behind the block the names are as they were -/
theorem BS.mend (S : BS G env h σ H) (S2 : BS G e2 h2 σ2 H2) (k : Keeps H H2) (b : But sl (L2.wipe σ vs) σ2) (hs : ∀ i ∈ sl, i ∈ vs) : BS G (mend env e2 vs) h2 σ H2 := by
  have at_ : ∀ {i : Nat}, i ∉ vs → σ2[i]? = σ[i]? := fun {i} hi => (b.2 i fun z => hi (hs i z)).trans (wipe_out' hi)
  refine ⟨by rw [mend_len, S2.len, b.1, wipe_len], fun i w e => ?_, fun i c e => ?_, fun i j c c' p e1 e2 f1 f2 => ?_, S2.hp, S2.fr, S2.ext, S2.tr, S2.tabs⟩
  · by_cases hi : i ∈ vs
    · obtain ⟨w', e0, a⟩ := mend_in hi e
      cases e0
      obtain ⟨v, x, y⟩ := S.val i w a
      exact ⟨v, x, Rep.mono k w v y⟩
    · rw [mend_out hi] at e
      obtain ⟨v, x, y⟩ := S2.val i w e
      exact ⟨v, (at_ hi).symm.trans x, y⟩
  · by_cases hi : i ∈ vs
    · obtain ⟨w', e0, _⟩ := mend_in hi e; cases e0
    · rw [mend_out hi] at e
      obtain ⟨p, x, y⟩ := S2.own i c e
      exact ⟨p, (at_ hi).symm.trans x, y⟩
  · by_cases hi : i ∈ vs
    · obtain ⟨w', e0, _⟩ := mend_in hi e1; cases e0
    · by_cases hj : j ∈ vs
      · obtain ⟨w', e0, _⟩ := mend_in hj e2; cases e0
      · rw [mend_out hi] at e1; rw [mend_out hj] at e2
        exact S2.uni i j c c' p e1 e2 ((at_ hi).trans f1) ((at_ hj).trans f2)
/-- what stands at an address that the abstract layer doesn't see is changed -/
theorem BS.unseen (S : BS G env h σ H) {D : Addr} {o o' : HO} (e : H D = some o) (m : Mu o) (n : h D = none) (n0 : G.H0 D = none) (no : ¬ OwnAt env σ D) : Keeps H (upd H D o') ∧ BS G env h σ (upd H D o') := by
  have k : Keeps H (upd H D o') := fun p u q i => by
    have ne : p ≠ D := fun z => by subst z; rw [e] at q; cases q; exact m.imm i
    rw [upd_ne ne]; exact q
  refine ⟨k, S.len, fun i w z => ?_, fun i c z => ?_, S.uni, fun a u z => ?_, fun p u z y t => ?_, S.ext, fun p u z => ?_, S.tabs.upd fun u z => (by rw [e] at z; cases z; exact m)⟩
  · obtain ⟨v, x, y⟩ := S.val i w z; exact ⟨v, x, Rep.mono k w v y⟩
  · obtain ⟨p, x, y, a, b⟩ := S.own i c z
    have ne : p ≠ D := fun q => no ⟨i, c, z, q ▸ x⟩
    exact ⟨p, x, y.mono k (upd_ne ne), a, b⟩
  · have ne : a ≠ D := fun q => by rw [q, n] at z; cases z
    exact (S.hp a u z).mono k (upd_ne ne)
  · have ne : p ≠ D := fun q => by rw [q, n0] at z; cases z
    rw [upd_ne ne]; exact S.fr p u z y t
  · by_cases q : p = D
    · subst q; exact ⟨_, upd_same⟩
    · obtain ⟨u', y⟩ := S.tr p u z; exact ⟨u', by rw [upd_ne q]; exact y⟩
end
/-! ### list comprehensions -/
/-- from the items: what is made so far, slots and abstract heap -/
def lcLoop (vs : List Nat) (g : AGT) (tt : ABT) (te : AVT) (Q : List W → AEnv → AH → Prop) : List W → List W → AEnv → AH → Prop
  | [], acc => fun env h => Q acc env h
  | w :: ws, acc => fun env h => g w (wipeA env vs) h fun e1 h1 => tt e1 h1 fun b e2 h2 => if b = true then te e2 h2 fun y e3 h3 => acc.length < sizeLine ∧ lcLoop vs g tt te Q ws (acc ++ [y]) (mend env e3 vs) h3 else lcLoop vs g tt te Q ws acc (mend env e2 vs) h2
def aLc (vs : List Nat) (ti : AIT) (g : AGT) (tt : ABT) (te : AVT) : AT := fun env h Q => ti env h fun ws e1 h1 => lcLoop vs g tt te (fun acc e h => Q (.own (.seq acc)) e h) ws [] e1 h1
theorem lcLoop.mono {vs : List Nat} {g : AGT} {tt : ABT} {te : AVT} (mg : MonoG g) (mt : Mono tt) (me : Mono te) {Q Q' : List W → AEnv → AH → Prop} (k : ∀ a e h, Q a e h → Q' a e h) : ∀ (ws acc : List W) env h, lcLoop vs g tt te Q ws acc env h → lcLoop vs g tt te Q' ws acc env h
  | [], acc, env, h, q => k _ _ _ q
  | w :: ws, acc, env, h, q => mg _ _ _ _ _ (fun e1 h1 z => mt _ _ _ _ (fun b e2 h2 z => by
    cases b with
    | true => rw [if_pos rfl] at z ⊢; exact me _ _ _ _ (fun y e3 h3 z => ⟨z.1, lcLoop.mono mg mt me k ws _ _ _ z.2⟩) z
    | false => rw [if_neg Bool.false_ne_true] at z ⊢; exact lcLoop.mono mg mt me k ws _ _ _ z) z) q
structure APs (X : Cx) (G : Gx) (ifs : List Expr) (t : ABT) : Prop where
  mono : Mono t
  pts : PTs X ifs (cT G t)
def aYes : ABT := fun env h Q => Q true env h
theorem aps_nil {X : Cx} {G : Gx} : APs X G [] aYes := ⟨fun env h Q Q' k q => k _ _ _ q, ⟨fun pins s σ H Q I ⟨env, h, S, q⟩ => pts_nil.run pins s σ H Q I (q H S .refl)⟩⟩
section
variable {X : Cx} {G : Gx} {elt tg iter : Expr} {ifs : List Expr} {scope : Scope} {own : List (Str × Nat)} {pos : Pos} {ti : AIT} {g : AGT} {tt : ABT} {te : AVT} {sl : List Nat}
theorem lc_step {σ : L2.St} {H : Hp} {Q : VK} (hi : AI X G tg iter ti) (hsl : ∀ i ∈ sl, i ∈ own.map (·.2)) (mg : MonoG g) (mt : Mono tt) (me : Mono te) (q : cE G (aLc (own.map (·.2)) ti g tt te) σ H Q) :
    tLc (cI G ti) (cG G sl g) (cT G tt) (cV G te) (own.map (·.2)) σ H Q := by
  obtain ⟨env, h, S, q⟩ := q
  refine ⟨env, h, S, hi.mono env h _ _ (fun ws env1 h1 z J H1 S1 x1 gv => ?_) q⟩
  intro D nD
  have hD : H D = none := x1.fresh nD
  obtain ⟨hd1, hd0, hdo⟩ := S1.noAt nD
  have nw0 : New H1 (upd H1 D (.lst [])) := New.upd nD
  refine ⟨fun i m H' => ws.length ≤ i + m ∧ Keeps H1 H' ∧ ∃ acc vacc e k, H' D = some (.lst vacc) ∧ RepL G.K H' acc vacc ∧ BS G e k σ H' ∧ Xt env h σ H e k H' ∧ k D = none ∧ ¬ OwnAt e σ D ∧
    lcLoop (own.map (·.2)) g tt te (fun acc e h' => ∀ v H', BS G e h' σ H' → Xt env h σ H e h' H' → RvRep G e h' σ H' (.own (.seq acc)) v → Fsh H (.own (.seq acc)) v → Q v H') (ws.drop i) acc e k,
    ⟨ws.length, by omega, nw0.keeps, [], [], env1, h1, upd_same, .nil, nw0.bs S1, x1.trans nw0.xt, hd1, hdo, by simpa using z⟩, ?_⟩
  rintro i m H2 ⟨hm, k2, acc, vacc, e2, g2, d2, r2, S2, x2, n2, no2, z2⟩
  have gi := gv H2 k2 i
  cases e : ws[i]? with
  | none =>
    have hl := List.getElem?_eq_none_iff.mp e
    rw [List.drop_eq_nil_of_le hl] at z2
    exact .inl ⟨gi.1 hl, z2 _ H2 S2 x2 ⟨D, rfl, ⟨vacc, d2, r2⟩, n2, hd0, no2⟩ fun p ep => by cases ep; exact hD⟩
  | some w =>
    obtain ⟨hl, ew⟩ := List.getElem?_eq_some_iff.mp e
    have ed : ws.drop i = w :: ws.drop (i + 1) := by rw [List.drop_eq_getElem_cons hl, ew]
    rw [ed] at z2
    simp only [lcLoop] at z2
    obtain ⟨go, yl⟩ := gi.2 w e
    refine .inr ⟨go, fun H' => Keeps H1 H' ∧ ∃ acc vacc e k, H' D = some (.lst vacc) ∧ RepL G.K H' acc vacc ∧ BS G e k σ H' ∧ Xt env h σ H e k H' ∧ k D = none ∧ ¬ OwnAt e σ D ∧
      lcLoop (own.map (·.2)) g tt te (fun acc e h' => ∀ v H', BS G e h' σ H' → Xt env h σ H e h' H' → RvRep G e h' σ H' (.own (.seq acc)) v → Fsh H (.own (.seq acc)) v → Q v H') (ws.drop (i + 1)) acc e k, fun H' n => ⟨m - 1, by omega, by omega, n.1, n.2⟩, fun x H3 y => ?_⟩
    obtain ⟨nw, rx⟩ := yl x H3 y
    have S3 := nw.bs S2
    refine ⟨w, wipeA e2 (own.map (·.2)), g2, rx, S3.wipe, mg _ _ _ _ _ (fun e4 g4 z4 σ4 H4 S4 x4 => ?_) z2⟩
    refine ⟨wipe_but x4.bt hsl, e4, g4, S4, mt _ _ _ _ (fun b e5 g5 z5 H5 S5 x5 => ?_) z4⟩
    -- what has happened since the turn began
    have fin : ∀ {e6 : AEnv} {g6 : AH} {H6 : Hp}, BS G e6 g6 σ4 H6 → Xt e4 g4 σ4 H4 e6 g6 H6 → H6 D = some (.lst vacc) ∧ Keeps H2 H6 ∧ BS G (mend e2 e6 (own.map (·.2))) g6 σ H6 ∧ g6 D = none ∧ ¬ OwnAt (mend e2 e6 (own.map (·.2))) σ D ∧
        ∀ ys, Xt env h σ H (mend e2 e6 (own.map (·.2))) g6 (upd H6 D (.lst ys)) := fun {e6 g6 H6} S6 x6 => by
      have xx := x4.trans x6.xg
      have noW : ¬ OwnAt (wipeA e2 (own.map (·.2))) (wipe σ (own.map (·.2))) D := fun q => no2 q.wiped
      have f6 : ∀ p o, H2 p = some o → g2 p = none → ¬ OwnAt e2 σ p → NT o → H6 p = some o := fun p o e n q t => xx.fr p o (nw p o e) n (fun q' => q q'.wiped) t
      have kk : Keeps H2 H6 := fun p o e i => f6 p o e (S2.imm e i).1 (S2.imm e i).2 i.nt
      have Sm := BS.mend (sl := sl ++ []) S2 S6 kk xx.bt fun i hi => hsl i (by simpa using hi)
      have g6D : g6 D = none := by
        cases q : g6 D with
        | none => rfl
        | some u => have y := xx.hn D u q n2; rw [nw D _ d2] at y; cases y
      have sameOut : ∀ {j : Nat}, j ∉ own.map (·.2) → σ4[j]? = σ[j]? := fun {j} hj => (x4.bt.2 j fun q => hj (hsl j q)).trans (wipe_out' hj)
      have oM : ∀ p, OwnAt (mend e2 e6 (own.map (·.2))) σ p → OwnAt e2 σ p := fun p ⟨j, c, a, b⟩ => by
        by_cases hj : j ∈ own.map (·.2)
        · obtain ⟨w', e0, _⟩ := mend_in hj a; cases e0
        · rw [mend_out hj] at a
          exact (xx.ow p ⟨j, c, a, (sameOut hj).trans b⟩).wiped
      refine ⟨f6 D _ d2 n2 no2 (Mu.nt (o := .lst vacc) trivial), kk, Sm, g6D, fun q => no2 (oM D q), fun ys => ⟨fun p o e n q t => ?_, fun p o e n => ?_, fun p o e => ?_, fun j c e => ?_⟩⟩
      · have np : p ≠ D := fun z => by rw [z, hD] at e; cases e
        rw [upd_ne np]
        refine f6 p o (x2.fr p o e n q t) ?_ (fun y => q (x2.own y)) t
        cases y : g2 p with
        | none => rfl
        | some u => rw [x2.hn p u y n] at e; cases e
      · cases y : g2 p with
        | some u => exact x2.hn p u y n
        | none =>
          have y3 := xx.hn p o e y
          cases y4 : H p with
          | none => rfl
          | some u =>
            obtain ⟨u', y5⟩ := x2.th p u y4
            rw [nw p u' y5] at y3; cases y3
      · by_cases hp : p = D
        · subst hp; exact ⟨_, upd_same⟩
        · obtain ⟨u, y⟩ := x2.th p o e
          obtain ⟨u', y'⟩ := xx.th p u (nw p u y)
          exact ⟨u', by rw [upd_ne hp]; exact y'⟩
      · by_cases hj : j ∈ own.map (·.2)
        · obtain ⟨w', e0, _⟩ := mend_in hj e; cases e0
        · rw [mend_out hj] at e
          obtain ⟨c1, y⟩ := xx.so j _ e
          obtain ⟨y1, _⟩ := wipeA_some y
          exact x2.sl j c1 y1
    cases b with
    | true =>
      rw [if_pos rfl] at z5
      refine iteT ⟨e5, g5, S5, me _ _ _ _ (fun y e6 g6 ⟨hz, z6⟩ v H6 S6 x6 r6 => ?_) z5⟩
      obtain ⟨d6, k6, Sm, n6, no6, xm⟩ := fin S6 (x5.trans x6)
      obtain ⟨k7, S7⟩ := Sm.unseen (o' := .lst (vacc ++ [v])) d6 trivial n6 hd0 no6
      exact ⟨vacc, d6, by rw [← r2.length]; exact hz, (k2.trans k6).trans k7, acc ++ [y], vacc ++ [v], _, g6, upd_same, (RepL.mono (k6.trans k7) _ _ r2).append (.cons (Rep.mono k7 _ _ r6) .nil), S7, xm _, n6, no6, z6⟩
    | false =>
      rw [if_neg Bool.false_ne_true] at z5
      refine iteF ?_
      obtain ⟨d6, k6, Sm, n6, no6, xm⟩ := fin S5 x5
      have eu : upd H5 D (.lst vacc) = H5 := by
        funext p
        by_cases hp : p = D
        · subst hp; rw [upd_same, d6]
        · rw [upd_ne hp]
      have xm' := xm vacc
      rw [eu] at xm'
      exact ⟨k2.trans k6, acc, vacc, _, g5, d6, RepL.mono k6 _ _ r2, Sm, xm', n6, no6, z5⟩
theorem ae_lc (hc : X.calm = true) (hN : X.N.Nodup) (hi : AI X G tg iter ti) (ok : BlkOk X.N X.env.scope scope own) (hsl : ∀ i ∈ sl, i ∈ own.map (·.2))
    (hg : ∀ (s : Shared) (H : Hp) (C : Addr) (cl : List (Str × Addr)) (fp : List Addr), AG (X.blk s H scope (compEnvC scope cl C X.env) fp) G tg sl g) (ht : ∀ (s : Shared) (H : Hp) (C : Addr) (cl : List (Str × Addr)) (fp : List Addr), APs (X.blk s H scope (compEnvC scope cl C X.env) fp) G ifs tt)
    (he : ∀ (s : Shared) (H : Hp) (C : Addr) (cl : List (Str × Addr)) (fp : List Addr), AV (X.blk s H scope (compEnvC scope cl C X.env) fp) G elt te) (mg : MonoG g) (mt : Mono tt) (me : Mono te) (hs : ∀ x, foldedSetIterable iter X.env x = pure x := by intro _; rfl) :
    AE X G (.ListComp elt [⟨tg, iter, ifs, 0⟩] scope pos) (aLc (own.map (·.2)) ti g tt te) := by
  exact ⟨fun env h Q Q' k q => hi.mono env h _ _ (fun ws e1 h1 z => lcLoop.mono mg mt me (fun a e h q => k _ _ _ q) ws [] e1 h1 z) q, PE.imp (pe_lc hc hN hi.pi ok (fun s H C cl fp => (hg s H C cl fp).pg) (fun s H C cl fp => (ht s H C cl fp).pts) (fun s H C cl fp => (he s H C cl fp).pe) hs) fun σ H Q q => lc_step hi hsl mg mt me q⟩
end
end Ab

namespace Ab
open PySem PySem.Spec PyProof.Rows L2
/-! ### places that are written -/
def updA (h : AH) (a : Addr) (o : AO) : AH := fun b => if b = a then some o else h b
theorem updA_same {h : AH} {a : Addr} {o : AO} : updA h a o a = some o := by unfold updA; rw [if_pos rfl]
theorem updA_ne {h : AH} {a b : Addr} {o : AO} (n : b ≠ a) : updA h a o b = h b := by unfold updA; rw [if_neg n]
/-- the list or dict that may be written through a result -/
def plc (env : AEnv) (h : AH) : RV → Option Cont
  | .slot i => match env[i]? with
    | some (some (.own c)) => some c
    | _ => none
  | .val (.ref a) => match h a with
    | some (.cont c) => some c
    | _ => none
  | _ => none
def putE (env : AEnv) (r : RV) (c : Cont) : AEnv := match r with
  | .slot i => env.set i (some (.own c))
  | _ => env
def putH (h : AH) (r : RV) (c : Cont) : AH := match r with
  | .val (.ref a) => updA h a (.cont c)
  | _ => h
section
variable {G : Gx} {env : AEnv} {h : AH} {σ : L2.St} {H : Hp}
theorem put_ok (S : BS G env h σ H) {r : RV} {v : V} {c : Cont} (rr : RvRep G env h σ H r v) (e : plc env h r = some c) : ∃ p, v = .ref p ∧ CRep G.K H p c ∧
    ∀ o' c', (Keeps H (upd H p o') → CRep G.K (upd H p o') p c') → BS G (putE env r c') (putH h r c') σ (upd H p o') ∧ Xt env h σ H (putE env r c') (putH h r c') (upd H p o') := by
  -- what all cases have in common
  have com : ∀ (p : Addr) (o' : HO), (∃ u, H p = some u ∧ Mu u) → Keeps H (upd H p o') ∧ (∀ q o, H q = some o → ∃ u, upd H p o' q = some u) := fun p o' ⟨u, eu, mu⟩ => by
    refine ⟨fun q o eq i => ?_, fun q o eq => ?_⟩
    · have ne : q ≠ p := fun z => by subst z; rw [eu] at eq; cases eq; exact mu.imm i
      rw [upd_ne ne]; exact eq
    · by_cases z : q = p
      · subst z; exact ⟨_, upd_same⟩
      · exact ⟨o, by rw [upd_ne z]; exact eq⟩
  cases r with
  | own c0 => cases e
  | slot i =>
    have e : (match env[i]? with
      | some (some (.own c)) => some c
      | _ => none) = some c := e
    split at e
    · rename_i c0 hs
      cases e
      obtain ⟨p, es, cr, n, n0⟩ := S.own i c hs
      have es' : σ[i]? = some (some v) := rr
      rw [es] at es'; cases es'
      refine ⟨p, rfl, cr, fun o' c' hc => ?_⟩
      obtain ⟨kp, th⟩ := com p o' cr.there
      have hc := hc kp
      have at_ : ∀ (j : Nat) (sv : SV), (env.set i (some (SV.own c')))[j]? = some (some sv) → (j = i ∧ sv = .own c') ∨ (j ≠ i ∧ env[j]? = some (some sv)) := fun j sv z => by
        rw [set_slot hs] at z
        by_cases hj : j = i
        · rw [if_pos hj] at z; cases z; exact .inl ⟨hj, rfl⟩
        · rw [if_neg hj] at z; exact .inr ⟨hj, z⟩
      show BS G (env.set i (some (.own c'))) h σ _ ∧ Xt env h σ H (env.set i (some (.own c'))) h _
      refine ⟨⟨by rw [List.length_set]; exact S.len, fun j w z => ?_, fun j d z => ?_, fun j k d d' q z1 z2 f1 f2 => ?_, fun a o z => ?_, fun q o z y t => ?_, S.ext, fun q o z => ?_, S.tabs.upd fun o z => cr.mu_at z⟩, fun q o z y w t => ?_, fun q o z y => (by rw [y] at z; cases z), th, fun j d z => ?_⟩
      · rcases at_ j _ z with ⟨_, z⟩ | ⟨_, z⟩
        · cases z
        · obtain ⟨u, a, b⟩ := S.val j w z; exact ⟨u, a, Rep.mono kp w u b⟩
      · rcases at_ j _ z with ⟨hj, z⟩ | ⟨hj, z⟩
        · cases z; exact ⟨p, hj ▸ es, hc, n, n0⟩
        · obtain ⟨q, a, b, x, y⟩ := S.own j d z
          have nq : q ≠ p := fun z2 => hj (S.uni j i d c p z hs (z2 ▸ a) es)
          exact ⟨q, a, b.mono kp (upd_ne nq), x, y⟩
      · rcases at_ j _ z1 with ⟨hj, y1⟩ | ⟨hj, y1⟩
        · rcases at_ k _ z2 with ⟨hk, y2⟩ | ⟨hk, y2⟩
          · rw [hj, hk]
          · rw [hj] at f1 ⊢; exact S.uni i k c d' q hs y2 f1 f2
        · rcases at_ k _ z2 with ⟨hk, y2⟩ | ⟨hk, y2⟩
          · rw [hk] at f2 ⊢; exact S.uni j i d c q y1 hs f1 f2
          · exact S.uni j k d d' q y1 y2 f1 f2
      · have na : a ≠ p := fun y => by rw [y, n] at z; cases z
        exact (S.hp a o z).mono kp (upd_ne na)
      · have nq : q ≠ p := fun x => by rw [x, n0] at z; cases z
        rw [upd_ne nq]; exact S.fr q o z y t
      · obtain ⟨u, y⟩ := S.tr q o z; exact th q u y
      · have nq : q ≠ p := fun x => w ⟨i, c, hs, x ▸ es⟩
        rw [upd_ne nq]; exact z
      · rcases at_ j _ z with ⟨hj, z⟩ | ⟨hj, z⟩
        · exact ⟨c, hj ▸ hs⟩
        · exact ⟨d, z⟩
    · cases e
  | val w0 =>
    cases w0 with
    | ref a =>
      have e : (match h a with
        | some (.cont c) => some c
        | _ => none) = some c := e
      split at e
      · rename_i c0 ha
        cases e
        have ev : v = .ref a := Rep.of_ref (K := G.K) (H := H) rr
        have cr : CRep G.K H a c := S.hp a _ ha
        refine ⟨a, ev, cr, fun o' c' hc => ?_⟩
        obtain ⟨kp, th⟩ := com a o' cr.there
        have hc := hc kp
        show BS G env (updA h a (.cont c')) σ _ ∧ Xt env h σ H env (updA h a (.cont c')) _
        have neo : ∀ {j : Nat} {d : Cont} {q : Addr}, env[j]? = some (some (SV.own d)) → σ[j]? = some (some (V.ref q)) → q ≠ a := fun z y x => by
          obtain ⟨q', a', _, n, _⟩ := S.own _ _ z
          rw [y] at a'; cases a'
          rw [x, ha] at n; cases n
        refine ⟨⟨S.len, fun j w z => ?_, fun j d z => ?_, S.uni, fun b o z => ?_, fun q o z y t => ?_, fun b o z y => ?_, fun q o z => ?_, S.tabs.upd fun o z => cr.mu_at z⟩, fun q o z y w t => ?_, fun q o z y => ?_, th, fun j d z => ⟨d, z⟩⟩
        · obtain ⟨u, x, y⟩ := S.val j w z; exact ⟨u, x, Rep.mono kp w u y⟩
        · obtain ⟨q, x, y, n, n0⟩ := S.own j d z
          have nq := neo z x
          exact ⟨q, x, y.mono kp (upd_ne nq), by rw [updA_ne nq]; exact n, n0⟩
        · by_cases hb : b = a
          · subst hb; rw [updA_same] at z; cases z; exact hc
          · rw [updA_ne hb] at z; exact (S.hp b o z).mono kp (upd_ne hb)
        · have nq : q ≠ a := fun x => by
            subst x
            have := S.ext q _ ha y
            rw [this] at z; cases z
          rw [upd_ne nq]; exact S.fr q o z y t
        · by_cases hb : b = a
          · subst hb; exact S.ext b _ ha y
          · rw [updA_ne hb] at z; exact S.ext b o z y
        · obtain ⟨u, y⟩ := S.tr q o z; exact th q u y
        · have nq : q ≠ a := fun x => by rw [x, ha] at y; cases y
          rw [upd_ne nq]; exact z
        · have nq : q ≠ a := fun x => by rw [x, ha] at y; cases y
          rw [updA_ne nq, y] at z; cases z
      · cases e
    | _ => cases e
end
/-! ### methods of lists that write -/
abbrev LmT := List W → List W → (List W → W → Prop) → Prop
structure LmOk (K : PySem.W.Frag) (r : V → List V → Hp → VK → Prop) (f : LmT) : Prop where
  mono : ∀ xs ws Q Q', (∀ a b, Q a b → Q' a b) → f xs ws Q → f xs ws Q'
  ok : ∀ H p xs vs ws us Qf Q, H p = some (.lst vs) → RepL K H xs vs → RepL K H ws us → f xs ws Qf → (∀ xs' vs' w v, Qf xs' w → RepL K H xs' vs' → Rep K H w v → Q v (upd H p (.lst vs'))) → r (.ref p) us H Q
def isSeq : Option Cont → Prop
  | some (.seq _) => True
  | _ => False
def aLm (f : LmT) (to : AT) (t : AAT) : AT := fun env h Q => to env h fun ro env1 h1 => isSeq (plc env1 h1 ro) ∧ t env1 h1 fun ws env2 h2 => match plc env2 h2 ro with
  | some (.seq xs) => f xs ws fun xs' w => Q (.val w) (putE env2 ro (.seq xs')) (putH h2 ro (.seq xs'))
  | _ => False
theorem aLm.mono {K : PySem.W.Frag} {r : V → List V → Hp → VK → Prop} {f : LmT} {to : AT} {t : AAT} (lm : LmOk K r f) (a : Mono to) (b : Mono t) : Mono (aLm f to t) := fun env h Q Q' k q => a env h _ _ (fun ro e g z => ⟨z.1, b e g _ _ (fun ws e2 g2 z => by
  split at z
  · exact lm.mono _ _ _ _ (fun _ _ q => k _ _ _ q) z
  · exact z) z.2⟩) q
section
variable {X : Cx} {G : Gx} {o e : Expr} {es : List Expr} {to : AT} {t : AAT} {name : Str} {apos cpos : Pos} {id : String} {r : V → List V → Hp → VK → Prop} {f : LmT}
end
section
variable {K : PySem.W.Frag}
def fAppend : LmT := fun xs ws Q => match ws with
  | [y] => xs.length < sizeLine ∧ Q (xs ++ [y]) .non
  | _ => False
end
/-! ### x[i] = e of a list -/
def gSet (to ti : AT) : AGT := fun w env h Q => to env h fun ro env1 h1 => ti env1 h1 fun ri env2 h2 => match view env2 h2 ri with
  | .wv (.int k) => match plc env2 h2 ro with
    | some (.seq xs) => ∃ j, ixN xs.length k = some j ∧ Q (putE env2 ro (.seq (xs.set j w))) (putH h2 ro (.seq (xs.set j w)))
    | _ => False
  | _ => False
section
variable {X : Cx} {G : Gx} {o i : Expr} {to ti : AT} {pos : Pos}
theorem ag_set (ho : AE X G o to) (hi : AE X G i ti)
    (ha : PG X (.Subscript o i pos) (gSub (cE G to) (cE G ti) rSetL)) : AG X G (.Subscript o i pos) [] (gSet to ti) := by
  refine ⟨fun w env h Q Q' k q => ho.mono env h _ _ (fun ro e g z => hi.mono e g _ _ (fun ri e g z => ?_) z) q, PG.imp ha fun v σ H Q ⟨w, env, h, rv, S, q⟩ => ?_⟩
  · split at z
    · split at z
      · obtain ⟨j, e, z⟩ := z; exact ⟨j, e, k _ _ z⟩
      · exact z
    · exact z
  · refine ⟨env, h, S, ho.mono env h _ _ (fun ro env1 h1 z x H1 S1 x1 r1 f1 => ?_) q⟩
    refine ⟨env1, h1, S1, hi.mono env1 h1 _ _ (fun ri env2 h2 z y H2 S2 x2 r2 f2 => ?_) z⟩
    have ry := r2.vr S2
    split at z
    · rename_i k ek
      rw [ek] at ry
      split at z
      · rename_i xs e
        obtain ⟨j, ej, z⟩ := z
        obtain ⟨p, rfl, ⟨us, l, rl⟩, put⟩ := put_ok S2 (r1.xt S1 x2) e
        have rv2 : Rep G.K H2 w v := Rep.mono ((x1.keeps S).trans (x2.keeps S1)) w v rv
        refine ⟨p, us, k, j, rfl, ry.int, l, by rw [← rl.length]; exact ej, ?_⟩
        obtain ⟨S3, x3⟩ := put (.lst (us.set j v)) (.seq (xs.set j w)) fun kk => ⟨_, upd_same, RepL.mono kk _ _ (rl.set j rv2)⟩
        exact z σ _ S3 (x1.trans (x2.trans x3)).xg
      · exact z.elim
    · exact z.elim
end
/-! ### target = e -/
section
variable {X : Cx} {G : Gx} {tg e : Expr} {tv : AVT} {g : AGT} {sl : List Nat} {pos : Pos} {st : Stmt} {t : ATS}
def aAsg (tv : AVT) (g : AGT) : ATS := fun D env h => tv env h fun w env1 h1 => g w env1 h1 D.nx
theorem as_asg (he : AV X G e tv) (hg : AG X G tg sl g) (hs : swapsWithSole [tg] e pos.line X.env = pure false := by rfl) (hw : swappedStores [tg] e X.env = pure none := by rfl) (h1 : (assignEach [tg] X.env).map (·.2) = [assign tg X.env] := by rfl) : AS X G (.Assign [tg] e pos) (aAsg tv g) := by
  refine ⟨fun D D' env h l q => he.mono env h _ _ (fun w e g z => hg.mono _ _ _ _ _ l.nx z) q, PS.imp (ps_asg he.pe hg.pg hs hw h1) fun D σ H ⟨env, h, Da, S, q, l⟩ => ?_⟩
  refine ⟨env, h, S, he.mono env h _ _ (fun w env1 h1 z v H1 S1 x1 r1 => ?_) q⟩
  exact ⟨w, env1, h1, r1, S1, hg.mono _ _ _ _ _ (fun env2 h2 z σ2 H2 S2 x2 => l.nx _ _ _ _ S2 ((x1.keeps S).trans (x2.keeps S1)) z) z⟩
/-! ### steps of the ghost -/
/-- the slot's own list or dict is shared from here on: it lies in the abstract heap -/
def aProm (i : Nat) (t : ATS) : ATS := fun D env h => match env[i]? with
  | some (some (.own c)) => ∀ p, h p = none → t D (env.set i (some (.val (.ref p)))) (updA h p (.cont c))
  | _ => False
theorem as_prom (i : Nat) (a : AS X G st t) : AS X G st (aProm i t) := by
  refine ⟨fun D D' env h l q => ?_, PS.imp a.ps fun D σ H ⟨env, h, Da, S, q, l⟩ => ?_⟩
  · unfold aProm at q ⊢
    split at q
    · exact fun p n => a.mono _ _ _ _ l (q p n)
    · exact q
  · unfold aProm at q
    split at q
    · rename_i c e
      obtain ⟨p, es, cr, n, n0⟩ := S.own i c e
      refine ⟨_, _, Da, ?_, q p n, l⟩
      have at_ : ∀ (j : Nat) (sv : SV), (env.set i (some (SV.val (.ref p))))[j]? = some (some sv) → (j = i ∧ sv = .val (.ref p)) ∨ (j ≠ i ∧ env[j]? = some (some sv)) := fun j sv z => by
        rw [set_slot e] at z
        by_cases hj : j = i
        · rw [if_pos hj] at z; cases z; exact .inl ⟨hj, rfl⟩
        · rw [if_neg hj] at z; exact .inr ⟨hj, z⟩
      refine ⟨by rw [List.length_set]; exact S.len, fun j w z => ?_, fun j d z => ?_, fun j k d d' q z1 z2 f1 f2 => ?_, fun a o z => ?_, S.fr, fun a o z y => ?_, S.tr, S.tabs⟩
      · rcases at_ j _ z with ⟨hj, z⟩ | ⟨_, z⟩
        · cases z; exact ⟨_, hj ▸ es, .ref⟩
        · exact S.val j w z
      · rcases at_ j _ z with ⟨_, z⟩ | ⟨hj, z⟩
        · cases z
        · obtain ⟨q, a, b, x, y⟩ := S.own j d z
          have nq : q ≠ p := fun z2 => hj (S.uni j i d c p z e (z2 ▸ a) es)
          exact ⟨q, a, b, by rw [updA_ne nq]; exact x, y⟩
      · rcases at_ j _ z1 with ⟨_, y⟩ | ⟨_, y1⟩
        · cases y
        · rcases at_ k _ z2 with ⟨_, y⟩ | ⟨_, y2⟩
          · cases y
          · exact S.uni j k d d' q y1 y2 f1 f2
      · by_cases ha : a = p
        · subst ha; rw [updA_same] at z; cases z; exact cr
        · rw [updA_ne ha] at z; exact S.hp a o z
      · by_cases ha : a = p
        · subst ha; exact n0
        · rw [updA_ne ha] at z; exact S.ext a o z y
    · exact q.elim
end
/-! ### a def's body keeps its promise -/
def startA (n : Nat) (ws : List W) : AEnv := ws.map (fun w => some (.val w)) ++ List.replicate (n - ws.length) none
def AH.Le (h h' : AH) : Prop := ∀ a o, h a = some o → h' a = some o
/-- what is wanted where the body ends: parts of the abstract heap may be forgotten -/
def endsOf (Qa : RR → AH → Prop) : AEnds where
  nx := fun _ h => ∃ h', AH.Le h' h ∧ Qa (.val .non) h'
  rt := fun r env h => ∃ h', AH.Le h' h ∧ match r with
    | .val w => Qa (.val w) h'
    | .own c => Qa (.own c) h'
    | .slot i => match env[i]? with
      | some (some (.val w)) => Qa (.val w) h'
      | some (some (.own c)) => Qa (.own c) h'
      | _ => False
def excOf (Ea : AExc → AH → Prop) : AExc → AEnv → AH → Prop := fun x _ h => ∃ h', AH.Le h' h ∧ Ea x h'
theorem BS.begin {K : PySem.W.Frag} {h : AH} {H : Hp} {ws : List W} {vs : List V} {N : List Str} (hp : ∀ a o, h a = some o → ORep K H a o) (tb : TabsK K H) (r : RepL K H ws vs) (hl : ws.length ≤ N.length) : BS ⟨K, h, H⟩ (startA N.length ws) h (L2.start N vs) H := by
  have e1 : (startA N.length ws).length = N.length := by simp [startA]; omega
  have e2 : (L2.start N vs).length = N.length := by simp [L2.start, ← r.length]; omega
  have at_ : ∀ (i : Nat) (sv : SV), (startA N.length ws)[i]? = some (some sv) → ∃ w, sv = .val w ∧ ws[i]? = some w := fun i sv e => by
    unfold startA at e
    by_cases hi : i < ws.length
    · rw [List.getElem?_append_left (by simpa using hi), List.getElem?_map] at e
      cases q : ws[i]? with
      | none => rw [q] at e; cases e
      | some w => rw [q] at e; cases e; exact ⟨w, rfl, rfl⟩
    · rw [List.getElem?_append_right (by simpa using hi), List.getElem?_replicate] at e
      split at e <;> cases e
  refine ⟨by rw [e1, e2], fun i w e => ?_, fun i c e => ?_, fun i j c c' p e => ?_, hp, fun p o e _ _ => e, fun a o e n => (by have n : h a = none := n; rw [n] at e; cases e), fun p o e => ⟨o, e⟩, tb⟩
  · obtain ⟨w', z, y⟩ := at_ i _ e
    cases z
    obtain ⟨v, ev, rv⟩ := r.get y
    refine ⟨v, ?_, rv⟩
    have hi : i < vs.length := (List.getElem?_eq_some_iff.mp ev).1
    unfold L2.start
    rw [List.getElem?_append_left (by simpa using hi), List.getElem?_map, ev]
    rfl
  · obtain ⟨w', z, _⟩ := at_ i _ e; cases z
  · obtain ⟨w', z, _⟩ := at_ i _ e; cases z
section
variable {P : Program} {w : World} {K : PySem.W.Frag} {mg : Str → Option Value} {base : Heap} {x qual : Str} {params : Arguments} {body : List Stmt} {scope : Scope} {f : Addr} {fd : FuncData} {N ps : List Str} {k n : Nat} {sp : ASp}
/-- the context of the def's body -/
abbrev bx (P : Program) (w : World) (K : PySem.W.Frag) (mg : Str → Option Value) (base : Heap) (N : List Str) (qual : Str) (scope : Scope) (f : Addr) (cdv : Value) (A : Around) (outer : List Env) (s : Shared) (H : Hp) (E : XK) : Cx :=
  cxOf (L2.CX P w) P w K mg base N qual scope f cdv A outer s H E
theorem HS.le {G : Gx} {h h' : AH} {H : Hp} (a : HS G h H) (l : AH.Le h' h) : HS G h' H := ⟨fun p o e => a.hp p o (l p o e), a.fr, fun p o e => a.ext p o (l p o e), a.tr, a.tabs⟩
theorem def_ok {t : (AExc → AEnv → AH → Prop) → ATS} (dvs : List V) (kws : List (Str × V)) (F : FunD K x qual params body scope dvs kws f fd) (S : FnScope N ps scope) (hn : ps.length = n)
    (hb : ∀ (cdv : Value) (A : Around) (outer : List Env) (s : Shared) (H : Hp) (E : XK) (G : Gx) (E' : AExc → AEnv → AH → Prop), Room k (A.deeper (envOfC qual scope s.heap.objs.size f cdv)) → G.K = K → Takes (bx P w K mg base N qual scope f cdv A outer s H E) (cW G E') →
      ASs (bx P w K mg base N qual scope f cdv A outer s H E) G body (t E'))
    (hq : ∀ ws h Qa Ea, ws.length = n → sp ws h Qa Ea → t (excOf Ea) (endsOf Qa) (startA N.length ws) h) :
    FnOk P w K mg base (L2.CX P w) (k + 1) f fd ps (cSp K n sp) := by
  refine F.ok S (fun vs H Q E ⟨ws, h, Qa, Ea, hl, _, _, r, _⟩ => by rw [← r.length, hl, hn]) (fun cdv A outer s H vs Q E hr ⟨ws, h, Qa, Ea, hl, hp, tb, r, q, kq, ke⟩ => ?_)
  have hwN : ws.length ≤ N.length := by
    have z := congrArg List.length S.pre
    rw [List.length_take] at z
    omega
  have tk : Takes (bx P w K mg base N qual scope f cdv A outer s H E) (cW ⟨K, h, H⟩ (excOf Ea)) := Takes.imp (W := fun cls d _ H' => E cls d H') (takes_of rfl rfl rfl rfl) fun cls d σ H' ⟨x, env, h', SB, xr, h'', le, e⟩ =>
    ke x h'' cls d H' e (HS.le (G := ⟨K, h, H⟩) ⟨SB.hp, SB.fr, SB.ext, SB.tr, SB.tabs⟩ le) xr
  refine ⟨_, (hb cdv A outer s H E ⟨K, h, H⟩ (excOf Ea) hr rfl tk).ps, startA N.length ws, h, endsOf Qa, BS.begin hp tb r hwN, hq ws h Qa Ea hl q, ?_⟩
  have hs : ∀ {env h' σ' H'}, BS ⟨K, h, H⟩ env h' σ' H' → HS ⟨K, h, H⟩ h' H' := fun SB => ⟨SB.hp, SB.fr, SB.ext, SB.tr, SB.tabs⟩
  refine ⟨fun env h' σ' H' SB _ ⟨h'', le, e⟩ => kq (.val .non) h'' .non H' e ((hs SB).le le) (show Rep K H' .non .non from .non), fun r0 env h' σ' H' v SB _ rr ⟨h'', le, e⟩ => ?_, fun _ _ _ _ _ _ z => z.elim, fun _ _ _ _ _ _ z => z.elim⟩
  have own_end : ∀ {p : Addr} {c : Cont}, v = .ref p → CRep K H' p c → h' p = none → H p = none → RrRep ⟨K, h, H⟩ h'' H' (.own c) v := fun {p c} e1 e2 e3 e4 => by
    have e5 : h'' p = none := by
      cases z : h'' p with
      | none => rfl
      | some u => rw [le p u z] at e3; cases e3
    exact ⟨p, e1, e2, e5, e4⟩
  cases r0 with
  | val w0 => exact kq (.val w0) h'' v H' e ((hs SB).le le) rr
  | own c =>
    obtain ⟨p, e1, cr, a, b, _⟩ := rr
    exact kq (.own c) h'' v H' e ((hs SB).le le) (own_end e1 cr a b)
  | slot i =>
    have es : σ'[i]? = some (some v) := rr
    have e : match env[i]? with
      | some (some (.val w)) => Qa (.val w) h''
      | some (some (.own c)) => Qa (.own c) h''
      | _ => False := e
    split at e
    · rename_i w0 ei
      obtain ⟨u, e3, rv⟩ := SB.val i w0 ei
      rw [es] at e3; cases e3
      exact kq (.val w0) h'' v H' e ((hs SB).le le) rv
    · rename_i c ei
      obtain ⟨p, e3, cr, a, b⟩ := SB.own i c ei
      rw [es] at e3; cases e3
      exact kq (.own c) h'' _ H' e ((hs SB).le le) (own_end rfl cr a b)
    · exact e.elim
end
end Ab

namespace Ab
open PySem PySem.Spec PyProof.Rows L2 RZ
/-! ### and, or, not as values -/
def aAndV (ta tb : AT) : AT := fun env h Q => ta env h fun r env1 h1 => match view env1 h1 r with
  | .wv (.bl c) => if c = true then tb env1 h1 Q else Q (.val (.bl false)) env1 h1
  | _ => False
def aNotV (ta : AT) : AT := fun env h Q => ta env h fun r env1 h1 => match view env1 h1 r with
  | .wv (.bl c) => Q (.val (.bl (!c))) env1 h1
  | _ => False
section
variable {X : Cx} {G : Gx} {a b : Expr} {ta tb : AT} {pos : Pos} {rest : List Expr}
theorem fsh_from {env env1 : AEnv} {h h1 : AH} {σ : L2.St} {H H1 : Hp} (x1 : Xt env h σ H env1 h1 H1) {r : RV} {v : V} (f : Fsh H1 r v) : Fsh H r v := by
  cases r with
  | own c => exact fun p e => x1.fresh (f p e)
  | _ => trivial
/-- go on with another expression in the same state -/
theorem on_with {t : AT} {env env1 : AEnv} {h h1 : AH} {σ : L2.St} {H H1 : Hp} {Q : VK} (m : Mono t) (S1 : BS G env1 h1 σ H1) (x1 : Xt env h σ H env1 h1 H1)
    (z : t env1 h1 fun r env' h' => ∀ v H', BS G env' h' σ H' → Xt env h σ H env' h' H' → RvRep G env' h' σ H' r v → Fsh H r v → Q v H') : cE G t σ H1 Q :=
  ⟨env1, h1, S1, m env1 h1 _ _ (fun r env2 h2 z2 v H2 S2 x2 r2 f2 => z2 v H2 S2 (x1.trans x2) r2 (fsh_from x1 f2)) z⟩
theorem ae_and1 (ha : AE X G a ta) : AE X G (.BoolOp .And [a] pos) ta := ⟨ha.mono, pe_one ha.pe⟩
theorem ae_and (ha : AE X G a ta) (hb : AE X G (.BoolOp .And (b :: rest) pos) tb) : AE X G (.BoolOp .And (a :: b :: rest) pos) (aAndV ta tb) := by
  refine ⟨fun env h Q Q' k q => ha.mono env h _ _ (fun r e g z => ?_) q, PE.imp (pe_and ha.pe hb.pe) fun σ H Q ⟨env, h, S, q⟩ => ⟨env, h, S, ha.mono env h _ _ (fun r e g z v H1 S1 x1 r1 f1 => ?_) q⟩⟩
  · split at z
    · rename_i c _
      cases c with
      | true => exact iteT (hb.mono e g _ _ k (by simpa using z))
      | false => exact iteF (k _ _ _ (by simpa using z))
    · exact z
  · have rv := r1.vr S1
    split at z
    · rename_i c ec
      rw [ec] at rv
      refine ⟨c, rv.bl, ?_⟩
      cases c with
      | true => rw [if_pos rfl] at z; exact iteT (on_with hb.mono S1 x1 z)
      | false => rw [if_neg Bool.false_ne_true] at z; exact iteF (z (.bl false) H1 S1 x1 (show Rep G.K H1 (.bl false) (.bl false) from .bl) trivial)
    · exact z.elim
theorem ae_not (ha : AE X G a ta) : AE X G (.UnaryOp .Not a pos) (aNotV ta) := by
  refine ⟨fun env h Q Q' k q => ha.mono env h _ _ (fun r e g z => ?_) q, PE.imp (pe_not ha.pe) fun σ H Q ⟨env, h, S, q⟩ => ⟨env, h, S, ha.mono env h _ _ (fun r e g z v H1 S1 x1 r1 f1 => ?_) q⟩⟩
  · split at z
    · exact k _ _ _ z
    · exact z
  · have rv := r1.vr S1
    split at z
    · rename_i c ec
      rw [ec] at rv
      exact ⟨c, rv.bl, z (.bl (!c)) H1 S1 x1 (show Rep G.K H1 (.bl (!c)) (.bl (!c)) from .bl) trivial⟩
    · exact z.elim
theorem ae_pow (ha : AE X G a ta) (hb : AE X G b tb) : AE X G (.BinOp a .Pow b pos) (aOp2 (oII CPow fun i j => .int (i ^ j.toNat)) ta tb) := ae_op op_pow (opa_int fun _ _ _ => .int) ha hb
/-! ### x, y = a, b -/
/-! ### zip -/
theorem zipWith_get {ws us : List W} {i : Nat} {w : W} (e : (List.zipWith (fun a b => W.tup [a, b]) ws us)[i]? = some w) : ∃ a b, ws[i]? = some a ∧ us[i]? = some b ∧ w = .tup [a, b] := by
  rw [List.getElem?_zipWith] at e
  cases q : ws[i]? with
  | none => rw [q] at e; cases e
  | some a =>
    cases q2 : us[i]? with
    | none => rw [q, q2] at e; cases e
    | some b => rw [q, q2] at e; cases e; exact ⟨a, b, rfl, rfl, rfl⟩
theorem gives_zipT {K : PySem.W.Frag} {H : Hp} {a b : Addr} {ws us : List W} {vs xs : List V} (l : SqT K H a vs) (l' : SqT K H b xs) (r : RepL K H ws vs) (r' : RepL K H us xs) : Gives K (ItzT K a b) H (List.zipWith (fun a b => W.tup [a, b]) ws us) := fun H' k i => by
  have l := k.sqT l
  have l' := k.sqT l'
  have r := RepL.mono k _ _ r
  have r' := RepL.mono k _ _ r'
  refine ⟨fun h => ⟨vs, xs, l, l', ?_⟩, fun w e => ?_⟩
  · rw [List.length_zipWith, r.length, r'.length] at h; omega
  · obtain ⟨x, y, e1, e2, rfl⟩ := zipWith_get e
    obtain ⟨v, ev, rv⟩ := r.get e1
    obtain ⟨u, eu, ru⟩ := r'.get e2
    refine ⟨⟨vs, xs, v, u, l, l', ev, eu⟩, fun z H2 ⟨T, v', u', e3, n, e4, q1, q2⟩ => ?_⟩
    have z1 := q1 vs l
    have z2 := q2 xs l'
    rw [ev] at z1; rw [eu] at z2
    cases z1; cases z2
    subst e3; subst e4
    have nw : New H' (upd H' T (.tup [v, u])) := New.upd n
    exact ⟨nw, .tup (.inl upd_same) (.cons (Rep.mono nw.keeps _ _ rv) (.cons (Rep.mono nw.keeps _ _ ru) .nil))⟩
theorem gives_zipL {K : PySem.W.Frag} {H : Hp} {a b : Addr} {ws us : List W} {vs xs : List V} (l : LsF H a vs) (l' : LsF H b xs) (r : RepL K H ws vs) (r' : RepL K H us xs) : Gives K (Itz K a b) H (List.zipWith (fun a b => W.tup [a, b]) ws us) := fun H' k i => by
  have l := (k.lsF l).sq (K := K)
  have l' := (k.lsF l').sq (K := K)
  have r := RepL.mono k _ _ r
  have r' := RepL.mono k _ _ r'
  refine ⟨fun h => ⟨vs, xs, l, l', ?_⟩, fun w e => ?_⟩
  · rw [List.length_zipWith, r.length, r'.length] at h; omega
  · obtain ⟨x, y, e1, e2, rfl⟩ := zipWith_get e
    obtain ⟨v, ev, rv⟩ := r.get e1
    obtain ⟨u, eu, ru⟩ := r'.get e2
    refine ⟨⟨vs, xs, v, u, l, l', ev, eu⟩, fun z H2 ⟨T, v', u', e3, n, e4, q1, q2⟩ => ?_⟩
    have z1 := q1 vs l
    have z2 := q2 xs l'
    rw [ev] at z1; rw [eu] at z2
    cases z1; cases z2
    subst e3; subst e4
    have nw : New H' (upd H' T (.tup [v, u])) := New.upd n
    exact ⟨nw, .tup (.inl upd_same) (.cons (Rep.mono nw.keeps _ _ rv) (.cons (Rep.mono nw.keeps _ _ ru) .nil))⟩
def iZp (t : AAT) : AIT := fun env h Q => t env h fun ws env' h' => match ws with
  | [.tup xs, .tup ys] => Q (List.zipWith (fun a b => W.tup [a, b]) xs ys) env' h'
  | [.lst xs, .lst ys] => Q (List.zipWith (fun a b => W.tup [a, b]) xs ys) env' h'
  | _ => False
theorem ai_zip {e e2 : Expr} {ta : AAT} {p pos tpos : Pos} {elts : List Expr} {kk : Nat} (gk : G.K = X.K) (hg : Gl X "zip") (hm : X.mg "zip" = none) (ha : AA X G [e, e2] ta)
    (hs : starEach [e, e2] X.env = (false, eval e X.env) :: starEach [e2] X.env := by rfl) (hpl : (backTo pos (starEach [e2] X.env)).any (·.1) = false := by rfl) : AI X G (.Tuple elts kk tpos) (.Call (.Name "zip" p) [e, e2] [] pos) (iZp ta) := by
  refine ⟨fun env h Q Q' k q => ha.mono env h _ _ (fun ws e g z => ?_) q, PI.imp (pi_zipA hg hm ha.pa hs hpl) fun σ H R ⟨env, h, S, q⟩ => ⟨env, h, S, ha.mono env h _ _ (fun ws env1 h1 z vs H1 S1 x1 r1 => ?_) q⟩⟩
  · split at z
    · exact k _ _ _ z
    · exact k _ _ _ z
    · exact z
  · split at z
    · obtain ⟨v', t, rfl, a1, b1⟩ := r1.of_cons
      obtain ⟨w', t, rfl, a2, b2⟩ := b1.of_cons
      rw [b2.of_nil]
      obtain ⟨p1, u1, rfl, l1, q1⟩ := Rep.of_tup a1
      obtain ⟨p2, u2, rfl, l2, q2⟩ := Rep.of_tup a2
      exact ⟨p1, p2, u1, u2, rfl, .inr ⟨gk ▸ l1, gk ▸ l2, z _ H1 S1 x1 (gk ▸ gives_zipT l1 l2 q1 q2)⟩⟩
    · obtain ⟨v', t, rfl, a1, b1⟩ := r1.of_cons
      obtain ⟨w', t, rfl, a2, b2⟩ := b1.of_cons
      rw [b2.of_nil]
      obtain ⟨p1, u1, rfl, l1, q1⟩ := Rep.of_lst a1
      obtain ⟨p2, u2, rfl, l2, q2⟩ := Rep.of_lst a2
      exact ⟨p1, p2, u1, u2, rfl, .inl ⟨l1.sq, l2.sq, z _ H1 S1 x1 (gk ▸ gives_zipL l1 l2 q1 q2)⟩⟩
    · exact z.elim
end
/-! ### keywords -/
structure AK (X : Cx) (G : Gx) (kws : List Keyword) (t : AAT) : Prop where
  mono : Mono t
  pk : PK X kws (cA G t)
theorem PK.imp {X : Cx} {e : List Keyword} {t t' : TA} (h : PK X e t) (i : ∀ σ H Q, t' σ H Q → t σ H Q) : PK X e t' := ⟨fun pos pins s σ H Q I q => h.run pos pins s σ H Q I (i σ H Q q)⟩
section
variable {X : Cx} {G : Gx} {k n : Nat} {f : Addr} {fd : FuncData} {ps ks : List Str} {sp : ASp} {x : Str} {p pos kpos : Pos} {e : Expr} {es : List Expr} {kws : List Keyword} {nm : Option Str} {t tk : AAT} {tv : AVT} {E : AExc → AEnv → AH → Prop}
theorem ak_nil : AK X G [] aNil := ⟨aNil.mono, PK.imp pk_nil fun σ H Q ⟨env, h, S, q⟩ => q [] H S .refl .nil⟩
theorem ak_cons (a : AV X G e tv) (b : AK X G kws tk) : AK X G (⟨nm, e, kpos⟩ :: kws) (aCons tv tk) := by
  refine ⟨aCons.mono a.mono b.mono, PK.imp (pk_cons a.pe b.pk) fun σ H Q ⟨env, h, S, q⟩ => ?_⟩
  refine ⟨env, h, S, a.mono env h _ _ (fun w env1 h1 z v H1 S1 x1 r1 => ?_) q⟩
  refine ⟨env1, h1, S1, b.mono env1 h1 _ _ (fun ws env2 h2 z vs H2 S2 x2 r2 => ?_) z⟩
  exact z (v :: vs) H2 S2 (x1.trans x2) (.cons (Rep.mono (x2.keeps S1) w v r1) r2)
/-- how a call with keywords puts what it has in the parameters' order: gW on data, gV on values, g on the machine's -/
structure AKB (K : PySem.W.Frag) (fd : FuncData) (ps ks : List Str) (n : Nat) (gW : List W → List W → List W) where
  g : List Value → List Value → List Value
  gV : List V → List V → List V
  kb : KBinds K fd ps ks g gV
  rep : ∀ (H : Hp) (ws zs : List W) (vs us : List V), (gW ws zs).length = n → RepL K H ws vs → RepL K H zs us → RepL K H (gW ws zs) (gV vs us)
theorem run_kw {CX : CXT} {sp : Sp} {g : List Value → List Value → List Value} {gV : List V → List V → List V} {pins : List (Addr × Obj)} {σ : L2.St} {H : Hp} {s : Shared} {Q : VK} {E : XK} {us ws : List Value} {vs zs : List V} (F : FnOk X.prog X.w X.K X.mg X.base CX k f fd ps sp) (hr : Room k X.A) (hb : KBinds X.K fd ps ks g gV)
    (hx : PassesAt CX X σ E) (I : Inv X pins σ H s) (r : Vals vs us) (rz : Vals zs ws) (h : sp (gV vs zs) H Q E) : wpAny (model X.prog X.w) X.A (call (.ref f) us (ks.zip ws)) (EP X pins σ Q) X.xe s := by
  have r2 := hb.rel r rz
  have hl : (g us ws).length = ps.length := r2.length.symm.trans (F.len _ _ _ _ h)
  refine wpAny_call (codeAny_mono (F.run X.A X.stack s H ⟨us, ks.zip ws⟩ _ _ Q E hr I.env0 (hb.to s us ws I.kIn hl) r2 h) fun r s' hq => ?_)
  cases r with
  | error e => exact hx pins H s e s' I hq
  | ok fl => cases fl <;> first | exact I.after hq | exact False.elim hq
def aCallK (E : AExc → AEnv → AH → Prop) (sp : ASp) (n : Nat) (gW : List W → List W → List W) (t tk : AAT) : AT := fun env h Q => t env h fun ws env1 h1 => tk env1 h1 fun zs env2 h2 => (gW ws zs).length = n ∧ sp (gW ws zs) h2 (fun r h3 => match r with
  | .val w => Q (.val w) env2 h3
  | .own c => Q (.own c) env2 h3) fun x h3 => E x env2 h3
theorem aCallK.mono {gW : List W → List W → List W} (m : SpMono sp) (a : Mono t) (b : Mono tk) : Mono (aCallK E sp n gW t tk) := fun env h Q Q' k q => a env h _ _ (fun ws e g z => b e g _ _ (fun zs e g z => ⟨z.1, m _ _ _ _ _ _ (fun r f y => by
  cases r with
  | val w => exact k _ _ _ y
  | own c => exact k _ _ _ y) (fun x f y => y) z.2⟩) z) q
/-- behind the arguments -/
theorem callK_end {gW : List W → List W → List W} {g : List V → List V → List V} {env env2 : AEnv} {h h2 : AH} {σ : L2.St} {H H2 : Hp} {ws zs : List W} {vs us : List V} {Q : VK} (S2 : BS G env2 h2 σ H2) (x2 : Xt env h σ H env2 h2 H2) (r : RepL G.K H2 (gW ws zs) (g vs us))
    (z : (gW ws zs).length = n ∧ sp (gW ws zs) h2 (fun r h3 => match r with
      | .val w => ∀ v H', BS G env2 h3 σ H' → Xt env h σ H env2 h3 H' → RvRep G env2 h3 σ H' (.val w) v → Fsh H (.val w) v → Q v H'
      | .own c => ∀ v H', BS G env2 h3 σ H' → Xt env h σ H env2 h3 H' → RvRep G env2 h3 σ H' (.own c) v → Fsh H (.own c) v → Q v H') fun x h3 => E x env2 h3) : cSp G.K n sp (g vs us) H2 Q (WE (cW G E) σ) := by
  refine ⟨_, h2, _, _, z.1, S2.hp, S2.tabs, r, z.2, fun r h' v H' y c rr => ?_, fun x h' cls d H' y c xr => ?_⟩
  · obtain ⟨S3, x3⟩ := S2.after c
    cases r with
    | val w => exact y v H' S3 (x2.trans x3) rr trivial
    | own c0 =>
      obtain ⟨p, e, cr, a, b⟩ := rr
      have nw : H2 p = none := b
      obtain ⟨_, g0, no⟩ := S2.noAt nw
      exact y v H' S3 (x2.trans x3) ⟨p, e, cr, a, g0, no⟩ fun p' e' => by
        rw [e] at e'; cases e'; exact x2.fresh nw
  · obtain ⟨S3, x3⟩ := S2.after c
    exact ⟨x, env2, h', S3, xr, y⟩
theorem repL_k {K K' : PySem.W.Frag} {H : Hp} {ws : List W} {vs : List V} (e : K = K') (r : RepL K H ws vs) : RepL K' H ws vs := e ▸ r
/-- f(k = v, ..) -/
theorem ae_callK0 {gW : List W → List W → List W} (gk : G.K = X.K) (F : FnOk X.prog X.w X.K X.mg X.base (L2.CX X.prog X.w) k f fd ps (cSp G.K n sp)) (sm : SpMono sp) (hr : Room k X.A) (hg : Gl X x) (hm : X.mg x = some (.ref f)) (hk : PySem.W.keepIn X.K (.ref f) = true) (kb : AKB X.K fd ps ks n gW) (tkk : Takes X (cW G E))
    (hkw : AK X G kws tk) (hall : (backToKw pos (keywordEach kws X.env)).all (·.1.isSome) = true := by rfl) (hks : (backToKw pos (keywordEach kws X.env)).filterMap (·.1) = ks := by rfl) (hdb : (x == ("__debug__" : Str)) = false := by decide)
    (hpl : ((backTo pos (starEach [] X.env)).any (·.1) || (backToKw pos (keywordEach kws X.env)).any (·.1.isNone)) = false := by rfl) :
    AE X G (.Call (.Name x p) [] kws pos) (aCallK E sp n gW aNil tk) := by
  refine ⟨aCallK.mono sm aNil.mono hkw.mono, ⟨fun pins s σ H Q I ⟨env, h, S, q⟩ => ?_⟩⟩
  refine wpAny_Call_Name_kw (ld_glob I hg hm ?_ hdb)
  refine PySem.W.callWith_KW0 (h₀ := X.base) I.ok.mod.kin hk hall ?_ hpl
  refine thn (hkw.pk.run pos pins s σ H (fun zs H2 => cSp G.K n sp (kb.gV [] zs) H2 Q (WE (cW G E) σ)) I ⟨env, h, S, hkw.mono env h _ _ (fun zs env2 h2 z us H2 S2 x2 r2 => ?_) q⟩) fun ws s2 ⟨zs, H2, I2, rz, q2⟩ => ⟨I2.kIn, ?_⟩
  · have rr := kb.rep H2 [] zs [] us z.1 .nil (repL_k gk r2)
    exact callK_end (g := kb.gV) S2 x2 (repL_k gk.symm rr) z
  · rw [hks, List.append_nil]
    exact run_kw F hr kb.kb (passAt tkk σ) I2 .nil rz q2
end
end Ab

namespace Ab
open PySem PySem.Spec PyProof.Rows L2 RZ
section
variable {X : Cx} {G : Gx} {a b c : Expr} {ta tb tc : AT} {t : ABT} {pos p : Pos}
/-! ### tests -/
theorem ap_v (h : AE X G a ta) (he : ∀ whole, isTrue a X.env whole = (do let v ← whole; standAt a.pos; holding [v] (truthy v)) := by intro _; rfl) : AP X G a (aTst ta) := ap_val h fun t k => pt_val k he
theorem ap_lt (ha : AE X G a ta) (hb : AE X G b tb) : AP X G (.Compare a [.Lt] [b] pos) (aTst (aOp2 (oII (fun _ _ => True) fun i j => .bl (decide (i < j))) ta tb)) := ap_cmp op_lt (opa_int0 fun _ _ _ => .bl) ha hb (nomark _)
theorem ap_le (ha : AE X G a ta) (hb : AE X G b tb) : AP X G (.Compare a [.LtE] [b] pos) (aTst (aOp2 (oII (fun _ _ => True) fun i j => .bl (decide (i ≤ j))) ta tb)) := ap_cmp op_le (opa_int0 fun _ _ _ => .bl) ha hb (nomark _)
theorem ap_gt (ha : AE X G a ta) (hb : AE X G b tb) : AP X G (.Compare a [.Gt] [b] pos) (aTst (aOp2 (oII (fun _ _ => True) fun i j => .bl (decide (j < i))) ta tb)) := ap_cmp op_gt (opa_int0 fun _ _ _ => .bl) ha hb (nomark _)
theorem ap_ge (ha : AE X G a ta) (hb : AE X G b tb) : AP X G (.Compare a [.GtE] [b] pos) (aTst (aOp2 (oII (fun _ _ => True) fun i j => .bl (decide (j ≤ i))) ta tb)) := ap_cmp op_ge (opa_int0 fun _ _ _ => .bl) ha hb (nomark _)
theorem ap_eq (gk : G.K = X.K) (hu : X.A.units + 64 < cLine) (ha : AE X G a ta) (hb : AE X G b tb) : AP X G (.Compare a [.Eq] [b] pos) (aTst (aOp2 (oEq false) ta tb)) := ap_cmp (op_eqP hu) (gk ▸ opa_eq) ha hb (nomark _)
theorem ap_ne (gk : G.K = X.K) (hu : X.A.units + 64 < cLine) (ha : AE X G a ta) (hb : AE X G b tb) : AP X G (.Compare a [.NotEq] [b] pos) (aTst (aOp2 (oEq true) ta tb)) := ap_cmp (op_neP hu) (gk ▸ opa_eq) ha hb (nomark _)
theorem ae_isN (ha : AE X G a ta) (hb : AE X G b tb) : AE X G (.Compare a [.Is] [b] pos) (aOp2 (oIsN false) ta tb) := ae_cmp op_isN opa_isN ha hb (nomark _)
theorem ap_isN (ha : AE X G a ta) (hb : AE X G b tb) : AP X G (.Compare a [.Is] [b] pos) (aTst (aOp2 (oIsN false) ta tb)) := ap_cmp op_isN opa_isN ha hb (nomark _)
/-! ### -a -/
def aNeg (ta : AT) : AT := fun env h Q => ta env h fun r env1 h1 => match view env1 h1 r with
  | .wv (.int i) => Q (.val (.int (-i))) env1 h1
  | _ => False
theorem ae_neg (ha : AE X G a ta) : AE X G (.UnaryOp .USub a pos) (aNeg ta) := by
  refine ⟨fun env h Q Q' k q => ha.mono env h _ _ (fun r e g z => ?_) q, PE.imp (pe_un un_neg ha.pe) fun σ H Q ⟨env, h, S, q⟩ => ⟨env, h, S, ha.mono env h _ _ (fun r e g z v H1 S1 x1 r1 f1 => ?_) q⟩⟩
  · split at z
    · exact k _ _ _ z
    · exact z
  · have rv := r1.vr S1
    split at z
    · rename_i i ei
      rw [ei] at rv
      exact ⟨i, rv.int, z _ H1 S1 x1 (show Rep G.K H1 _ _ from .int) trivial⟩
    · exact z.elim
/-! ### chains of two comparisons of ints -/
def aChn (P P' : Int → Int → Bool) (ta tb tc : AT) : AT := fun env h Q => ta env h fun ra env1 h1 => tb env1 h1 fun rb env2 h2 => match view env2 h2 ra, view env2 h2 rb with
  | .wv (.int i), .wv (.int j) => if P i j = true then tc env2 h2 fun rc env3 h3 => (match view env3 h3 rc with
      | .wv (.int k) => Q (.val (.bl (P' j k))) env3 h3
      | _ => False) else Q (.val (.bl false)) env2 h2
  | _, _ => False
theorem aChn.mono {P P' : Int → Int → Bool} (ma : Mono ta) (mb : Mono tb) (mc : Mono tc) : Mono (aChn P P' ta tb tc) := fun env h Q Q' k q => ma env h _ _ (fun ra e g z => mb e g _ _ (fun rb e g z => by
  split at z
  · refine ite2 (fun y => ?_) fun y => k _ _ _ (by rw [if_neg y] at z; exact z)
    rw [if_pos y] at z
    refine mc _ _ _ _ (fun rc e g z => ?_) z
    split at z
    · exact k _ _ _ z
    · exact z
  · exact z) z) q
theorem chn_step {P P' : Int → Int → Bool} {σ : L2.St} {H : Hp} {Q : VK} (ma : Mono ta) (mb : Mono tb) (mc : Mono tc) (q : cE G (aChn P P' ta tb tc) σ H Q) :
    tChain (rI0 fun i j => .bl (P i j)) (rI0 fun i j => .bl (P' i j)) (cE G ta) (cE G tb) (cE G tc) σ H Q := by
  obtain ⟨env, h, S, q⟩ := q
  refine ⟨env, h, S, ma env h _ _ (fun ra env1 h1 z v H1 S1 x1 r1 f1 => ?_) q⟩
  refine ⟨env1, h1, S1, mb env1 h1 _ _ (fun rb env2 h2 z u H2 S2 x2 r2 f2 => ?_) z⟩
  have va := (r1.xt S1 x2).vr S2
  have vb := r2.vr S2
  split at z
  · rename_i i j ei ej
    rw [ei] at va
    rw [ej] at vb
    refine ⟨i, j, va.int, vb.int, P i j, rfl, ite2 (fun y => ?_) fun y => ?_⟩
    · rw [if_pos y] at z
      refine ⟨env2, h2, S2, mc env2 h2 _ _ (fun rc env3 h3 z w H3 S3 x3 r3 f3 => ?_) z⟩
      have vc := r3.vr S3
      split at z
      · rename_i k ek
        rw [ek] at vc
        exact ⟨j, k, vb.int, vc.int, z _ H3 S3 (x1.trans (x2.trans x3)) (show Rep G.K H3 _ _ from .bl) trivial⟩
      · exact z.elim
    · rw [if_neg y] at z
      exact z _ H2 S2 (x1.trans x2) (show Rep G.K H2 _ _ from .bl) trivial
  · exact z.elim
theorem ap_chn {op op' : CmpOp} {P P' : Int → Int → Bool} (ho : OpR X (compareOp op) (rI0 fun i j => .bl (P i j))) (ho' : OpR X (compareOp op') (rI0 fun i j => .bl (P' i j))) (ha : AE X G a ta) (hb : AE X G b tb) (hc : AE X G c tc)
    (hm : lastMarks [op, op'] [b, c] = false := by with_unfolding_all rfl) : AP X G (.Compare a [op, op'] [b, c] pos) (aTst (aChn P P' ta tb tc)) := by
  refine ⟨aTst.mono (aChn.mono ha.mono hb.mono hc.mono), PT.imp (pt_chain ho ho' ha.pe hb.pe hc.pe hm) fun σ H Q ⟨env, k, S, q⟩ => ?_⟩
  refine chn_step ha.mono hb.mono hc.mono ⟨env, k, S, aChn.mono ha.mono hb.mono hc.mono env k _ _ (fun r env1 h1 z v H1 S1 x1 r1 f1 => ?_) q⟩
  have r2 := r1.vr S1
  split at z
  · rename_i b e
    rw [e] at r2
    exact ⟨b, r2.bl, z H1 S1 x1⟩
  · exact z.elim
end
/-! ### a def that keeps a promise -/
structure Ok (P : Program) (w : World) (K : PySem.W.Frag) (mg : Str → Option Value) (base : Heap) (x : Str) (st : Stmt) (k n : Nat) (ps : List Str) (sp : ASp) : Prop where
  m : SpMono sp
  ex : ∃ f fd, mg x = some (.ref f) ∧ FunD K x x (defArgs st) (defBody st) (defScope st) [] [] f fd ∧ FnOk P w K mg base (L2.CX P w) k f fd ps (cSp K n sp)
def BindsAll (x : Str) (st : Stmt) (ps : List Str) : Prop := ∀ (kV doc pm : Value) (an : Option Addr) (cdv ct : Value) (us : List Value), us.length = ps.length → bindArgs (PySem.W.fnOf x x (defArgs st) (defBody st) (defScope st) .none kV doc pm an cdv ct) ⟨us, []⟩ = pure (ps.zip us)
section
variable {X : Cx} {G : Gx} {sp : ASp} {st : Stmt} {k j n : Nat} {ps : List Str} {x : Str} {p pos : Pos} {e : Expr} {es : List Expr} {t : AAT} {E : AExc → AEnv → AH → Prop}
theorem ae_callO0 (gk : G.K = X.K) (O : Ok X.prog X.w X.K X.mg X.base x st k n ps sp) (bd : BindsAll x st ps) (hr : Room j X.A) (kj : k ≤ j) (hg : Gl X x) (tk : Takes X (cW G E))
    (ha : AA X G (e :: es) t) (hn : ∀ env h (R : List W → AEnv → AH → Prop), t env h R → t env h fun ws e g => ws.length = n ∧ R ws e g)
    (hdb : (x == ("__debug__" : Str)) = false := by decide) (he : starEach (e :: es) X.env = (false, eval e X.env) :: starEach es X.env := by rfl) (hpl : (backTo pos (starEach es X.env)).any (·.1) = false := by rfl) :
    AE X G (.Call (.Name x p) (e :: es) [] pos) (aCall E sp t) := by
  obtain ⟨f, fd, hm, FD, F⟩ := O.ex
  exact ae_call (G := G) (gk ▸ F) O.m (hr.mono kj) hg hm FD.kp (FD.bindsN bd) tk ha hn hdb he hpl
/-- a call's arguments, counted -/
structure AN (X : Cx) (G : Gx) (es : List Expr) (n : Nat) (t : AAT) : Prop where
  aa : AA X G es t
  ln : ∀ env h (R : List W → AEnv → AH → Prop), t env h R → t env h fun ws e g => ws.length = n ∧ R ws e g
theorem an_nil : AN X G [] 0 aNil := ⟨aa_nil, len_nil⟩
theorem an_cons {tv : AVT} (a : AV X G e tv) (b : AN X G es n t) (hs : starEach (e :: es) X.env = (false, eval e X.env) :: starEach es X.env := by rfl) : AN X G (e :: es) (n + 1) (aCons tv t) :=
  ⟨aa_cons a b.aa hs, len_cons a.mono b.ln b.aa.mono⟩
theorem ae_callO (gk : G.K = X.K) (O : Ok X.prog X.w X.K X.mg X.base x st k n ps sp) (bd : BindsAll x st ps) (hr : Room j X.A) (kj : k ≤ j) (hg : Gl X x) (tk : Takes X (cW G E))
    (ha : AN X G (e :: es) n t) (hdb : (x == ("__debug__" : Str)) = false := by decide) (he : starEach (e :: es) X.env = (false, eval e X.env) :: starEach es X.env := by rfl) (hpl : (backTo pos (starEach es X.env)).any (·.1) = false := by rfl) :
    AE X G (.Call (.Name x p) (e :: es) [] pos) (aCall E sp t) := ae_callO0 gk O bd hr kj hg tk ha.aa ha.ln hdb he hpl
end
abbrev E0 : AExc → AEnv → AH → Prop := fun _ _ _ => False
theorem ok_none {P : Program} {w : World} {K : PySem.W.Frag} {mg : Str → Option Value} {base : Heap} {x : Str} {st : Stmt} {f : Addr} {fd : FuncData} {ps : List Str} {n : Nat} (hm : mg x = some (.ref f)) (F : FunD K x x (defArgs st) (defBody st) (defScope st) [] [] f fd) : Ok P w K mg base x st 0 n ps (fun _ _ _ _ => False) :=
  ⟨fun _ _ _ _ _ _ _ _ z => z, f, fd, hm, F, ⟨fun _ _ _ _ ⟨_, _, _, _, _, _, _, _, z, _⟩ => z.elim, fun _ _ _ _ _ _ _ _ _ _ _ _ _ ⟨_, _, _, _, _, _, _, _, z, _⟩ => z.elim⟩⟩
section
variable {P : Program} {w : World} {K : PySem.W.Frag} {mg : Str → Option Value} {base : Heap} {x : Str} {st : Stmt} {f : Addr} {fd : FuncData} {N ps : List Str} {k n : Nat} {sp : ASp}
theorem Ok.mk' {t : (AExc → AEnv → AH → Prop) → ATS} (sm : SpMono sp) (hm : mg x = some (.ref f)) (F : FunD K x x (defArgs st) (defBody st) (defScope st) [] [] f fd) (S : FnScope N ps (defScope st)) (hn : ps.length = n)
    (hb : ∀ (cdv : Value) (A : Around) (outer : List Env) (s : Shared) (H : Hp) (E : XK) (G : Gx) (E' : AExc → AEnv → AH → Prop), Room k (A.deeper (envOfC x (defScope st) s.heap.objs.size f cdv)) → G.K = K → Takes (bx P w K mg base N x (defScope st) f cdv A outer s H E) (cW G E') →
      ASs (bx P w K mg base N x (defScope st) f cdv A outer s H E) G (defBody st) (t E'))
    (hq : ∀ ws h Qa Ea, ws.length = n → sp ws h Qa Ea → t (excOf Ea) (endsOf Qa) (startA N.length ws) h) : Ok P w K mg base x st (k + 1) n ps sp :=
  ⟨sm, f, fd, hm, F, def_ok [] [] F S hn hb hq⟩
end
end Ab

namespace Ab
open PySem PySem.Spec PyProof.Rows L2 RZ
theorem bo_len : bootBuiltins "len" = some (.builtin "len") := by decide +kernel
theorem bo_sum : bootBuiltins "sum" = some (.builtin "sum") := by decide +kernel
theorem bo_all : bootBuiltins "all" = some (.builtin "all") := by decide +kernel
theorem bo_isinstance : bootBuiltins "isinstance" = some (.builtin "isinstance") := by decide +kernel
theorem bo_tuple : bootBuiltins "tuple" = some (.type "tuple") := by decide +kernel
theorem bo_list : bootBuiltins "list" = some (.type "list") := by decide +kernel
theorem bo_bool : bootBuiltins "bool" = some (.type "bool") := by decide +kernel
theorem bo_int : bootBuiltins "int" = some (.type "int") := by decide +kernel
theorem bo_str : bootBuiltins "str" = some (.type "str") := by decide +kernel
section
variable {X : Cx} {G : Gx}
theorem ae_ty {x : Str} {T : String} {pos : Pos} (hg : Gl X x) (hm : X.mg x = none) (hv : bootBuiltins x = some (.type T)) (hn : x ≠ "__name__" := by decide) (hd : (x == ("__debug__" : Str)) = false := by decide) : AE X G (.Name x pos) (aC (.ty T)) :=
  ae_c (v := V.ty T) (pe_bltn (v := V.ty T) hg hm hv (show _ = _ from rfl) hn hd) fun _ => .ty
variable {elt tg iter : Expr} {ifs : List Expr} {scope : Scope} {own : List (Str × Nat)} {pos : Pos} {ti : AIT} {g : AGT} {tt : ABT} {te : AVT} {sl : List Nat}
theorem ae_lcO (hc : X.calm = true) (hN : X.N.Nodup) (hi : AI X G tg iter ti) (ok : BlkOk X.N X.env.scope scope own) (hsl : ∀ i ∈ sl, i ∈ own.map (·.2))
    (hg : ∀ (s : Shared) (H : Hp) (C : Addr) (cl : List (Str × Addr)) (fp : List Addr), AG (X.blk s H scope (compEnvC scope cl C X.env) fp) G tg sl g) (ht : ∀ (s : Shared) (H : Hp) (C : Addr) (cl : List (Str × Addr)) (fp : List Addr), APs (X.blk s H scope (compEnvC scope cl C X.env) fp) G ifs tt)
    (he : ∀ (s : Shared) (H : Hp) (C : Addr) (cl : List (Str × Addr)) (fp : List Addr), AV (X.blk s H scope (compEnvC scope cl C X.env) fp) G elt te) (hs : ∀ x, foldedSetIterable iter X.env x = pure x := by intro _; rfl) :
    AE X G (.ListComp elt [⟨tg, iter, ifs, 0⟩] scope pos) (aLc (own.map (·.2)) ti g tt te) :=
  ae_lc hc hN hi ok hsl hg ht he (hg X.s_0 X.H_0 0 [] []).mono (ht X.s_0 X.H_0 0 [] []).mono (he X.s_0 X.H_0 0 [] []).mono hs
end
/-! ### all by keywords -/
def gKwG {α : Type} (d : α) (perm : List Nat) (us ws : List α) : List α := if us.isEmpty && ws.length == perm.length then perm.map fun i => ws.getD i d else []
abbrev gKw (perm : List Nat) : List W → List W → List W := gKwG W.non perm
def KwAll (x : Str) (st : Stmt) (ps ks : List Str) (perm : List Nat) : Prop := ∀ (kV doc pm : Value) (an : Option Addr) (cdv ct : Value) (ws : List Value), ws.length = perm.length →
  bindArgs (PySem.W.fnOf x x (defArgs st) (defBody st) (defScope st) .none kV doc pm an cdv ct) ⟨[], ks.zip ws⟩ = pure (ps.zip (perm.map fun i => ws.getD i .none))
theorem RepL.getD' {K : PySem.W.Frag} {H : Hp} : ∀ {ws : List W} {vs : List V} (i : Nat), RepL K H ws vs → Rep K H (ws.getD i .non) (vs.getD i .non)
  | [], vs, i, r => by rw [r.of_nil]; simpa using Rep.non
  | w :: ws, vs, i, r => by
    obtain ⟨v, t, rfl, a, b⟩ := r.of_cons
    cases i with
    | zero => simpa using a
    | succ i => simpa using b.getD' i
theorem Vals.getD' : ∀ {vs : List V} {us : List Value} (i : Nat), Vals vs us → RelV (vs.getD i .non) (us.getD i .none)
  | _, _, i, .nil => by cases i <;> rfl
  | _, _, 0, .cons a b => by simpa using a
  | _, _, i + 1, .cons a b => by simpa using Vals.getD' i b
theorem gKwG_rep {K : PySem.W.Frag} {H : Hp} {perm : List Nat} {ws zs : List W} {vs us : List V} (r : RepL K H ws vs) (q : RepL K H zs us) : RepL K H (gKwG .non perm ws zs) (gKwG .non perm vs us) := by
  unfold gKwG
  have e1 : ws.isEmpty = vs.isEmpty := by
    have := r.length
    cases ws <;> cases vs <;> simp_all
  rw [e1, q.length]
  split
  · clear e1
    induction perm with
    | nil => exact .nil
    | cons i t ih =>
      rename_i hh
      refine .cons (q.getD' i) ?_
      have : ∀ t : List Nat, RepL K H (t.map fun i => zs.getD i .non) (t.map fun i => us.getD i .non) := fun t => by
        induction t with
        | nil => exact .nil
        | cons i t ih => exact .cons (q.getD' i) ih
      exact this t
  · exact .nil
theorem gKwG_vals {perm : List Nat} {vs : List V} {us : List Value} {zs : List V} {ws : List Value} (r : Vals vs us) (q : Vals zs ws) : Vals (gKwG .non perm vs zs) (gKwG .none perm us ws) := by
  unfold gKwG
  have e1 : vs.isEmpty = us.isEmpty := by cases r <;> rfl
  rw [e1, q.length]
  split
  · have : ∀ t : List Nat, Vals (t.map fun i => zs.getD i .non) (t.map fun i => ws.getD i .none) := fun t => by
      induction t with
      | nil => exact .nil
      | cons i t ih => exact .cons (Vals.getD' i q) ih
    exact this perm
  · exact .nil
theorem AKB.all {K : PySem.W.Frag} {x : Str} {st : Stmt} {f : Addr} {fd : FuncData} {ps ks : List Str} {perm : List Nat} (F : FunD K x x (defArgs st) (defBody st) (defScope st) [] [] f fd) (hp : ps.length = perm.length) (h0 : 0 < perm.length) (h : KwAll x st ps ks perm) : Nonempty (AKB K fd ps ks perm.length (gKw perm)) := by
  refine ⟨⟨gKwG .none perm, gKwG .non perm, ⟨fun s us ws X hl => ?_, fun r q => gKwG_vals r q⟩, fun H ws zs vs us _ r q => gKwG_rep r q⟩⟩
  obtain ⟨oc, od, dV, kV, doc, pm, an, cdv, ct, osl, rfl, lk, hcd, hD, hK⟩ := F.ex
  rcases hD with ⟨_, rfl⟩ | ⟨e, _⟩
  · unfold gKwG at hl ⊢
    split at hl
    · rename_i hc
      rw [if_pos hc]
      simp only [Bool.and_eq_true, List.isEmpty_iff, beq_iff_eq] at hc
      rw [hc.1]
      exact .of_eq (h kV doc pm an cdv ct ws hc.2)
    · rw [hp] at hl
      exact absurd hl (by simp; omega)
  · exact absurd rfl e
section
variable {X : Cx} {G : Gx} {sp : ASp} {st : Stmt} {k j : Nat} {ps ks : List Str} {x : Str} {p pos : Pos} {kws : List Keyword} {tk : AAT} {E : AExc → AEnv → AH → Prop} {perm : List Nat}
theorem ae_callKO (gk : G.K = X.K) (O : Ok X.prog X.w X.K X.mg X.base x st k perm.length ps sp) (kw : KwAll x st ps ks perm) (hr : Room j X.A) (kj : k ≤ j) (hg : Gl X x) (tkk : Takes X (cW G E)) (hkw : AK X G kws tk)
    (hp : ps.length = perm.length := by rfl) (h0 : 0 < perm.length := by decide) (hall : (backToKw pos (keywordEach kws X.env)).all (·.1.isSome) = true := by rfl) (hks : (backToKw pos (keywordEach kws X.env)).filterMap (·.1) = ks := by rfl) (hdb : (x == ("__debug__" : Str)) = false := by decide)
    (hpl : ((backTo pos (starEach [] X.env)).any (·.1) || (backToKw pos (keywordEach kws X.env)).any (·.1.isNone)) = false := by rfl) :
    AE X G (.Call (.Name x p) [] kws pos) (aCallK E sp perm.length (gKw perm) aNil tk) := by
  obtain ⟨f, fd, hm, FD, F⟩ := O.ex
  obtain ⟨kb⟩ := AKB.all FD hp h0 kw
  exact ae_callK0 (G := G) gk (gk ▸ F) O.m (hr.mono kj) hg hm FD.kp kb tkk hkw hall hks hdb hpl
end
theorem Ok.up {P : Program} {w : World} {K : PySem.W.Frag} {mg : Str → Option Value} {base : Heap} {x : Str} {st : Stmt} {ps : List Str} {k k' n : Nat} {sp sp' : ASp} (O : Ok P w K mg base x st k n ps sp) (h : k ≤ k') (m : SpMono sp') (i : ∀ ws h Q E, sp' ws h Q E → sp ws h Q E) : Ok P w K mg base x st k' n ps sp' := by
  obtain ⟨f, fd, hm, FD, F⟩ := O.ex
  exact ⟨m, f, fd, hm, FD, (F.imp fun vs H Q E ⟨ws, h, Qa, Ea, hl, hp, tb, r, q, z⟩ => ⟨ws, h, Qa, Ea, hl, hp, tb, r, i _ _ _ _ q, z⟩).mono h⟩
end Ab

namespace Ab
open PySem PySem.Spec PyProof.Rows L2 RZ
/-! ### a, *b = v -/
section
variable {P : Program} {w : World} {A : Around} {E : Value → Shared → Prop}
end
section
variable {X : Cx} {G : Gx} {e t1 t2 : Expr} {sp pos tpos : Pos} {kk : Nat}
end
end Ab

namespace Ab
open PySem PySem.Spec PyProof.Rows L2 RZ
/-! ### first, *rest = e -/
def aStar (i j : Nat) (tv : AVT) : ATS := fun D env h => tv env h fun w env1 h1 => match w with
  | .tup (x :: r) => D.nx ((env1.set i (some (.val x))).set j (some (.own (.seq r)))) h1
  | .lst (x :: r) => D.nx ((env1.set i (some (.val x))).set j (some (.own (.seq r)))) h1
  | _ => False
section
variable {X : Cx} {G : Gx} {e : Expr} {tv : AVT} {px py sp pos tpos : Pos} {kk i j : Nat} {x y : Str}
theorem aStar.mono (m : Mono tv) : MonoS (aStar i j tv) := fun D D' env h l q => m env h _ _ (fun w env1 h1 z => by
  split at z
  · exact l.nx _ _ z
  · exact l.nx _ _ z
  · exact z) q
end
/-- what the proof never comes to -/
def aNever : ATS := fun _ _ _ => False
theorem as_never {X : Cx} {G : Gx} {st : Stmt} : AS X G st aNever := ⟨fun _ _ _ _ _ z => z, PS.imp ps_never fun _ _ _ ⟨_, _, _, _, z, _⟩ => z.elim⟩
/-! ### globals -/
theorem ae_gint {X : Cx} {G : Gx} {x : Str} {i : Int} {pos : Pos} (hg : Gl X x) (hm : ∃ t, X.mg x = some (.int i t)) (hd : (x == ("__debug__" : Str)) = false := by decide) : AE X G (.Name x pos) (aC (.int i)) := by
  obtain ⟨t, hm⟩ := hm
  exact ae_c (v := .int i) (pe_glob (v := .int i) hg hm ⟨t, rfl⟩ hd) fun _ => .int
end Ab

namespace Ab
open PySem PySem.Spec PyProof.Rows L2 RZ
open Sem (wp)
/-! ### enumerate of anything whose iterator is known -/
/-- iter(v): the iterator it hp, in the heap nx hp -/
structure Itr (v : Value) (C : Heap → Prop) (at_ : Heap → Addr) (nx : Heap → Heap) : Prop where
  go : ∀ (P : Program) (w : World) (A : Around) (E : Value → Shared → Prop) (s : Shared) (Q : Value → Shared → Prop), C s.heap → Q (.ref (at_ s.heap)) { s with heap := nx s.heap } → wpAny (model P w) A (pyIter v) Q E s
abbrev enObj (it : Addr) : Obj := { cls := .type "enumerate", data := .fields #[.none, .bool false, .ref it, rawInt 0, .none, .none] }
theorem en_meets {v : Value} {C : Heap → Prop} {at_ : Heap → Addr} {nx : Heap → Heap} (B : Itr v C at_ nx) :
    Meets (Builtin.«enumerate.__new__» ⟨[.type "enumerate", v], []⟩) (fun _ R s => C s.heap ∧ R (.ok (.ret (.ref (nx s.heap).objs.size))) { s with heap := (nx s.heap).push (enObj (at_ s.heap)) }) :=
  .of_wp fun P w A R s h => by
    obtain ⟨hp, gs, dr, tk, os⟩ := s
    obtain ⟨c1, h⟩ := h
    have hsub := sub_enumerate
    have step : ∀ {B' : Around} {E : Value → Shared → Prop} {Q : Value → Shared → Prop}, Q (.ref (at_ hp)) ⟨nx hp, gs, dr, tk, os⟩ → wpAny (model P w) B' (pyIter v) Q E ⟨hp, gs, dr, tk, os⟩ :=
      fun q => B.go P w _ _ ⟨hp, gs, dr, tk, os⟩ _ c1 q
    wp_walk using step
    refine wpAny_stack_any fun st => wpAny_pure ?_
    split
    · rename_i c _ _ _ _ _
      cases (c == Value.type "enumerate") <;> (wp_walk using step; exact ⟨_, rfl, h⟩)
    · wp_walk using step
      exact ⟨_, rfl, h⟩
section
variable {P : Program} {w : World} {A : Around} {E : Value → Shared → Prop} {s : Shared}
theorem en_call {v : Value} {C : Heap → Prop} {at_ : Heap → Addr} {nx : Heap → Heap} (B : Itr v C at_ nx) (c : C s.heap) {Q : Value → Shared → Prop}
    (h : ∀ h', h' = (nx s.heap).push (enObj (at_ s.heap)) → IsEnum h' (nx s.heap).objs.size (at_ s.heap) 0 .none → Q (.ref (nx s.heap).objs.size) { s with heap := h' }) :
    wpAny (model P w) A (call (.type "enumerate") [v]) Q E s := by
  refine callType_new F.called_enumerate (by decide) (F.typeCall_enumerate_1 _) (F.newCall_enumerate_1 _) (fun obj => F.args_object_init_2 obj _) F.entry_enumerate_new (en_meets B) ⟨c, ?_⟩
  have g : IsEnum ((nx s.heap).push (enObj (at_ s.heap))) (nx s.heap).objs.size (at_ s.heap) 0 .none := Heap.get?_push_size _ rfl
  exact ⟨⟨_, g, rfl⟩, h _ rfl g⟩
end
theorem itr_tuple (a : Addr) (xs : Array Value) : Itr (.ref a) (fun h => h.IsTuple a xs) (fun h => h.objs.size) (fun h => h.push { cls := .type "tuple_iterator", data := .fields #[.ref a, .int 0 0] }) :=
  ⟨fun P w A E s Q c q => wpAny_pyIter_tuple c q⟩
theorem itr_list (a : Addr) (xs : Array Value) : Itr (.ref a) (fun h => h.IsList a xs) (fun h => h.objs.size) (fun h => h.push { cls := .type "list_iterator", data := .fields #[.ref a, .int 0 0] }) :=
  ⟨fun P w A E s Q c q => wpAny_pyIter_list c q⟩
/-- the tuple's items, each in a new pair with its number -/
def IteT (K : PySem.W.Frag) (a : Addr) : It :=
  ⟨fun i H => ∃ (xs : List V) (x : V), SqT K H a xs ∧ xs[i]? = some x, fun i H v H' => ∃ T x, v = .ref T ∧ H T = none ∧ H' = upd H T (.tup [.int (i : Nat), x]) ∧ ∀ xs, SqT K H a xs → xs[i]? = some x, fun i H => ∃ xs : List V, SqT K H a xs ∧ xs.length ≤ i⟩
theorem turn_enT {P : Program} {w : World} {K : PySem.W.Frag} {elts : List Expr} {kk : Nat} {tpos : Pos} (a en it : Addr) :
    Turn P w K (.Tuple elts kk tpos) (IteT K a) [en, it] en (fun i h => (∃ old, IsEnum h en it ((i : Nat) : Int) old) ∧ h.IsTupleIter it a i ∧ en ≠ it) where
  mem := by simp
  obj := fun i h st b hb => by
    obtain ⟨⟨old, g⟩, ⟨o, ho, hc, hd⟩, _⟩ := st
    rcases (show b = en ∨ b = it by simpa using hb) with z | z
    · rw [z]; exact ⟨_, g, fun v q => nomatch q⟩
    · rw [z]; exact ⟨o, ho, fun v q => by rw [hd] at q; cases q⟩
  keep := fun i h h' ⟨⟨old, g⟩, hi, ne⟩ k => ⟨⟨old, k en (by simp) _ g⟩, hi.at fun o q => k it (by simp) o q, ne⟩
  item := by
    intro X hP hw hK hc i pins s σ H E I hf ⟨⟨old, g⟩, hit, ne⟩ ⟨xs, x, hq, hx⟩
    subst hP hw hK
    obtain ⟨its, rv, tp, hz⟩ := I.tuple hq
    obtain ⟨u, hu, ru⟩ := rv.get hx
    have hel : en < s.heap.objs.size := Heap.lt_size g
    have hil : it < s.heap.objs.size := by obtain ⟨_, q, _⟩ := hit; exact Heap.lt_size q
    have ai : a ≠ it := fun z => by
      obtain ⟨o1, e1, c1, _⟩ := tp
      obtain ⟨o2, e2, c2, _⟩ := hit
      rw [z, e2] at e1
      cases e1
      rw [c2] at c1
      exact absurd (Value.type.inj c1) (by decide)
    have ae : en ∉ [it, a] := fun z => by
      rcases (show en = it ∨ en = a by simpa using z) with z | z
      · exact ne z
      · obtain ⟨o1, e1, c1, _⟩ := tp
        rw [← z] at e1
        rw [show s.heap.get? en = _ from g] at e1
        cases e1
        exact absurd (Value.type.inj c1) (by decide)
    have hlt : i < its.toArray.size := by
      have := (List.getElem?_eq_some_iff.mp hu).1
      simpa using this
    refine wpAny_pyNext_enum_itemD (Draws.tuple (show X.A.in1.handled = none from I.ok.hd hc) it a ai its.toArray) g ⟨hit, tp⟩ hlt ne ae fun y h1 tk py out st2 hT hsz keep => ?_
    have ey : y = u := by
      have py : its.toArray[i]? = some y := py
      have : its[i]? = some y := by simpa using py
      rw [hu] at this
      exact (Option.some.inj this).symm
    subst ey
    refine ⟨_, rfl, wpAny_letOwnedTupleGo_enum (s := { s with heap := h1, toks := tk + 1 }) out fun h2 g2 sb => ?_⟩
    have hT2 : h2.get? s.heap.objs.size = some { cls := .type "tuple", data := .seq #[.int i tk, y] } := (sb.2 _ (Nat.ne_of_gt hel)).trans hT
    have new : ObjOk X.prog X.w (upd H s.heap.objs.size (.tup [.int (i : Nat), x])) h2 s.heap.objs.size (.tup [.int (i : Nat), x]) :=
      ⟨by show 2 ≤ sizeLine; decide, [.int i tk, y], .cons ⟨_, rfl⟩ (.cons ru .nil), ⟨_, hT2, rfl, _, rfl⟩⟩
    have I1 : Inv X pins σ (upd H s.heap.objs.size (.tup [.int (i : Nat), x])) { s with heap := h2, toks := tk + 1 } :=
      I.turnedNew (ch := [en, it]) (fun b ob hb q => (sb.2 b (fun z => hb (by simp [z]))).trans (keep b ob (fun z => hb (by simp [z])) (fun z => hb (by simp [z])) q)) hf (Nat.le_refl _) new
    refine ⟨.ref s.heap.objs.size, _, I1, rfl, ⟨_, x, rfl, I.hok.fresh (Nat.le_refl _), rfl, fun ys hy => by rw [I.tuple_inj hy hq]; exact hx⟩, ⟨⟨y, ?_⟩, st2.1.at fun o q => (sb.2 it (Ne.symm ne)).trans q, ne⟩, fun b hb => ?_⟩
    · rw [show ((i + 1 : Nat) : Int) = (i : Int) + 1 by omega]; exact g2
    · have lt : b < s.heap.objs.size := by
        rcases (show b = en ∨ b = it by simpa using hb) with z | z
        · rw [z]; exact hel
        · rw [z]; exact hil
      rw [upd_ne (Nat.ne_of_lt lt)]
      exact (hf b hb).1
  done := by
    intro X hP hw hK hc i pins s σ H E I hf ⟨⟨old, g⟩, hit, ne⟩ ⟨xs, hq, hx⟩
    subst hP hw hK
    obtain ⟨its, rv, tp, hz⟩ := I.tuple hq
    obtain ⟨f0, f1, f2, f3, f4, f5⟩ := hf it (by simp)
    have ai : a ≠ it := fun z => by
      obtain ⟨o1, e1, c1, _⟩ := tp
      obtain ⟨o2, e2, c2, _⟩ := hit
      rw [z, e2] at e1
      cases e1
      rw [c2] at c1
      exact absurd (Value.type.inj c1) (by decide)
    have hn : its.toArray[i]? = none := by
      have := rv.length
      rw [Array.getElem?_eq_none_iff]
      simp
      omega
    have D : Draws X.prog X.w X.A.in1 it [it, a] i (fun _ _ => False) (fun j h => j = i ∧ h.IsTupleIter it a i ∧ h.IsTuple a its.toArray) :=
      ⟨fun j h ⟨_, ⟨o, ho, _⟩, _⟩ => ⟨o, ho⟩, fun j h h' ⟨e, x1, x2⟩ k => ⟨e, x1.at fun o q => k it (by simp) o q, x2.at fun o q => k a (by simp) o q⟩, fun j t Q E lt ⟨e, _⟩ => absurd lt (by rw [e]; exact Nat.lt_irrefl _),
        fun t Q E ⟨_, x1, x2⟩ hE => wpAny_nextOf_tuple_end (show X.A.in1.handled = none from I.ok.hd hc) x1 x2 hn hE⟩
    exact wpAny_pyNext_enum_endD D g ⟨rfl, hit, tp⟩ fun h' eb => ⟨rfl, I.turned (t' := s.toks) (fun b o hb q => eb b o hb q) f0 f1 f3 f4 f5⟩
  self := fun A i s Q E ⟨⟨_, g⟩, _⟩ q => wpAny_pyIter_enum g q
def iEnA (K : PySem.W.Frag) (ta : TA) : TI := fun σ H R => ta σ H fun vs H1 => ∃ a xs, vs = [.ref a] ∧ ((SqT K H1 a xs ∧ R (IteT K a) H1) ∨ (SqL K H1 a xs ∧ R (Ite K a) H1))
theorem pi_enA {X : Cx} {e : Expr} {ta : TA} {p pos tpos : Pos} {elts : List Expr} {kk : Nat} (hg : Gl X "enumerate") (hm : X.mg "enumerate" = none) (ha : PA X [e] ta) (hs : starEach [e] X.env = [(false, eval e X.env)] := by rfl) :
    PI X (.Tuple elts kk tpos) (.Call (.Name "enumerate" p) [e] [] pos) (iEnA X.K ta) := by
  refine ⟨fun pins s σ H R I h => ?_⟩
  refine Call_ (ld_blt I hg hm boot_enumerate (PyProof.Rows.callWith_type1 (thn (ha.run pos pins s σ H _ I h) fun us s1 ⟨vs, H1, I1, r1, a, xs, ex, hqq⟩ => ?_) hs rfl))
  subst ex
  cases r1 with
  | cons r rr =>
    cases rr
    cases r
    rcases hqq with ⟨hq, q⟩ | ⟨hq, q⟩
    · obtain ⟨its, rv, tp, hz⟩ := I1.tuple hq
      refine en_call (itr_tuple a its.toArray) tp fun h' eh g => wpAny_pyIter_enum g ?_
      have sz : (s1.heap.push { cls := .type "tuple_iterator", data := .fields #[.ref a, .int 0 0] }).objs.size = s1.heap.objs.size + 1 := Heap.size_push ..
      have I2 : Inv X pins σ H1 { s1 with heap := h' } := I1.kept (t' := s1.toks) fun b o y => by rw [eh]; exact Heap.get?_push_of_some _ (Heap.get?_push_of_some _ y)
      have hit : h'.IsTupleIter s1.heap.objs.size a 0 := ⟨_, by rw [eh]; exact Heap.get?_push_of_some _ (Heap.get?_push_size _ rfl), rfl, rfl⟩
      rw [sz] at g ⊢
      refine ⟨s1.heap.objs.size + 1, [s1.heap.objs.size + 1, s1.heap.objs.size], _, _, H1, rfl, I2, turn_enT a (s1.heap.objs.size + 1) s1.heap.objs.size, ⟨⟨.none, g⟩, hit, Nat.succ_ne_self _⟩, fun b hb => ?_, q⟩
      have le : s1.heap.objs.size ≤ b := by
        rcases (show b = s1.heap.objs.size + 1 ∨ b = s1.heap.objs.size by simpa using hb) with z | z
        · rw [z]; exact Nat.le_succ _
        · rw [z]; exact Nat.le_refl _
      exact I1.fpOk le (I1.hok.fresh le)
    · obtain ⟨its, rv, tp, hz⟩ := I1.list hq
      refine en_call (itr_list a its.toArray) tp.isList fun h' eh g => wpAny_pyIter_enum g ?_
      have sz : (s1.heap.push { cls := .type "list_iterator", data := .fields #[.ref a, .int 0 0] }).objs.size = s1.heap.objs.size + 1 := Heap.size_push ..
      have I2 : Inv X pins σ H1 { s1 with heap := h' } := I1.kept (t' := s1.toks) fun b o y => by rw [eh]; exact Heap.get?_push_of_some _ (Heap.get?_push_of_some _ y)
      have hit : h'.IsListIter s1.heap.objs.size a 0 := ⟨_, by rw [eh]; exact Heap.get?_push_of_some _ (Heap.get?_push_size _ rfl), rfl, rfl⟩
      rw [sz] at g ⊢
      refine ⟨s1.heap.objs.size + 1, [s1.heap.objs.size + 1, s1.heap.objs.size], _, _, H1, rfl, I2, turn_enum a (s1.heap.objs.size + 1) s1.heap.objs.size, ⟨⟨.none, g⟩, hit, Nat.succ_ne_self _⟩, fun b hb => ?_, q⟩
      have le : s1.heap.objs.size ≤ b := by
        rcases (show b = s1.heap.objs.size + 1 ∨ b = s1.heap.objs.size by simpa using hb) with z | z
        · rw [z]; exact Nat.le_succ _
        · rw [z]; exact Nat.le_refl _
      exact I1.fpOk le (I1.hok.fresh le)
/-! ### the abstract rule -/
section
variable {K : PySem.W.Frag}
def enW (ws : List W) : List W := (List.range ws.length).map fun (i : Nat) => W.tup [.int (i : Int), ws.getD i .non]
theorem enW_get {ws : List W} {i : Nat} {w : W} (h : (enW ws)[i]? = some w) : ∃ u, ws[i]? = some u ∧ w = .tup [.int i, u] := by
  unfold enW at h
  rw [List.getElem?_map] at h
  cases q : (List.range ws.length)[i]? with
  | none => rw [q] at h; cases h
  | some j =>
    rw [q] at h
    obtain ⟨hj, e⟩ := List.getElem?_eq_some_iff.mp q
    simp at hj e
    subst e
    cases h
    exact ⟨ws[i], List.getElem?_eq_getElem hj, by simp [List.getD_eq_getElem?_getD, hj]⟩
theorem enW_len {ws : List W} : (enW ws).length = ws.length := by simp [enW]
theorem gives_enT {H : Hp} {a : Addr} {ws : List W} {vs : List V} (l : SqT K H a vs) (r : RepL K H ws vs) : Gives K (IteT K a) H (enW ws) := fun H' k i => by
  refine ⟨fun h => ⟨vs, k.sqT l, by rw [← r.length]; rw [enW_len] at h; exact h⟩, fun w e => ?_⟩
  obtain ⟨u, eu, rfl⟩ := enW_get e
  obtain ⟨v, ev, rv⟩ := r.get eu
  refine ⟨⟨vs, v, k.sqT l, ev⟩, fun x H2 ⟨T, y, ex, nT, e2, f⟩ => ?_⟩
  subst ex e2
  have ey : y = v := Option.some.inj ((f vs (k.sqT l)).symm.trans ev)
  subst ey
  have nw : New H' (upd H' T (.tup [.int (i : Nat), y])) := New.upd nT
  exact ⟨nw, .tup (.inl upd_same) (.cons .int (.cons (Rep.mono (k.trans nw.keeps) _ _ rv) .nil))⟩
theorem gives_enL {H : Hp} {a : Addr} {ws : List W} {vs : List V} (l : LsF H a vs) (r : RepL K H ws vs) : Gives K (Ite K a) H (enW ws) := fun H' k i => by
  have l' := (k.lsF l).sq (K := K)
  refine ⟨fun h => ⟨vs, l', by rw [← r.length]; rw [enW_len] at h; exact h⟩, fun w e => ?_⟩
  obtain ⟨u, eu, rfl⟩ := enW_get e
  obtain ⟨v, ev, rv⟩ := r.get eu
  refine ⟨⟨vs, v, l', ev⟩, fun x H2 ⟨T, y, ex, nT, e2, f⟩ => ?_⟩
  subst ex e2
  have ey : y = v := Option.some.inj ((f vs l').symm.trans ev)
  subst ey
  have nw : New H' (upd H' T (.tup [.int (i : Nat), y])) := New.upd nT
  exact ⟨nw, .tup (.inl upd_same) (.cons .int (.cons (Rep.mono (k.trans nw.keeps) _ _ rv) .nil))⟩
end
def iEn (t : AVT) : AIT := fun env h Q => t env h fun w env' h' => match w with
  | .tup ws => Q (enW ws) env' h'
  | .lst ws => Q (enW ws) env' h'
  | _ => False
section
variable {X : Cx} {G : Gx} {e : Expr} {tv : AVT} {p pos tpos : Pos} {elts : List Expr} {kk : Nat}
theorem iEn.mono (m : Mono tv) : Mono (iEn tv) := fun env h Q Q' k q => m env h _ _ (fun w e g z => by
  split at z
  · exact k _ _ _ z
  · exact k _ _ _ z
  · exact z) q
theorem ai_enum (gk : G.K = X.K) (hg : Gl X "enumerate") (hm : X.mg "enumerate" = none) (ha : AV X G e tv) (hs : starEach [e] X.env = [(false, eval e X.env)] := by rfl) : AI X G (.Tuple elts kk tpos) (.Call (.Name "enumerate" p) [e] [] pos) (iEn tv) := by
  have pa : PA X [e] (cA G (aCons tv aNil)) := (aa_cons (es := []) ha aa_nil hs).pa
  refine ⟨iEn.mono ha.mono, PI.imp (pi_enA hg hm pa hs) fun σ H R ⟨env, h, S, q⟩ => ⟨env, h, S, ha.mono env h _ _ (fun w e g z vs H1 S1 x1 r1 => ?_) q⟩⟩
  obtain ⟨v, t, rfl, r2, r3⟩ := r1.of_cons
  rw [r3.of_nil]
  split at z
  · obtain ⟨a, xs, ev, hq, rl⟩ := Rep.of_tup (K := G.K) (H := H1) r2
    subst ev
    exact ⟨a, xs, rfl, .inl ⟨gk ▸ hq, z _ H1 S1 x1 (gk ▸ gives_enT hq rl)⟩⟩
  · obtain ⟨a, xs, ev, hq, rl⟩ := Rep.of_lst (K := G.K) (H := H1) r2
    subst ev
    exact ⟨a, xs, rfl, .inr ⟨hq.sq, z _ H1 S1 x1 (gk ▸ gives_enL hq rl)⟩⟩
  · exact z.elim
end
end Ab

namespace Ab
open PySem PySem.Spec PyProof.Rows L2 RZ
open Sem (wp)
/-! ### a zip whose pair may still be held by another -/
abbrev ZpAt (h : Heap) (z TI TO : Addr) (f0 f1 : Value) : Prop := h.get? z = some { cls := .type "zip", dict := none, data := .fields #[f0, f1, .bool false, .ref TI, .ref TO], slots := #[] }
def ZpF (f0 f1 : Value) : Prop := (f0 = .none ∨ ∃ T : Nat, f0 = rawInt T) ∧ (f1 = .bool false ∨ f1 = .bool true)
section
variable {P : Program} {w : World} {A : Around} {E : Value → Shared → Prop} {s : Shared} {z TI TO i1 i2 : Addr} {fp1 fp2 : List Addr} {n1 n2 i : Nat} {P1 P2 : Nat → Value → Prop} {St1 St2 : Nat → Heap → Prop} {a1 a2 f0 f1 : Value}
theorem zp_free {Q : Bool → Shared → Prop} (hz : ZpAt s.heap z TI TO f0 f1) (hf : ZpF f0 f1) (yes : Q true s) (no : ∀ h' f, ZpAt h' z TI TO f0 f → ZpF f0 f → Heap.SameBut z s.heap h' → Q false { s with heap := h' }) :
    wpAny (model P w) A (Builtin.SmallTypes.ownedTupleIsFree (.ref z)) Q E s := by
  obtain ⟨hp, gs, dr, tk, os⟩ := s
  unfold Builtin.SmallTypes.ownedTupleIsFree
  obtain ⟨e0, e1⟩ := hf
  rcases e0 with rfl | ⟨T, rfl⟩
  · exact wpAny_bind (wpAny_field hz rfl (x := .none) rfl (wpAny_pure yes))
  · refine wpAny_bind (wpAny_field hz rfl (x := rawInt T) rfl ?_)
    show wpAny _ _ (loadIfAlive (Int.toNat (T : Int)) >>= _) _ _ _
    rw [Int.toNat_natCast]
    have alive : ∀ {R : Option Obj → Shared → Prop}, R (hp.get? T) ⟨hp, gs, dr, tk, os⟩ → wpAny (model P w) A (loadIfAlive T) R E ⟨hp, gs, dr, tk, os⟩ := fun r _ _ _ => r
    refine wpAny_bind (alive ?_)
    cases hp.get? T with
    | none =>
      show wpAny _ _ (pure true) _ _ _
      exact wpAny_pure yes
    | some o =>
      show wpAny _ _ (field (.ref z) 1 >>= fun f => _) _ _ _
      refine wpAny_bind (wpAny_field hz rfl (x := f1) rfl ?_)
      rcases e1 with rfl | rfl
      · rw [if_pos (show (Value.bool false != Value.bool true) = true from rfl)]
        exact wpAny_bind (wpAny_setField_rec hz (by simp) fun h' hz' sb => wpAny_pure (no h' _ hz' ⟨.inr ⟨T, rfl⟩, .inr rfl⟩ sb))
      · rw [if_neg (show ¬ ((Value.bool true != Value.bool true) = true) from Bool.false_ne_true)]
        exact wpAny_pure (no hp _ hz ⟨.inr ⟨T, rfl⟩, .inr rfl⟩ (Heap.SameBut.refl _ _))
theorem zn_item {Q : Value → Shared → Prop} (S : ZipSep2 z TI TO i1 i2 fp1 fp2) (D1 : Draws P w A i1 fp1 n1 P1 St1) (D2 : Draws P w A i2 fp2 n2 P2 St2)
    (hz : ZpAt s.heap z TI TO f0 f1) (hf : ZpF f0 f1) (hTI : IsTupOf2 s.heap TI (.ref i1) (.ref i2)) (hTO : IsTupOf2 s.heap TO a1 a2) (st1 : St1 i s.heap) (st2 : St2 i s.heap) (lt1 : i < n1) (lt2 : i < n2)
    (hQ : ∀ x1 x2 h' tk g0 g1 b1 b2, P1 i x1 → P2 i x2 → ZpAt h' z TI TO g0 g1 → ZpF g0 g1 → IsTupOf2 h' TO b1 b2 → St1 (i + 1) h' → St2 (i + 1) h' → IsTupOf2 h' s.heap.objs.size x1 x2 → h'.objs.size = s.heap.objs.size + 1 →
      (∀ c o, c ≠ z → c ≠ TO → c ≠ i1 → c ≠ i2 → s.heap.get? c = some o → h'.get? c = some o) → Q (.ref s.heap.objs.size) { s with heap := h', toks := tk }) :
    wpAny (model P w) A (Builtin.«zip.__next__» ⟨[.ref z], []⟩) (fun fin s' => ∃ v, fin = .done (.ret v) ∧ Q v s') E s := by
  obtain ⟨hp, gs, dr, tk0, os⟩ := s
  show wpAny _ _ (field (.ref z) 2 >>= _) _ _ _
  refine wpAny_bind (wpAny_field hz rfl (x := .bool false) rfl ?_)
  show wpAny _ _ (field (.ref z) 3 >>= _) _ _ _
  refine wpAny_bind (wpAny_field hz rfl (x := .ref TI) rfl ?_)
  refine wpAny_bind (wpAny_seqItems hTI rfl ?_)
  show wpAny _ _ (Builtin.SmallTypes.ownedTupleIsFree (.ref z) >>= _) _ _ _
  refine wpAny_bind (zp_free hz hf ?_ fun k0 f kz kf sb => ?_)
  · simp only [if_true]
    refine wpAny_bind (wpAny_rule ?_)
    refine wpAny_bind (wpAny_field hz rfl (x := .ref TO) rfl ?_)
    refine wpAny_bind (wpAny_setField_rec hz (by simp) fun q0 zq0 sq0 => ?_)
    replace zq0 : ZpAt q0 z TI TO .ellipsis f1 := zq0
    replace sq0 : Heap.SameBut z hp q0 := sq0
    refine wpAny_bind ?_
    simp only [List.zipIdx_cons, List.zipIdx_nil, List.forIn_cons, List.forIn_nil]
    refine wpAny_bind (wpAny_bind (wpAny_onRaise ?_))
    show wpAny _ _ (Builtin.SmallTypes.nextOf (.ref i1) >>= _) _ _ ⟨q0, gs, dr, tk0, os⟩
    refine wpAny_bind (D1.item i _ _ _ lt1 (D1.over st1 sq0 S.zf1) fun x1 r1 tk1 px1 n1 sr1 => wpAny_pure ?_)
    replace sr1 : Heap.SameBut i1 q0 r1 := sr1
    have u1 : IsTupOf2 r1 TO a1 a2 := sr1.extBut _ _ S.Ti1 (sq0.extBut _ _ S.TOz hTO)
    refine wpAny_bind (wpAny_seqItems (s := ⟨r1, gs, dr, tk1, os⟩) u1 rfl ?_)
    refine wpAny_bind (updateSeq_IsTupOf2 (s := ⟨r1, gs, dr, tk1, os⟩) u1 fun q1 w1 sq1 => ?_)
    replace w1 : IsTupOf2 q1 TO x1 a2 := w1
    replace sq1 : Heap.SameBut TO r1 q1 := sq1
    refine wpAny_bind (wpAny_letGo (wpAny_pure ?_))
    refine wpAny_bind (wpAny_bind (wpAny_onRaise ?_))
    show wpAny _ _ (Builtin.SmallTypes.nextOf (.ref i2) >>= _) _ _ ⟨q1, gs, dr, tk1, os⟩
    refine wpAny_bind (D2.item i _ _ _ lt2 (D2.over (D2.over (D2.over st2 sq0 S.zf2) sr1 S.sep1_2) sq1 S.Tf2) fun x2 r2 tk2 px2 n2 sr2 => wpAny_pure ?_)
    replace sr2 : Heap.SameBut i2 q1 r2 := sr2
    have u2 : IsTupOf2 r2 TO x1 a2 := sr2.extBut _ _ S.Ti2 w1
    refine wpAny_bind (wpAny_seqItems (s := ⟨r2, gs, dr, tk2, os⟩) u2 rfl ?_)
    refine wpAny_bind (updateSeq_IsTupOf2 (s := ⟨r2, gs, dr, tk2, os⟩) u2 fun q2 w2 sq2 => ?_)
    replace w2 : IsTupOf2 q2 TO x1 x2 := w2
    replace sq2 : Heap.SameBut TO r2 q2 := sq2
    refine wpAny_bind (wpAny_letGo (wpAny_pure (wpAny_pure ?_)))
    refine wpAny_bind (wpAny_seqItems (s := ⟨q2, gs, dr, tk2, os⟩) w2 rfl ?_)
    refine wpAny_bind (wpAny_newTuple ?_)
    have sz2 : q2.objs.size = hp.objs.size := by rw [sq2.1, sr2.1, sq1.1, sr1.1, sq0.1]
    have zz2 : ZpAt q2 z TI TO .ellipsis f1 := (sq2.extBut _ _ S.TOz.symm (sr2.extBut _ _ S.zi2 (sq1.extBut _ _ S.TOz.symm (sr1.extBut _ _ S.zi1 zq0))))
    have kept : ∀ c o, c ≠ z → c ≠ TO → c ≠ i1 → c ≠ i2 → hp.get? c = some o → q2.get? c = some o := fun c o cz cT c1 c2 e =>
      (sq2.extBut _ _ cT (sr2.extBut _ _ c2 (sq1.extBut _ _ cT (sr1.extBut _ _ c1 (sq0.extBut _ _ cz e)))))
    have j1 : St1 (i + 1) q2 := (D1.over (D1.over (D1.over n1 sq1 S.Tf1) sr2 S.sep2_1) sq2 S.Tf1)
    have j2 : St2 (i + 1) q2 := (D2.over n2 sq2 S.Tf2)
    have zlt : z < q2.objs.size := Heap.lt_size zz2
    show wpAny _ _ (Builtin.SmallTypes.ownedTupleHandOut (.ref z) (.ref q2.objs.size) >>= _) _ _ ⟨q2.push { cls := .type "tuple", data := .seq #[x1, x2] }, gs, dr, tk2, os⟩
    refine wpAny_bind ?_
    unfold Builtin.SmallTypes.ownedTupleHandOut
    have z6 : ZpAt (q2.push { cls := .type "tuple", data := .seq #[x1, x2] }) z TI TO .ellipsis f1 := Heap.get?_push_of_some _ zz2
    refine wpAny_bind (wpAny_setField_rec z6 (by simp) fun q7 z7 s7 => ?_)
    replace z7 : ZpAt q7 z TI TO (rawInt q2.objs.size) f1 := z7
    refine wpAny_setField_rec z7 (by simp) fun q8 z8 s8 => ?_
    replace z8 : ZpAt q8 z TI TO (rawInt q2.objs.size) (.bool false) := z8
    replace s7 : Heap.SameBut z (q2.push { cls := .type "tuple", data := .seq #[x1, x2] }) q7 := s7
    replace s8 : Heap.SameBut z q7 q8 := s8
    have up : ∀ c o, c ≠ z → q2.get? c = some o → q8.get? c = some o := fun c o c1 e => s8.extBut _ _ c1 (s7.extBut _ _ c1 (Heap.get?_push_of_some _ e))
    have t8 : IsTupOf2 q8 q2.objs.size x1 x2 := s8.extBut _ _ (Nat.ne_of_gt zlt) (s7.extBut _ _ (Nat.ne_of_gt zlt) (Heap.get?_push_size _ rfl))
    have sz8 : q8.objs.size = q2.objs.size + 1 := by rw [s8.1, s7.1, Heap.size_push]
    rw [sz2] at z8 t8 sz8
    refine wpAny_pure ⟨_, rfl, ?_⟩
    show Q (.ref q2.objs.size) ⟨q8, gs, dr, tk2, os⟩
    rw [sz2]
    exact hQ x1 x2 q8 tk2 _ _ _ _ px1 px2 z8 ⟨.inr ⟨_, rfl⟩, .inl rfl⟩ (up _ _ S.TOz w2) (D1.frame _ _ _ j1 fun b hb o e => up b o (fun q => S.zf1 (q ▸ hb)) e) (D2.frame _ _ _ j2 fun b hb o e => up b o (fun q => S.zf2 (q ▸ hb)) e) t8 sz8 fun c o cz cT c1 c2 e => up c o cz (kept c o cz cT c1 c2 e)
  · simp only [Bool.false_eq_true, if_false]
    simp only [List.forIn_toArray, List.forIn_cons, List.forIn_nil]
    replace sb : Heap.SameBut z hp k0 := sb
    refine wpAny_bind (wpAny_bind (wpAny_bind (wpAny_holding ?_)))
    show wpAny _ _ (Builtin.SmallTypes.nextOf (.ref i1) >>= _) _ _ ⟨k0, gs, dr, tk0, os⟩
    refine wpAny_bind (D1.item i _ _ _ lt1 (D1.over st1 sb S.zf1) fun x1 r1 tk1 px1 n1 sr1 => wpAny_pure (wpAny_pure ?_))
    replace sr1 : Heap.SameBut i1 k0 r1 := sr1
    refine wpAny_bind (wpAny_bind (wpAny_holding ?_))
    show wpAny _ _ (Builtin.SmallTypes.nextOf (.ref i2) >>= _) _ _ ⟨r1, gs, dr, tk1, os⟩
    refine wpAny_bind (D2.item i _ _ _ lt2 (D2.over (D2.over st2 sb S.zf2) sr1 S.sep1_2) fun x2 r2 tk2 px2 n2 sr2 => wpAny_pure (wpAny_pure (wpAny_pure ?_)))
    replace sr2 : Heap.SameBut i2 r1 r2 := sr2
    refine wpAny_bind (wpAny_newTuple (hsz := (by show (2 : Nat) ≤ sizeLine; decide)) (wpAny_pure ⟨_, rfl, ?_⟩))
    have sz2 : r2.objs.size = hp.objs.size := by rw [sr2.1, sr1.1, sb.1]
    have zz : ZpAt r2 z TI TO f0 f := sr2.extBut _ _ S.zi2 (sr1.extBut _ _ S.zi1 kz)
    have t2 : IsTupOf2 r2 TO a1 a2 := sr2.extBut _ _ S.Ti2 (sr1.extBut _ _ S.Ti1 (sb.extBut _ _ S.TOz hTO))
    have kept : ∀ c o, c ≠ z → c ≠ i1 → c ≠ i2 → hp.get? c = some o → r2.get? c = some o := fun c o cz c1 c2 e => sr2.extBut _ _ c2 (sr1.extBut _ _ c1 (sb.extBut _ _ cz e))
    show Q (.ref r2.objs.size) ⟨r2.push { cls := .type "tuple", data := .seq #[x1, x2] }, gs, dr, tk2, os⟩
    rw [sz2]
    have t8 : IsTupOf2 (r2.push { cls := .type "tuple", data := .seq #[x1, x2] }) r2.objs.size x1 x2 := Heap.get?_push_size _ rfl
    rw [sz2] at t8
    exact hQ x1 x2 _ tk2 _ _ _ _ px1 px2 (Heap.get?_push_of_some _ zz) kf (Heap.get?_push_of_some _ t2) (D1.frame _ _ _ (D1.over n1 sr2 S.sep2_1) fun b hb o e => Heap.get?_push_of_some _ e) (D2.frame _ _ _ n2 fun b hb o e => Heap.get?_push_of_some _ e) t8 (by rw [Heap.size_push, sz2]) fun c o cz _ c1 c2 e => Heap.get?_push_of_some _ (kept c o cz c1 c2 e)
theorem zn_end {Q : Fin → Shared → Prop} (S : ZipSep2 z TI TO i1 i2 fp1 fp2) (D1 : Draws P w A i1 fp1 n1 P1 St1) (D2 : Draws P w A i2 fp2 n2 P2 St2)
    (hz : ZpAt s.heap z TI TO f0 f1) (hf : ZpF f0 f1) (hTI : IsTupOf2 s.heap TI (.ref i1) (.ref i2)) (hTO : IsTupOf2 s.heap TO a1 a2) (st1 : St1 i s.heap) (st2 : St2 i s.heap) (le1 : i ≤ n1) (le2 : i ≤ n2) (fin : i = n1 ∨ i = n2)
    (hE : ∀ h' tk e, (∀ c o, c ≠ z → c ≠ TO → c ≠ i1 → c ≠ i2 → s.heap.get? c = some o → h'.get? c = some o) → (∃ o, h'.get? e = some o ∧ o.cls = .type "StopIteration") → E (.ref e) { s with heap := h', toks := tk }) :
    wpAny (model P w) A (Builtin.«zip.__next__» ⟨[.ref z], []⟩) Q E s := by
  obtain ⟨hp, gs, dr, tk0, os⟩ := s
  show wpAny _ _ (field (.ref z) 2 >>= _) _ _ _
  refine wpAny_bind (wpAny_field hz rfl (x := .bool false) rfl ?_)
  show wpAny _ _ (field (.ref z) 3 >>= _) _ _ _
  refine wpAny_bind (wpAny_field hz rfl (x := .ref TI) rfl ?_)
  refine wpAny_bind (wpAny_seqItems hTI rfl ?_)
  show wpAny _ _ (Builtin.SmallTypes.ownedTupleIsFree (.ref z) >>= _) _ _ _
  refine wpAny_bind (zp_free hz hf ?_ fun k0 f kz kf sb => ?_)
  · simp only [if_true]
    refine wpAny_bind (wpAny_rule ?_)
    refine wpAny_bind (wpAny_field hz rfl (x := .ref TO) rfl ?_)
    refine wpAny_bind (wpAny_setField_rec hz (by simp) fun q0 zq0 sq0 => ?_)
    replace zq0 : ZpAt q0 z TI TO .ellipsis f1 := zq0
    replace sq0 : Heap.SameBut z hp q0 := sq0
    refine wpAny_bind ?_
    simp only [List.zipIdx_cons, List.zipIdx_nil, List.forIn_cons, List.forIn_nil]
    refine wpAny_bind (wpAny_bind (wpAny_onRaise ?_))
    show wpAny _ _ (Builtin.SmallTypes.nextOf (.ref i1) >>= _) _ _ ⟨q0, gs, dr, tk0, os⟩
    by_cases h1 : i = n1
    · subst h1
      refine wpAny_bind (D1.done _ _ _ (D1.over st1 sq0 S.zf1) fun r1 e x1 ⟨oe, ho, hc⟩ => ?_)
      replace x1 : Heap.ExtBut i1 q0 r1 := x1
      have zr : ZpAt r1 z TI TO .ellipsis f1 := x1 _ _ S.zi1 zq0
      have ez : e ≠ z := fun y => by
        rw [y] at ho
        rw [show r1.get? z = _ from zr] at ho
        cases ho
        exact absurd (Value.type.inj hc) (by decide)
      refine wpAny_setField_rec zr (by simp) fun q1 _ sq1 => hE q1 tk0 e (fun c o cz _ c1 _ y => sq1.extBut _ _ cz (x1 _ _ c1 (sq0.extBut _ _ cz y))) ⟨oe, sq1.extBut _ _ ez ho, hc⟩
    · have h2 : i = n2 := fin.resolve_left h1
      subst h2
      refine wpAny_bind (D1.item i _ _ _ (by omega) (D1.over st1 sq0 S.zf1) fun x1 r1 tk1 px1 m1 sr1 => wpAny_pure ?_)
      replace sr1 : Heap.SameBut i1 q0 r1 := sr1
      have u1 : IsTupOf2 r1 TO a1 a2 := sr1.extBut _ _ S.Ti1 (sq0.extBut _ _ S.TOz hTO)
      refine wpAny_bind (wpAny_seqItems (s := ⟨r1, gs, dr, tk1, os⟩) u1 rfl ?_)
      refine wpAny_bind (updateSeq_IsTupOf2 (s := ⟨r1, gs, dr, tk1, os⟩) u1 fun q1 w1 sq1 => ?_)
      replace sq1 : Heap.SameBut TO r1 q1 := sq1
      refine wpAny_bind (wpAny_letGo (wpAny_pure ?_))
      refine wpAny_bind (wpAny_bind (wpAny_onRaise ?_))
      show wpAny _ _ (Builtin.SmallTypes.nextOf (.ref i2) >>= _) _ _ ⟨q1, gs, dr, tk1, os⟩
      refine wpAny_bind (D2.done _ _ _ (D2.over (D2.over (D2.over st2 sq0 S.zf2) sr1 S.sep1_2) sq1 S.Tf2) fun r2 e x2 ⟨oe, ho, hc⟩ => ?_)
      replace x2 : Heap.ExtBut i2 q1 r2 := x2
      have zr : ZpAt r2 z TI TO .ellipsis f1 := x2 _ _ S.zi2 (sq1.extBut _ _ S.TOz.symm (sr1.extBut _ _ S.zi1 zq0))
      have ez : e ≠ z := fun y => by
        rw [y] at ho
        rw [show r2.get? z = _ from zr] at ho
        cases ho
        exact absurd (Value.type.inj hc) (by decide)
      refine wpAny_setField_rec zr (by simp) fun q3 _ sq3 => hE q3 tk1 e (fun c o cz cT c1 c2 y => sq3.extBut _ _ cz (x2 _ _ c2 (sq1.extBut _ _ cT (sr1.extBut _ _ c1 (sq0.extBut _ _ cz y))))) ⟨oe, sq3.extBut _ _ ez ho, hc⟩
  · simp only [Bool.false_eq_true, if_false]
    simp only [List.forIn_toArray, List.forIn_cons, List.forIn_nil]
    replace sb : Heap.SameBut z hp k0 := sb
    refine wpAny_bind (wpAny_bind (wpAny_bind (wpAny_holding ?_)))
    show wpAny _ _ (Builtin.SmallTypes.nextOf (.ref i1) >>= _) _ _ ⟨k0, gs, dr, tk0, os⟩
    by_cases h1 : i = n1
    · subst h1
      exact wpAny_bind (D1.done _ _ _ (D1.over st1 sb S.zf1) fun r1 e x1 he => hE r1 tk0 e (fun c o cz _ c1 _ y => x1 _ _ c1 (sb.extBut _ _ cz y)) he)
    · have h2 : i = n2 := fin.resolve_left h1
      subst h2
      refine wpAny_bind (D1.item i _ _ _ (by omega) (D1.over st1 sb S.zf1) fun x1 r1 tk1 px1 m1 sr1 => wpAny_pure (wpAny_pure ?_))
      replace sr1 : Heap.SameBut i1 k0 r1 := sr1
      refine wpAny_bind (wpAny_bind (wpAny_holding ?_))
      show wpAny _ _ (Builtin.SmallTypes.nextOf (.ref i2) >>= _) _ _ ⟨r1, gs, dr, tk1, os⟩
      exact wpAny_bind (D2.done _ _ _ (D2.over (D2.over st2 sb S.zf2) sr1 S.sep1_2) fun r2 e x2 he => hE r2 tk1 e (fun c o cz _ c1 c2 y => x2 _ _ c2 (sr1.extBut _ _ c1 (sb.extBut _ _ cz y))) he)
end
end Ab

namespace Ab
open PySem PySem.Spec PyProof.Rows L2 RZ
open Sem (wp)
/-! ### enumerate over an iterator that may write and make things -/
section
variable {P : Program} {w : World} {A : Around} {E : Value → Shared → Prop} {s : Shared} {en it : Addr} {old : Value} {ch : List Addr}
theorem en_next {c : Int} {Gd : Value → Heap → Prop} {Q : Option Value → Shared → Prop} (g : IsEnum s.heap en it c old) (ne : en ∉ ch)
    (hn : ∀ (R : Value → Shared → Prop) (E' : Value → Shared → Prop), (∀ x h1 tk, Gd x h1 → (∀ b o, b ∉ ch → s.heap.get? b = some o → h1.get? b = some o) → R x { s with heap := h1, toks := tk }) → wpAny (model P w) A.in1 (Builtin.SmallTypes.nextOf (.ref it)) R E' s)
    (hQ : ∀ x h1 h2 tk, Gd x h1 → (∀ b o, b ∉ ch → s.heap.get? b = some o → h1.get? b = some o) → IsEnumOut h2 en it (c + 1) x h1.objs.size → h2.get? h1.objs.size = some { cls := .type "tuple", data := .seq #[.int c tk, x] } → h2.objs.size = h1.objs.size + 1 →
      (∀ b o, b ≠ en → h1.get? b = some o → h2.get? b = some o) → Q (some (.ref h1.objs.size)) { s with heap := h2, toks := tk + 1 }) :
    wpAny (model P w) A (pyNext (.ref en)) Q E s := by
  have hT : s.TypeIs (.ref en) "enumerate" := ⟨_, g, rfl⟩
  unfold pyNext
  refine wpAny_bind (wpAny_attempt (wpAny_callSpecial?_slot (name := Str.ofString "__next__") hT F.slot_enumerate_next (wpAny_call_entry F.slot_enumerate_next hT F.entry_enumerate_next ?_ (F.args_enumerate_next_1 _))))
  obtain ⟨hp, gs, dr, tk0, os⟩ := s
  show wpAny _ _ (field (.ref en) 2 >>= _) _ _ _
  refine wpAny_bind (wpAny_field g rfl (x := .ref it) rfl ?_)
  refine wpAny_bind (hn _ _ fun x h1 tk gd kp => ?_)
  replace kp : ∀ b o, b ∉ ch → hp.get? b = some o → h1.get? b = some o := kp
  have g1 : IsEnum h1 en it c old := kp _ _ ne g
  show wpAny _ _ (field (.ref en) 3 >>= _) _ _ ⟨h1, gs, dr, tk, os⟩
  refine wpAny_bind (wpAny_field g1 rfl (x := rawInt c) rfl ?_)
  show wpAny _ _ (field (.ref en) 4 >>= _) _ _ ⟨h1, gs, dr, tk, os⟩
  refine wpAny_bind (wpAny_field g1 rfl (x := .none) rfl ?_)
  show wpAny _ _ (mkInt c >>= _) _ _ ⟨h1, gs, dr, tk, os⟩
  refine wpAny_bind (wpAny_mkInt ?_)
  show wpAny _ _ (setField (.ref en) 3 (rawInt (c + 1)) >>= _) _ _ ⟨h1, gs, dr, tk + 1, os⟩
  refine wpAny_bind (wpAny_setField_rec g1 (by simp) fun h2 g2 s2 => ?_)
  replace s2 : Heap.SameBut en h1 h2 := s2
  replace g2 : IsEnum h2 en it (c + 1) old := g2
  show wpAny _ _ (setField (.ref en) 4 .none >>= _) _ _ ⟨h2, gs, dr, tk + 1, os⟩
  refine wpAny_bind (wpAny_setField_rec g2 (by simp) fun h3 g3 s3 => ?_)
  replace s3 : Heap.SameBut en h2 h3 := s3
  replace g3 : IsEnum h3 en it (c + 1) old := g3
  show wpAny _ _ (newTuple [.int c tk, x] >>= _) _ _ ⟨h3, gs, dr, tk + 1, os⟩
  refine wpAny_bind (wpAny_newTuple (hsz := (by show (2 : Nat) ≤ sizeLine; decide)) ?_)
  have g4 : IsEnum (h3.push { cls := .type "tuple", data := .seq #[.int c tk, x] }) en it (c + 1) old := Heap.get?_push_of_some _ g3
  have sz3 : h3.objs.size = h1.objs.size := by rw [s3.1, s2.1]
  have lt : en < h1.objs.size := Heap.lt_size g1
  have t4 : (h3.push { cls := .type "tuple", data := .seq #[.int c tk, x] }).get? h1.objs.size = some { cls := .type "tuple", data := .seq #[.int c tk, x] } := by rw [← sz3]; exact Heap.get?_push_size _ rfl
  have z4 : (h3.push { cls := .type "tuple", data := .seq #[.int c tk, x] }).objs.size = h1.objs.size + 1 := by rw [Heap.size_push, sz3]
  have k4 : ∀ b o, b ≠ en → h1.get? b = some o → (h3.push { cls := .type "tuple", data := .seq #[.int c tk, x] }).get? b = some o := fun b o n e => Heap.get?_push_of_some _ (s3.extBut b o n (s2.extBut b o n e))
  generalize h3.push { cls := .type "tuple", data := .seq #[.int c tk, x] } = h4 at g4 t4 z4 k4
  show wpAny _ _ (Builtin.SmallTypes.ownedTupleIsFree (.ref en) >>= _) _ _ ⟨h4, gs, dr, tk + 1, os⟩
  rw [sz3]
  refine wpAny_bind ?_
  unfold Builtin.SmallTypes.ownedTupleIsFree
  refine wpAny_bind (wpAny_field g4 rfl (x := .none) rfl (wpAny_pure ?_))
  simp only [if_true]
  refine wpAny_bind (wpAny_rule ?_)
  refine wpAny_bind (wpAny_field g4 rfl (x := old) rfl ?_)
  refine wpAny_bind (wpAny_setField_rec g4 (by simp) fun h5 g5 s5 => ?_)
  replace s5 : Heap.SameBut en h4 h5 := s5
  replace g5 : IsEnum h5 en it (c + 1) x := g5
  show wpAny _ _ (Builtin.SmallTypes.ownedTupleHandOut (.ref en) (.ref h1.objs.size) >>= _) _ _ ⟨h5, gs, dr, tk + 1, os⟩
  refine wpAny_bind ?_
  unfold Builtin.SmallTypes.ownedTupleHandOut
  refine wpAny_bind (wpAny_setField_rec g5 (by simp) fun h6 g6 s6 => ?_)
  replace s6 : Heap.SameBut en h5 h6 := s6
  replace g6 : IsEnumOut h6 en it (c + 1) x h1.objs.size := g6
  refine wpAny_setField_rec g6 (by simp) fun h7 g7 s7 => ?_
  replace s7 : Heap.SameBut en h6 h7 := s7
  replace g7 : IsEnumOut h7 en it (c + 1) x h1.objs.size := g7
  have up : ∀ b o, b ≠ en → h4.get? b = some o → h7.get? b = some o := fun b o n e => s7.extBut b o n (s6.extBut b o n (s5.extBut b o n e))
  refine wpAny_bind (wpAny_letGo (wpAny_pure ⟨_, rfl, wpAny_pure (hQ x h1 h7 tk gd kp g7 (up _ _ (Nat.ne_of_gt lt) t4) ?_ fun b o n e => up b o n (k4 b o n e))⟩))
  rw [s7.1, s6.1, s5.1, z4]
theorem en_stop {c : Int} {Q : Option Value → Shared → Prop} (g : IsEnum s.heap en it c old)
    (hn : ∀ (R : Value → Shared → Prop) (E' : Value → Shared → Prop), (∀ h1 tk e, (∀ b o, b ∉ ch → s.heap.get? b = some o → h1.get? b = some o) → (∃ o, h1.get? e = some o ∧ o.cls = .type "StopIteration") → E' (.ref e) { s with heap := h1, toks := tk }) → wpAny (model P w) A.in1 (Builtin.SmallTypes.nextOf (.ref it)) R E' s)
    (hQ : ∀ h1 tk, (∀ b o, b ∉ ch → s.heap.get? b = some o → h1.get? b = some o) → Q none { s with heap := h1, toks := tk }) : wpAny (model P w) A (pyNext (.ref en)) Q E s := by
  have hT : s.TypeIs (.ref en) "enumerate" := ⟨_, g, rfl⟩
  unfold pyNext
  refine wpAny_bind (wpAny_attempt (wpAny_callSpecial?_slot (name := Str.ofString "__next__") hT F.slot_enumerate_next (wpAny_call_entry F.slot_enumerate_next hT F.entry_enumerate_next ?_ (F.args_enumerate_next_1 _))))
  show wpAny _ _ (field (.ref en) 2 >>= _) _ _ _
  refine wpAny_bind (wpAny_field g rfl (x := .ref it) rfl ?_)
  refine wpAny_bind (hn _ _ fun h1 tk e kp ⟨o, ho, hc⟩ => ?_)
  refine wpAny_bind (wpAny_isInstance (T := "StopIteration") (b := true) ⟨o, ho, hc⟩ isSubtype_stop ?_)
  exact wpAny_pure (hQ h1 tk kp)
end
section
variable {P : Program} {w : World} {A : Around} {E : Value → Shared → Prop} {s : Shared} {z TI TO i1 i2 : Addr} {fp1 fp2 : List Addr} {n1 n2 i : Nat} {P1 P2 : Nat → Value → Prop} {St1 St2 : Nat → Heap → Prop} {a1 a2 f0 f1 : Value}
theorem nz_item {Q : Value → Shared → Prop} (S : ZipSep2 z TI TO i1 i2 fp1 fp2) (D1 : Draws P w A.in1 i1 fp1 n1 P1 St1) (D2 : Draws P w A.in1 i2 fp2 n2 P2 St2)
    (hz : ZpAt s.heap z TI TO f0 f1) (hf : ZpF f0 f1) (hTI : IsTupOf2 s.heap TI (.ref i1) (.ref i2)) (hTO : IsTupOf2 s.heap TO a1 a2) (st1 : St1 i s.heap) (st2 : St2 i s.heap) (lt1 : i < n1) (lt2 : i < n2)
    (hQ : ∀ x1 x2 h' tk g0 g1 b1 b2, P1 i x1 → P2 i x2 → ZpAt h' z TI TO g0 g1 → ZpF g0 g1 → IsTupOf2 h' TO b1 b2 → St1 (i + 1) h' → St2 (i + 1) h' → IsTupOf2 h' s.heap.objs.size x1 x2 → h'.objs.size = s.heap.objs.size + 1 →
      (∀ c o, c ≠ z → c ≠ TO → c ≠ i1 → c ≠ i2 → s.heap.get? c = some o → h'.get? c = some o) → Q (.ref s.heap.objs.size) { s with heap := h', toks := tk }) :
    wpAny (model P w) A (Builtin.SmallTypes.nextOf (.ref z)) Q E s := by
  have hT : s.TypeIs (.ref z) "zip" := ⟨_, hz, rfl⟩
  unfold Builtin.SmallTypes.nextOf
  exact wpAny_bind (wpAny_callSpecial?_slot (name := Str.ofString "__next__") hT F.slot_zip_next (wpAny_call_entry F.slot_zip_next hT F.entry_zip_next
    (zn_item S D1 D2 hz hf hTI hTO st1 st2 lt1 lt2 fun x1 x2 h' tk g0 g1 b1 b2 p q u1 u2 u3 u4 u5 u6 u7 u8 => wpAny_pure (hQ x1 x2 h' tk g0 g1 b1 b2 p q u1 u2 u3 u4 u5 u6 u7 u8)) (F.args_zip_next_1 _)))
theorem nz_end {Q : Value → Shared → Prop} (S : ZipSep2 z TI TO i1 i2 fp1 fp2) (D1 : Draws P w A.in1 i1 fp1 n1 P1 St1) (D2 : Draws P w A.in1 i2 fp2 n2 P2 St2)
    (hz : ZpAt s.heap z TI TO f0 f1) (hf : ZpF f0 f1) (hTI : IsTupOf2 s.heap TI (.ref i1) (.ref i2)) (hTO : IsTupOf2 s.heap TO a1 a2) (st1 : St1 i s.heap) (st2 : St2 i s.heap) (le1 : i ≤ n1) (le2 : i ≤ n2) (fin : i = n1 ∨ i = n2)
    (hE : ∀ h' tk e, (∀ c o, c ≠ z → c ≠ TO → c ≠ i1 → c ≠ i2 → s.heap.get? c = some o → h'.get? c = some o) → (∃ o, h'.get? e = some o ∧ o.cls = .type "StopIteration") → E (.ref e) { s with heap := h', toks := tk }) :
    wpAny (model P w) A (Builtin.SmallTypes.nextOf (.ref z)) Q E s := by
  have hT : s.TypeIs (.ref z) "zip" := ⟨_, hz, rfl⟩
  unfold Builtin.SmallTypes.nextOf
  exact wpAny_bind (wpAny_callSpecial?_slot (name := Str.ofString "__next__") hT F.slot_zip_next (wpAny_call_entry F.slot_zip_next hT F.entry_zip_next (zn_end S D1 D2 hz hf hTI hTO st1 st2 le1 le2 fin hE) (F.args_zip_next_1 _)))
end
end Ab

namespace Ab
open PySem PySem.Spec PyProof.Rows L2 RZ
open Sem (wp)
/-! ### a list or a tuple, as a source -/
def SqK (k : Bool) (K : PySem.W.Frag) (H : Hp) (a : Addr) (xs : List V) : Prop := if k = true then SqT K H a xs else SqL K H a xs
def ItAt (k : Bool) (h : Heap) (it a : Addr) (i : Nat) : Prop := if k = true then h.IsTupleIter it a i else h.IsListIter it a i
def HpAt (k : Bool) (h : Heap) (a : Addr) (xs : Array Value) : Prop := if k = true then h.IsTuple a xs else h.IsList a xs
def itObj (k : Bool) (a : Addr) : Obj := if k = true then { cls := .type "tuple_iterator", data := .fields #[.ref a, .int 0 0] } else { cls := .type "list_iterator", data := .fields #[.ref a, .int 0 0] }
theorem ItAt.keep {k : Bool} {h h' : Heap} {it a : Addr} {i : Nat} (x : ItAt k h it a i) (y : ∀ o, h.get? it = some o → h'.get? it = some o) : ItAt k h' it a i := by
  cases k with
  | true => exact Heap.IsTupleIter.at (show h.IsTupleIter it a i from x) y
  | false => exact Heap.IsListIter.at (show h.IsListIter it a i from x) y
theorem ItAt.obj {k : Bool} {h : Heap} {it a : Addr} {i : Nat} (x : ItAt k h it a i) : ∃ o, h.get? it = some o ∧ ∀ v, o.data ≠ .cell v := by
  cases k with
  | true =>
    obtain ⟨o, e, _, d⟩ : h.IsTupleIter it a i := x
    exact ⟨o, e, fun v q => by rw [d] at q; cases q⟩
  | false =>
    obtain ⟨o, e, _, d⟩ : h.IsListIter it a i := x
    exact ⟨o, e, fun v q => by rw [d] at q; cases q⟩
theorem HpAt.keep {k : Bool} {h h' : Heap} {a : Addr} {xs : Array Value} (x : HpAt k h a xs) (y : ∀ o, h.get? a = some o → h'.get? a = some o) : HpAt k h' a xs := by
  cases k with
  | true => exact Heap.IsTuple.at (show h.IsTuple a xs from x) y
  | false => exact Heap.IsList.at (show h.IsList a xs from x) y
theorem HpAt.lt {k : Bool} {h : Heap} {a : Addr} {xs : Array Value} (x : HpAt k h a xs) : a < h.objs.size := by
  cases k with
  | true => obtain ⟨o, e, _⟩ : h.IsTuple a xs := x; exact Heap.lt_size e
  | false => obtain ⟨o, e, _⟩ : h.IsList a xs := x; exact Heap.lt_size e
theorem src_get {X : Cx} {pins : List (Addr × Obj)} {σ : L2.St} {H : Hp} {s : Shared} {k : Bool} {a : Addr} {xs : List V} (I : Inv X pins σ H s) (h : SqK k X.K H a xs) : ∃ its : List Value, Vals xs its ∧ HpAt k s.heap a its.toArray := by
  cases k with
  | true =>
    obtain ⟨its, r, p, _⟩ := I.tuple (show SqT X.K H a xs from h)
    exact ⟨its, r, p⟩
  | false =>
    obtain ⟨its, r, p, _⟩ := I.list (show SqL X.K H a xs from h)
    exact ⟨its, r, p.isList⟩
theorem src_inj {X : Cx} {pins : List (Addr × Obj)} {σ : L2.St} {H : Hp} {s : Shared} {k : Bool} {a : Addr} {xs ys : List V} (I : Inv X pins σ H s) (h : SqK k X.K H a xs) (h' : SqK k X.K H a ys) : xs = ys := by
  cases k with
  | true => exact I.tuple_inj (show SqT X.K H a xs from h) (show SqT X.K H a ys from h')
  | false => exact I.list_inj (show SqL X.K H a xs from h) (show SqL X.K H a ys from h')
theorem src_begins (k : Bool) (a : Addr) (xs : Array Value) : Begins (.ref a) (itObj k a) fun h => HpAt k h a xs := by
  cases k with
  | true => exact begins_tuple a xs
  | false => exact begins_list a xs
theorem src_draws {P : Program} {w : World} {A : Around} (hh : A.handled = none) (k : Bool) (it a : Addr) (ne : a ≠ it) (xs : Array Value) : Draws P w A it [it, a] xs.size (fun i v => xs[i]? = some v) (fun i h => ItAt k h it a i ∧ HpAt k h a xs) := by
  cases k with
  | true => exact Draws.tuple hh it a ne xs
  | false => exact Draws.list hh it a ne xs
/-- an iterator at its i-th place, whether it has ended or not -/
theorem src_any {P : Program} {w : World} {A : Around} (hh : A.handled = none) {k : Bool} {it a : Addr} {i : Nat} {h : Heap} {xs : Array Value} (ne : a ≠ it) (x1 : ItAt k h it a i) (x2 : HpAt k h a xs) :
    ∃ (n : Nat) (Pv : Nat → Value → Prop) (St : Nat → Heap → Prop), Draws P w A it [it, a] n Pv St ∧ St i h ∧ i ≤ n ∧ (xs.size ≤ i → i = n) := by
  by_cases lt : i < xs.size
  · exact ⟨_, _, _, src_draws hh k it a ne xs, ⟨x1, x2⟩, Nat.le_of_lt lt, fun z => absurd lt (Nat.not_lt.mpr z)⟩
  · have hn : xs[i]? = none := Array.getElem?_eq_none_iff.mpr (Nat.not_lt.mp lt)
    refine ⟨i, fun _ _ => False, fun j h => j = i ∧ ItAt k h it a i ∧ HpAt k h a xs, ⟨fun j h ⟨_, y1, _⟩ => let ⟨o, ho, _⟩ := y1.obj; ⟨o, ho⟩, fun j h h' ⟨e, y1, y2⟩ kp => ⟨e, y1.keep fun o q => kp it (by simp) o q, y2.keep fun o q => kp a (by simp) o q⟩,
      fun j t Q E lj ⟨e, _⟩ => absurd lj (by rw [e]; exact Nat.lt_irrefl _), fun t Q E ⟨_, y1, y2⟩ hE => ?_⟩, ⟨rfl, x1, x2⟩, Nat.le_refl _, fun _ => rfl⟩
    cases k with
    | true => exact wpAny_nextOf_tuple_end hh y1 y2 hn hE
    | false => exact wpAny_nextOf_list_end hh y1 y2 hn hE
/-- for (i, (x, y)) in enumerate(zip(a, b)) -/
def IteZ (K : PySem.W.Frag) (k l : Bool) (a b : Addr) : It :=
  ⟨fun i H => ∃ (xs ys : List V) (x y : V), SqK k K H a xs ∧ SqK l K H b ys ∧ xs[i]? = some x ∧ ys[i]? = some y,
    fun i H v H' => ∃ T U x y, v = .ref U ∧ H T = none ∧ upd H T (.tup [x, y]) U = none ∧ H' = upd (upd H T (.tup [x, y])) U (.tup [.int (i : Nat), .ref T]) ∧ (∀ xs, SqK k K H a xs → xs[i]? = some x) ∧ ∀ ys, SqK l K H b ys → ys[i]? = some y,
    fun i H => ∃ xs ys : List V, SqK k K H a xs ∧ SqK l K H b ys ∧ (xs.length ≤ i ∨ ys.length ≤ i)⟩
structure EzSep (en z TI TO i1 i2 a b : Addr) : Prop where
  S : ZipSep2 z TI TO i1 i2 [i1, a] [i2, b]
  ez : en ≠ z
  eT : en ≠ TI
  eO : en ≠ TO
  e1 : en ≠ i1
  e2 : en ≠ i2
  a1 : a ≠ i1
  b2 : b ≠ i2
def EzAt (k l : Bool) (en z TI TO i1 i2 a b : Addr) (i : Nat) (h : Heap) : Prop :=
  (∃ old, IsEnum h en z ((i : Nat) : Int) old) ∧ (∃ f0 f1, ZpAt h z TI TO f0 f1 ∧ ZpF f0 f1) ∧ IsTupOf2 h TI (.ref i1) (.ref i2) ∧ (∃ b1 b2, IsTupOf2 h TO b1 b2) ∧ ItAt k h i1 a i ∧ ItAt l h i2 b i
theorem turn_enZ {P : Program} {w : World} {K : PySem.W.Frag} {elts : List Expr} {kk : Nat} {tpos : Pos} {k l : Bool} {en z TI TO i1 i2 a b : Addr} (D : EzSep en z TI TO i1 i2 a b) :
    Turn P w K (.Tuple elts kk tpos) (IteZ K k l a b) [en, z, TI, TO, i1, i2] en (EzAt k l en z TI TO i1 i2 a b) where
  mem := by simp
  obj := fun i h ⟨⟨old, g⟩, ⟨f0, f1, hz, _⟩, hT, ⟨b1, b2, hO⟩, h1, h2⟩ c hc => by
    rcases (show c = en ∨ c = z ∨ c = TI ∨ c = TO ∨ c = i1 ∨ c = i2 by simpa using hc) with q | q | q | q | q | q
    · rw [q]; exact ⟨_, g, fun v y => nomatch y⟩
    · rw [q]; exact ⟨_, hz, fun v y => nomatch y⟩
    · rw [q]; exact ⟨_, hT, fun v y => nomatch y⟩
    · rw [q]; exact ⟨_, hO, fun v y => nomatch y⟩
    · rw [q]; exact h1.obj
    · rw [q]; exact h2.obj
  keep := fun i h h' ⟨⟨old, g⟩, ⟨f0, f1, hz, hf⟩, hT, ⟨b1, b2, hO⟩, h1, h2⟩ kp =>
    ⟨⟨old, kp en (by simp) _ g⟩, ⟨f0, f1, kp z (by simp) _ hz, hf⟩, kp TI (by simp) _ hT, ⟨b1, b2, kp TO (by simp) _ hO⟩, h1.keep fun o q => kp i1 (by simp) o q, h2.keep fun o q => kp i2 (by simp) o q⟩
  item := by
    intro X hP hw hK hc i pins s σ H E I hf ⟨⟨old, g⟩, ⟨f0, f1, hz, hf01⟩, hT, ⟨b1, b2, hO⟩, h1, h2⟩ ⟨xs, ys, x, y, qx, qy, hx, hy⟩
    subst hP hw hK
    obtain ⟨its, rv, p1⟩ := src_get I qx
    obtain ⟨its2, rv2, p2⟩ := src_get I qy
    obtain ⟨u, hu, ru⟩ := rv.get hx
    obtain ⟨u2, hu2, ru2⟩ := rv2.get hy
    have hh : X.A.in1.in1.handled = none := I.ok.hd hc
    have d1 := src_draws (P := X.prog) (w := X.w) hh k i1 a D.a1 its.toArray
    have d2 := src_draws (P := X.prog) (w := X.w) hh l i2 b D.b2 its2.toArray
    have l1 : i < its.toArray.size := by simpa using (List.getElem?_eq_some_iff.mp hu).1
    have l2 : i < its2.toArray.size := by simpa using (List.getElem?_eq_some_iff.mp hu2).1
    have lte : en < s.heap.objs.size := Heap.lt_size g
    have none_of : ∀ c ∈ [en, z, TI, TO, i1, i2], H c = none := fun c hc => (hf c hc).1
    refine en_next (ch := [z, TO, i1, i2]) (Gd := fun v h' => v = .ref s.heap.objs.size ∧ (∃ g0 g1, ZpAt h' z TI TO g0 g1 ∧ ZpF g0 g1) ∧ (∃ c1 c2, IsTupOf2 h' TO c1 c2) ∧ ItAt k h' i1 a (i + 1) ∧ ItAt l h' i2 b (i + 1) ∧ IsTupOf2 h' s.heap.objs.size u u2 ∧ h'.objs.size = s.heap.objs.size + 1) g
      (by simp [D.ez, D.eO, D.e1, D.e2]) (fun R E' r => ?_) fun v q1 q2 tk ⟨ev, ⟨g0, g1, zz, zf⟩, ⟨c1, c2, zO⟩, t1, t2, tt, sz⟩ kp out tup sz2 kp2 => ?_
    · exact nz_item D.S d1 d2 hz hf01 hT hO ⟨h1, p1⟩ ⟨h2, p2⟩ l1 l2 fun x1 x2 h' tk g0 g1 c1 c2 px py w1 w2 w3 w4 w5 w6 w7 w8 => by
        have ex : x1 = u := by
          have px : its.toArray[i]? = some x1 := px
          have : its[i]? = some x1 := by simpa using px
          rw [hu] at this; exact (Option.some.inj this).symm
        have ey : x2 = u2 := by
          have py : its2.toArray[i]? = some x2 := py
          have : its2[i]? = some x2 := by simpa using py
          rw [hu2] at this; exact (Option.some.inj this).symm
        subst ex ey
        exact r _ h' tk ⟨rfl, ⟨g0, g1, w1, w2⟩, ⟨c1, c2, w3⟩, w4.1, w5.1, w6, w7⟩ fun c o nc e => w8 c o (fun q => nc (by simp [q])) (fun q => nc (by simp [q])) (fun q => nc (by simp [q])) (fun q => nc (by simp [q])) e
    · subst ev
      refine ⟨_, rfl, wpAny_letOwnedTupleGo_enum (s := { s with heap := q2, toks := tk + 1 }) out fun q3 g3 sb => ?_⟩
      have new1 : ObjOk X.prog X.w (upd H s.heap.objs.size (.tup [x, y])) q1 s.heap.objs.size (.tup [x, y]) :=
        ⟨by show 2 ≤ sizeLine; decide, [u, u2], .cons ru (.cons ru2 .nil), ⟨_, tt, rfl, _, rfl⟩⟩
      have I1 : Inv X pins σ (upd H s.heap.objs.size (.tup [x, y])) { s with heap := q1, toks := tk } :=
        I.turnedNew (ch := [z, TO, i1, i2]) kp (fun c hc => hf c (by
          rcases (show c = z ∨ c = TO ∨ c = i1 ∨ c = i2 by simpa using hc) with q | q | q | q <;> simp [q])) (Nat.le_refl _) new1
      have tup3 : q3.get? q1.objs.size = some { cls := .type "tuple", data := .seq #[.int i tk, .ref s.heap.objs.size] } := (sb.2 _ (by rw [sz]; exact fun q => by rw [← q] at lte; exact Nat.lt_irrefl _ (Nat.lt_of_succ_lt lte))).trans tup
      have new2 : ObjOk X.prog X.w (upd (upd H s.heap.objs.size (.tup [x, y])) q1.objs.size (.tup [.int (i : Nat), .ref s.heap.objs.size])) q3 q1.objs.size (.tup [.int (i : Nat), .ref s.heap.objs.size]) :=
        ⟨by show 2 ≤ sizeLine; decide, [.int i tk, .ref s.heap.objs.size], .cons ⟨_, rfl⟩ (.cons rfl .nil), ⟨_, tup3, rfl, _, rfl⟩⟩
      have fe : FpOk X pins (upd H s.heap.objs.size (.tup [x, y])) en := by
        obtain ⟨e0, er⟩ := hf en (by simp)
        exact ⟨by rw [upd_ne (Nat.ne_of_lt lte)]; exact e0, er⟩
      have to3 : ∀ c o, c ≠ en → q1.get? c = some o → q3.get? c = some o := fun c o nc e => (sb.2 c nc).trans (kp2 c o nc e)
      have I2 := I1.turnedNew (t' := tk + 1) (h' := q3) (ch := [en]) (T := q1.objs.size) (fun c o nc e => to3 c o (fun q => nc (by simp [q])) e) (fun c hc => by
        have e : c = en := by simpa using hc
        rw [e]; exact fe) (Nat.le_refl _) new2
      refine ⟨.ref q1.objs.size, _, I2, rfl, ⟨s.heap.objs.size, q1.objs.size, x, y, rfl, I.hok.fresh (Nat.le_refl _), I1.hok.fresh (Nat.le_refl _), rfl, fun zs hz => by rw [src_inj I hz qx]; exact hx, fun zs hz => by rw [src_inj I hz qy]; exact hy⟩, ⟨⟨.ref s.heap.objs.size, ?_⟩, ⟨g0, g1, to3 _ _ D.ez.symm zz, zf⟩, to3 _ _ D.eT.symm (kp _ _ (by simp [D.S.TIz, D.S.TITO, D.S.TIi1, D.S.TIi2]) hT), ⟨c1, c2, to3 _ _ D.eO.symm zO⟩, t1.keep fun o e => to3 _ o D.e1.symm e, t2.keep fun o e => to3 _ o D.e2.symm e⟩, fun c hc => ?_⟩
      · rw [show ((i + 1 : Nat) : Int) = (i : Int) + 1 by omega]; exact g3
      · have lc : c < s.heap.objs.size := by
          rcases (show c = en ∨ c = z ∨ c = TI ∨ c = TO ∨ c = i1 ∨ c = i2 by simpa using hc) with q | q | q | q | q | q
          · rw [q]; exact lte
          · rw [q]; exact Heap.lt_size hz
          · rw [q]; exact Heap.lt_size hT
          · rw [q]; exact Heap.lt_size hO
          · rw [q]; obtain ⟨o, e, _⟩ := h1.obj; exact Heap.lt_size e
          · rw [q]; obtain ⟨o, e, _⟩ := h2.obj; exact Heap.lt_size e
        rw [upd_ne (by rw [sz]; exact Nat.ne_of_lt (Nat.lt_succ_of_lt lc)), upd_ne (Nat.ne_of_lt lc)]
        exact (hf c hc).1
  done := by
    intro X hP hw hK hc i pins s σ H E I hf ⟨⟨old, g⟩, ⟨f0, f1, hz, hf01⟩, hT, ⟨b1, b2, hO⟩, h1, h2⟩ ⟨xs, ys, qx, qy, he⟩
    subst hP hw hK
    obtain ⟨its, rv, p1⟩ := src_get I qx
    obtain ⟨its2, rv2, p2⟩ := src_get I qy
    have hh : X.A.in1.in1.handled = none := I.ok.hd hc
    obtain ⟨n1, P1, St1, d1, t1, le1, f1'⟩ := src_any (P := X.prog) (w := X.w) hh D.a1 h1 p1
    obtain ⟨n2, P2, St2, d2, t2, le2, f2'⟩ := src_any (P := X.prog) (w := X.w) hh D.b2 h2 p2
    have z1 : its.toArray.size = xs.length := by have := rv.length; simp; omega
    have z2 : its2.toArray.size = ys.length := by have := rv2.length; simp; omega
    refine en_stop (ch := [z, TO, i1, i2]) g (fun R E' r => nz_end D.S d1 d2 hz hf01 hT hO t1 t2 le1 le2 (he.imp (fun q => f1' (by rw [z1]; exact q)) fun q => f2' (by rw [z2]; exact q)) fun h' tk e kp st =>
      r h' tk e (fun c o nc y => kp c o (fun q => nc (by simp [q])) (fun q => nc (by simp [q])) (fun q => nc (by simp [q])) (fun q => nc (by simp [q])) y) st) fun h' tk kp => ⟨rfl, ?_⟩
    exact I.turnedL (ch := [z, TO, i1, i2]) kp fun c hc => hf c (by
      rcases (show c = z ∨ c = TO ∨ c = i1 ∨ c = i2 by simpa using hc) with q | q | q | q <;> simp [q])
  self := fun A i s Q E ⟨⟨_, g⟩, _⟩ q => wpAny_pyIter_enum g q
theorem itr_zip (z TI TO : Addr) (f0 : Value) : Itr (.ref z) (fun h => IsZip h z TI TO f0) (fun _ => z) (fun h => h) := ⟨fun P w A E s Q c q => wpAny_pyIter_zip c q⟩
theorem itAt0 {k : Bool} {h : Heap} {it a : Addr} (e : h.get? it = some (itObj k a)) : ItAt k h it a 0 := by
  cases k with
  | true => exact (⟨_, e, rfl, rfl⟩ : h.IsTupleIter it a 0)
  | false => exact (⟨_, e, rfl, rfl⟩ : h.IsListIter it a 0)
def iEnZ (K : PySem.W.Frag) (ta : TA) : TI := fun σ H R => ta σ H fun vs H1 => ∃ a b xs ys k l, vs = [.ref a, .ref b] ∧ SqK k K H1 a xs ∧ SqK l K H1 b ys ∧ R (IteZ K k l a b) H1
theorem pi_enZ {X : Cx} {e e2 : Expr} {ta : TA} {p p2 pos pos2 tpos : Pos} {elts : List Expr} {kk : Nat} (hg : Gl X "enumerate") (hm : X.mg "enumerate" = none) (hgz : Gl X "zip") (hmz : X.mg "zip" = none) (ha : PA X [e, e2] ta)
    (hs : starEach [.Call (.Name "zip" p2) [e, e2] [] pos2] X.env = [(false, eval (.Call (.Name "zip" p2) [e, e2] [] pos2) X.env)] := by rfl) (hs2 : starEach [e, e2] X.env = (false, eval e X.env) :: starEach [e2] X.env := by rfl) (hpl : (backTo pos2 (starEach [e2] X.env)).any (·.1) = false := by rfl) :
    PI X (.Tuple elts kk tpos) (.Call (.Name "enumerate" p) [.Call (.Name "zip" p2) [e, e2] [] pos2] [] pos) (iEnZ X.K ta) := by
  refine ⟨fun pins s σ H R I h => ?_⟩
  refine Call_ (ld_blt I hg hm boot_enumerate (PyProof.Rows.callWith_type1 ?_ hs rfl))
  rw [hs]
  refine Calls.spliced_cons ?_
  refine Call_ (ld_blt I hgz hmz PyProof.Rows.boot_zip (PyProof.Rows.callWith_type1 (thn (ha.run pos2 pins s σ H _ I h) fun us s1 ⟨vs, H1, I1, r1, a, b, xs, ys, k, l, ex, qa, qb, q⟩ => ?_) hs2 hpl))
  subst ex
  cases r1 with
  | cons r rr =>
    cases rr with
    | cons r' rr =>
      cases rr
      cases r
      cases r'
      obtain ⟨its, rv, p1⟩ := src_get I1 qa
      obtain ⟨its2, rv2, p2'⟩ := src_get I1 qb
      refine zip_begins2 (src_begins k a its.toArray) (src_begins l b its2.toArray) p1 p2' fun h' hz hT hO o1 o2 sz old => ?_
      refine Calls.spliced_nil ?_
      refine en_call (itr_zip (s1.heap.objs.size + 4) (s1.heap.objs.size + 2) (s1.heap.objs.size + 3) .none) hz fun h2 eh g => wpAny_pyIter_enum g ?_
      have up : ∀ c o, h'.get? c = some o → h2.get? c = some o := fun c o y => by rw [eh]; exact Heap.get?_push_of_some _ y
      have I2 : Inv X pins σ H1 { s1 with heap := h2 } := I1.kept (t' := s1.toks) fun c o y => up c o (old c o y)
      have la : a < s1.heap.objs.size := p1.lt
      have lb : b < s1.heap.objs.size := p2'.lt
      replace g : IsEnum h2 h'.objs.size (s1.heap.objs.size + 4) 0 .none := g
      rw [sz] at g
      show PIE X pins σ (.Tuple elts kk tpos) R (.ref h'.objs.size) { s1 with heap := h2 }
      rw [sz]
      have D : EzSep (s1.heap.objs.size + 5) (s1.heap.objs.size + 4) (s1.heap.objs.size + 2) (s1.heap.objs.size + 3) s1.heap.objs.size (s1.heap.objs.size + 1) a b :=
        ⟨zip_sep2 (fun c hc => by rw [List.mem_singleton.mp hc]; exact la) (fun c hc => by rw [List.mem_singleton.mp hc]; exact lb), by simp, by simp, by simp, by simp, by simp, Nat.ne_of_lt la, Nat.ne_of_lt (Nat.lt_succ_of_lt lb)⟩
      refine ⟨s1.heap.objs.size + 5, [s1.heap.objs.size + 5, s1.heap.objs.size + 4, s1.heap.objs.size + 2, s1.heap.objs.size + 3, s1.heap.objs.size, s1.heap.objs.size + 1], _, _, H1, rfl, I2, turn_enZ D,
        ⟨⟨.none, g⟩, ⟨.none, .bool false, up _ _ hz, .inl rfl, .inl rfl⟩, up _ _ hT, ⟨_, _, up _ _ hO⟩, itAt0 (up _ _ o1), itAt0 (up _ _ o2)⟩, fun c hc => ?_, q⟩
      have le : s1.heap.objs.size ≤ c := by
        rcases (show c = s1.heap.objs.size + 5 ∨ c = s1.heap.objs.size + 4 ∨ c = s1.heap.objs.size + 2 ∨ c = s1.heap.objs.size + 3 ∨ c = s1.heap.objs.size ∨ c = s1.heap.objs.size + 1 by simpa using hc) with z | z | z | z | z | z
        · rw [z]; exact Nat.le_add_right _ _
        · rw [z]; exact Nat.le_add_right _ _
        · rw [z]; exact Nat.le_add_right _ _
        · rw [z]; exact Nat.le_add_right _ _
        · rw [z]; exact Nat.le_refl _
        · rw [z]; exact Nat.le_add_right _ _
      exact I1.fpOk le (I1.hok.fresh le)
/-! ### the abstract rule -/
def ezW (ws us : List W) : List W := enW (List.zipWith (fun a b => W.tup [a, b]) ws us)
theorem RepL.at2 {K : PySem.W.Frag} {H : Hp} {ws us : List W} {vs xs : List V} {i : Nat} {w : W} (r : RepL K H ws vs) (r' : RepL K H us xs) (e : (ezW ws us)[i]? = some w) : ∃ a b x y, w = .tup [.int i, .tup [a, b]] ∧ vs[i]? = some x ∧ xs[i]? = some y ∧ Rep K H a x ∧ Rep K H b y := by
  obtain ⟨u, eu, rfl⟩ := enW_get e
  rw [List.getElem?_zipWith] at eu
  cases ea : ws[i]? with
  | none => rw [ea] at eu; simp at eu
  | some a =>
    cases eb : us[i]? with
    | none => rw [ea, eb] at eu; simp at eu
    | some b =>
      rw [ea, eb] at eu
      have eu : W.tup [a, b] = u := by simpa using eu
      obtain ⟨x, ex, rx⟩ := r.get ea
      obtain ⟨y, ey, ry⟩ := r'.get eb
      exact ⟨a, b, x, y, by rw [← eu], ex, ey, rx, ry⟩
theorem gives_enZ {K : PySem.W.Frag} {H : Hp} {k l : Bool} {a b : Addr} {ws us : List W} {vs xs : List V} (ka : ∀ H', Keeps H H' → SqK k K H' a vs) (kb : ∀ H', Keeps H H' → SqK l K H' b xs) (r : RepL K H ws vs) (r' : RepL K H us xs) : Gives K (IteZ K k l a b) H (ezW ws us) := fun H' kk i => by
  refine ⟨fun h => ⟨vs, xs, ka _ kk, kb _ kk, ?_⟩, fun w e => ?_⟩
  · have z : (ezW ws us).length = min ws.length us.length := by unfold ezW; rw [enW_len, List.length_zipWith]
    rw [z] at h
    rw [← r.length, ← r'.length]
    omega
  · obtain ⟨wa, wb, x, y, rfl, ex, ey, rx, ry⟩ := r.at2 r' e
    refine ⟨⟨vs, xs, x, y, ka _ kk, kb _ kk, ex, ey⟩, fun v H2 ⟨T, U, x', y', ev, nT, nU, e2, fx, fy⟩ => ?_⟩
    have e3 : x' = x := Option.some.inj ((fx _ (ka _ kk)).symm.trans ex)
    have e4 : y' = y := Option.some.inj ((fy _ (kb _ kk)).symm.trans ey)
    subst e3 e4 ev e2
    have n1 : New H' (upd H' T (.tup [x', y'])) := New.upd nT
    have n2 : New (upd H' T (.tup [x', y'])) (upd (upd H' T (.tup [x', y'])) U (.tup [.int (i : Nat), .ref T])) := New.upd nU
    have n3 : New H' (upd (upd H' T (.tup [x', y'])) U (.tup [.int (i : Nat), .ref T])) := fun p o q => n2 p o (n1 p o q)
    refine ⟨n3, .tup (.inl upd_same) (.cons .int (.cons (.tup (.inl (n2 _ _ upd_same)) (.cons (Rep.mono (kk.trans n3.keeps) _ _ rx) (.cons (Rep.mono (kk.trans n3.keeps) _ _ ry) .nil))) .nil))⟩
def W.items : W → Option (List W)
  | .tup xs => some xs
  | .lst xs => some xs
  | _ => none
def iEz (t : AAT) : AIT := fun env h Q => t env h fun ws env' h' => match ws with
  | [a, b] => match a.items, b.items with
    | some xs, some ys => Q (ezW xs ys) env' h'
    | _, _ => False
  | _ => False
theorem Rep.sqk {K : PySem.W.Frag} {H : Hp} : ∀ {w : W} {ws : List W} {v : V}, Rep K H w v → w.items = some ws → ∃ k a vs, v = .ref a ∧ (∀ H', Keeps H H' → SqK k K H' a vs) ∧ RepL K H ws vs
  | .tup xs, ws, v, r, e => by
    cases e
    obtain ⟨a, vs, ev, hq, rl⟩ := Rep.of_tup r
    exact ⟨true, a, vs, ev, fun H' k => k.sqT hq, rl⟩
  | .lst xs, ws, v, r, e => by
    cases e
    obtain ⟨a, vs, ev, hq, rl⟩ := Rep.of_lst r
    exact ⟨false, a, vs, ev, fun H' k => (k.lsF hq).sq, rl⟩
  | .non, _, _, _, e => by cases e
  | .bl _, _, _, _, e => by cases e
  | .int _, _, _, _, e => by cases e
  | .str _, _, _, _, e => by cases e
  | .dct _ _, _, _, _, e => by cases e
  | .ref _, _, _, _, e => by cases e
  | .ty _, _, _, _, e => by cases e
section
variable {X : Cx} {G : Gx} {e e2 : Expr} {ta : AAT} {p p2 pos pos2 tpos : Pos} {elts : List Expr} {kk : Nat}
theorem iEz.mono (m : Mono ta) : Mono (iEz ta) := fun env h Q Q' k q => m env h _ _ (fun ws e g z => by
  split at z
  · split at z
    · exact k _ _ _ z
    · exact z
  · exact z) q
theorem ai_enz (gk : G.K = X.K) (hg : Gl X "enumerate") (hm : X.mg "enumerate" = none) (hgz : Gl X "zip") (hmz : X.mg "zip" = none) (ha : AA X G [e, e2] ta)
    (hs : starEach [.Call (.Name "zip" p2) [e, e2] [] pos2] X.env = [(false, eval (.Call (.Name "zip" p2) [e, e2] [] pos2) X.env)] := by rfl) (hs2 : starEach [e, e2] X.env = (false, eval e X.env) :: starEach [e2] X.env := by rfl) (hpl : (backTo pos2 (starEach [e2] X.env)).any (·.1) = false := by rfl) :
    AI X G (.Tuple elts kk tpos) (.Call (.Name "enumerate" p) [.Call (.Name "zip" p2) [e, e2] [] pos2] [] pos) (iEz ta) := by
  refine ⟨iEz.mono ha.mono, PI.imp (pi_enZ hg hm hgz hmz ha.pa hs hs2 hpl) fun σ H R ⟨env, h, S, q⟩ => ⟨env, h, S, ha.mono env h _ _ (fun ws env1 h1 z vs H1 S1 x1 r1 => ?_) q⟩⟩
  split at z
  · rename_i wa wb
    split at z
    · rename_i xs ys ea eb
      obtain ⟨v1, t, rfl, a1, b1⟩ := r1.of_cons
      obtain ⟨v2, t, rfl, a2, b2⟩ := b1.of_cons
      rw [b2.of_nil]
      obtain ⟨k, a, us1, rfl, q1, rl1⟩ := Rep.sqk a1 ea
      obtain ⟨l, b, us2, rfl, q2, rl2⟩ := Rep.sqk a2 eb
      exact ⟨a, b, us1, us2, k, l, rfl, gk ▸ q1 _ (Keeps.refl _), gk ▸ q2 _ (Keeps.refl _), z _ H1 S1 x1 (gk ▸ gives_enZ q1 q2 rl1 rl2)⟩
    · exact z.elim
  · exact z.elim
end
end Ab

namespace Ab
open PySem PySem.Spec PyProof.Rows L2 RZ
/-! ### a product of ints, or a new list so many times -/
section
variable {X : Cx} {G : Gx} {a b : Expr} {ta tb : AT} {pos : Pos}
end
/-! ### x[i] += e -/
def rGetN (K : PySem.W.Frag) : V → V → Hp → VK → Prop := fun x y H Q => ∃ p xs k z, x = .ref p ∧ y = .int k ∧ SqL K H p xs ∧ 0 ≤ k ∧ k < 2 ^ 63 ∧ xs[k.toNat]? = some z ∧ Q z H
theorem get_listN {X : Cx} : PGet X (rGetN X.K) := by
  intro pins s σ H o i ov iv Q I ro ri h
  obtain ⟨p, xs, k, z, rfl, rfl, hq, k0, k1, he, q⟩ := h
  cases ro
  obtain ⟨t, rfl⟩ := ri
  obtain ⟨its, r, pl, hz⟩ := I.list hq
  obtain ⟨w, ew, rw'⟩ := r.get he
  exact wpAny_getItem_list pl.isList k0 k1 (by simpa using ew) ⟨z, H, I, rw', q⟩
def aAugS (f : Int → Int → Int) (to ti te : AT) : ATS := fun D env h => to env h fun ro env1 h1 => ti env1 h1 fun ri env2 h2 => match view env2 h2 ri with
  | .wv (.int k) => (0 ≤ k ∧ k < 2 ^ 62) ∧ (match plc env2 h2 ro with
    | some (.seq xs) => (match xs[k.toNat]? with
      | some (.int x) => te env2 h2 fun re env3 h3 => (match view env3 h3 re with
        | .wv (.int y) => (match plc env3 h3 ro with
          | some (.seq ys) => k.toNat < ys.length ∧ D.nx (putE env3 ro (.seq (ys.set k.toNat (.int (f x y))))) (putH h3 ro (.seq (ys.set k.toNat (.int (f x y)))))
          | _ => False)
        | _ => False)
      | _ => False)
    | _ => False)
  | _ => False
section
variable {X : Cx} {G : Gx} {o i e : Expr} {to ti te : AT} {tpos pos : Pos} {op : Operator} {f : Int → Int → Int}
theorem aAugS.mono (mo : Mono to) (mi : Mono ti) (me : Mono te) : MonoS (aAugS f to ti te) := fun D D' env h l q => mo env h _ _ (fun ro e g z => mi e g _ _ (fun ri e g z => by
  split at z
  · refine ⟨z.1, ?_⟩
    have z := z.2
    split at z
    · split at z
      · refine me e g _ _ (fun re e g z => ?_) z
        split at z
        · split at z
          · exact ⟨z.1, l.nx _ _ z.2⟩
          · exact z
        · exact z
      · exact z
    · exact z
  · exact z) z) q
theorem as_augS (hp : PIp X op (ipI f)) (ho : AE X G o to) (hi : AE X G i ti) (he : AE X G e te)
    (ha : ∀ ov iv new, augStore i ov iv new = (do holding [new, ov, iv] (setItem ov iv new); release [new, ov, iv] []; pure .next) := by intros; rfl) : AS X G (.AugAssign (.Subscript o i tpos) op e pos) (aAugS f to ti te) := by
  refine ⟨aAugS.mono ho.mono hi.mono he.mono, PS.imp (ps_augS ho.pe hi.pe get_listN he.pe hp set_list ha) fun D σ H ⟨env, h, Da, S, q, l⟩ => ?_⟩
  refine ⟨env, h, S, ho.mono env h _ _ (fun ro env1 h1 z x H1 S1 x1 r1 f1 => ?_) q⟩
  refine ⟨env1, h1, S1, hi.mono env1 h1 _ _ (fun ri env2 h2 z y H2 S2 x2 r2 f2 => ?_) z⟩
  have ry := r2.vr S2
  split at z
  · rename_i k ek
    rw [ek] at ry
    obtain ⟨⟨k0, k1⟩, z⟩ := z
    have ey : y = .int k := ry.int
    split at z
    · rename_i xs ex
      obtain ⟨p, rfl, ⟨us, lu, rl⟩, _⟩ := put_ok S2 (r1.xt S1 x2) ex
      split at z
      · rename_i a ea
        obtain ⟨va, eva, rva⟩ := rl.get ea
        refine ⟨p, us, k, va, rfl, ey, .inl (.inl lu), k0, by omega, eva, env2, h2, S2, he.mono env2 h2 _ _ (fun re env3 h3 z w H3 S3 x3 r3 f3 => ?_) z⟩
        have rw3 := r3.vr S3
        split at z
        · rename_i y3 ey3
          rw [ey3] at rw3
          split at z
          · rename_i ys eys
            obtain ⟨p', ep, ⟨us3, lu3, rl3⟩, put⟩ := put_ok S3 (((r1.xt S1 x2)).xt S2 x3) eys
            cases ep
            obtain ⟨lt, z⟩ := z
            refine ⟨a, y3, rva.of_int, rw3.int, p, us3, k, k.toNat, rfl, ey, lu3, ?_, ?_⟩
            · have e1 : us3.length = ys.length := rl3.length.symm
              unfold ixN
              rw [if_pos k0, if_pos (by rw [e1]; omega)]
            · obtain ⟨S4, x4⟩ := put (.lst (us3.set k.toNat (.int (f a y3)))) (.seq (ys.set k.toNat (.int (f a y3)))) fun kk => ⟨_, upd_same, RepL.mono kk _ _ (rl3.set _ .int)⟩
              exact l.nx _ _ _ _ S4 ((x1.keeps S).trans ((x2.keeps S1).trans ((x3.keeps S2).trans (x4.keeps S3)))) z
          · exact z.elim
        · exact z.elim
      · exact z.elim
    · exact z.elim
  · exact z.elim
end
/-! ### list(range(..)) -/
section
variable {X : Cx} {G : Gx} {a b : Expr} {ta tb : AT} {pos p p2 pos2 : Pos}
end
/-! ### xs.extend(a new list) -/
def aExt (to te : AT) : AT := fun env h Q => to env h fun ro env1 h1 => isSeq (plc env1 h1 ro) ∧ te env1 h1 fun re env2 h2 => match view env2 h2 re with
  | .cv (.seq ys) => (match plc env2 h2 ro with
    | some (.seq xs) => xs.length + ys.length ≤ sizeLine ∧ Q (.val .non) (putE env2 ro (.seq (xs ++ ys))) (putH h2 ro (.seq (xs ++ ys)))
    | _ => False)
  | _ => False
section
variable {X : Cx} {G : Gx} {o e : Expr} {to te : AT} {apos cpos : Pos}
theorem aExt.mono (mo : Mono to) (me : Mono te) : Mono (aExt to te) := fun env h Q Q' k q => mo env h _ _ (fun ro e g ⟨i, z⟩ => ⟨i, me e g _ _ (fun re e g z => by
  split at z
  · split at z
    · exact ⟨z.1, k _ _ _ z.2⟩
    · exact z
  · exact z) z⟩) q
end
end Ab

namespace Ab
open PySem PySem.Spec PyProof.Rows L2 RZ
/-! ### name = [..] on one line, the name a local -/
section
variable {X : Cx} {G : Gx} {i : Nat} {y : Str} {py : Pos} {elt tg iter : Expr} {ifs : List Expr} {scope : Scope} {own : List (Str × Nat)} {pos spos : Pos} {ti : AIT} {g : AGT} {tt : ABT} {te : AVT} {sl : List Nat}
end
end Ab

namespace Ab
open PySem PySem.Spec PyProof.Rows L2 RZ
/-! ### (a, b, ..) = a tuple or a list of that length -/
section
variable {X : Cx} {G : Gx} {es : List Expr} {k n : Nat} {u : AGTs} {sl : List Nat} {pos : Pos}
theorem PG.or {tg : Expr} {t t' : TG} (a : PG X tg t) (b : PG X tg t') : PG X tg (fun v σ H Q => t v σ H Q ∨ t' v σ H Q) := ⟨fun pins s σ H v u Q I r q => q.elim (fun z => a.run pins s σ H v u Q I r z) fun z => b.run pins s σ H v u Q I r z⟩
end
end Ab

/-! Ab24: a tuple so many times, also once and not at all. -/
namespace Ab
open PySem PySem.Spec PyProof.Rows L2 RZ
section
variable (l : Addr) (items : Array Value) (n : Nat) (dd : Option Addr) (sl : Array (Option Value)) (x : Int) (u : Tok)
abbrev tupO : Obj := { cls := .type "tuple", dict := dd, data := .seq items n, slots := sl }
theorem tup_once (u : Tok) : Meets (Builtin.«tuple.__mul__» ⟨[.ref l, .int 1 u], []⟩)
    (fun _ R s => s.heap.get? l = some (tupO items n dd sl) ∧ R (.ok (.ret (Value.ref l))) s) :=
  .of_wp fun prog w A R s h => by
    obtain ⟨hp, g, d, tk, os⟩ := s
    obtain ⟨hl, h⟩ := h
    have f1 := AutoSeq1.idx_int
    have c0 : (decide ((1 : Int) < -(2 ^ 63)) || decide ((1 : Int) ≥ 2 ^ 63)) = false := by decide
    have c1 : (items.isEmpty || (1 : Int) == 1) = true := by simp
    wp_walk using wpAny_loadPart' hl
    repeat (first
      | (apply wpAny_ite_false (decide_eq_false (by rw [c0]; decide)); wp_walk using wpAny_loadPart' hl)
      | (apply wpAny_ite_true (decide_eq_true c1); wp_walk using wpAny_loadPart' hl))
    all_goals first | exact ⟨_, rfl, h⟩ | skip
theorem tup_none (hx : x ≤ 0) (hx2 : -(2 ^ 63) ≤ x) (hi : items.isEmpty = false) : Meets (Builtin.«tuple.__mul__» ⟨[.ref l, .int x u], []⟩)
    (fun _ R s => s.heap.get? l = some (tupO items n dd sl) ∧
      R (.ok (.ret (Value.ref s.heap.objs.size))) { s with heap := s.heap.push { cls := Value.type "tuple", data := Data.seq #[] }, toks := s.toks }) :=
  .of_wp fun prog w A R s h => by
    obtain ⟨hp, g, d, tk, os⟩ := s
    obtain ⟨hl, h⟩ := h
    have f1 := AutoSeq1.idx_int
    have c0 : (decide (x < -(2 ^ 63)) || decide (x ≥ 2 ^ 63)) = false := by
      rw [decide_eq_false (by omega), decide_eq_false (by omega)]
      rfl
    have c1 : (items.isEmpty || x == 1) = false := by
      rw [hi, Bool.false_or]
      exact beq_eq_false_iff_ne.mpr (by omega)
    have c2 : (decide (x ≤ 0) || items.isEmpty) = true := by
      rw [decide_eq_true hx]
      rfl
    wp_walk using wpAny_loadPart' hl
    repeat (first
      | (apply wpAny_ite_false (decide_eq_false (by rw [c0]; decide)); wp_walk using wpAny_loadPart' hl)
      | (apply wpAny_ite_false (decide_eq_false (by rw [c1]; decide)); wp_walk using wpAny_loadPart' hl)
      | (apply wpAny_ite_true (decide_eq_true c2); wp_walk using wpAny_loadPart' hl))
    all_goals first | exact ⟨_, rfl, h⟩ | skip
end
def rRepA (K : PySem.W.Frag) : R2 := fun x y H Q => ∃ l k xs, x = .ref l ∧ y = .int k ∧ SqT K H l xs ∧ xs ≠ [] ∧ -(2 ^ 63) ≤ k ∧ k ≤ 1000 ∧ xs.length ≤ 1000 ∧
  (k = 1 → Q (.ref l) H) ∧ (k ≠ 1 → ∀ p, H p = none → Q (.ref p) (upd H p (.tup (List.replicate k.toNat xs).flatten)))
theorem op_repA {X : Cx} : OpR X (binaryOp .Mult) (rRepA X.K) := by
  intro pins s σ H x y v u Q I rx ry h
  obtain ⟨l, k, xs, rfl, rfl, hT, hne, h1, h2, hz, q1, q⟩ := h
  by_cases k2 : 2 ≤ k
  · exact op_repT pins s σ H _ _ v u Q I rx ry ⟨l, k, xs, rfl, rfl, hT, hne, k2, h2, hz, q (by omega)⟩
  cases rx
  obtain ⟨t, rfl⟩ := ry
  obtain ⟨its, r, ⟨⟨cls, dd, data, sl⟩, ho, hc, n, hd⟩, hs⟩ := I.tuple hT
  simp only at hc hd
  subst hc hd
  have hle : its.length = xs.length := r.length.symm
  have hi : its.toArray.isEmpty = false := by
    cases its with
    | nil => exact absurd (List.eq_nil_of_length_eq_zero hle.symm) hne
    | cons a b => rfl
  have road : ∀ {R : Value → Shared → Prop} {E : Value → Shared → Prop}, wpAny (model X.prog X.w) X.A (call (.builtin "tuple.__mul__") [.ref l, .int k t]) R E s → wpAny (model X.prog X.w) X.A (binaryOp .Mult (.ref l) (.int k t)) R E s := fun {R E} z =>
    wpAny_binaryOp_repeat_ref (T := "tuple") (U := "int") (by decide) ⟨_, ho, rfl⟩ (fun s' => typeIs_int s' k t) noFill_tuple_mul F.fills_int_mul F.slot_int_rmul repeat_tuple F.slot_int_index.lookup
      (call_meets F.slot_int_rmul (typeIs_int s k t) F.entry_int_rmul (F.args_int_rmul_2 _ _) (int_rmul_tuple k t l its.toArray n dd sl) ⟨ho, rfl, ⟨_, ho, rfl⟩, z⟩)
  by_cases k1 : k = 1
  · subst k1
    exact road (call_meets F.slot_tuple_mul ⟨_, ho, rfl⟩ F.entry_tuple_mul (F.args_tuple_mul_2 _ _) (tup_once l its.toArray n dd sl t) ⟨ho, .ref l, H, I, rfl, q1 rfl⟩)
  · refine road (call_meets F.slot_tuple_mul ⟨_, ho, rfl⟩ F.entry_tuple_mul (F.args_tuple_mul_2 _ _) (tup_none l its.toArray n dd sl k t (by omega) h1 hi) ⟨ho, ?_⟩)
    have ek : k.toNat = 0 := by omega
    have z := q k1 s.heap.objs.size (I.hok.fresh (Nat.le_refl _))
    rw [ek] at z
    exact ⟨.ref s.heap.objs.size, _, I.laid (t' := s.toks) (o := .tup []) (fun b ob q => Heap.get?_push_of_some _ q) (Nat.le_refl _) ⟨by decide, _, .nil, IsTup.new _ _⟩, rfl, z⟩
/-! * of ints, of new lists, of tuples -/
def oMulT : Op2 := fun a b Q => match b with
  | .wv (.int j) => match a with
    | .wv (.int i) => CMulW i j ∧ Q (.val (.int (i * j)))
    | .cv (.seq xs) => (-(2 ^ 63) ≤ j ∧ j < 2 ^ 63 ∧ xs.length * j.toNat ≤ sizeLine) ∧ Q (.own (.seq (List.replicate j.toNat xs).flatten))
    | .wv (.tup xs) => (-(2 ^ 63) ≤ j ∧ j ≤ 1000 ∧ 1 ≤ xs.length ∧ xs.length ≤ 1000) ∧ Q (.val (.tup (List.replicate j.toNat xs).flatten))
    | _ => False
  | _ => False
theorem oMulT.mono (a b : Vw) (Q Q' : RV → Prop) (k : ∀ r, Q r → Q' r) (q : oMulT a b Q) : oMulT a b Q' := by
  unfold oMulT at q ⊢
  split at q
  · split at q
    · exact ⟨q.1, k _ q.2⟩
    · exact ⟨q.1, k _ q.2⟩
    · exact ⟨q.1, k _ q.2⟩
    · exact q
  · exact q
theorem opa_mulT {K : PySem.W.Frag} : OpA K (fun x y H Q => (rI CMulW (fun i j => .int (i * j)) x y H Q ∨ rRep x y H Q) ∨ rRepA K x y H Q) oMulT :=
  ⟨oMulT.mono, fun a b x y H Q0 Q ra rb q k => by
    unfold oMulT at q
    split at q
    · rename_i j
      have ey : y = .int j := rb.int
      split at q
      · rename_i i
        have ex : x = .int i := ra.int
        exact .inl (.inl ⟨i, j, ex, ey, q.1, k _ _ (.val q.2 .int)⟩)
      · rename_i xs
        obtain ⟨p, ex, vs, l, rl⟩ := ra
        exact .inl (.inr ⟨p, j, vs, ex, ey, l, q.1.1, q.1.2.1, by rw [← rl.length]; exact q.1.2.2, fun p' n => k _ _ (.lst n q.2 (rl.rep _))⟩)
      · rename_i xs
        obtain ⟨p, vs, ex, l, rl⟩ := Rep.of_tupT (K := K) (H := H) ra
        refine .inr ⟨p, j, vs, ex, ey, l.sq, fun e => ?_, q.1.1, q.1.2.1, by rw [← rl.length]; exact q.1.2.2.2, fun e => ?_, fun _ p' n => k _ _ (.tup n q.2 (rl.rep _))⟩
        · have := rl.length
          rw [e] at this
          have := q.1.2.2.1
          simp_all
        · subst e
          have q2 := q.2
          rw [show (1 : Int).toNat = 1 from rfl] at q2
          simp only [List.replicate, List.flatten_cons, List.flatten_nil, List.append_nil] at q2
          exact k _ _ (.val q2 (.tup l rl))
      · exact q.elim
    · exact q.elim⟩
theorem ae_mulT {X : Cx} {G : Gx} {a b : Expr} {ta tb : AT} {pos : Pos} (gk : G.K = X.K) (ha : AE X G a ta) (hb : AE X G b tb) : AE X G (.BinOp a .Mult b pos) (aOp2 oMulT ta tb) := ae_op ((op_mulW.or op_rep).or op_repA) (gk ▸ opa_mulT) ha hb
end Ab

/-! Ab25: a tuple read backwards by a slice. -/
namespace HT
open PySem PySem.Spec PyProof.Rows
section
variable {prog : Program} {w : World} {A : Around} {E : Value → Shared → Prop} {s : Shared}
end
end HT
namespace Ab
open PySem PySem.Spec PyProof.Rows L2 RZ
section
variable {X : Cx} {e st : Expr} {te ts : TE} {pos p2 : Pos}
end
theorem RepL.reverse {K : PySem.W.Frag} {H : Hp} : ∀ {ws : List W} {vs : List V}, RepL K H ws vs → RepL K H ws.reverse vs.reverse
  | [], vs, h => by rw [h.of_nil]; exact .nil
  | w :: ws, vs, h => by
    obtain ⟨v, r, rfl, a, t⟩ := h.of_cons
    rw [List.reverse_cons, List.reverse_cons]
    exact t.reverse.append (.cons a .nil)
def oBack : OpN := fun as Q => match as with
  | [.wv (.tup xs), .wv (.int i)] => i = -1 ∧ Q (.val (.tup xs.reverse))
  | _ => False
theorem oBack.mono {as : List Vw} {Q Q' : RV → Prop} (k : ∀ r, Q r → Q' r) (q : oBack as Q) : oBack as Q' := by
  unfold oBack at q ⊢
  split at q
  · exact ⟨q.1, k _ q.2⟩
  · exact q.elim
section
variable {X : Cx} {G : Gx} {a st : Expr} {ta ts : AT} {pos p2 : Pos}
end
end Ab

/-! Ab26: sorted, of ints. -/
namespace Ab
open PySem PySem.Spec PyProof.Rows L2 RZ
/-- ints put in order -/
def ins (a : Int) : List Int → List Int
  | [] => [a]
  | b :: r => if a ≤ b then a :: b :: r else b :: ins a r
def srt : List Int → List Int
  | [] => []
  | a :: r => ins a (srt r)
def oSorted : OpN := oInts fun ns Q => Q (.own (.seq ((srt ns).map W.int)))
end Ab

/-! Ab27: a dict's display; d.get(k, x). -/
namespace Ab
open PySem PySem.Spec PyProof.Rows L2 RZ
section
variable {G : Gx} {env env' env2 : AEnv} {h h' : AH} {σ : L2.St} {H H1 H2 : Hp} {p : Addr}
end
/-- keys and values by turns -/
def flat2 {α : Type} : List (α × α) → List α
  | [] => []
  | p :: r => p.1 :: p.2 :: flat2 r
structure AD (X : Cx) (G : Gx) (pos : Pos) (keys : List (Option Expr)) (values : List Expr) (t : AAT) : Prop where
  mono : Mono t
  all : keys.all (·.isSome) = true
  len : keys.length = values.length
  pp : ∃ trs, PPs X pos keys values trs ∧ ∀ σ H Q env h, BS G env h σ H → (t env h fun ws env' h' => ∀ ps H', BS G env' h' σ H' → Xt env h σ H env' h' H' → RepL G.K H' ws (flat2 ps) → Q ps H') → tPairs trs σ H Q
section
variable {X : Cx} {G : Gx} {pos : Pos}
end
end Ab

/-! Ab28: d.get(k, x), d a local dict with keys ints and texts. -/
namespace Ab
open PySem PySem.Spec PyProof.Rows L2 RZ
def lookW (kvs : List (W × W)) (k : Key) (d : W) : W := ((kvs.find? fun p => decide (keyF p.1 = some k)).map (·.2)).getD d
def Keyed (kvs : List (W × W)) : Prop := kvs ≠ [] ∧ ∀ p ∈ kvs, (keyF p.1).isSome = true
def aGetD (i : Nat) (tk td : AVT) : AT := fun env h Q => (∃ kvs, env[i]? = some (some (.own (.map kvs)))) ∧ tk env h fun w env1 h1 => td env1 h1 fun d env2 h2 =>
  ∃ kvs key, env2[i]? = some (some (.own (.map kvs))) ∧ Keyed kvs ∧ keyF w = some key ∧ Q (.val (lookW kvs key d)) env2 h2
theorem aGetD.mono {i : Nat} {tk td : AVT} (m : Mono tk) (n : Mono td) : Mono (aGetD i tk td) := fun env h Q Q' k q =>
  ⟨q.1, m env h _ _ (fun w e g z => n e g _ _ (fun d e g ⟨kvs, key, z1, z2, z3, z4⟩ => ⟨kvs, key, z1, z2, z3, k _ _ _ z4⟩) z) q.2⟩
section
variable {X : Cx} {G : Gx}
end
end Ab

/-! Ab29: lists in a list, each changed in place: shared at birth, locked at the end. -/
namespace Ab
open PySem PySem.Spec PyProof.Rows L2 RZ
section
variable {X : Cx} {G : Gx}
/-- a new list or dict, in the abstract heap from birth on -/
def aPrm (t : AT) : AVT := fun env h Q => t env h fun r env' h' => match r with
  | .own c => ∀ p, h' p = none → Q (.ref p) env' (updA h' p (.cont c))
  | _ => False
theorem aPrm.mono {t : AT} (m : Mono t) : Mono (aPrm t) := fun env h Q Q' k q => m env h _ _ (fun r e g z => by
  cases r with
  | own c => exact fun p n => k _ _ _ (z p n)
  | val w => exact z.elim
  | slot i => exact z.elim) q
/-! ### locked again -/
def eraseA (h : AH) (p : Addr) : AH := fun b => if b = p then none else h b
def demL : List W → AH → (List W → AH → Prop) → Prop
  | [], h, Q => Q [] h
  | w :: ws, h, Q => match w with
    | .ref p => (match h p with
      | some (.cont c) => demL ws (eraseA h p) fun us h' => Q (c.fz :: us) h'
      | _ => False)
    | _ => False
theorem demL.mono : ∀ {ws : List W} {h : AH} {Q Q' : List W → AH → Prop}, (∀ us h', Q us h' → Q' us h') → demL ws h Q → demL ws h Q'
  | [], h, Q, Q', k, q => k _ _ q
  | w :: ws, h, Q, Q', k, q => by
    cases w with
    | ref p =>
      unfold demL at q ⊢
      dsimp only at q ⊢
      split at q
      · exact demL.mono (fun us h' q => k _ _ q) q
      · exact q.elim
    | _ => exact q.elim
end
end Ab

namespace Ab
open PySem PySem.Spec PyProof.Rows L2 LamX
/-! ### a lambda is made -/
/-- the object at f is that lambda -/
def LamO (f : Addr) (q : Str) (params : Arguments) (body : Expr) (scope : Scope) (cl : List (Str × Addr)) (c : Addr) : HO :=
  .ext fun h => ∃ pm ctv : Value, h.get? f = some (PySem.W.kla_obj "<lambda>" q params body scope cl pm c ctv)
theorem lamO_nt {f c : Addr} {q : Str} {params : Arguments} {body : Expr} {scope : Scope} {cl : List (Str × Addr)} : NT (LamO f q params body scope cl c) := fun ps e => by
  unfold LamO at e; cases e
theorem codeO_nt {c : Addr} {q : Str} : NT (CodeO c q) := fun ps e => by
  unfold CodeO at e; cases e
section
variable {X : Cx} {pins : List (Addr × Obj)} {σ : L2.St} {H : Hp} {s : Shared} {T : List (Addr × Str)} {c P : Addr} {params : Arguments} {body : Expr} {scope : Scope} {pos : Pos}
/-- what is known behind the making -/
structure Made (X : Cx) (T : List (Addr × Str)) (P : Addr) (params : Arguments) (body : Expr) (scope : Scope) (H H1 : Hp) (f c : Addr) : Prop where
  but : ∀ b o, H b = some o → b ≠ P → H1 b = some o
  tab : ∃ ps, H1 P = some (.tbl ps)
  tabs : Tabs T H1
  new : H f = none
  lam : H1 f = some (LamO f (X.env.qual ++ "<lambda>") params body scope (cloFrom X.env.cells scope.names []) c)
  code : H1 c = some (CodeO c (X.env.qual ++ "<lambda>"))
theorem lam_laid {h' : Heap} {H1 : Hp} {c' : Addr} {pm ctv : Value} {tk : Nat} {cl : List (Str × Addr)} {q : Str} (I : Inv X pins σ H1 { s with heap := h', toks := tk }) :
    Inv X pins σ (upd H1 h'.objs.size (LamO h'.objs.size q params body scope cl c')) { s with heap := h'.push (PySem.W.kla_obj "<lambda>" q params body scope cl pm c' ctv), toks := tk } :=
  I.laid (a := h'.objs.size) (t' := tk) (fun b u e => Heap.get?_push_of_some _ e) (Nat.le_refl _) ⟨⟨pm, ctv, Heap.get?_push_size _ rfl⟩, ⟨_, Heap.get?_push_size _ rfl⟩, fun h1 h2 ⟨a, b, e⟩ st => ⟨a, b, st _ e⟩⟩
theorem lam_new {E : Value → Shared → Prop} {Q : Value → Shared → Prop} (I : Inv X pins σ H s) (TB : TabB X.base X.mg c P) (hcode : X.env.code = .ref c)
    (hm : (P, X.env.qual ++ "<lambda>") ∈ T) (hu : ∀ p ∈ T, p.1 = P → p.2 = X.env.qual ++ "<lambda>") (hT : Tabs T H) (hdef : defaultsOf params X.env = ([], [])) (hfree : ∀ y ∈ scope.names, y.2 = .free → ∃ c, X.env.cells.lookup y.1 = some c)
    (h : ∀ (f c' : Addr) (H1 : Hp) (s' : Shared), Inv X pins σ H1 s' → Made X T P params body scope H H1 f c' → Q (.ref f) s') :
    wpAny (model X.prog X.w) X.A (eval (.Lambda params body scope pos) X.env) Q E s := by
  obtain ⟨ps, hP, ht, ha⟩ := hT _ hm
  refine PySem.W.kla_eval hdef ?_
  have bP : s.heap.BuiltinsAt X.mg P := TB.bm.keeps I.bk
  have oP : s.heap.get? P = some { cls := .none, data := .fields ps } := I.hok P _ hP
  have gl := I.mod.glob.keeps I.bk
  have ch := TB.code.keeps I.bk
  have clo := closure_ok hfree
  cases hc : codeAmong pos ps.toList with
  | some cv =>
    obtain ⟨c', e, hco⟩ := ha pos cv hc
    subst e
    refine PySem.W.kla_makeFunctionHit (c := c) (ps := ps) clo I.ok.glob gl hcode ch oP ht hc bP fun ctv h' tk hx hsz => ?_
    have J := lam_laid (params := params) (body := body) (scope := scope) (c' := c') (pm := (X.mg "__name__").getD .none) (ctv := ctv) (cl := cloFrom X.env.cells scope.names []) (q := X.env.qual ++ "<lambda>") (I.kept (t' := tk) hx)
    have nf : H h'.objs.size = none := I.hok.fresh hsz
    have st : ∀ b o, H b = some o → upd H h'.objs.size (LamO h'.objs.size (X.env.qual ++ "<lambda>") params body scope (cloFrom X.env.cells scope.names []) c') b = some o := fun b o e => by
      rw [upd_ne (ne_of_none e nf)]; exact e
    exact h _ c' _ _ J ⟨fun b o e _ => st b o e, ⟨ps, st _ _ hP⟩, hT.ext st, nf, upd_same, st _ _ hco⟩
  | none =>
    refine PySem.W.kla_makeFunction (c := c) (ps := ps) clo I.ok.glob gl hcode ch oP ht hc TB.gP bP fun c' ctv h' tk hx hge hlt hrec htb => ?_
    obtain ⟨c2, oc, vs, t, e2, hoc, hd, hv⟩ := hrec
    cases e2
    have nC : H c' = none := I.hok.fresh hge
    have J0 := inv_table (t' := tk) (q := X.env.qual ++ "<lambda>") (more := #[rawInt pos.line, rawInt pos.col, .ref c']) I hP hx htb hge ⟨oc, vs, t, hoc, hd, hv⟩
    have J := lam_laid (params := params) (body := body) (scope := scope) (c' := c') (pm := (X.mg "__name__").getD .none) (ctv := ctv) (cl := cloFrom X.env.cells scope.names []) (q := X.env.qual ++ "<lambda>") J0
    have sz : s.heap.objs.size ≤ h'.objs.size := Nat.le_trans hge (Nat.le_of_lt hlt)
    have nf : H h'.objs.size = none := I.hok.fresh sz
    have fc : c' ≠ h'.objs.size := Nat.ne_of_lt hlt
    have fP : P ≠ h'.objs.size := Nat.ne_of_lt (Nat.lt_of_lt_of_le (Heap.lt_size oP) sz)
    have cP : P ≠ c' := ne_of_none hP nC
    have st : ∀ b o, H b = some o → b ≠ P → upd (upd (upd H P (.tbl (ps ++ #[rawInt pos.line, rawInt pos.col, .ref c']))) c' (CodeO c' (X.env.qual ++ "<lambda>"))) h'.objs.size (LamO h'.objs.size (X.env.qual ++ "<lambda>") params body scope (cloFrom X.env.cells scope.names []) c') b = some o := fun b o e n => by
      rw [upd_ne (ne_of_none e nf), upd_ne (ne_of_none e nC), upd_ne n]; exact e
    have aC : upd (upd (upd H P (.tbl (ps ++ #[rawInt pos.line, rawInt pos.col, .ref c']))) c' (CodeO c' (X.env.qual ++ "<lambda>"))) h'.objs.size (LamO h'.objs.size (X.env.qual ++ "<lambda>") params body scope (cloFrom X.env.cells scope.names []) c') c' = some (CodeO c' (X.env.qual ++ "<lambda>")) := by
      rw [upd_ne fc, upd_same]
    have aP : upd (upd (upd H P (.tbl (ps ++ #[rawInt pos.line, rawInt pos.col, .ref c']))) c' (CodeO c' (X.env.qual ++ "<lambda>"))) h'.objs.size (LamO h'.objs.size (X.env.qual ++ "<lambda>") params body scope (cloFrom X.env.cells scope.names []) c') P = some (.tbl (ps ++ #[rawInt pos.line, rawInt pos.col, .ref c'])) := by
      rw [upd_ne fP, upd_ne cP, upd_same]
    refine h _ c' _ _ J ⟨st, ⟨_, aP⟩, fun p hp => ?_, nf, upd_same, aC⟩
    have eL : (ps ++ #[rawInt pos.line, rawInt pos.col, Value.ref c']).toList = ps.toList ++ [rawInt pos.line, rawInt pos.col, .ref c'] := by simp
    by_cases hb : p.1 = P
    · refine ⟨_, by rw [hb]; exact aP, by rw [eL]; exact PySem.TriplesOk_snoc _ _ _ _ ht, fun p' cv z => ?_⟩
      rw [eL] at z
      rw [hu p hp hb]
      rcases among_app _ ht z with z | z
      · obtain ⟨c0, e1, e2⟩ := ha p' cv z
        refine ⟨c0, e1, st _ _ e2 fun y => ?_⟩
        rw [y, hP] at e2
        exact codeO_nt _ (Option.some.inj e2).symm
      · exact ⟨c', z, aC⟩
    · obtain ⟨ps', a1, a2, a3⟩ := hT p hp
      refine ⟨ps', st _ _ a1 hb, a2, fun p' cv z => ?_⟩
      obtain ⟨c0, e1, e2⟩ := a3 p' cv z
      refine ⟨c0, e1, st _ _ e2 fun y => ?_⟩
      rw [y, hP] at e2
      exact codeO_nt _ (Option.some.inj e2).symm
/-- lambda ..: body -/
def tMade (X : Cx) (T : List (Addr × Str)) (P : Addr) (params : Arguments) (body : Expr) (scope : Scope) : TE := fun _ H Q => Tabs T H ∧ ∀ f c' H1, Made X T P params body scope H H1 f c' → Q (.ref f) H1
theorem pe_made (TB : TabB X.base X.mg c P) (hcode : X.env.code = .ref c) (hm : (P, X.env.qual ++ "<lambda>") ∈ T) (hu : ∀ p ∈ T, p.1 = P → p.2 = X.env.qual ++ "<lambda>") (hdef : defaultsOf params X.env = ([], []))
    (hfree : X.Ok → ∀ y ∈ scope.names, y.2 = .free → ∃ c, X.env.cells.lookup y.1 = some c) : PE X (.Lambda params body scope pos) (tMade X T P params body scope) :=
  ⟨fun pins s σ H Q I ⟨hT, h⟩ => lam_new I TB hcode hm hu hT hdef (hfree I.ok) fun f c' H1 s' I1 M => ⟨.ref f, H1, I1, rfl, h f c' H1 M⟩⟩
end
end Ab

namespace Ab
open PySem PySem.Spec PyProof.Rows L2 LamX
/-! ### arguments, one of them a lambda -/
abbrev ALT := AEnv → AH → (Addr → List W → AEnv → AH → Prop) → Prop
def MonoL (t : ALT) : Prop := ∀ env h Q Q', (∀ f ws e k, Q f ws e k → Q' f ws e k) → t env h Q → t env h Q'
def aLamHere (t : AAT) : ALT := fun env h Q => ∀ f : Addr, t env h fun ws env1 h1 => Q f (.ref f :: ws) env1 h1
structure LamD where
  params : Arguments
  body : Expr
  scope : Scope
/-- f is that lambda, its code known -/
def LamF (X : Cx) (d : LamD) (H : Hp) (f : Addr) : Prop :=
  ∃ c, H f = some (LamO f (X.env.qual ++ "<lambda>") d.params d.body d.scope (cloFrom X.env.cells d.scope.names []) c) ∧ H c = some (CodeO c (X.env.qual ++ "<lambda>"))
def cL (X : Cx) (G : Gx) (d : LamD) (t : ALT) : TA := fun σ H Q => ∃ env h, BS G env h σ H ∧ t env h fun f ws env' h' => ∀ vs H', BS G env' h' σ H' → Xt env h σ H env' h' H' → RepL G.K H' ws vs → LamF X d H' f → Q vs H'
structure AL (X : Cx) (G : Gx) (d : LamD) (es : List Expr) (n : Nat) (t : ALT) : Prop where
  mono : MonoL t
  pa : PA X es (cL X G d t)
  ln : ∀ env h (R : Addr → List W → AEnv → AH → Prop), t env h R → t env h fun f ws e g => ws.length = n ∧ R f ws e g
theorem BS.nmu {G : Gx} {env : AEnv} {h : AH} {σ : L2.St} {H : Hp} (S : BS G env h σ H) {p : Addr} {o : HO} (e : H p = some o) (i : ¬ Mu o) : h p = none ∧ ¬ OwnAt env σ p := by
  refine ⟨?_, fun ⟨j, c, a, b⟩ => ?_⟩
  · cases q : h p with
    | none => rfl
    | some u =>
      obtain ⟨o', e', m⟩ := (S.hp p u q).there
      rw [e] at e'; cases e'
      exact absurd m i
  · obtain ⟨p', b', cr, _⟩ := S.own j c a
    rw [b] at b'; cases b'
    exact i (cr.mu_at e)
theorem BS.but {G : Gx} {env : AEnv} {h : AH} {σ : L2.St} {H H1 : Hp} (S : BS G env h σ H) (b : ∀ p o, H p = some o → NT o → H1 p = some o) (th : ∀ p o, H p = some o → ∃ u, H1 p = some u) (t : TabsK G.K H1) :
    BS G env h σ H1 ∧ Xt env h σ H env h H1 := by
  have k : Keeps H H1 := fun p o e i => b p o e i.nt
  refine ⟨⟨S.len, fun i w e => ?_, fun i c e => ?_, S.uni, fun a o e => ?_, fun p o e n y => b p o (S.fr p o e n y) y, S.ext, fun p o e => ?_, t⟩, ⟨fun p o e _ _ y => b p o e y, fun p o e n => (by rw [n] at e; cases e), th, fun i c e => ⟨c, e⟩⟩⟩
  · obtain ⟨v, x, y⟩ := S.val i w e
    exact ⟨v, x, Rep.mono k w v y⟩
  · obtain ⟨p, x, y, n, n0⟩ := S.own i c e
    obtain ⟨o, eo, m⟩ := y.there
    exact ⟨p, x, y.mono k ((b p o eo m.nt).trans eo.symm), n, n0⟩
  · obtain ⟨u, eu, m⟩ := (S.hp a o e).there
    exact (S.hp a o e).mono k ((b a u eu m.nt).trans eu.symm)
  · obtain ⟨u, y⟩ := S.tr p o e
    exact th p u y
section
variable {X : Cx} {G : Gx} {d : LamD} {e : Expr} {es : List Expr} {c P : Addr} {pos : Pos} {n : Nat}
theorem not_mu_lam {f c : Addr} {q : Str} {params : Arguments} {body : Expr} {scope : Scope} {cl : List (Str × Addr)} : ¬ Mu (LamO f q params body scope cl c) := fun z => z
theorem not_mu_code {c : Addr} {q : Str} : ¬ Mu (CodeO c q) := fun z => z
theorem LamF.xt {env env' : AEnv} {h h' : AH} {σ : L2.St} {H H' : Hp} {f : Addr} (S : BS G env h σ H) (x : Xt env h σ H env' h' H') (l : LamF X d H f) : LamF X d H' f := by
  obtain ⟨c, a, b⟩ := l
  obtain ⟨a1, a2⟩ := S.nmu a not_mu_lam
  obtain ⟨b1, b2⟩ := S.nmu b not_mu_code
  exact ⟨c, x.fr _ _ a a1 a2 lamO_nt, x.fr _ _ b b1 b2 codeO_nt⟩
/-- what the maker's def must know of its code object -/
structure LamAt (X : Cx) (d : LamD) (c P : Addr) : Prop where
  TB : TabB X.base X.mg c P
  code : X.env.code = .ref c
  mem : (P, X.env.qual ++ "<lambda>") ∈ tabsOf X.K
  uni : ∀ p ∈ tabsOf X.K, p.1 = P → p.2 = X.env.qual ++ "<lambda>"
  dfl : defaultsOf d.params X.env = ([], [])
  free : X.Ok → ∀ y ∈ d.scope.names, y.2 = .free → ∃ c, X.env.cells.lookup y.1 = some c
theorem al_here {t : AAT} (gk : G.K = X.K) (L : LamAt X d c P) (b : AN X G es n t) (hs : starEach (.Lambda d.params d.body d.scope pos :: es) X.env = (false, eval (.Lambda d.params d.body d.scope pos) X.env) :: starEach es X.env := by rfl) :
    AL X G d (.Lambda d.params d.body d.scope pos :: es) (n + 1) (aLamHere t) := by
  refine ⟨fun env h Q Q' k q f => b.aa.mono env h _ _ (fun ws e g z => k _ _ _ _ z) (q f), PA.imp (pa_cons (pe_made (T := tabsOf X.K) L.TB L.code L.mem L.uni L.dfl L.free) b.aa.pa hs) fun σ H Q ⟨env, h, S, q⟩ => ?_, fun env h R q f => b.aa.mono env h _ _ (fun ws e g ⟨l, z⟩ => ⟨by rw [List.length_cons, l], z⟩) (b.ln env h _ (q f))⟩
  have tb : TabsK X.K H := gk ▸ S.tabs
  obtain ⟨ps, hP, _⟩ := tb _ L.mem
  refine ⟨tb, fun f c' H1 M => ?_⟩
  have bt : ∀ p o, H p = some o → NT o → H1 p = some o := fun p o e y => M.but p o e fun z => by
    rw [z, hP] at e
    exact y ps (Option.some.inj e).symm
  have th : ∀ p o, H p = some o → ∃ u, H1 p = some u := fun p o e => by
    by_cases z : p = P
    · obtain ⟨ps', y⟩ := M.tab
      exact ⟨_, z ▸ y⟩
    · exact ⟨o, M.but p o e z⟩
  have tb1 : TabsK G.K H1 := gk ▸ M.tabs
  obtain ⟨S1, x1⟩ := S.but bt th tb1
  refine ⟨env, h, S1, b.aa.mono env h _ _ (fun ws env2 h2 z vs H2 S2 x2 r2 => ?_) (q f)⟩
  exact z (.ref f :: vs) H2 S2 (x1.trans x2) (.cons .ref r2) (LamF.xt S1 x2 ⟨c', M.lam, M.code⟩)
end
/-! ### the lambda's frame -/
/-- its parameters, the names that it takes from the maker -/
structure LamP (sc scope : Scope) (N ps : List Str) : Prop where
  kind : scope.kind = .function
  co : scope.isCoroutine = false
  gen : scope.isGenerator = false
  own : ∀ y ∈ scope.names, y.2 ≠ .cell ∧ (y.2 = .local → y.1 ∈ ps)
  par : ∀ x ∈ ps, scope.names.lookup x = some .local ∧ x ∉ N
  nd : ps.Nodup
  free : ∀ y ∈ scope.names, y.2 = .free → sc.names.lookup y.1 = some .cell ∨ sc.names.lookup y.1 = some .free
theorem LamP.has {X : Cx} {scope : Scope} {N ps : List Str} (L : LamP X.env.scope scope N ps) (ok : X.Ok) : ∀ y ∈ scope.names, y.2 = .free → ∃ c, X.env.cells.lookup y.1 = some c := fun y hy e =>
  (L.free y hy e).elim (fun k => ok.has _ (.inl k)) fun k => ok.has _ (.inr k)
abbrev lamX (X : Cx) (A : Around) (outer : List Env) (s : Shared) (H : Hp) (E : XK) (scope : Scope) (f c : Addr) (ps : List Str) : Cx := { lamCx X A outer s H E scope f c with N := X.N ++ ps }
theorem zip_look {us : List Value} : ∀ {ps : List Str} {us : List Value} {j : Nat} {x : Str} {u : Value}, ps.Nodup → ps[j]? = some x → us[j]? = some u → (ps.zip us).reverse.lookup x = some u
  | [], _, _, _, _, _, e, _ => by simp at e
  | p :: ps, [], _, _, _, _, _, e => by simp at e
  | p :: ps, v :: us, 0, x, u, nd, e1, e2 => by
    simp at e1 e2
    subst e1 e2
    have z : (ps.zip us).reverse.lookup p = none := by
      rw [List.lookup_eq_none_iff]
      intro y hy
      have m := List.of_mem_zip (List.mem_reverse.mp hy)
      rw [bne_iff_ne]
      intro e
      exact (List.nodup_cons.mp nd).1 (e ▸ m.1)
    rw [List.zip_cons_cons, List.reverse_cons, List.lookup_append, z]
    simp
  | p :: ps, v :: us, j + 1, x, u, nd, e1, e2 => by
    rw [List.zip_cons_cons, List.reverse_cons, List.lookup_append, zip_look (us := us) (List.nodup_cons.mp nd).2 (by simpa using e1) (by simpa using e2)]
    rfl
end Ab

namespace Ab
open PySem PySem.Spec PyProof.Rows L2 LamX
section
variable {X : Cx} {pins : List (Addr × Obj)} {σ : L2.St} {H HZ : Hp} {s s1 : Shared}
theorem clo_mem {scope : Scope} {N ps : List Str} (L : LamP X.env.scope scope N ps) (ok : X.Ok) {y : Str} {c : Addr} (e : (cloFrom X.env.cells scope.names []).lookup y = some c) : X.env.cells.lookup y = some c := by
  rcases cloFrom_mem (PySem.mem_of_lookup e) with m | ⟨a, b⟩
  · cases m
  · obtain ⟨c1, k⟩ := L.has ok _ a rfl
    have k : X.env.cells.lookup y = some c1 := k
    have z : c = c1 := by rw [b, k] <;> rfl
    rw [z]; exact k
theorem clo_look {scope : Scope} {y : Str} (h : scope.names.lookup y = some .free) : ∃ c, (cloFrom X.env.cells scope.names []).lookup y = some c := by
  have m : (y, NameKind.free) ∈ scope.names := PySem.mem_of_lookup h
  exact mem_lookup (cloFrom_has (cells := X.env.cells) (acc := []) m)
/-- where the lambda's body begins -/
theorem lam_begin {A : Around} {outer : List Env} {E : XK} {scope : Scope} {f c : Addr} {ps : List Str} {g : Heap} {tk : Nat} {us : List Value} {vs : List V} (I : Inv X pins σ H s) (L : LamP X.env.scope scope X.N ps) (e0 : Env0 X.prog X.w X.K X.mg X.base A outer s1 HZ) (hd : A.handled = none)
    (un : Un (frs X.stack) [] H HZ s.heap s1.heap) (hns : g.Ns s1.heap.objs.size fun y => (ps.zip us).reverse.lookup y) (kp : ∀ b o, s1.heap.get? b = some o → g.get? b = some o) (rv : Vals vs us) (hl : vs.length = ps.length) :
    Inv (lamX X A outer s1 HZ E scope f c ps) [] (σ ++ vs.map some) HZ { s1 with heap := g, toks := tk } := by
  have cellK : ∀ {b : Addr} {v : Option Value}, H b = none → s.heap.IsCell b v → g.IsCell b v := fun {b v} n ⟨o, ho, hd⟩ => by
    obtain ⟨sl, q⟩ := un.any ho n (by simp)
    exact ⟨_, kp _ _ q, hd⟩
  have noA : ∀ b : Addr, b ∉ (lamX X A outer s1 HZ E scope f c ps).ex := fun b z => by
    have z : b ∈ ([] : List Addr) := z
    cases z
  have okX : (lamX X A outer s1 HZ E scope f c ps).Ok :=
    { mod := e0.mod, kind := L.kind, glob := rfl, blt := rfl, above := Nat.le_refl _
      inj := fun y z b e1 e2 => I.ok.inj y z b (clo_mem L I.ok e1) (clo_mem L I.ok e2)
      has := fun y hy => by
        have hy : scope.names.lookup y = some .cell ∨ scope.names.lookup y = some .free := hy
        rcases hy with hy | hy
        · exact absurd rfl (L.own _ (PySem.mem_of_lookup hy)).1
        · exact clo_look hy
      cab := fun y b z _ => by
        have z : false = true := z
        cases z
      hd := fun _ => hd, frames := Around.frames_deeper e0.frames, stk := .inr ⟨rfl, rfl⟩, exf := fun b z => absurd z (noA b), bs := e0.bs, bsz := e0.bsz, noex := fun b _ _ => noA b, exfs := fun b z => absurd z (noA b), funs := e0.funs, frf := e0.frf }
  refine { ok := okX, os := rfl, bare := e0.bare, base := Un.kept kp, loc := ⟨_, hns, fun i y v e1 e2 e3 => ?_⟩, cell := fun y b e => ?_, free := e0.hok.fresh (Nat.le_refl _), freeC := fun y b e => ?_, pin := fun q hq => ?_, hok := e0.hok.kept kp, len := ?_ }
  · have e1 : (X.N ++ ps)[i]? = some y := e1
    have e3 : Vis scope y := e3
    have own : scope.names.lookup y = some .local → y ∈ ps := fun k => (L.own _ (PySem.mem_of_lookup k)).2 rfl
    by_cases hi : i < X.N.length
    · rw [List.getElem?_append_left hi] at e1
      rw [List.getElem?_append_left (by rw [I.len]; exact hi)] at e2
      have nP : y ∉ ps := fun z => (L.par y z).2 (List.mem_of_getElem? e1)
      rcases e3 with k | k | k
      · exact absurd (own k) nP
      · exact absurd rfl (L.own _ (PySem.mem_of_lookup k)).1
      · obtain ⟨m, hn, lk⟩ := I.loc
        have vis : Vis X.env.scope y := (L.free _ (PySem.mem_of_lookup k) rfl).elim (fun k => .inr (.inl k)) fun k => .inr (.inr k)
        obtain ⟨w, r, q⟩ := lk i y v e1 e2 vis
        obtain ⟨c2, h2⟩ := clo_look (X := X) k
        have c1 := clo_mem L I.ok h2
        refine ⟨w, r, .inr ⟨.inr k, c2, h2, ?_⟩⟩
        rcases q with ⟨k', _⟩ | ⟨_, c3, e', z⟩
        · have k' : X.env.scope.names.lookup y = some .local := k'
          rcases L.free _ (PySem.mem_of_lookup k) rfl with k2 | k2
          · rw [show X.env.scope.names.lookup y = _ from k2] at k'; cases k'
          · rw [show X.env.scope.names.lookup y = _ from k2] at k'; cases k'
        · rw [c1] at e'
          cases e'
          exact cellK (I.freeC y _ c1) z
    · rw [List.getElem?_append_right (by omega)] at e1
      rw [List.getElem?_append_right (by rw [I.len]; omega), I.len, List.getElem?_map] at e2
      cases q : vs[i - X.N.length]? with
      | none => rw [q] at e2; cases e2
      | some v0 =>
        rw [q] at e2
        cases e2
        obtain ⟨u, hu, ru⟩ := rv.get q
        exact ⟨u, ru, .inl ⟨(L.par y (List.mem_of_getElem? e1)).1, zip_look (us := us) L.nd e1 hu⟩⟩
  · obtain ⟨w, z⟩ := I.cell y b (clo_mem L I.ok e)
    exact ⟨w, cellK (I.freeC y b (clo_mem L I.ok e)) z⟩
  · obtain ⟨v, o, ho, hd⟩ := I.cell y b (clo_mem L I.ok e)
    exact un.free b o ho (I.freeC y b (clo_mem L I.ok e)) (by simp)
  · have hq : q ∈ ([] : List (Addr × Obj)) ++ [] := hq
    cases hq
  · show (σ ++ vs.map some).length = (X.N ++ ps).length
    rw [List.length_append, List.length_append, List.length_map, I.len, hl]
end
/-! ### what calling it does, wherever -/
structure LamHas (Z : Cx) (G : Gx) (f : Addr) (n : Nat) (sp : ASp) : Prop where
  m : SpMono sp
  fn : ∀ (s : Shared) (H : Hp), (∀ p o, G.H0 p = some o → G.h0 p = none → NT o → H p = some o) → HOk Z.prog Z.w H s.heap → PySem.W.FnAt f s.heap
  run : ∀ (s : Shared) (H : Hp) (us : List Value) (vs : List V) (Q : VK) (E : XK), (∀ p o, G.H0 p = some o → G.h0 p = none → NT o → H p = some o) → Un Z.fs [] Z.H_0 H Z.s_0.heap s.heap → Env0 Z.prog Z.w Z.K Z.mg Z.base Z.A Z.stack s H → Vals vs us → cSp Z.K n sp vs H Q E →
    codeAny (model Z.prog Z.w) Z.A (.call (.ref f) ⟨us, []⟩) (CR (L2.CX Z.prog Z.w) Z.stack Z.prog Z.w H s Q E) s
/-- the maker's slots, its own lists unseen, and what is handed in -/
def lamEnvA (env : AEnv) (ws : List W) : AEnv := env.map (fun o => match o with
  | some (.val w) => some (.val w)
  | _ => none) ++ ws.map fun w => some (.val w)
theorem lamEnvA_get {env : AEnv} {ws : List W} {i : Nat} {sv : SV} (e : (lamEnvA env ws)[i]? = some (some sv)) : (∃ w, sv = .val w ∧ env[i]? = some (some (.val w)) ∧ i < env.length) ∨ ∃ w, sv = .val w ∧ env.length ≤ i ∧ ws[i - env.length]? = some w := by
  unfold lamEnvA at e
  by_cases hi : i < env.length
  · rw [List.getElem?_append_left (by simpa using hi), List.getElem?_map] at e
    cases q : env[i]? with
    | none => rw [q] at e; cases e
    | some o =>
      rw [q] at e
      cases o with
      | none => cases e
      | some sv' =>
        cases sv' with
        | val w => cases e; exact .inl ⟨w, rfl, rfl, hi⟩
        | own c => cases e
  · rw [List.getElem?_append_right (by simpa using hi), List.length_map, List.getElem?_map] at e
    cases q : ws[i - env.length]? with
    | none => rw [q] at e; cases e
    | some w => rw [q] at e; cases e; exact .inr ⟨w, rfl, by omega, rfl⟩
theorem BS.lam {K : PySem.W.Frag} {G : Gx} {env : AEnv} {h0 h : AH} {σ : L2.St} {H0 H : Hp} {ws : List W} {vs : List V} (gk : G.K = K) (S : BS G env h0 σ H0) (k : Keeps H0 H) (hp : ∀ a o, h a = some o → ORep K H a o) (tb : TabsK K H) (r : RepL K H ws vs) :
    BS ⟨K, h, H⟩ (lamEnvA env ws) h (σ ++ vs.map some) H := by
  subst gk
  refine ⟨?_, fun i w e => ?_, fun i c e => ?_, fun i j c c' p e => ?_, hp, fun p o e _ _ => e, fun a o e n => (by have n : h a = none := n; rw [n] at e; cases e), fun p o e => ⟨o, e⟩, tb⟩
  · unfold lamEnvA
    rw [List.length_append, List.length_map, List.length_map, List.length_append, List.length_map, S.len, r.length]
  · rcases lamEnvA_get e with ⟨w', z, y, hi⟩ | ⟨w', z, hi, y⟩
    · cases z
      obtain ⟨v, ev, rv⟩ := S.val i w y
      exact ⟨v, by rw [List.getElem?_append_left (by rw [← S.len]; exact hi)]; exact ev, Rep.mono k w v rv⟩
    · cases z
      obtain ⟨v, ev, rv⟩ := r.get y
      refine ⟨v, ?_, rv⟩
      rw [List.getElem?_append_right (by rw [← S.len]; exact hi), ← S.len, List.getElem?_map, ev]
      rfl
  · rcases lamEnvA_get e with ⟨w', z, _⟩ | ⟨w', z, _⟩ <;> cases z
  · rcases lamEnvA_get e with ⟨w', z, _⟩ | ⟨w', z, _⟩ <;> cases z
/-- what the lambda's body tells -/
def lamSp (t : (AExc → AEnv → AH → Prop) → AT) (env : AEnv) : ASp := fun ws h Qa Ea => ∃ Ein : AExc → AEnv → AH → Prop, (∀ x e k, Ein x e k → excOf Ea x e k) ∧ t Ein (lamEnvA env ws) h (endsOf Qa).rt
section
variable {X : Cx} {G : Gx} {env : AEnv} {h : AH} {σ : L2.St} {H : Hp} {s : Shared} {pins : List (Addr × Obj)} {d : LamD} {f g c : Addr} {cdg : Value} {Ng : List Str} {qg : Str} {sg : Scope} {ps : List Str} {k : Nat} {t : (AExc → AEnv → AH → Prop) → AT} {Eg : XK}
theorem lam_has (gk : G.K = X.K) (I : Inv X pins σ H s) (S : BS G env h σ H) (lf : LamF X d H f) (L : LamP X.env.scope d.scope X.N ps)
    (hbind : ∀ (q : Str) (cl : List (Str × Addr)) (pm cv ctv : Value) (us : List Value), us.length = ps.length → bindArgs (PySem.W.kla_fn "<lambda>" q d.params d.body d.scope cl pm cv ctv) ⟨us, []⟩ = pure (ps.zip us))
    (hr : Room (k + 1) (X.A.deeper (envOfC qg sg s.heap.objs.size g cdg)))
    (hbody : ∀ (A : Around) (outer : List Env) (s : Shared) (H : Hp) (E : XK) (f c : Addr) (G : Gx) (E' : AExc → AEnv → AH → Prop), Room k (A.deeper (lamEnv X d.scope s.heap.objs.size f c)) → G.K = X.K → Takes (lamX X A outer s H E d.scope f c ps) (cW G E') → AE (lamX X A outer s H E d.scope f c ps) G d.body (t E')) :
    LamHas (bx X.prog X.w X.K X.mg X.base Ng qg sg g cdg X.A X.stack s H Eg) ⟨X.K, h, H⟩ f ps.length (lamSp t env) := by
  obtain ⟨c, hf, hc⟩ := lf
  have mt : ∀ E', Mono (t E') := fun E' => (hbody (X.A.deeper (envOfC qg sg s.heap.objs.size g cdg)) [] s H (fun _ _ _ => True) f c ⟨X.K, h, H⟩ E' (hr.deeper _) rfl (Takes.imp (W := fun _ _ _ _ => True) (takes_of rfl rfl rfl rfl) fun _ _ _ _ _ => trivial)).mono
  have nf := (S.nmu hf not_mu_lam).1
  have nc := (S.nmu hc not_mu_code).1
  refine ⟨fun ws h' Q Q' E E' k k' ⟨Ein, ke, q⟩ => ⟨Ein, fun x e g z => (by obtain ⟨g', le, z⟩ := ke x e g z; exact ⟨g', le, k' _ _ z⟩), ?_⟩, fun s2 H2 fr hok => ?_, fun s2 H2 us vs Q E fr un e0 rv sp => ?_⟩
  · refine mt _ _ _ _ _ (fun r e g z => ?_) q
    obtain ⟨h2, le, z⟩ := z
    refine ⟨h2, le, ?_⟩
    cases r with
    | val w => exact k _ _ z
    | own c => exact k _ _ z
    | slot i =>
      have z : match e[i]? with
        | some (some (.val w)) => Q (.val w) h2
        | some (some (.own c)) => Q (.own c) h2
        | _ => False := z
      show match e[i]? with
        | some (some (.val w)) => Q' (.val w) h2
        | some (some (.own c)) => Q' (.own c) h2
        | _ => False
      split at z
      · exact k _ _ z
      · exact k _ _ z
      · exact z
  · have hf2 := fr _ _ hf nf lamO_nt
    obtain ⟨⟨pm, ctv, e⟩, _, _⟩ := hok f _ hf2
    exact ⟨_, _, _, _, e⟩
  · have hf2 := fr _ _ hf nf lamO_nt
    have hc2 := fr _ _ hc nc codeO_nt
    obtain ⟨⟨pm, ctv, of⟩, _, _⟩ := e0.hok f _ hf2
    obtain ⟨⟨oc, fs, tk, hoc, hdc, hvc⟩, _, _⟩ := e0.hok c _ hc2
    obtain ⟨ws, h2, Qa, Ea, wl, hp, tb, rl, ⟨Ein, kx, q⟩, kq, ke⟩ := sp
    have un : Un (frs X.stack) [] H H2 s.heap s2.heap := un
    have hl : vs.length = ps.length := by rw [← rl.length, wl]
    have hu : us.length = ps.length := by rw [← rv.length]; exact hl
    show codeAny (model X.prog X.w) (X.A.deeper (envOfC qg sg s.heap.objs.size g cdg)) _ _ s2
    refine PySem.W.kla_callFunE hr.depth of rfl L.co L.gen rfl ⟨c, oc, fs, tk, rfl, hoc, hdc, hvc⟩ ?_
    rw [hbind _ _ _ _ _ us hu]
    refine wpAny_pure (wpAny_newFunctionEnv (fun y hy => (L.own y hy).1) (fun y hy => (L.par y.1 (List.of_mem_zip hy).1).1) (fun h₁ hns hsb => ⟨?_, ?_⟩) L.kind)
    · have nl : s2.heap.NoLimit := e0.mod.nolimit.keeps fun b o e => (e0.bs b o e).1
      exact nl.fresh _ hsb
    · show codeAny _ _ (.expr d.body (lamEnv X d.scope s2.heap.objs.size f c)) _ _
      have kp : ∀ b o, s2.heap.get? b = some o → h₁.get? b = some o := fun b o e => hsb.extBut b o (Nat.ne_of_lt (Heap.lt_size e)) (Heap.get?_push_of_some _ e)
      have J := lam_begin (A := X.A.deeper (envOfC qg sg s.heap.objs.size g cdg)) (outer := envOfC qg sg s.heap.objs.size g cdg :: X.stack) (E := E) (f := f) (c := c) (tk := s2.toks + (ps.zip us).length) I L e0 hr.hd un hns kp rv hl
      have kk : Keeps H H2 := fun p o e i => fr p o e (S.imm e i).1 i.nt
      have S2 : BS ⟨X.K, h2, H2⟩ (lamEnvA env ws) h2 (σ ++ vs.map some) H2 := BS.lam gk S kk hp tb rl
      have tkl : Takes (lamX X (X.A.deeper (envOfC qg sg s.heap.objs.size g cdg)) (envOfC qg sg s.heap.objs.size g cdg :: X.stack) s2 H2 E d.scope f c ps) (cW ⟨X.K, h2, H2⟩ Ein) :=
        Takes.imp (W := fun cls d _ H' => E cls d H') (takes_of rfl rfl rfl rfl) fun cls d σ' H' ⟨x, e', g', SB, xr, z⟩ => (by obtain ⟨g2, le, z⟩ := kx x e' g' z; exact ke x g2 cls d H' z (SB.hs.le le) xr)
      have rn := (hbody _ _ s2 H2 E f c ⟨X.K, h2, H2⟩ Ein (hr.deeper _) rfl tkl).pe.run [] _ _ H2 Q J ⟨_, h2, S2, mt _ _ _ _ _ (fun r env3 h3 z v H3 S3 x3 r3 f3 => ?_) q⟩
      · refine PySem.W.kla_codeExpr (wpAny_mono rn (fun v s' hq => ?_) fun e s' hq => hq)
        obtain ⟨w', H', J', rv', q'⟩ := hq
        exact ⟨w', H', J'.os, J'.bare, J'.base, J'.hok, rv', q'⟩
      · obtain ⟨h4, le, z⟩ := z
        have hs : HS ⟨X.K, h2, H2⟩ h4 H3 := S3.hs.le le
        have own_end : ∀ {p : Addr} {c : Cont}, v = .ref p → CRep X.K H3 p c → h3 p = none → H2 p = none → RrRep ⟨X.K, h2, H2⟩ h4 H3 (.own c) v := fun {p c} e1 e2 e3 e4 => by
          have e5 : h4 p = none := by
            cases z : h4 p with
            | none => rfl
            | some u => rw [le p u z] at e3; cases e3
          exact ⟨p, e1, e2, e5, e4⟩
        cases r with
        | val w => exact kq (.val w) h4 v H3 z hs r3
        | own c =>
          obtain ⟨p, e1, cr, a, b, _⟩ := r3
          exact kq (.own c) h4 v H3 z hs (own_end e1 cr a b)
        | slot i =>
          have es : (σ ++ vs.map some)[i]? = some (some v) := r3
          have z : match env3[i]? with
            | some (some (.val w)) => Qa (.val w) h4
            | some (some (.own c)) => Qa (.own c) h4
            | _ => False := z
          split at z
          · rename_i w ei
            obtain ⟨u, e3, rv⟩ := S3.val i w ei
            rw [es] at e3; cases e3
            exact kq (.val w) h4 v H3 z hs rv
          · rename_i c ei
            obtain ⟨p, e3, cr, a, b⟩ := S3.own i c ei
            rw [es] at e3; cases e3
            exact kq (.own c) h4 _ H3 z hs (own_end rfl cr a b)
          · exact z.elim
end
end Ab

namespace Ab
open PySem PySem.Spec PyProof.Rows L2 LamX
/-! ### what was handed in is called -/
def aLam (E : AExc → AEnv → AH → Prop) (i : Nat) (f : Addr) (sp : ASp) (t : AAT) : AT := fun env h Q => env[i]? = some (some (.val (.ref f))) ∧ aCall E sp t env h Q
section
variable {X : Cx} {G : Gx} {sp : ASp} {n i : Nat} {f : Addr} {a : Str} {p pos : Pos} {e : Expr} {es : List Expr} {t : AAT} {E : AExc → AEnv → AH → Prop}
theorem ae_lam0 (hL : LamHas X G f 0 sp) (gk : G.K = X.K) (hex : X.ex = []) (hN : X.N[i]? = some a) (hv : Vis X.env.scope a) (tk : Takes X (cW G E)) 
    (hd : (a == ("__debug__" : Str)) = false := by decide) (hcd : (a == ("__classdict__" : Str)) = false := by decide) :
    AE X G (.Call (.Name a p) [] [] pos) (aLam E i f sp aNil) := by
  refine ⟨fun env h Q Q' k ⟨e, q⟩ => ⟨e, aCall.mono hL.m aNil.mono env h _ _ k q⟩, ⟨fun pins s σ H Q I ⟨env, h, S, hs, q⟩ => ?_⟩⟩
  obtain ⟨v, ev, rv⟩ := S.val i _ hs
  have rv := Rep.of_ref (K := G.K) (H := H) rv
  subst rv
  refine wpAny_Call_Name_kw (thn ((pe_var (pos := p) hN hv hd hcd).run pins s σ H (fun v H1 => v = .ref f ∧ H1 = H) I ⟨.ref f, ev, rfl, rfl⟩) fun u s1 ⟨v, H1, I1, r1, q1⟩ => ?_)
  obtain ⟨e1, e2⟩ := q1
  subst e1
  rw [e2] at I1
  obtain rfl : u = Value.ref f := r1
  have fr1 := hL.fn s1 H (fun p o x y z => S.fr p o x y z) I1.hok
  have arg : cA G aNil σ H (fun vs H1 => (∃ env1 h1, BS G env1 h1 σ H1) ∧ cSp G.K 0 sp vs H1 Q (WE (cW G E) σ)) := by
    refine ⟨env, h, S, aNil.mono env h _ _ (fun ws env1 h1 ⟨hl, z⟩ vs H1 S1 x1 r1 => ⟨⟨env1, h1, S1⟩, ws, h1, _, _, hl, S1.hp, S1.tabs, r1, z, fun r h' v H' y c rr => ?_, fun x h' cls d H' y c xr => (by obtain ⟨S2, x2⟩ := S1.after c; exact ⟨x, env1, h', S2, xr, y⟩)⟩) (len_nil _ _ _ q)⟩
    obtain ⟨S2, x2⟩ := S1.after c
    cases r with
    | val w => exact y v H' S2 (x1.trans x2) rr trivial
    | own c0 =>
      obtain ⟨p, e, cr, a, b⟩ := rr
      have nw : H1 p = none := b
      obtain ⟨_, g0, no⟩ := S1.noAt nw
      exact y v H' S2 (x1.trans x2) ⟨p, e, cr, a, g0, no⟩ fun p' e' => by
        rw [e] at e'; cases e'; exact x1.fresh nw
  refine PySem.W.callWith_F0 fr1 ?_
  have arg := arg
  obtain ⟨env', h', S', arg⟩ := arg
  obtain ⟨⟨env2, h2, S2⟩, c2⟩ := arg [] H S' .refl .nil
  have I2 := I1
  have r : Vals ([] : List V) ([] : List Value) := .nil
  · have fr2 : ∀ p o, G.H0 p = some o → G.h0 p = none → NT o → H p = some o := fun p o x y z => S2.fr p o x y z
    have un : Un X.fs [] X.H_0 H X.s_0.heap s1.heap := hex ▸ I2.base
    refine wpAny_call (codeAny_mono (hL.run s1 H [] [] Q (WE (cW G E) σ) fr2 un I2.env0 r (gk ▸ c2)) fun r s' hq => ?_)
    cases r with
    | error e => exact passAt tk σ pins H s1 e s' I2 hq
    | ok fl =>
      cases fl with
      | ret u => exact I2.after hq
      | next => exact False.elim hq
      | brk => exact False.elim hq
      | cont => exact False.elim hq
end
/-! ### a def called with a lambda -/
def aLamCall (E : AExc → AEnv → AH → Prop) (n m : Nat) (tc : Addr → ASp → (AExc → AEnv → AH → Prop) → ATS) (tb : (AExc → AEnv → AH → Prop) → AT) (t : ALT) : AT := fun env h Q => t env h fun f ws env1 h1 => ∃ Qa Ea,
  (∀ r h2, Qa r h2 → match r with
    | RR.val w => Q (.val w) env1 h2
    | RR.own c => Q (.own c) env1 h2) ∧ (∀ x h2, Ea x h2 → E x env1 h2) ∧ (ws.length = n → tc f (lamSp tb env1) (excOf Ea) (endsOf Qa) (startA m ws) h1)
section
variable {X : Cx} {G : Gx} {d : LamD} {n kg kl : Nat} {g : Addr} {fd : FuncData} {x : Str} {st : Stmt} {Ng psg ps : List Str} {p pos : Pos} {e : Expr} {es : List Expr} {t : ALT} {tb : (AExc → AEnv → AH → Prop) → AT} {tc : Addr → ASp → (AExc → AEnv → AH → Prop) → ATS} {E : AExc → AEnv → AH → Prop}
theorem ae_lamcall (gk : G.K = X.K) (FD : FunD X.K x x (defArgs st) (defBody st) (defScope st) [] [] g fd) (hm : X.mg x = some (.ref g)) (bd : BindsAll x st psg) (Sg : FnScope Ng psg (defScope st)) (hn : psg.length = n) (hg : Gl X x) (tk : Takes X (cW G E)) (hr : Room (kg + 1) X.A)
    (al : AL X G d (e :: es) n t) (L : LamP X.env.scope d.scope X.N ps) (hk : kl + 1 ≤ kg)
    (hbind : ∀ (q : Str) (cl : List (Str × Addr)) (pm cv ctv : Value) (us : List Value), us.length = ps.length → bindArgs (PySem.W.kla_fn "<lambda>" q d.params d.body d.scope cl pm cv ctv) ⟨us, []⟩ = pure (ps.zip us))
    (hbody : ∀ (A : Around) (outer : List Env) (s : Shared) (H : Hp) (E : XK) (f c : Addr) (G : Gx) (E' : AExc → AEnv → AH → Prop), Room kl (A.deeper (lamEnv X d.scope s.heap.objs.size f c)) → G.K = X.K → Takes (lamX X A outer s H E d.scope f c ps) (cW G E') → AE (lamX X A outer s H E d.scope f c ps) G d.body (tb E'))
    (hb : ∀ (cdv : Value) (s : Shared) (H : Hp) (EX : XK) (G' : Gx) (E' : AExc → AEnv → AH → Prop) (f : Addr) (sp : ASp), Room kg (X.A.deeper (envOfC x (defScope st) s.heap.objs.size g cdv)) → G'.K = X.K →
      Takes (bx X.prog X.w X.K X.mg X.base Ng x (defScope st) g cdv X.A X.stack s H EX) (cW G' E') → LamHas (bx X.prog X.w X.K X.mg X.base Ng x (defScope st) g cdv X.A X.stack s H EX) G' f ps.length sp →
      ASs (bx X.prog X.w X.K X.mg X.base Ng x (defScope st) g cdv X.A X.stack s H EX) G' (defBody st) (tc f sp E'))
    (hdb : (x == ("__debug__" : Str)) = false := by decide) (he : starEach (e :: es) X.env = (false, eval e X.env) :: starEach es X.env := by rfl) (hpl : (backTo pos (starEach es X.env)).any (·.1) = false := by rfl) :
    AE X G (.Call (.Name x p) (e :: es) [] pos) (aLamCall E n Ng.length tc tb t) := by
  refine ⟨fun env h Q Q' k q => al.mono env h _ _ (fun f ws e g ⟨Qa, Ea, a, b, z⟩ => ⟨Qa, Ea, fun r h2 y => by
    have y := a r h2 y
    cases r with
    | val w => exact k _ _ _ y
    | own c => exact k _ _ _ y, b, z⟩) q, ⟨fun pins s σ H Q I ⟨env, h, S, q⟩ => ?_⟩⟩
  · refine wpAny_Call_Name_kw (ld_glob I hg hm ?_ hdb)
    refine PySem.W.callWith_K (h₀ := X.base) I.ok.mod.kin FD.kp (thn (al.pa.run pos pins s σ H (fun vs H1 => ∃ f ws env1 h1, BS G env1 h1 σ H1 ∧ Xt env h σ H env1 h1 H1 ∧ RepL G.K H1 ws vs ∧ LamF X d H1 f ∧ ws.length = n ∧ ∃ (Qa : RR → AH → Prop) (Ea : AExc → AH → Prop),
        (∀ r h2, Qa r h2 → match r with
          | .val w => ∀ v H', BS G env1 h2 σ H' → Xt env h σ H env1 h2 H' → RvRep G env1 h2 σ H' (.val w) v → Fsh H (.val w) v → Q v H'
          | .own c => ∀ v H', BS G env1 h2 σ H' → Xt env h σ H env1 h2 H' → RvRep G env1 h2 σ H' (.own c) v → Fsh H (.own c) v → Q v H') ∧ (∀ x h2, Ea x h2 → E x env1 h2) ∧ tc f (lamSp tb env1) (excOf Ea) (endsOf Qa) (startA Ng.length ws) h1)
      I ⟨env, h, S, al.mono env h _ _ (fun f ws env1 h1 ⟨wl, Qa, Ea, qa, ea, z⟩ vs H1 S1 x1 r1 lf => ⟨f, ws, env1, h1, S1, x1, r1, lf, wl, Qa, Ea, fun r h2 y => by cases r <;> exact qa _ _ y, ea, z wl⟩) (al.ln _ _ _ q)⟩)
      fun us s1 ⟨vs, H1, I1, r, f, ws, env1, h1, S1, x1, r1, lf, wl, Qa, Ea, qa, ea, z⟩ => ⟨I1.kIn, ?_⟩) he hpl
    have hlv : vs.length = psg.length := by rw [← r1.length, wl, hn]
    have hlu : us.length = psg.length := by rw [← r.length]; exact hlv
    have b := FD.bindsA (ps := psg) bd s1 us hlu
    obtain ⟨oc, od, dV, kV, doc, pm, an, cdv, ct, osl, rfl, lk, hcd, _, _⟩ := FD.ex
    have hwN : ws.length ≤ Ng.length := by
      have z := congrArg List.length Sg.pre
      rw [List.length_take] at z
      omega
    have ke : ∀ x h' cls d H', Ea x h' → HS ⟨G.K, h1, H1⟩ h' H' → XRep G.K H' x cls d → WE (cW G E) σ cls d H' := fun x h' cls d H' y c xr => by
      obtain ⟨S2, x2⟩ := S1.after c
      exact ⟨x, env1, h', S2, xr, ea _ _ y⟩
    have kq : ∀ r h' v H', Qa r h' → HS ⟨G.K, h1, H1⟩ h' H' → RrRep ⟨G.K, h1, H1⟩ h' H' r v → Q v H' := fun r h' v H' y c rr => by
      obtain ⟨S2, x2⟩ := S1.after c
      have y := qa r h' y
      cases r with
      | val w => exact y v H' S2 (x1.trans x2) rr trivial
      | own c0 =>
        obtain ⟨p, e, cr, a, b⟩ := rr
        have nw : H1 p = none := b
        obtain ⟨_, g0, no⟩ := S1.noAt nw
        exact y v H' S2 (x1.trans x2) ⟨p, e, cr, a, g0, no⟩ fun p' e' => by
          rw [e] at e'; cases e'; exact x1.fresh nw
    have rr1 : RepL X.K H1 ws vs := gk ▸ r1
    have tb1 : TabsK X.K H1 := gk ▸ S1.tabs
    have hp1 : ∀ a o, h1 a = some o → ORep X.K H1 a o := gk ▸ S1.hp
    rw [gk] at ke kq
    refine wpAny_call (codeAny_mono (run_ofS (CX := L2.CX X.prog X.w) (N := Ng) (ps := psg) (vs := vs) (k := kg) (Q := Q) (E := WE (cW G E) σ) lk hcd Sg hr I1.env0 b r hlv fun hr' => ?_) fun r s' hq => ?_)
    · have tk' : Takes (bx X.prog X.w X.K X.mg X.base Ng x (defScope st) g cdv X.A X.stack s1 H1 (WE (cW G E) σ)) (cW ⟨X.K, h1, H1⟩ (excOf Ea)) :=
        Takes.imp (W := fun cls d _ H' => WE (cW G E) σ cls d H') (takes_of rfl rfl rfl rfl) fun cls d σ' H' ⟨x, env, h', SB, xr, h'', le, e⟩ => ke x h'' cls d H' e (HS.le (G := ⟨X.K, h1, H1⟩) SB.hs le) xr
      have lh := lam_has (Ng := Ng) (qg := x) (sg := defScope st) (g := g) (cdg := cdv) (k := kl) (Eg := WE (cW G E) σ) gk I1 S1 lf L hbind (hr'.mono hk) hbody
      refine ⟨_, (hb cdv s1 H1 (WE (cW G E) σ) ⟨X.K, h1, H1⟩ (excOf Ea) f (lamSp tb env1) hr' rfl tk' lh).ps, startA Ng.length ws, h1, endsOf Qa, BS.begin hp1 tb1 rr1 hwN, z, ?_⟩
      refine ⟨fun env h' σ' H' SB _ ⟨h'', le, e⟩ => kq (.val .non) h'' .non H' e (SB.hs.le le) (show Rep X.K H' .non .non from .non), fun r0 env h' σ' H' v SB _ rr ⟨h'', le, e⟩ => ?_, fun _ _ _ _ _ _ z => z.elim, fun _ _ _ _ _ _ z => z.elim⟩
      have own_end : ∀ {p : Addr} {c : Cont}, v = .ref p → CRep X.K H' p c → h' p = none → H1 p = none → RrRep ⟨X.K, h1, H1⟩ h'' H' (.own c) v := fun {p c} e1 e2 e3 e4 => by
        have e5 : h'' p = none := by
          cases z : h'' p with
          | none => rfl
          | some u => rw [le p u z] at e3; cases e3
        exact ⟨p, e1, e2, e5, e4⟩
      cases r0 with
      | val w0 => exact kq (.val w0) h'' v H' e (SB.hs.le le) rr
      | own c =>
        obtain ⟨p, e1, cr, a, b, _⟩ := rr
        exact kq (.own c) h'' v H' e (SB.hs.le le) (own_end e1 cr a b)
      | slot i =>
        have es : σ'[i]? = some (some v) := rr
        have e : match env[i]? with
          | some (some (.val w)) => Qa (.val w) h''
          | some (some (.own c)) => Qa (.own c) h''
          | _ => False := e
        split at e
        · rename_i w0 ei
          obtain ⟨u, e3, rv⟩ := SB.val i w0 ei
          rw [es] at e3; cases e3
          exact kq (.val w0) h'' v H' e (SB.hs.le le) rv
        · rename_i c ei
          obtain ⟨p, e3, cr, a, b⟩ := SB.own i c ei
          rw [es] at e3; cases e3
          exact kq (.own c) h'' _ H' e (SB.hs.le le) (own_end rfl cr a b)
        · exact e.elim
    · cases r with
      | error e => exact passAt tk σ pins H1 s1 e s' I1 hq
      | ok fl =>
        cases fl with
        | ret u => exact I1.after hq
        | next => exact False.elim hq
        | brk => exact False.elim hq
        | cont => exact False.elim hq
end
end Ab

namespace Ab
open PySem PySem.Spec PyProof.Rows L2 LamX
/-! ### a def that makes lambdas -/
def lamPB (sc scope : Scope) (N ps : List Str) : Bool :=
  decide (scope.kind = .function) && !scope.isCoroutine && !scope.isGenerator && (scope.names.all fun y => !decide (y.2 = .cell) && (!decide (y.2 = .local) || decide (y.1 ∈ ps)) && (!decide (y.2 = .free) || decide (sc.names.lookup y.1 = some .cell) || decide (sc.names.lookup y.1 = some .free))) &&
    (ps.all fun x => decide (scope.names.lookup x = some .local) && !decide (x ∈ N)) && decide ps.Nodup
theorem lamP_by {sc scope : Scope} {N ps : List Str} (h : lamPB sc scope N ps = true) : LamP sc scope N ps := by
  unfold lamPB at h
  simp only [Bool.and_eq_true, Bool.or_eq_true, Bool.not_eq_true', decide_eq_true_eq, decide_eq_false_iff_not, List.all_eq_true] at h
  obtain ⟨⟨⟨⟨⟨h1, h2⟩, h3⟩, h4⟩, h5⟩, h6⟩ := h
  refine ⟨h1, h2, h3, fun y hy => ⟨(h4 y hy).1.1, fun e => ?_⟩, h5, h6, fun y hy e => ?_⟩
  · rcases (h4 y hy).1.2 with z | z
    · exact absurd e z
    · exact z
  · rcases (h4 y hy).2 with (z | z) | z
    · exact absurd e z
    · exact .inl z
    · exact .inr z
/-- the code object, its table -/
structure MakesL (K : PySem.W.Frag) (mg : Str → Option Value) (base : Heap) (q : Str) (cdv : Value) : Prop where
  ex : ∃ c P, cdv = .ref c ∧ TabB base mg c P ∧ (P, q) ∈ tabsOf K ∧ ∀ p ∈ tabsOf K, p.1 = P → p.2 = q
def CodeOf (K : PySem.W.Frag) (f : Addr) (cdv : Value) : Prop := ∃ oc od fd osl, K.lookup f = some ⟨oc, od, .func fd, osl⟩ ∧ fd.code = cdv
section
variable {P : Program} {w : World} {K : PySem.W.Frag} {mg : Str → Option Value} {base : Heap} {x qual : Str} {params : Arguments} {body : List Stmt} {scope : Scope} {f : Addr} {fd : FuncData} {N ps : List Str} {k n : Nat} {sp : ASp} {st : Stmt}
/-- a body keeps its promise, at one place -/
theorem body_ok {t : ATS} {cdv : Value} {A : Around} {outer : List Env} {s : Shared} {H : Hp} {vs : List V} {Q : VK} {E : XK} {ws : List W} {h : AH} {Qa : RR → AH → Prop} (hwN : ws.length ≤ N.length)
    (hb : ASs (bx P w K mg base N qual scope f cdv A outer s H E) ⟨K, h, H⟩ body t) (hp : ∀ a o, h a = some o → ORep K H a o) (tb : TabsK K H) (r : RepL K H ws vs) (q : t (endsOf Qa) (startA N.length ws) h)
    (kq : ∀ r h' v H', Qa r h' → HS ⟨K, h, H⟩ h' H' → RrRep ⟨K, h, H⟩ h' H' r v → Q v H') :
    ∃ t, PSs (cxOf (L2.CX P w) P w K mg base N qual scope f cdv A outer s H E) body t ∧ t { nx := fun _ H' => Q .non H', rt := Q } (start N vs) H := by
  refine ⟨_, hb.ps, startA N.length ws, h, endsOf Qa, BS.begin hp tb r hwN, q, ?_⟩
  refine ⟨fun env h' σ' H' SB _ ⟨h'', le, e⟩ => kq (.val .non) h'' .non H' e (SB.hs.le le) (show Rep K H' .non .non from .non), fun r0 env h' σ' H' v SB _ rr ⟨h'', le, e⟩ => ?_, fun _ _ _ _ _ _ z => z.elim, fun _ _ _ _ _ _ z => z.elim⟩
  have own_end : ∀ {p : Addr} {c : Cont}, v = .ref p → CRep K H' p c → h' p = none → H p = none → RrRep ⟨K, h, H⟩ h'' H' (.own c) v := fun {p c} e1 e2 e3 e4 => by
    have e5 : h'' p = none := by
      cases z : h'' p with
      | none => rfl
      | some u => rw [le p u z] at e3; cases e3
    exact ⟨p, e1, e2, e5, e4⟩
  cases r0 with
  | val w0 => exact kq (.val w0) h'' v H' e (SB.hs.le le) rr
  | own c =>
    obtain ⟨p, e1, cr, a, b, _⟩ := rr
    exact kq (.own c) h'' v H' e (SB.hs.le le) (own_end e1 cr a b)
  | slot i =>
    have es : σ'[i]? = some (some v) := rr
    have e : match env[i]? with
      | some (some (.val w)) => Qa (.val w) h''
      | some (some (.own c)) => Qa (.own c) h''
      | _ => False := e
    split at e
    · rename_i w0 ei
      obtain ⟨u, e3, rv⟩ := SB.val i w0 ei
      rw [es] at e3; cases e3
      exact kq (.val w0) h'' v H' e (SB.hs.le le) rv
    · rename_i c ei
      obtain ⟨p, e3, cr, a, b⟩ := SB.own i c ei
      rw [es] at e3; cases e3
      exact kq (.own c) h'' _ H' e (SB.hs.le le) (own_end rfl cr a b)
    · exact e.elim
theorem takes_bx {cdv : Value} {A : Around} {outer : List Env} {s : Shared} {H : Hp} {h : AH} {E : XK} {Ea : AExc → AH → Prop} (ke : ∀ x h' cls d H', Ea x h' → HS ⟨K, h, H⟩ h' H' → XRep K H' x cls d → E cls d H') :
    Takes (bx P w K mg base N qual scope f cdv A outer s H E) (cW ⟨K, h, H⟩ (excOf Ea)) :=
  Takes.imp (W := fun cls d _ H' => E cls d H') (takes_of rfl rfl rfl rfl) fun cls d σ H' ⟨x, env, h', SB, xr, h'', le, e⟩ => ke x h'' cls d H' e (HS.le (G := ⟨K, h, H⟩) SB.hs le) xr
theorem Ok.mkL {t : (AExc → AEnv → AH → Prop) → ATS} (sm : SpMono sp) (hm : mg x = some (.ref f)) (F : FunD K x x (defArgs st) (defBody st) (defScope st) [] [] f fd) (S : FnScope N ps (defScope st)) (hn : ps.length = n)
    (lm : ∀ cdv, CodeOf K f cdv → MakesL K mg base (x ++ ".<locals>." ++ "<lambda>") cdv)
    (hb : ∀ (cdv : Value) (A : Around) (outer : List Env) (s : Shared) (H : Hp) (E : XK) (G : Gx) (E' : AExc → AEnv → AH → Prop), MakesL K mg base (x ++ ".<locals>." ++ "<lambda>") cdv → Room k (A.deeper (envOfC x (defScope st) s.heap.objs.size f cdv)) → G.K = K → Takes (bx P w K mg base N x (defScope st) f cdv A outer s H E) (cW G E') →
      ASs (bx P w K mg base N x (defScope st) f cdv A outer s H E) G (defBody st) (t E'))
    (hq : ∀ ws h Qa Ea, ws.length = n → sp ws h Qa Ea → t (excOf Ea) (endsOf Qa) (startA N.length ws) h) : Ok P w K mg base x st (k + 1) n ps sp := by
  refine ⟨sm, f, fd, hm, F, ?_⟩
  obtain ⟨oc, od, dV, kV, doc, pm, an, cdv, ct, osl, rfl, lk, hcd, _, _⟩ := F.ex
  refine fn_of lk hcd S (fun vs H Q E ⟨ws, h, Qa, Ea, hl, _, _, r, _⟩ => by rw [← r.length, hl, hn]) fun A outer s H vs Q E hr ⟨ws, h, Qa, Ea, hl, hp, tb, r, q, kq, ke⟩ => ?_
  have hwN : ws.length ≤ N.length := by
    have z := congrArg List.length S.pre
    rw [List.length_take] at z
    omega
  exact body_ok hwN (hb cdv A outer s H E ⟨K, h, H⟩ (excOf Ea) (lm cdv ⟨oc, od, _, osl, lk, rfl⟩) hr rfl (takes_bx ke)) hp tb r (hq ws h Qa Ea hl q) kq
end
section
variable {X : Cx} {G : Gx} {d : LamD} {e : Expr} {es : List Expr} {pos : Pos} {n : Nat} {q : Str} {N ps : List Str}
theorem al_hereM {t : AAT} {params : Arguments} {body : Expr} {scope : Scope} (gk : G.K = X.K) (lm : MakesL X.K X.mg X.base q X.env.code) (hq : q = X.env.qual ++ "<lambda>") (L : LamP X.env.scope scope N ps) (b : AN X G es n t) (dfl : defaultsOf params X.env = ([], []) := by rfl)
    (hs : starEach (.Lambda params body scope pos :: es) X.env = (false, eval (.Lambda params body scope pos) X.env) :: starEach es X.env := by rfl) : AL X G ⟨params, body, scope⟩ (.Lambda params body scope pos :: es) (n + 1) (aLamHere t) := by
  obtain ⟨c, P, e, tb, m, u⟩ := lm.ex
  subst hq
  exact al_here (d := ⟨params, body, scope⟩) gk ⟨tb, e, m, u, dfl, fun ok => L.has ok⟩ b hs
end
end Ab

namespace Ab
open PySem PySem.Spec PyProof.Rows L2
/-! ### own classes of errors, whatever builtin class they come under -/
open Builtin Builtin.ObjectAttr in
/-- what is asked of the classes behind one of them -/
structure MroG (bm bmB : List Value) : Prop where
  cont : ∀ X : String, bm.contains (.type X) = bmB.contains (.type X)
  pass : ∀ self : Value, refuseLoop self "__setattr__" bm = pure ()
  ne : bm.isEmpty = false
  ob : bmB.contains (.type "object") = true
open Builtin Builtin.ObjectAttr in
theorem MroG.cons {bm bmB : List Value} (m : MroG bm bmB) (c : Addr) : MroG (.ref c :: bm) bmB :=
  ⟨fun X => by rw [List.contains_cons, m.cont]; rfl, fun s => by rw [refuseLoop_ref]; exact m.pass s, rfl, m.ob⟩
/-- own classes, then these -/
def refsT (tl : List Value) : List Value → Bool
  | .ref _ :: r => refsT tl r
  | l => l == tl
theorem refsT_mro {tl : List Value} (m : MroG tl tl) : ∀ l : List Value, refsT tl l = true → MroG l tl := by
  intro l
  induction l with
  | nil => exact fun e => (show ([] : List Value) = tl from beq_iff_eq.mp e) ▸ m
  | cons a r ih =>
    intro e
    cases a with
    | ref c => exact (ih e).cons c
    | _ => rw [show (_ :: r : List Value) = tl from beq_iff_eq.mp e]; exact m
abbrev tlV : List Value := [.type "ValueError", .type "Exception", .type "BaseException", .type "object"]
abbrev tlL : List Value := [.type "LookupError", .type "Exception", .type "BaseException", .type "object"]
abbrev tlI : List Value := [.type "IndexError", .type "LookupError", .type "Exception", .type "BaseException", .type "object"]
theorem mro_V : MroG tlV tlV := ⟨fun _ => rfl, fun s => F.store_ValueError.passes s, rfl, by decide +kernel⟩
theorem mro_L : MroG tlL tlL := ⟨fun _ => rfl, fun s => by kernel_rfl, rfl, by decide +kernel⟩
theorem mro_I : MroG tlI tlI := ⟨fun _ => rfl, fun s => by kernel_rfl, rfl, by decide +kernel⟩
structure OexG (K : PySem.W.Frag) (C : Addr) : Prop where
  cls : ∃ nm q N bs bm bmB B newId initId sn sub ab col dd k0 k1 k2 k3 k5, K.lookup C = some (excClassObj nm q C N bs bm true sn sub ab col dd k0 k1 k2 k3 k5 newId) ∧ ExcBaseFacts B newId initId bmB ∧ MroG bm bmB
  sa : PySem.W.findIn K (.ref C) "__setattr__" = some (some (.builtin "object.__setattr__"))
  exC : PySem.W.subIn K (.ref C) (.type "BaseException") = some true
  tyC : PySem.W.typeIn K (.ref C) = some (.type "type")
  kC : PySem.W.keepIn K (.ref C) = true
section
open Builtin Builtin.ObjectAttr
variable {prog : Program} {w : World} {A : Around} {E : Value → Shared → Prop} {R : Result → Shared → Prop} {hp : Heap} {g : Array GenState} {d : Drawn} {t : Nat} {os : OsState}
/-- the first field of such an error -/
theorem osaG_new {K : PySem.W.Frag} {name : Str} {tk : Tok} {v : Value} {x C : Addr} {fv : Array Value} {cd : ClassData} {bmB : List Value} (X : K.In hp) (hx : hp.get? x = some { cls := .ref C, data := .fields fv }) (hcd : PySem.W.clsIn K C = some cd) (hm : MroG cd.mro bmB)
    (hh : cd.hasDict = true) (ha : PySem.W.findIn K (.ref C) name = some none)
    (hq : ∀ h' tk' dx, (∀ b o, b ≠ x → hp.get? b = some o → h'.get? b = some o) → hp.objs.size ≤ dx → dx ≠ x → h'.get? x = some { cls := .ref C, dict := some dx, data := .fields fv } →
      h'.Ns1 dx (fun y => if y = name then some v else none) → R (.ok (.ret .none)) ⟨h', g, d, tk', os⟩) :
    codeAny (model prog w) A (.call (.builtin "object.__setattr__") ⟨[.ref x, .str name tk, v], []⟩) R ⟨hp, g, d, t, os⟩ := by
  have I : PySem.W.InstAt hp x { cls := .ref C, data := .fields fv } C none := ⟨hx, rfl, rfl, trivial⟩
  have SF := F.store_object
  have ne := hm.ne
  have hob : cd.mro.contains (.type "object") = true := (hm.cont "object").trans hm.ob
  have hxs : x ≠ hp.objs.size := Nat.ne_of_lt (Heap.lt_size hx)
  have sub : PySem.W.Looks (model prog w) hp (isInstance (.ref x) (.type "object")) true := I.type.andThen (PySem.W.looks_mroIn X (by unfold PySem.W.mroIn; rw [hcd, Option.bind_some, if_neg (by rw [ne]; decide), hob]))
  refine codeAny_call_builtin SF.slot.plain SF.entry (@PySem.W.check_slot (model prog w) _ _ ⟨hp, g, d, t, os⟩ "object.__setattr__" "object" "__setattr__" (.ref x) [.str name tk, v] [] _ SF.kind SF.split sub (SF.args (.ref x) (.str name tk) v) ?_)
  have hmr : PySem.W.Looks (model prog w) hp (mroOf (.ref C)) cd.mro := (PySem.W.looks_clsIn X hcd).andThen .now
  have L3 : PySem.W.Looks (model prog w) hp (storeTaker? none) none := .now
  have hcls : PySem.W.Looks (model prog w) hp (classData C) cd := PySem.W.looks_clsIn X hcd
  rw [PySem.W.osa_eq, refuse_eq]
  refine wpAny_bind (wpAny_bind (I.type.at (wpAny_bind (hmr.at ?_))))
  rw [hm.pass]
  refine wpAny_pure (wpAny_bind (I.type.at (wpAny_bind ((PySem.W.looks_findIn X ha).at (wpAny_bind (L3.at ?_))))))
  show wpAny _ _ (storeInOwnDict (.ref x) (.ref C) (.str name tk) name v false) _ _ _
  obtain ⟨nm, bs, mro, ns, qn, hd, sn, sb, ab, col, del⟩ := cd
  dsimp only at hh
  subst hh
  unfold storeInOwnDict ownDictForStores
  repeat (first | with_reducible refine PySem.HandSPX.store_in_new ?_ ?_ | with_reducible refine wpAny_loadPart_at hx ?_ | with_reducible refine hcls.at ?_ | wp_step)
  · exact ⟨_, #[], _, (Heap.get?_update_ne _ _ _ _ hxs.symm).trans (Heap.get?_push_at rfl rfl), rfl, fun e he => absurd he (by simp), fun _ => rfl⟩
  · intro h' tk' hn' hs
    have hx₁ : (hp.push { cls := .type "dict", data := .dict #[] }).get? x = some { cls := .ref C, data := .fields fv } := Heap.get?_push_of_some _ hx
    refine hq h' tk' hp.objs.size (fun b o hb ho => ?_) (Nat.le_refl _) hxs.symm ?_ hn'
    · exact (hs.2 b (Nat.ne_of_lt (Heap.lt_size ho))).trans ((Heap.get?_update_ne _ _ _ _ hb).trans (Heap.get?_push_of_some _ ho))
    · exact (hs.2 x hxs).trans (Heap.get?_update_self _ hx₁ rfl)
/-- a further one -/
theorem osaG_old {K : PySem.W.Frag} {name : Str} {tk : Tok} {v : Value} {x C dx : Addr} {fv : Array Value} {cd : ClassData} {bmB : List Value} {m0 : Str → Option Value} {nl : List Str} (X : K.In hp) (hx : hp.get? x = some { cls := .ref C, dict := some dx, data := .fields fv }) (hns : hp.Ns1 dx m0)
    (hw : Within m0 nl) (hz : nl.length ≤ 1000) (hcd : PySem.W.clsIn K C = some cd) (hm : MroG cd.mro bmB) (hh : cd.hasDict = true) (ha : PySem.W.findIn K (.ref C) name = some none)
    (hq : ∀ h' tk', (∀ b o, b ≠ dx → hp.get? b = some o → h'.get? b = some o) → h'.Ns1 dx (fun y => if y = name then some v else m0 y) → R (.ok (.ret .none)) ⟨h', g, d, tk', os⟩) :
    codeAny (model prog w) A (.call (.builtin "object.__setattr__") ⟨[.ref x, .str name tk, v], []⟩) R ⟨hp, g, d, t, os⟩ := by
  obtain ⟨oD, esD, epD, hoD, hdD, _⟩ := hns.count hw
  have I : PySem.W.InstAt hp x { cls := .ref C, dict := some dx, data := .fields fv } C (some oD) := ⟨hx, rfl, rfl, hoD⟩
  have SF := F.store_object
  have ne := hm.ne
  have hob : cd.mro.contains (.type "object") = true := (hm.cont "object").trans hm.ob
  have sub : PySem.W.Looks (model prog w) hp (isInstance (.ref x) (.type "object")) true := I.type.andThen (PySem.W.looks_mroIn X (by unfold PySem.W.mroIn; rw [hcd, Option.bind_some, if_neg (by rw [ne]; decide), hob]))
  refine codeAny_call_builtin SF.slot.plain SF.entry (@PySem.W.check_slot (model prog w) _ _ ⟨hp, g, d, t, os⟩ "object.__setattr__" "object" "__setattr__" (.ref x) [.str name tk, v] [] _ SF.kind SF.split sub (SF.args (.ref x) (.str name tk) v) ?_)
  have hmr : PySem.W.Looks (model prog w) hp (mroOf (.ref C)) cd.mro := (PySem.W.looks_clsIn X hcd).andThen .now
  have L3 : PySem.W.Looks (model prog w) hp (storeTaker? none) none := .now
  have hcls : PySem.W.Looks (model prog w) hp (classData C) cd := PySem.W.looks_clsIn X hcd
  rw [PySem.W.osa_eq, refuse_eq]
  refine wpAny_bind (wpAny_bind (I.type.at (wpAny_bind (hmr.at ?_))))
  rw [hm.pass]
  refine wpAny_pure (wpAny_bind (I.type.at (wpAny_bind ((PySem.W.looks_findIn X ha).at (wpAny_bind (L3.at ?_))))))
  show wpAny _ _ (storeInOwnDict (.ref x) (.ref C) (.str name tk) name v false) _ _ _
  obtain ⟨nm, bs, mro, ns, qn, hd, sn, sb, ab, col, del⟩ := cd
  dsimp only at hh
  subst hh
  unfold storeInOwnDict ownDictForStores
  repeat (first | with_reducible refine PySem.OEX.store_in_old hns hw hz ?_ | with_reducible refine wpAny_loadPart_at hx ?_ | with_reducible refine hcls.at ?_ | wp_step)
  intro h' tk' hn' hs
  exact hq h' tk' (fun b o hb ho => (hs.2 b hb).trans ho) hn'
end
section
variable {X : Cx} {pins : List (Addr × Obj)} {σ : L2.St} {H : Hp} {s : Shared} {a C dx : Addr} {f : Str} {y : V} {u : Value} {fs : List (Str × V)} {Q : Unit → Shared → Prop} {E : Value → Shared → Prop} {A : Around}
theorem OexG.data {K : PySem.W.Frag} (T : OexG K C) : ∃ cd bmB, PySem.W.clsIn K C = some cd ∧ MroG cd.mro bmB ∧ cd.hasDict = true := by
  obtain ⟨nm, q, N, bs, bm, bmB, B, ni, ii, sn, sub, ab, col, dd, k0, k1, k2, k3, k5, hC, _, hm⟩ := T.cls
  exact ⟨{ name := nm, bases := bs, mro := .ref C :: bm, ns := N, qualname := q, hasDict := true, slotNames := sn, subclasses := sub, abstract := ab, collection := col, hasDel := false }, bmB, by unfold PySem.W.clsIn; rw [hC] <;> rfl, hm.cons C, rfl⟩
theorem ostG_new (T : OexG X.K C) (I : L2.Inv X pins σ H s) (e : H a = some (exo a C none)) (hno : PySem.W.findIn X.K (.ref C) f = some none) (ry : RelV y u)
    (h : ∀ dx s', H dx = none → dx ≠ a → L2.Inv X pins σ (upd (upd H dx (exd dx [(f, y)])) a (exo a C (some dx))) s' → Q () s') : wpAny (model X.prog X.w) A (setAttr (.ref a) f u) Q E s := by
  obtain ⟨cd, bmB, hcl, hm, hh⟩ := T.data
  obtain ⟨t1, ho⟩ := exo_at I.hok e
  obtain ⟨hp, g, d, t, os⟩ := s
  refine PySem.W.set_plain I.kIn (ox := { cls := .ref C, dict := none, data := .fields #[.ref t1, .none, .none, .none, .bool false, .none] }) (od := none) ⟨ho, rfl, rfl, trivial⟩ T.sa ?_
  refine osaG_new I.kIn ho hcl hm hh hno (fun h' tk' dx k dn dne hx hn => ?_)
  have hnd : H dx = none := I.hok.fresh dn
  have nd : ∀ {b : Addr} {o : Obj}, hp.get? b = some o → b ≠ dx := fun {b o} q => Nat.ne_of_lt (Nat.lt_of_lt_of_le (Heap.lt_size q) dn)
  have na : ∀ {b : Addr}, H b = none → b ≠ a := fun {b} n z => by
    rw [z, e] at n
    cases n
  have U1 : Un X.fs [] H (upd (upd H dx (exd dx [(f, y)])) a (exo a C (some dx))) hp h' := {
    keep := fun b o q n _ _ => k b o (na n) q
    slot := fun b o q n _ _ => ⟨o.slots, k b o (na n) q⟩
    free := fun b o q n _ => by rw [upd_ne (na n), upd_ne (nd q)]; exact n
    there := fun b o q _ => by
      by_cases hb : b = a
      · exact ⟨_, by rw [hb]; exact hx⟩
      · exact ⟨o, k b o hb q⟩
    tups := fun b xs q => by rw [upd_ne (at_ne e q exo_tup), upd_ne (ne_of_none q hnd)]; exact q
    frzs := fun b o v q => by rw [upd_ne (at_ne e q exo_frz), upd_ne (ne_of_none q hnd)]; exact q
    tbls := fun b ps q => ⟨#[], by rw [upd_ne (at_ne e q exo_tbl), upd_ne (ne_of_none q hnd), q]; simp⟩ }
  refine h dx _ hnd dne (I.un (t' := tk') U1 fun b o q => ?_)
  by_cases hb : b = a
  · subst hb
    rw [upd_same] at q
    cases q
    exact exo_ok hx
  rw [upd_ne hb] at q
  by_cases hd : b = dx
  · subst hd
    rw [upd_same] at q
    cases q
    exact exd_ok hn (relO_put (fs := []) ry fun g => True.intro)
  rw [upd_ne hd] at q
  exact (I.hok b o q).stay (fun c v hc z => k c v (by
      rcases hc with hc | hc
      · rw [hc]; exact hb
      · exact at_ne e hc exo_own) z)
    (fun c hc => by rw [upd_ne (at_ne e hc exo_own), upd_ne (ne_of_none hc hnd)]; exact hc) (fun c xs hc => by rw [upd_ne (at_ne e hc exo_tup), upd_ne (ne_of_none hc hnd)]; exact hc)
theorem ostG_old (T : OexG X.K C) (I : L2.Inv X pins σ H s) (e : H a = some (exo a C (some dx))) (ed : H dx = some (exd dx fs)) (hl : fs.length ≤ 900) (hno : PySem.W.findIn X.K (.ref C) f = some none) (ry : RelV y u)
    (h : ∀ s', L2.Inv X pins σ (upd H dx (exd dx ((f, y) :: fs))) s' → Q () s') : wpAny (model X.prog X.w) A (setAttr (.ref a) f u) Q E s := by
  obtain ⟨cd, bmB, hcl, hm, hh⟩ := T.data
  obtain ⟨t1, ho⟩ := exo_at I.hok e
  obtain ⟨mA, hns, rel⟩ := exd_at I.hok ed
  have hw := within_of rel
  obtain ⟨hp, g, d, t, os⟩ := s
  obtain ⟨oD, _, _, hoD, _, _⟩ := hns.count hw
  refine PySem.W.set_plain I.kIn (ox := { cls := .ref C, dict := some dx, data := .fields #[.ref t1, .none, .none, .none, .bool false, .none] }) (od := some oD) ⟨ho, rfl, rfl, hoD⟩ T.sa ?_
  refine osaG_old I.kIn ho hns hw (by rw [List.length_map]; omega) hcl hm hh hno (fun h' tk' k hn => ?_)
  have hd : ∃ o, h'.get? dx = some o := by
    obtain ⟨o, _, _, e', _⟩ := hn
    exact ⟨o, e'⟩
  exact h _ (I.write (t' := tk') (x := dx) (e := dx) (o := exd dx ((f, y) :: fs)) (by rw [ed]; exact True.intro) (.inl rfl) k hd (exd_ok hn (relO_put ry rel)))
end
/-- self.f = e -/
def tOstG (K : PySem.W.Frag) (f : Str) (to te : TE) : TS := fun D σ H => te σ H fun y H1 => to σ H1 fun x H2 => ∃ a C : Addr, x = .ref a ∧ OexG K C ∧ PySem.W.findIn K (.ref C) f = some none ∧
  ((H2 a = some (exo a C none) ∧ ∀ dx, H2 dx = none → dx ≠ a → D.nx σ (upd (upd H2 dx (exd dx [(f, y)])) a (exo a C (some dx)))) ∨
    ∃ (dx : Addr) (fs : List (Str × V)), H2 a = some (exo a C (some dx)) ∧ H2 dx = some (exd dx fs) ∧ fs.length ≤ 900 ∧ D.nx σ (upd H2 dx (exd dx ((f, y) :: fs))))
section
variable {X : Cx} {o e : Expr} {es : List Expr} {to te : TE} {ta : TA} {f : Str} {p p' pos : Pos}
theorem ps_ostG (ho : PE X o to) (he : PE X e te) (hs : swapsWith e (some (.Attribute o f p')) pos.line X.env = pure false := by rfl) : PS X (.Assign [.Attribute o f p'] e pos) (tOstG X.K f to te) := by
  refine ⟨fun pins s σ H D I h => ?_⟩
  refine plainObj_wpAny_Assign_Attribute (thn (he.run pins s σ H _ I h) fun v s1 ⟨y, H1, I1, r1, q1⟩ => thn (ho.run pins s1 σ H1 _ I1 q1) fun u s2 ⟨x, H2, I2, r2, a, C, ex, T, hno, q⟩ => ?_) hs
  subst ex
  obtain rfl : u = Value.ref a := r2
  rcases q with ⟨ea, q⟩ | ⟨dx, fs, ea, ed, hl, q⟩
  · exact ostG_new T I2 ea hno r1 fun dx s' n ne J => ⟨σ, _, J, q dx n ne⟩
  · exact ostG_old T I2 ea ed hl hno r1 fun s' J => ⟨σ, _, J, q⟩
/-- what a call of such a class with these arguments promises -/
abbrev MkG (C : Addr) (sp : Sp) (vs : List V) (H1 : Hp) (Q : XK) : Prop := vs.length ≤ 1000 ∧ ∀ a, H1 a = none → sp (.ref a :: vs) (upd H1 a (exo a C none))
  (fun v H2 => v = .non ∧ ∃ (d : Addr) (fs : List (Str × V)), H2 a = some (exo a C (some d)) ∧ H2 d = some (exd d fs) ∧ H1 d = none ∧ Q (.ref C) (some d) (upd (L2.del H2 a) d (.xd fs))) (fun _ _ _ => False)
theorem made_G {CX : CXT} {C fI : Addr} {k : Nat} {fd : FuncData} {ps : List Str} {sp : Sp} {pins : List (Addr × Obj)} {s : Shared} {σ : L2.St} {H : Hp} {us : List Value} {vs : List V} {Q : XK} (T : OexG X.K C) (iC : PySem.W.findIn X.K (.ref C) "__init__" = some (some (.ref fI)))
    (tI : PySem.W.typeIn X.K (.ref fI) = some (.type "function")) (F1 : FnOk X.prog X.w X.K X.mg X.base CX k fI fd ps sp) (hr : Room (k + 1) X.A) (hb : Binds X.K fd ps []) (hx : Passes CX X (fun _ _ _ => False)) (I1 : L2.Inv X pins σ H s) (r1 : Vals vs us) (q1 : MkG C sp vs H Q) :
    wpAny (model X.prog X.w) X.A (call (.ref C) us) (MkP X pins σ Q) X.xe s := by
  obtain ⟨nm, q, N, bs, bm, bmB, B, ni, ii, sn, sub, ab, col, dd, k0, k1, k2, k3, k5, hC, FB, hm⟩ := T.cls
  obtain ⟨hz, q1⟩ := q1
  obtain ⟨hp, g, dr, tk, os⟩ := s
  have hsz : hp.objs.size ≤ hp.objs.size + 1 := Nat.le_succ _
  have hn : H (hp.objs.size + 1) = none := I1.hok.fresh hsz
  have hq := q1 (hp.objs.size + 1) hn
  have kk : ∀ b o, hp.get? b = some o → ((hp.push (PySem.W.kdv_tup us)).push (PySem.HandSPX.excO C hp.objs.size)).get? b = some o := fun b o e => Heap.get?_push_of_some _ (Heap.get?_push_of_some _ e)
  have hget : ((hp.push (PySem.W.kdv_tup us)).push (PySem.HandSPX.excO C hp.objs.size)).get? (hp.objs.size + 1) = some (PySem.HandSPX.excO C hp.objs.size) := by heap_get
  have I2 : L2.Inv X pins σ (upd H (hp.objs.size + 1) (exo (hp.objs.size + 1) C none)) ⟨(hp.push (PySem.W.kdv_tup us)).push (PySem.HandSPX.excO C hp.objs.size), g, dr, tk, os⟩ :=
    I1.laid (t' := tk) (a := hp.objs.size + 1) (o := exo (hp.objs.size + 1) C none) (h' := (hp.push (PySem.W.kdv_tup us)).push (PySem.HandSPX.excO C hp.objs.size)) kk hsz (exo_ok hget)
  have r2 : Vals (V.ref (hp.objs.size + 1) :: vs) (Value.ref (hp.objs.size + 1) :: us) := .cons rfl r1
  have hl : ((Value.ref (hp.objs.size + 1) :: us) ++ []).length = ps.length := by
    have e := r2.length
    rw [F1.len _ _ _ _ hq] at e
    rw [List.append_nil]
    exact e.symm
  have hus : us.length ≤ sizeLine := by
    rw [← Paired.length r1, sizeLine_eq]
    omega
  have b2 := hb _ (Value.ref (hp.objs.size + 1) :: us) I2.kIn hl
  rw [List.append_nil] at b2
  refine wpAny_call (PySem.HandSPX.call_own FB hm.cont (I1.kIn _ _ hC) (PySem.W.looks_findIn I1.kIn iC) (fun self => PySem.W.bind_fn I1.kIn self tI) hus
    (codeAny_mono (F1.run _ X.stack _ _ ⟨Value.ref (hp.objs.size + 1) :: us, []⟩ (Value.ref (hp.objs.size + 1) :: us) _ _ (fun _ _ _ => False) (hr.make C us []) (I2.env0.make C us []) b2 r2 hq) fun r s' hq' => ?_))
  cases r with
  | error er => exact hx pins σ _ _ er s' I2 hq'
  | ok fl =>
    cases fl with
    | ret u =>
      obtain ⟨v, H2, os2, bare2, un2, hok2, rv, ev, d, fs, ea, ed, hd1, q2⟩ := hq'
      subst ev
      obtain ⟨h2, g2, d2, t2, os'⟩ := s'
      exact ⟨rv, mk_end (raises_own T.exC T.tyC) I1 hsz kk un2 hok2 os2 bare2 ea ed hd1 q2⟩
    | next => exact False.elim hq'
    | brk => exact False.elim hq'
    | cont => exact False.elim hq'
/-- C(e, ..) -/
def tMkG (C : Addr) (sp : Sp) (ta : TA) : L2.St → Hp → XK → Prop := fun σ H Q => ta σ H fun vs H1 => MkG C sp vs H1 Q
theorem pmk_G {CX : CXT} {x : Str} {C fI : Addr} {k : Nat} {fd : FuncData} {ps : List Str} {sp : Sp} (T : OexG X.K C) (iC : PySem.W.findIn X.K (.ref C) "__init__" = some (some (.ref fI))) (tI : PySem.W.typeIn X.K (.ref fI) = some (.type "function"))
    (F1 : FnOk X.prog X.w X.K X.mg X.base CX k fI fd ps sp) (hr : Room (k + 1) X.A) (hb : Binds X.K fd ps []) (hx : Passes CX X (fun _ _ _ => False)) (hg : Gl X x) (hm : X.mg x = some (.ref C)) (ha : PA X (e :: es) ta)
    (hdb : (x == ("__debug__" : Str)) = false := by decide) (he : starEach (e :: es) X.env = (false, eval e X.env) :: starEach es X.env := by rfl) (hpl : (backTo pos (starEach es X.env)).any (·.1) = false := by rfl) :
    PMk X (.Call (.Name x p) (e :: es) [] pos) (tMkG C sp ta) := by
  intro pins s σ H Q I h
  refine wpAny_Call_Name_kw (ld_glob I hg hm ?_ hdb)
  exact PySem.W.callWith_K (h₀ := X.base) I.ok.mod.kin T.kC (thn (ha.run pos pins s σ H _ I h) fun us s1 ⟨vs, H1, I1, r1, q1⟩ => ⟨I1.kIn, made_G T iC tI F1 hr hb hx I1 r1 q1⟩) he hpl
end
/-! ### an own error: its word, then its fields -/
def initF {α : Type} (word : α) (fs : List Str) (vs : List α) : List (Str × α) := (fs.zip vs).reverse ++ [(("word" : Str), word)]
/-- what its __init__ keeps -/
def initSp (C : Addr) (word : Str) (fs : List Str) : Sp := fun vs H Q _ => ∃ a us, vs = .ref a :: us ∧ us.length = fs.length ∧ H a = some (exo a C none) ∧
  ∀ d H2, H d = none → d ≠ a → H2 a = some (exo a C (some d)) → H2 d = some (exd d (initF (V.str word) fs us)) → (∀ b, b ≠ a → b ≠ d → H2 b = H b) → Q .non H2
section
variable {P : Program} {w : World} {K : PySem.W.Frag} {mg : Str → Option Value} {base : Heap} {qual word f g : Str} {params : Arguments} {scope : Scope} {fI C : Addr} {fd : FuncData} {q1 q2 q3 q4 q5 q6 q7 q8 r5 r6 r7 r8 : Pos} {j : Nat}
theorem init1 (F : FunD K "__init__" qual params [.Assign [.Attribute (.Name "self" q1) "word" q2] (.Constant (.str word) j q3) q4, .Assign [.Attribute (.Name "self" q5) f q6] (.Name f q7) q8] scope [] [] fI fd) (S : FnScope ["self", f] ["self", f] scope)
    (T : OexG K C) (nw : PySem.W.findIn K (.ref C) "word" = some none) (nf : PySem.W.findIn K (.ref C) f = some none) (hd : (f == ("__debug__" : Str)) = false := by decide) (hcd : (f == ("__classdict__" : Str)) = false := by decide) :
    FnOk P w K mg base (L2.CX P w) 1 fI fd ["self", f] (initSp C word [f]) := by
  have v0 : Vis scope "self" := (S.par "self" (by simp)).imp id .inl
  have v1 : Vis scope f := (S.par f (by simp)).imp id .inl
  refine F.ok S (fun vs H Q E ⟨a, us, e, l, _⟩ => by rw [e]; simpa using l) fun cdv A outer s H vs Q E hr ⟨a, us, e, l, ea, q⟩ => ?_
  subst e
  obtain ⟨y, rfl⟩ : ∃ y, us = [y] := by
    match us, l with
    | [y], _ => exact ⟨y, rfl⟩
  refine ⟨_, pss_cons (ps_ostG (pe_var (i := 0) rfl v0) pe_str) (pss_one (ps_ostG (pe_var (i := 0) rfl v0) (pe_var (i := 1) rfl v1 hd hcd))), ?_⟩
  refine ⟨.ref a, rfl, a, C, rfl, T, nw, .inl ⟨ea, fun d nd da => ?_⟩⟩
  refine ⟨y, rfl, .ref a, rfl, a, C, rfl, T, nf, .inr ⟨d, _, upd_same, by rw [upd_ne da, upd_same], by simp, ?_⟩⟩
  exact q d _ nd da (by rw [upd_ne (Ne.symm da), upd_same]) (by rw [upd_same]; rfl) fun b h1 h2 => by rw [upd_ne h2, upd_ne h1, upd_ne h2]
end
/-- a class of errors of one's own -/
structure XkOk (P : Program) (w : World) (K : PySem.W.Frag) (mg : Str → Option Value) (base : Heap) (x word : Str) (fs : List Str) : Prop where
  gl : mg x = some (.ref (He.ga K x))
  cls : OexG K (He.ga K x)
  ini : ∃ fI fd ps, PySem.W.findIn K (.ref (He.ga K x)) "__init__" = some (some (.ref fI)) ∧ PySem.W.typeIn K (.ref fI) = some (.type "function") ∧ Binds K fd ps [] ∧ FnOk P w K mg base (L2.CX P w) 1 fI fd ps (initSp (He.ga K x) word fs)
def aRaise (E : AExc → AEnv → AH → Prop) (x word : Str) (fs : List Str) (t : AAT) : ATS := fun _ env h => t env h fun ws env1 h1 => E ⟨x, initF (W.str word) fs ws⟩ env1 h1
theorem RepL.initF {K : PySem.W.Frag} {H : Hp} {word : Str} : ∀ {fs : List Str} {ws : List W} {vs : List V}, RepL K H ws vs → ws.length = fs.length → FRep K H (initF (W.str word) fs ws) (initF (V.str word) fs vs) := fun {fs ws vs} r l => by
  have lv : vs.length = fs.length := by rw [← r.length, l]
  refine ⟨?_, ?_⟩
  · unfold Ab.initF
    rw [List.map_append, List.map_append, List.map_reverse, List.map_reverse, List.map_fst_zip (by omega), List.map_fst_zip (by omega)]
    rfl
  · unfold Ab.initF
    rw [List.map_append, List.map_append, List.map_reverse, List.map_reverse, List.map_snd_zip (by omega), List.map_snd_zip (by omega)]
    refine RepL.append ?_ (.cons .str .nil)
    clear l lv
    induction ws generalizing vs with
    | nil => rw [r.of_nil]; exact .nil
    | cons w ws ih =>
      obtain ⟨v, t, rfl, a, b⟩ := r.of_cons
      rw [List.reverse_cons, List.reverse_cons]
      exact (ih b).append (.cons a .nil)
section
variable {X : Cx} {G : Gx} {x word : Str} {fs : List Str} {t : AAT} {e : Expr} {es : List Expr} {E : AExc → AEnv → AH → Prop} {p pos pos2 : Pos} {k : Nat}
theorem as_raise (R : XkOk X.prog X.w X.K X.mg X.base x word fs) (gk : G.K = X.K) (hc : X.calm = true) (tk : Takes X (cW G E)) (hr : Room k X.A) (hk : 2 ≤ k) (hg : Gl X x) (ha : AN X G (e :: es) fs.length t) (hl : fs.length ≤ 900 := by decide)
    (hdb : (x == ("__debug__" : Str)) = false := by decide) (he : starEach (e :: es) X.env = (false, eval e X.env) :: starEach es X.env := by rfl) (hpl : (backTo pos (starEach es X.env)).any (·.1) = false := by rfl) :
    AS X G (.Raise (some (.Call (.Name x p) (e :: es) [] pos)) none pos2) (aRaise E x word fs t) := by
  obtain ⟨fI, fd, ps, iC, tI, hb, F⟩ := R.ini
  refine ⟨fun D D' env h l q => q, PS.imp (ps_raise hc tk (pmk_G R.cls iC tI F (hr.mono hk) hb (passes_call (W := fun _ _ _ _ => False) takes0 fun _ _ _ _ z => z) hg R.gl ha.aa.pa hdb he hpl)) fun D σ H ⟨env, h, Da, S, q, l⟩ => ?_⟩
  refine ⟨env, h, S, ha.aa.mono env h _ _ (fun ws env1 h1 ⟨wl, z⟩ vs H1 S1 x1 r1 => ?_) (ha.ln _ _ _ q)⟩
  have lv : vs.length = fs.length := by rw [← r1.length, wl]
  refine ⟨by omega, fun a na => ⟨a, vs, rfl, lv, upd_same, fun d H2 nd da e1 e2 e3 => ⟨rfl, d, _, e1, e2, ?_, ?_⟩⟩⟩
  · rw [upd_ne da] at nd; exact nd
  · have nd1 : H1 d = none := by rw [upd_ne da] at nd; exact nd
    have nw : New H1 (upd (L2.del H2 a) d (.xd (initF (V.str word) fs vs))) := fun p o ep => by
      have pa : p ≠ a := ne_of_none ep na
      have pd : p ≠ d := ne_of_none ep nd1
      rw [upd_ne pd, del_ne pa, e3 p pa pd, upd_ne pa]
      exact ep
    refine ⟨⟨x, initF (W.str word) fs ws⟩, env1, h1, nw.bs S1, ⟨by rw [gk], d, _, rfl, upd_same, RepL.initF (RepL.mono nw.keeps _ _ r1) wl⟩, z⟩
end
end Ab

namespace Ab
open PySem PySem.Spec PyProof.Rows L2
/-! ### try, with clauses that name what they catch -/
abbrev SuiteT := Addr → Value → Option Addr → TS
/-- what the clauses wish of an exception, one behind another -/
def wAsL (K : PySem.W.Frag) (Wout : WX) (D : Ends) : List (Value × Nat × SuiteT) → WX
  | [] => Wout
  | (c, i, u) :: r => fun cls d σ H => ∃ b, PySem.W.exmOne K cls c = some b ∧
      (b = true → ∀ x, H x = none → u x cls d { nx := fun σ1 H1 => D.nx (σ1.set i none) H1, rt := D.rt, bk := fun σ1 H1 => D.bk (σ1.set i none) H1, ct := fun σ1 H1 => D.ct (σ1.set i none) H1 } (σ.set i (some (.ref x))) H) ∧
      (b = false → wAsL K Wout D r cls d σ H)
inductive HdsAs (X : Cx) : List ExceptHandler → List (Value × Nat × SuiteT) → Prop where
  | nil : HdsAs X [] []
  | cons {x n : Str} {c : Value} {i : Nat} {b : Stmt} {suite : List Stmt} {np pos : Pos} {u : SuiteT} {hds : List ExceptHandler} {l : List (Value × Nat × SuiteT)} (hi : X.N[i]? = some n) (hln : X.env.kindOf n = some .local) (hc : Names X x c)
      (hsu : ∀ (a : Addr) (oe : Obj) (cls : Value) (d : Option Addr) (pn : List (Addr × Obj)), Zc cls d oe → (∃ vs, oe.data = .fields vs) → PSs (X.suite a ((a, oe) :: pn)) (b :: suite) (u a cls d)) (t : HdsAs X hds l) :
      HdsAs X (.ExceptHandler (some (.Name x np)) (some n) (b :: suite) pos :: hds) ((c, i, u) :: l)
section
variable {X : Cx} {pins : List (Addr × Obj)} {s : Shared} {Wout : WX} {D : Ends}
/-- the exception has landed: the clauses are asked -/
theorem asked {B h : Heap} {sI : Shared} {pinsI : List (Addr × Obj)} {σ : L2.St} {H : Hp} {a : Addr} {cls : Value} {d : Option Addr} (stk : X.stack = X.env :: X.outer) (fr : X.env.frame = some X.env.locals) (nd : X.N.Nodup) (tk : Takes X Wout) (ok : X.Ok)
    (J : L2.Inv X pins σ H sI) (kb : ∀ b o, sI.heap.get? b = some o → b ∉ frs X.stack → B.get? b = some o) (up : sI.heap.UpToSlots s.heap) (na : H a = none) (os : s.os = sI.os) (ag : AllBare s.gens)
    (fl : HandSPX.FlyingZ B (X.env :: X.outer) a (Zc cls d) h) (uph : s.heap.UpToSlots h) (hk : X.A.frames = some (X.env :: X.outer)) :
    ∀ {hds : List ExceptHandler} {l : List (Value × Nat × SuiteT)}, HdsAs X hds l → wAsL X.K Wout D l cls d σ H → wpAny (model X.prog X.w) X.A (handleBy (.ref a) X.env hds) (SP X pins D) X.xe { s with heap := h } := by
  intro hds l hh
  induction hh with
  | nil =>
    intro wish
    have wish : Wout cls d σ H := wish
    refine wpAny_handleBy_nil ?_
    obtain ⟨_, _, _, ox, xs, T, oT, _, hx, _, hdx, h1x, _⟩ := id fl
    unfold PySem.passOn
    refine wpAny_bind (wpAny_field hx hdx h1x ?_)
    rw [if_neg (by simp : ¬ ((Value.ref T == Value.none) = true))]
    have away : wpAny (model X.prog X.w) X.A (setFlight (.ref a) X.env.frame) (fun _ r => wpAny (model X.prog X.w) X.A (throw (.ref a) : Sem Flow) (SP X pins D) X.xe r) X.xe { s with heap := h } := by
      rw [fr]
      refine HandSPX.setFlight_upZ fl fun g hg ug => wpAny_throw (tk _ _ ?_)
      exact ⟨a, B, sI, pins, σ, H, cls, d, rfl, J, kb, (up.trans uph).trans ug, .inr (.inr (by rw [stk]; exact hg)), na, os, ag, wish⟩
    first
      | exact wpAny_bind (wpAny_pure (wpAny_bind away))
      | exact wpAny_bind away
  | cons hi hln hc hsu t ih =>
    rename_i x n c i b suite np pos u hds l
    intro wish
    obtain ⟨y, hy, yes, no⟩ := wish
    have lc : Loc X.env.scope n := .inl hln
    have J1 : L2.Inv X pins σ H { s with heap := h } := J.landed kb fl.1 (up.trans uph) os ag
    obtain ⟨ox, xs, hx, hzx, hdx⟩ := fl.there
    have off : ∀ {g : Heap} {o : Obj} {vs : Array Value}, g.FunFrames B (X.env :: X.outer) → g.get? a = some o → o.data = .fields vs → a ∉ frs (X.env :: X.outer) := fun {g o vs} ff e dd hm => by
      obtain ⟨_, o1, e1, nf⟩ := ff.mem hm
      rw [e] at e1; cases e1
      exact nf _ dd
    have offA := off fl.2.2.1 hx hdx
    have aL : a ≠ X.env.locals := fun z => offA (List.mem_filterMap.mpr ⟨X.env, List.mem_cons_self, by rw [fr, z]⟩)
    have aF : a ∉ X.fs := fun hm => by
      obtain ⟨e, he, q⟩ := List.mem_filterMap.mp hm
      exact offA (List.mem_filterMap.mpr ⟨e, List.mem_cons_of_mem _ he, q⟩)
    have J2 := J1.suite hx hdx na aL aF
    have ty : PySem.W.Looks (model X.prog X.w) h (typeOf (.ref a)) cls := fun A Q E s k q => wpAny_typeOf_ref (k _ _ hx) (by rw [hzx.1]; exact q)
    have hit := PySem.W.exm_one (M := model X.prog X.w) (J1.kIn) ty hy
    have named : ∀ {Q : Value → Shared → Prop} {E : Value → Shared → Prop}, Q c { s with heap := h } → wpAny (model X.prog X.w) (X.A.mark (some (.ref a))) (eval (.Name x np) X.env) Q E { s with heap := h } := fun {Q E} q => by
      obtain ⟨g1, g2, g3 | ⟨g3, g4, g5⟩⟩ := hc
      · exact ld_glob (X := X.suite a ((a, ox) :: (X.pn ++ pins))) J2 g1 g3 q g2
      · exact ld_blt (X := X.suite a ((a, ox) :: (X.pn ++ pins))) J2 g1 g3 g4 q g5 g2
    refine wpAny_handleBy_cons (codeAny_handlers_test (named (hit.here ?_))) (by intro z; cases z)
    cases y with
    | false => exact ih (no rfl)
    | true =>
      refine codeAny_handlers_suite_as (HandSPX.lands_againZ fl fun g flg ug => ?_)
      have J3 : L2.Inv X pins σ H { s with heap := g } := J.landed kb flg.1 ((up.trans uph).trans ug) os ag
      obtain ⟨oy, ys, hoy, hzy, hdy⟩ := flg.there
      have J4 := J3.suite hoy hdy na aL aF
      refine store_ok (X := X.suite a ((a, oy) :: (X.pn ++ pins))) (v := .ref a) J4 nd hi lc rfl (fun s5 J5 => ?_) (.inr hln)
      refine wpAny_mono ((hsu a oy cls d (X.pn ++ pins) hzy ⟨_, hdy⟩).run [] s5 _ H _ J5 (yes rfl a na)) (fun f s6 done => ?_) (fun _ _ z => False.elim z)
      have shut : ∀ {σ6 : L2.St} {H6 : Hp} {Q : Shared → Prop}, L2.Inv (X.suite a ((a, oy) :: (X.pn ++ pins))) [] σ6 H6 s6 → (∀ s7, L2.Inv X pins (σ6.set i none) H6 s7 → Q s7) →
          wpAny (model X.prog X.w) X.A (do bindName X.env n .none; unbindBehindTheSuite X.env n pos) (fun _ s7 => Q s7) X.xe s6 := fun {σ6 H6 Q} J6 hq => gone_ok (J6.unsuite ok) nd hi hln hq
      cases f with
      | next =>
        obtain ⟨σ6, H6, J6, q6⟩ := done
        exact shut J6 fun s7 J7 => ⟨_, _, J7, q6⟩
      | brk =>
        obtain ⟨σ6, H6, J6, q6⟩ := done
        exact shut J6 fun s7 J7 => ⟨_, _, J7, q6⟩
      | cont =>
        obtain ⟨σ6, H6, J6, q6⟩ := done
        exact shut J6 fun s7 J7 => ⟨_, _, J7, q6⟩
      | ret v =>
        obtain ⟨v6, σ6, H6, J6, r6, q6⟩ := done
        exact shut J6 fun s7 J7 => ⟨_, _, _, J7, r6, q6⟩
theorem try_asL {body : List Stmt} {h₀ : ExceptHandler} {hds : List ExceptHandler} {l : List (Value × Nat × SuiteT)} {tb : WX → TS} {pos : Pos} (stk : X.stack = X.env :: X.outer) (fr : X.env.frame = some X.env.locals) (nd : X.N.Nodup) (tk : Takes X Wout)
    (hb : ∀ (W : WX) (pn : List (Addr × Obj)) (xe : Value → Shared → Prop), Takes (X.tr pn xe) W → PSs (X.tr pn xe) body (tb W)) (hh : HdsAs X (h₀ :: hds) l) :
    PS X (.Try body (h₀ :: hds) [] [] pos) (fun D σ H => tb (wAsL X.K Wout D l) D σ H) := by
  refine ⟨fun pins s σ H D I q => ?_⟩
  have ok := I.ok
  have hk : X.A.frames = some (X.env :: X.outer) := by rw [ok.frames, stk]
  refine wpAny_Try_except ?_
  have tkb : Takes (X.tr (X.pn ++ pins) fun e r => wpAny (model X.prog X.w) X.A (noteFrame e X.env) (fun _ r2 => wpAny (model X.prog X.w) X.A (setFlight e none) (fun _ r3 =>
      wpAny (model X.prog X.w) X.A (handleBy e X.env (h₀ :: hds)) (SP X pins D) X.xe r3) X.xe r2) X.xe r) (wAsL X.K Wout D l) := fun e r xx => by
    obtain ⟨a, B, sI, pinsI, σ1, H1, cls, d, rfl, J1, kb, up, sky, na, os, ag, wish⟩ := xx
    have J : L2.Inv X pins σ1 H1 sI := J1.ofTry ok
    have sky1 : Sky B (X.env :: X.outer) a (Zc cls d) X.env.locals r.heap := by rw [← stk]; exact sky
    change wpAny (model X.prog X.w) X.A (noteFrame (.ref a) X.env) _ _ _
    exact Sky.land Zc.steady hk fr sky1 fun h fl uph => asked (pinsI := pinsI) stk fr nd tk ok J kb up na os ag fl uph hk hh wish
  refine wpAny_mono ((hb _ _ _ tkb).run [] s σ H D (I.toTry _) q) (fun f s1 done => ?_) fun e s1 he => he
  cases f with
  | next =>
    obtain ⟨σ1, H1, J1, z⟩ := done
    exact wpAny_execs_nil ⟨σ1, H1, J1.ofTry ok, z⟩
  | brk =>
    obtain ⟨σ1, H1, J1, z⟩ := done
    exact ⟨σ1, H1, J1.ofTry ok, z⟩
  | cont =>
    obtain ⟨σ1, H1, J1, z⟩ := done
    exact ⟨σ1, H1, J1.ofTry ok, z⟩
  | ret u =>
    obtain ⟨v, σ1, H1, J1, r, z⟩ := done
    exact ⟨v, σ1, H1, J1.ofTry ok, r, z⟩
end
end Ab

namespace Ab
open PySem PySem.Spec PyProof.Rows L2
/-! ### values in a suite: of the caught error's fields -/
abbrev XT := AExc → (W → Prop) → Prop
def xFld (f : Str) : XT := fun x K => ∃ w, x.fs.lookup f = some w ∧ K w
def xCon (w : W) : XT := fun _ K => K w
abbrev XTs := AExc → (List W → Prop) → Prop
def xNil : XTs := fun _ K => K []
def xCons (a : XT) (b : XTs) : XTs := fun x K => a x fun w => b x fun ws => K (w :: ws)
def xTup (a : XTs) : XT := fun x K => a x fun ws => ws.length ≤ sizeLine ∧ K (.tup ws)
def MonoX (t : XT) : Prop := ∀ x K K', (∀ w, K w → K' w) → t x K → t x K'
def MonoXs (t : XTs) : Prop := ∀ x K K', (∀ w, K w → K' w) → t x K → t x K'
/-- the state within a suite: the error's object in slot i -/
structure XS (G : Gx) (i : Nat) (a : Addr) (cls : Value) (d : Option Addr) (x : AExc) (env : AEnv) (h : AH) (σ : L2.St) (H : Hp) : Prop where
  bs : BS G env h σ H
  at_ : σ[i]? = some (some (V.ref a))
  rep : XRep G.K H x cls d
theorem XRep.new {K : PySem.W.Frag} {H H' : Hp} {x : AExc} {cls : Value} {d : Option Addr} (n : New H H') (r : XRep K H x cls d) : XRep K H' x cls d := by
  obtain ⟨e, dd, vs, ed, ea, f1, f2⟩ := r
  exact ⟨e, dd, vs, ed, n _ _ ea, f1, RepL.mono n.keeps _ _ f2⟩
structure XV (X : Cx) (G : Gx) (i : Nat) (ks : List Str) (e : Expr) (t : XT) : Prop where
  mono : MonoX t
  pe : ∀ (a : Addr) (oe : Obj) (cls : Value) (d : Option Addr) (pn : List (Addr × Obj)), Zc cls d oe → (∃ vs, oe.data = .fields vs) → PE (X.suite a ((a, oe) :: pn)) e (fun σ H Q => ∃ x env h, XS G i a cls d x env h σ H ∧ x.n ∈ ks ∧
    t x fun w => ∀ v H', New H H' → Rep G.K H' w v → Q v H')
structure XVs (X : Cx) (G : Gx) (i : Nat) (ks : List Str) (es : List Expr) (t : XTs) : Prop where
  mono : MonoXs t
  pa : ∀ (a : Addr) (oe : Obj) (cls : Value) (d : Option Addr) (pn : List (Addr × Obj)), Zc cls d oe → (∃ vs, oe.data = .fields vs) → PA (X.suite a ((a, oe) :: pn)) es (fun σ H Q => ∃ x env h, XS G i a cls d x env h σ H ∧ x.n ∈ ks ∧
    t x fun ws => ∀ vs H', New H H' → RepL G.K H' ws vs → Q vs H')
theorem FRep.lookup {K : PySem.W.Frag} {H : Hp} : ∀ {fs : List (Str × W)} {vs : List (Str × V)} {f : Str} {w : W}, FRep K H fs vs → fs.lookup f = some w → ∃ v, vs.lookup f = some v ∧ Rep K H w v
  | [], _, _, _, _, e => by cases e
  | (g, x) :: fs, vs, f, w, ⟨n, r⟩, e => by
    obtain ⟨v, t, ev, rv, rt⟩ := RepL.of_cons (K := K) (H := H) r
    cases vs with
    | nil => cases ev
    | cons p vs =>
      obtain ⟨g', y⟩ := p
      simp only [List.map_cons, List.cons.injEq] at n ev
      obtain ⟨n1, n2⟩ := n
      obtain ⟨v1, v2⟩ := ev
      subst n1 v1 v2
      rw [List.lookup_cons] at e ⊢
      cases q : (f == g) with
      | true =>
        rw [q] at e
        cases e
        exact ⟨_, rfl, rv⟩
      | false =>
        rw [q] at e
        exact FRep.lookup (fs := fs) (vs := vs) ⟨n2, rt⟩ e
section
variable {X : Cx} {G : Gx} {i : Nat} {ks : List Str} {n f : Str} {p pos : Pos} {e : Expr} {es : List Expr}
theorem xv_fld (gk : G.K = X.K) (T : ∀ c ∈ ks, XfC X.K (He.ga X.K c) ∧ PySem.W.findIn X.K (.ref (He.ga X.K c)) f = some none) (hi : X.N[i]? = some n) (hv : Vis X.env.scope n) (hd : (n == ("__debug__" : Str)) = false := by decide) (hcd : (n == ("__classdict__" : Str)) = false := by decide)
    (hb : attributeBase (.Name n p) f X.env (eval (.Name n p) X.env) = eval (.Name n p) X.env := by rfl) : XV X G i ks (.Attribute (.Name n p) f pos) (xFld f) := by
  refine ⟨fun x K K' k ⟨w, e, q⟩ => ⟨w, e, k _ q⟩, fun a oe cls d pn hz hf => ⟨fun pins s σ H Q I ⟨x, env, h, S, hk, w, el, q⟩ => ?_⟩⟩
  obtain ⟨t1, t2⟩ := T x.n hk
  obtain ⟨ec, dd, vs, ed, ea, fr⟩ := S.rep
  obtain ⟨v, lv, rv⟩ := FRep.lookup fr el
  refine (pe_xf (C := He.ga X.K x.n) (n := f) t1 t2 hz hf (pe_var (X := X.suite a ((a, oe) :: pn)) (i := i) hi hv hd hcd) hb).run pins s σ H Q I ?_
  exact ⟨.ref a, S.at_, rfl, by rw [ec, gk], dd, vs, v, ed, ea, lv, q v H (New.refl H) rv⟩
theorem xv_str {x : Str} {j : Nat} : XV X G i ks (.Constant (.str x) j pos) (xCon (.str x)) :=
  ⟨fun x K K' k q => k _ q, fun a oe cls d pn hz hf => PE.imp pe_str fun σ H Q ⟨x, env, h, S, _, q⟩ => q _ H (New.refl H) .str⟩
theorem xvs_nil : XVs X G i ks [] xNil := ⟨fun x K K' k q => k _ q, fun a oe cls d pn hz hf => PA.imp pa_nil fun σ H Q ⟨x, env, h, S, _, q⟩ => q [] H (New.refl H) .nil⟩
theorem xvs_cons {t : XT} {u : XTs} (a : XV X G i ks e t) (b : XVs X G i ks es u) (hs : starEach (e :: es) X.env = (false, eval e X.env) :: starEach es X.env := by rfl) : XVs X G i ks (e :: es) (xCons t u) := by
  refine ⟨fun x K K' k q => a.mono x _ _ (fun w z => b.mono x _ _ (fun ws y => k _ y) z) q, fun ad oe cls d pn hz hf => PA.imp (pa_cons (a.pe ad oe cls d pn hz hf) (b.pa ad oe cls d pn hz hf) hs) fun σ H Q ⟨x, env, h, S, hk, q⟩ => ?_⟩
  refine ⟨x, env, h, S, hk, a.mono x _ _ (fun w z v H1 n1 r1 => ?_) q⟩
  refine ⟨x, env, h, ⟨n1.bs S.bs, S.at_, S.rep.new n1⟩, hk, b.mono x _ _ (fun ws y vs H2 n2 r2 => ?_) z⟩
  exact y (v :: vs) H2 (fun p o e => n2 p o (n1 p o e)) (.cons (Rep.mono n2.keeps _ _ r1) r2)
theorem xv_tup {t : XTs} {x1 : Nat} (a : XVs X G i ks es t) : XV X G i ks (.Tuple es x1 pos) (xTup t) := by
  refine ⟨fun x K K' k q => a.mono x _ _ (fun ws z => ⟨z.1, k _ z.2⟩) q, fun ad oe cls d pn hz hf => PE.imp (pe_tup (a.pa ad oe cls d pn hz hf)) fun σ H Q ⟨x, env, h, S, hk, q⟩ => ?_⟩
  refine ⟨x, env, h, S, hk, a.mono x _ _ (fun ws ⟨l, z⟩ vs H1 n1 r1 => ⟨by rw [← r1.length]; exact l, fun p np => ?_⟩) q⟩
  have nw : New H1 (upd H1 p (.tup vs)) := New.upd np
  exact z (.ref p) _ (fun b o e => nw b o (n1 b o e)) (.tup (.inl upd_same) (RepL.mono nw.keeps _ _ r1))
end
/-! ### try: .. except C as e: name = value -/
/-- the program's classes of errors, each with those that it comes under -/
def xcTab : List (Str × List Str) :=
  [("BadSizes", ["HideError"]), ("BadCounts", ["HideError"]), ("BadStand", ["HideError"]), ("BadDeed", ["HideError"]), ("BadRow", ["HideError"]), ("BadTimes", ["HideError"]), ("BadName", ["HideError"]), ("BadText", ["HideError"]), ("Taken", ["HideError"]),
   ("InUse", ["HideError"]), ("Tapped", ["HideError"]), ("TooLong", ["HideError"]), ("TooMany", ["HideError"]), ("Unlike", ["HideError"]), ("NoRound", ["Missing"]), ("NoDrop", ["Missing"]), ("NoCask", ["Missing"]), ("NothingLeft", [])]
def subX (n c : Str) : Bool := decide (n = c) || decide (c ∈ (xcTab.lookup n).getD [])
abbrev HdL := List (Str × Nat × Nat × XT)
def aHands (ks : List Str) : HdL → (AExc → AEnv → AH → Prop) → AEnds → AExc → AEnv → AH → Prop
  | [], E, _ => E
  | (c, i, j, sv) :: r, E, D => fun x env h => x.n ∈ ks ∧ i < env.length ∧ if subX x.n c = true then sv x (fun w => D.nx ((env.set j (some (.val w))).set i none) h) else aHands ks r E D x env h
def noOwn (env : AEnv) : Bool := env.all fun o => match o with
  | some (.own _) => false
  | _ => true
def aTry (ks : List Str) (hs : HdL) (E : AExc → AEnv → AH → Prop) (t : (AExc → AEnv → AH → Prop) → ATS) : ATS := fun D env h => noOwn env = true ∧ ∃ Ein, (∀ x e k, Ein x e k → aHands ks hs E D x e k) ∧ t Ein D env h
theorem noOwn_ok {env : AEnv} (h : noOwn env = true) {i : Nat} {c : Cont} (e : env[i]? = some (some (.own c))) : False := by
  have z := List.all_eq_true.mp h _ (List.mem_of_getElem? e)
  cases z
theorem BS.unset {G : Gx} {env : AEnv} {h : AH} {σ : L2.St} {H : Hp} (S : BS G env h σ H) (i : Nat) : BS G (env.set i none) h (σ.set i none) H := by
  have at_ : ∀ {j : Nat} {sv : SV}, (env.set i none)[j]? = some (some sv) → j ≠ i ∧ env[j]? = some (some sv) := fun {j sv} e => by
    by_cases z : i = j
    · subst z
      by_cases l : i < env.length
      · rw [List.getElem?_set_self l] at e; cases e
      · rw [List.getElem?_eq_none (by rw [List.length_set]; omega)] at e; cases e
    · rw [List.getElem?_set_ne z] at e
      exact ⟨Ne.symm z, e⟩
  have out : ∀ {j : Nat}, j ≠ i → (σ.set i none)[j]? = σ[j]? := fun {j} z => List.getElem?_set_ne (Ne.symm z)
  refine ⟨by rw [List.length_set, List.length_set]; exact S.len, fun j w e => ?_, fun j c e => ?_, fun j k c c' p e1 e2 f1 f2 => ?_, S.hp, S.fr, S.ext, S.tr, S.tabs⟩
  · obtain ⟨n, e⟩ := at_ e
    rw [out n]; exact S.val j w e
  · obtain ⟨n, e⟩ := at_ e
    rw [out n]; exact S.own j c e
  · obtain ⟨n1, e1⟩ := at_ e1
    obtain ⟨n2, e2⟩ := at_ e2
    rw [out n1] at f1
    rw [out n2] at f2
    exact S.uni j k c c' p e1 e2 f1 f2
/-- the ghost is put at the very state -/
theorem BS.into {G : Gx} {env : AEnv} {h : AH} {σ : L2.St} {H : Hp} (S : BS G env h σ H) (no : noOwn env = true) : BS ⟨G.K, h, H⟩ env h σ H :=
  ⟨S.len, S.val, fun i c e => (noOwn_ok no e).elim, fun i j c c' p e => (noOwn_ok no e).elim, S.hp, fun p o e _ _ => e, fun a o e n => (by have n : h a = none := n; rw [n] at e; cases e), fun p o e => ⟨o, e⟩, S.tabs⟩
/-- .. and back -/
theorem BS.outof {G : Gx} {env env' : AEnv} {h h' : AH} {σ σ' : L2.St} {H H' : Hp} (S : BS G env h σ H) (T : BS ⟨G.K, h, H⟩ env' h' σ' H') : BS G env' h' σ' H' := by
  have up : ∀ {p : Addr}, H p = none → G.H0 p = none := fun {p} n => by
    cases q : G.H0 p with
    | none => rfl
    | some o => obtain ⟨u, e⟩ := S.tr p o q; rw [n] at e; cases e
  refine ⟨T.len, T.val, fun i c e => ?_, T.uni, T.hp, fun p o e n y => ?_, fun a o e n => ?_, fun p o e => ?_, T.tabs⟩
  · obtain ⟨p, a, b, x, y⟩ := T.own i c e
    exact ⟨p, a, b, x, up y⟩
  · have hn : h p = none := by
      cases q : h p with
      | none => rfl
      | some u => have z := S.ext p u q n; rw [z] at e; cases e
    exact T.fr p o (S.fr p o e n y) hn y
  · cases q : h a with
    | some u => exact S.ext a u q n
    | none => exact up (T.ext a o e q)
  · obtain ⟨u, q⟩ := S.tr p o e
    exact T.tr p u q
theorem BS.keeps {K : PySem.W.Frag} {G : Gx} {env env' : AEnv} {h h' : AH} {σ σ' : L2.St} {H H' : Hp} (S : BS G env h σ H) (T : BS ⟨K, h, H⟩ env' h' σ' H') : Keeps H H' := fun p o e i => T.fr p o e (S.imm e i).1 i.nt
inductive HdA (X : Cx) (ks : List Str) : List ExceptHandler → HdL → Prop where
  | nil : HdA X ks [] []
  | cons {c n y : Str} {i j : Nat} {e : Expr} {np py pos pos' : Pos} {sv : XT} {hds : List ExceptHandler} {l : HdL} (hi : X.N[i]? = some n) (hln : X.env.kindOf n = some .local) (hg : Gl X c) (hm : X.mg c = some (.ref (He.ga X.K c)))
      (ex : ∀ k ∈ ks, PySem.W.exmOne X.K (.ref (He.ga X.K k)) (.ref (He.ga X.K c)) = some (subX k c)) (hj : X.N[j]? = some y) (hy : Loc X.env.scope y) (fy : X.fn y = true ∨ X.env.scope.names.lookup y = some .local) (ne : i ≠ j)
      (hv : ∀ G : Gx, G.K = X.K → XV X G i ks e sv) (hs : swapsWithSole [.Name y py] e pos.line X.env = pure false) (hw : swappedStores [.Name y py] e X.env = pure none) (h1 : (assignEach [.Name y py] X.env).map (·.2) = [assign (.Name y py) X.env])
      (hdb : (c == ("__debug__" : Str)) = false) (t : HdA X ks hds l) : HdA X ks (.ExceptHandler (some (.Name c np)) (some n) [.Assign [.Name y py] e pos] pos' :: hds) ((c, i, j, sv) :: l)
/-- the suites -/
def uTs (K : PySem.W.Frag) (ks : List Str) (i j : Nat) (sv : XT) : SuiteT := fun a cls d D σ H => ∃ G x env h, G.K = K ∧ XS G i a cls d x env h σ H ∧ x.n ∈ ks ∧ sv x fun w => ∀ v H', New H H' → Rep G.K H' w v → D.nx (σ.set j (some v)) H'
def lowL (K : PySem.W.Frag) (ks : List Str) : HdL → List (Value × Nat × SuiteT)
  | [] => []
  | (c, i, j, sv) :: r => (.ref (He.ga K c), i, uTs K ks i j sv) :: lowL K ks r
theorem HdA.low {X : Cx} {ks : List Str} (nd : X.N.Nodup) {hds : List ExceptHandler} {l : HdL} (hh : HdA X ks hds l) : HdsAs X hds (lowL X.K ks l) := by
  induction hh with
  | nil => exact .nil
  | cons hi hln hg hm ex hj hy fy ne hv hs hw h1 hdb t ih =>
    refine .cons hi hln ⟨hg, hdb, .inl hm⟩ (fun a oe cls d pn hz hf => ?_) ih
    have pe : PE (X.suite a ((a, oe) :: pn)) _ (fun σ H Q => ∃ G x env h, G.K = X.K ∧ XS G _ a cls d x env h σ H ∧ x.n ∈ ks ∧ _) := ⟨fun pins s σ H Q I ⟨G, x, env, h, gk, r⟩ => ((hv G gk).pe a oe cls d pn hz hf).run pins s σ H Q I ⟨x, env, h, r⟩⟩
    refine pss_one (PS.imp (ps_asg pe (pg_name (X := X.suite a ((a, oe) :: pn)) nd hj hy fy) hs hw h1) fun D σ H ⟨G, x, env, h, gk, S, hk, q⟩ => ?_)
    exact ⟨G, x, env, h, gk, S, hk, (hv G gk).mono x _ _ (fun w z v H1 n1 r1 => z v H1 n1 r1) q⟩
section
variable {X : Cx} {G : Gx} {ks : List Str} {hs : HdL} {body : List Stmt} {h₀ : ExceptHandler} {hds : List ExceptHandler} {t : (AExc → AEnv → AH → Prop) → ATS} {E : AExc → AEnv → AH → Prop} {pos : Pos}
theorem hands_mono {D D' : AEnds} : ∀ {hds : List ExceptHandler} {hs : HdL}, HdA X ks hds hs → (∀ e k, D.nx e k → D'.nx e k) → ∀ x e k, aHands ks hs E D x e k → aHands ks hs E D' x e k := by
  intro hds hs hh l
  induction hh with
  | nil => exact fun x e k z => z
  | cons hi hln hg hm ex hj hy fy ne hv hs' hw h1 hdb t ih =>
    rename_i c n y i j e' np py pos pos' sv hds l'
    intro x e k ⟨z1, z2, z3⟩
    refine ⟨z1, z2, ?_⟩
    by_cases b : subX x.n c = true
    · rw [if_pos b] at z3 ⊢
      exact (hv ⟨X.K, (fun _ => none), (fun _ => none)⟩ rfl).mono x _ _ (fun w z => l _ _ z) z3
    · rw [if_neg b] at z3 ⊢
      exact ih x e k z3
theorem hands_low (gk : G.K = X.K) {G' : Gx} {Da : AEnds} {D : Ends} {env0 : AEnv} {h0 : AH} {σ0 : L2.St} {H0 : Hp} (S0 : BS G env0 h0 σ0 H0) (eg : G' = ⟨G.K, h0, H0⟩) (l : Link G H0 Da D) :
    ∀ {hds : List ExceptHandler} {hs : HdL}, HdA X ks hds hs → ∀ (x : AExc) (env : AEnv) (h : AH) (σ : L2.St) (H : Hp) (cls : Value) (d : Option Addr), BS G' env h σ H → XRep G'.K H x cls d → aHands ks hs E Da x env h → wAsL X.K (cW G E) D (lowL X.K ks hs) cls d σ H := by
  subst eg
  intro hds hs hh
  induction hh with
  | nil => intro x env h σ H cls d S r z; exact ⟨x, env, h, S0.outof S, r, z⟩
  | cons hi hln hg hm ex hj hy fy ne hv hs' hw h1 hdb t ih =>
    rename_i c n y i j e np py pos pos' sv hds l'
    intro x env h σ H cls d S r z
    obtain ⟨hk, ie, z⟩ := z
    have ec : cls = .ref (He.ga X.K x.n) := by rw [r.1, ← gk]
    refine ⟨subX x.n c, by rw [ec]; exact ex _ hk, fun b a na => ?_, fun b => ?_⟩
    · rw [if_pos b] at z
      have nAt : BS ⟨G.K, h0, H0⟩ (env.set i (some (.val (.ref a)))) h (σ.set i (some (.ref a))) H := S.set (r := .val (.ref a)) i (show Rep G.K H (.ref a) (.ref a) from .ref) trivial
      have il : i < σ.length := by rw [← S.len]; exact ie
      refine ⟨⟨G.K, h0, H0⟩, x, _, h, gk, ⟨nAt, List.getElem?_set_self il, r⟩, hk, (hv ⟨G.K, h0, H0⟩ gk).mono x _ _ (fun w z v H1 n1 r1 => ?_) z⟩
      have S1 : BS ⟨G.K, h0, H0⟩ env h σ H1 := n1.bs S
      have S2 : BS ⟨G.K, h0, H0⟩ (env.set j (some (.val w))) h (σ.set j (some v)) H1 := S1.set (r := .val w) j r1 trivial
      have S3 := S2.unset i
      have e2 : ((σ.set i (some (V.ref a))).set j (some v)).set i none = (σ.set j (some v)).set i none := by
        rw [List.set_comm _ _ ne, List.set_set]
      show D.nx (((σ.set i (some (V.ref a))).set j (some v)).set i none) H1
      rw [e2]
      exact l.nx _ _ _ _ (S0.outof S3) (S0.keeps S3) z
    · rw [if_neg (by rw [b]; exact Bool.false_ne_true)] at z
      exact ih x env h σ H cls d S r z
/-- the later ghost knows what the first one knew -/
def GLe (G G' : Gx) : Prop := ∀ H : Hp, (∀ p o, G'.H0 p = some o → G'.h0 p = none → NT o → H p = some o) → ∀ p o, G.H0 p = some o → G.h0 p = none → NT o → H p = some o
theorem GLe.refl {G : Gx} : GLe G G := fun _ h => h
theorem BS.gle {env : AEnv} {h : AH} {σ : L2.St} {H : Hp} (S : BS G env h σ H) : GLe G ⟨G.K, h, H⟩ := fun H1 k p o e n y => by
  have hn : h p = none := by
    cases q : h p with
    | none => rfl
    | some u => have z := S.ext p u q n; rw [z] at e; cases e
  exact k p o (S.fr p o e n y) hn y
theorem _root_.Ab.LamHas.to {Z : Cx} {G' : Gx} {f : Addr} {n : Nat} {sp : ASp} (L : LamHas Z G f n sp) (g : GLe G G') (pn : List (Addr × Obj)) (xe : Value → Shared → Prop) : LamHas (Z.tr pn xe) G' f n sp :=
  ⟨L.m, fun s H k => L.fn s H (g H k), fun s H us vs Q E k => L.run s H us vs Q E (g H k)⟩
theorem as_try (gk : G.K = X.K) (stk : X.stack = X.env :: X.outer) (fr : X.env.frame = some X.env.locals) (nd : X.N.Nodup) (tk : Takes X (cW G E))
    (hb : ∀ (pn : List (Addr × Obj)) (xe : Value → Shared → Prop) (G' : Gx) (E' : AExc → AEnv → AH → Prop), G'.K = X.K → GLe G G' → Takes (X.tr pn xe) (cW G' E') → ASs (X.tr pn xe) G' body (t E')) (hh : HdA X ks (h₀ :: hds) hs) :
    AS X G (.Try body (h₀ :: hds) [] [] pos) (aTry ks hs E t) := by
  refine ⟨fun D D' env h l ⟨no, Ein, k, q⟩ => ⟨no, Ein, fun x e g z => hands_mono hh l.nx x e g (k x e g z), (hb [] (fun _ _ => True) G Ein gk .refl fun _ _ _ => trivial).mono _ _ _ _ l q⟩, PS.imp (try_asL
    (tb := fun W D σ H => ∃ (env : AEnv) (h : AH) (Da : AEnds) (G' : Gx) (Ein : AExc → AEnv → AH → Prop), G'.K = X.K ∧ GLe G G' ∧ BS G' env h σ H ∧ t Ein Da env h ∧ Link G' H Da D ∧ ∀ cls d σ' H', cW G' Ein cls d σ' H' → W cls d σ' H')
    stk fr nd tk (fun W pn xe tkW => ⟨fun pins s σ H D I ⟨env, h, Da, G', Ein, gk', gl, S, q, l, imp⟩ => (hb pn xe G' Ein gk' gl (Takes.imp tkW imp)).ps.run pins s σ H D I ⟨env, h, Da, S, q, l⟩⟩)
    (HdA.low nd hh)) fun D σ H ⟨env, h, Da, S, ⟨no, Ein, k, q⟩, l⟩ => ?_⟩
  have up : ∀ {p : Addr}, H p = none → G.H0 p = none := fun {p} n => by
    cases q : G.H0 p with
    | none => rfl
    | some o => obtain ⟨u, e⟩ := S.tr p o q; rw [n] at e; cases e
  refine ⟨env, h, Da, ⟨G.K, h, H⟩, Ein, gk, S.gle, S.into no, q, ⟨fun e g σ' H' T y z => l.nx e g σ' H' (S.outof T) y z, fun r e g σ' H' v T y rr z => l.rt r e g σ' H' v (S.outof T) y ?_ z, fun e g σ' H' T y z => l.bk e g σ' H' (S.outof T) y z, fun e g σ' H' T y z => l.ct e g σ' H' (S.outof T) y z⟩,
    fun cls d σ' H' ⟨x, env1, h1, S1, xr, z⟩ => hands_low gk S rfl l hh x env1 h1 σ' H' cls d S1 xr (k x env1 h1 z)⟩
  cases r with
  | val w => exact rr
  | own c => obtain ⟨p, e1, cr, n, n0, no2⟩ := rr; exact ⟨p, e1, cr, n, up n0, no2⟩
  | slot i => exact rr
end
end Ab

/-! Ab38: the least of a list of whole numbers, or None. -/
namespace Ab
open PySem PySem.Spec PyProof.Rows L2
section
variable {prog : Program} {w : World} {A : Around} {R : Result → Shared → Prop} {I : Addr} {fp wr : List Addr} {n : Nat} {P : Nat → Value → Prop} {St : Nat → Heap → Prop}
end
section
variable {prog : Program} {w : World} {A : Around} {E : Value → Shared → Prop} {s : Shared} {l : Addr} {xs : Array (Int × Tok)}
end
section
variable {X : Cx} {G : Gx} {e : Expr} {p pos kpos cp : Pos} {j : Nat} {t : ART}
end
end Ab

/-! Ab39: while. -/
namespace Ab
open PySem PySem.Spec PyProof.Rows L2
section
variable {X : Cx} {G : Gx} {c : Expr} {body : List Stmt} {pos : Pos} {tc : ABT} {tb : ATS}
end
end Ab

/-! Ab40: a local dict whose keys are tuples of whole numbers. -/
namespace Ab
open PySem PySem.Spec PyProof.Rows L2 RZ
/-- a dict keyed so, a mark ahead of its entries -/
def tmap (l : List (List Int × W)) : List (W × W) := (W.lst [], W.non) :: l.map fun p => (W.tup (p.1.map .int), p.2)
def tlook (l : List (List Int × W)) (ns : List Int) : Option W := (l.find? fun p => decide (p.1 = ns)).map (·.2)
section
variable {X : Cx} {G : Gx}
/-- t in d, t not in d: d a name's own dict -/
def aInT (neg : Bool) (i : Nat) (tk : AVT) : AT := fun env h Q => tk env h fun w env1 h1 => ∃ (l : List (List Int × W)) (ns : List Int), env1[i]? = some (some (.own (.map (tmap l)))) ∧ w = .tup (ns.map .int) ∧
  Q (.val (.bl (if neg = true then !(tlook l ns).isSome else (tlook l ns).isSome))) env1 h1
theorem aInT.mono {neg : Bool} {i : Nat} {tk : AVT} (m : Mono tk) : Mono (aInT neg i tk) := fun env h Q Q' k q => m env h _ _ (fun w e g ⟨l, ns, z1, z2, z3⟩ => ⟨l, ns, z1, z2, k _ _ _ z3⟩) q
/-- d[t], there -/
def aGetT (i : Nat) (tk : AVT) : AT := fun env h Q => (∃ kvs, env[i]? = some (some (.own (.map kvs)))) ∧ tk env h fun w env1 h1 => ∃ (l : List (List Int × W)) (ns : List Int) (v : W), env1[i]? = some (some (.own (.map (tmap l)))) ∧ w = .tup (ns.map .int) ∧
  tlook l ns = some v ∧ Q (.val v) env1 h1
theorem aGetT.mono {i : Nat} {tk : AVT} (m : Mono tk) : Mono (aGetT i tk) := fun env h Q Q' k q => ⟨q.1, m env h _ _ (fun w e g ⟨l, ns, v, z1, z2, z3, z4⟩ => ⟨l, ns, v, z1, z2, z3, k _ _ _ z4⟩) q.2⟩
/-- d.get(t, v) -/
def aGetDT (i : Nat) (tk td : AVT) : AT := fun env h Q => (∃ kvs, env[i]? = some (some (.own (.map kvs)))) ∧ tk env h fun w env1 h1 => td env1 h1 fun d env2 h2 =>
  ∃ (l : List (List Int × W)) (ns : List Int), env2[i]? = some (some (.own (.map (tmap l)))) ∧ w = .tup (ns.map .int) ∧ Q (.val ((tlook l ns).getD d)) env2 h2
theorem aGetDT.mono {i : Nat} {tk td : AVT} (m : Mono tk) (n : Mono td) : Mono (aGetDT i tk td) := fun env h Q Q' k q =>
  ⟨q.1, m env h _ _ (fun w e g z => n e g _ _ (fun d e g ⟨l, ns, z1, z2, z3⟩ => ⟨l, ns, z1, z2, k _ _ _ z3⟩) z) q.2⟩
end
end Ab

/-! Ab41: {t: v}, t a tuple of whole numbers. -/
namespace Ab
open PySem PySem.Spec PyProof.Rows L2 RZ
section
variable {X : Cx} {G : Gx} {k v : Expr} {pos : Pos} {tk tv : TE}
end
section
variable {X : Cx} {G : Gx} {k v : Expr} {pos : Pos}
/-- {t: v} -/
def aDispT (tk tv : AVT) : AT := fun env h Q => tk env h fun w env1 h1 => tv env1 h1 fun y env2 h2 => ∃ ns : List Int, w = .tup (ns.map .int) ∧ Q (.own (.map (tmap [(ns, y)]))) env2 h2
theorem aDispT.mono {tk tv : AVT} (m : Mono tk) (n : Mono tv) : Mono (aDispT tk tv) := fun env h Q Q' k q => m env h _ _ (fun w e g z => n e g _ _ (fun y e g ⟨ns, z1, z2⟩ => ⟨ns, z1, k _ _ _ z2⟩) z) q
end
end Ab

/-! Ab42: ** of a greater base. -/
namespace Ab
open PySem PySem.Spec PyProof.Rows L2 RZ
def CPowW (i j : Int) : Prop := 0 ≤ j ∧ (PySem.Builtin.Int.intBits i : Int) * j ≤ 2 ^ 27
section
variable {X : Cx} {G : Gx} {a b : Expr} {ta tb : AT} {pos : Pos}
end
end Ab

/-! Ab43: xs.index(x) of whole numbers. -/
namespace Ab
open PySem PySem.Spec PyProof.Rows L2 RZ
def oIndexW (a : Vw) (ws : List W) (Q : RV → Prop) : Prop := match ws with
  | [.int x] => ∃ ns : List Int, a.seq = some (ns.map W.int) ∧ x ∈ ns ∧ Q (.val (.int (ns.idxOf x)))
  | _ => False
def aIdx (to : AT) (t : AAT) : AT := fun env h Q => to env h fun ro env1 h1 => (∃ ns : List Int, (view env1 h1 ro).seq = some (ns.map W.int)) ∧ t env1 h1 fun ws env2 h2 => oIndexW (view env2 h2 ro) ws fun r => Q r env2 h2
theorem oIndexW.mono {a : Vw} {ws : List W} {Q Q' : RV → Prop} (k : ∀ r, Q r → Q' r) (q : oIndexW a ws Q) : oIndexW a ws Q' := by
  unfold oIndexW at q ⊢
  split at q
  · obtain ⟨ns, e, m, q⟩ := q
    exact ⟨ns, e, m, k _ q⟩
  · exact q.elim
theorem aIdx.mono {to : AT} {t : AAT} (a : Mono to) (b : Mono t) : Mono (aIdx to t) := fun env h Q Q' k q =>
  a env h _ _ (fun ro e g z => ⟨z.1, b e g _ _ (fun ws e2 g2 z => z.mono fun r q => k _ _ _ q) z.2⟩) q
section
variable {X : Cx} {G : Gx} {o e : Expr} {es : List Expr} {to : AT} {t : AAT} {apos cpos : Pos}
end
end Ab

/-! Ab44: calls with values by place and by name, names with defaults. -/
namespace Ab
open PySem PySem.Spec PyProof.Rows L2 RZ
/-- a def with defaults behind a star -/
structure OkD (P : Program) (w : World) (K : PySem.W.Frag) (mg : Str → Option Value) (base : Heap) (x : Str) (st : Stmt) (k n : Nat) (ps : List Str) (kws : List (Str × V)) (sp : ASp) : Prop where
  m : SpMono sp
  ex : ∃ f fd, mg x = some (.ref f) ∧ FunD K x x (defArgs st) (defBody st) (defScope st) [] kws f fd ∧ FnOk P w K mg base (L2.CX P w) k f fd ps (cSp K n sp)
theorem OkD.mk' {P : Program} {w : World} {K : PySem.W.Frag} {mg : Str → Option Value} {base : Heap} {x : Str} {st : Stmt} {f : Addr} {fd : FuncData} {N ps : List Str} {k n : Nat} {kws : List (Str × V)} {sp : ASp} {t : (AExc → AEnv → AH → Prop) → ATS} (sm : SpMono sp) (hm : mg x = some (.ref f)) (F : FunD K x x (defArgs st) (defBody st) (defScope st) [] kws f fd) (S : FnScope N ps (defScope st)) (hn : ps.length = n)
    (hb : ∀ (cdv : Value) (A : Around) (outer : List Env) (s : Shared) (H : Hp) (E : XK) (G : Gx) (E' : AExc → AEnv → AH → Prop), Room k (A.deeper (envOfC x (defScope st) s.heap.objs.size f cdv)) → G.K = K → Takes (bx P w K mg base N x (defScope st) f cdv A outer s H E) (cW G E') →
      ASs (bx P w K mg base N x (defScope st) f cdv A outer s H E) G (defBody st) (t E'))
    (hq : ∀ ws h Qa Ea, ws.length = n → sp ws h Qa Ea → t (excOf Ea) (endsOf Qa) (startA N.length ws) h) : OkD P w K mg base x st (k + 1) n ps kws sp :=
  ⟨sm, f, fd, hm, F, def_ok [] kws F S hn hb hq⟩
section
variable {X : Cx} {G : Gx} {sp : ASp} {st : Stmt} {k j n0 : Nat} {ps ks : List Str} {kws0 ms : List (Str × V)} {ds : List W} {x : Str} {p pos : Pos} {e : Expr} {es : List Expr} {kws : List Keyword} {t tk : AAT} {E : AExc → AEnv → AH → Prop} {perm : List Nat}
end
/-! ### f() -/
section
variable {X : Cx} {G : Gx} {sp : ASp} {st : Stmt} {k j : Nat} {ps : List Str} {x : Str} {p pos : Pos} {E : AExc → AEnv → AH → Prop}
end
/-! ### is True, is False: the left side a truth value -/
def oIsB (neg : Bool) : Op2 := fun a b Q => ∃ x y : Bool, a = .wv (.bl x) ∧ b = .wv (.bl y) ∧ Q (.val (.bl (if neg then !decide (x = y) else decide (x = y))))
section
variable {X : Cx} {G : Gx} {a b : Expr} {ta tb : AT} {pos : Pos}
end
/-! ### xs[::-1] of a list -/
def aRevL (ta : AT) : AT := fun env h Q => ta env h fun r env1 h1 => ∃ xs, (view env1 h1 r).seq = some xs ∧ Q (.own (.seq xs.reverse)) env1 h1
theorem aRevL.mono {ta : AT} (m : Mono ta) : Mono (aRevL ta) := fun env h Q Q' k q => m env h _ _ (fun r e g ⟨xs, z1, z2⟩ => ⟨xs, z1, k _ _ _ z2⟩) q
section
variable {X : Cx} {G : Gx} {a : Expr} {ta : AT} {k : Nat} {p1 p2 p3 pos : Pos}
end
end Ab

/-! Ab45: sorted(xs, reverse=True); len(set(t)). -/
namespace Ab
open PySem PySem.Spec PyProof.Rows L2 RZ
/-- how many unlike ones, told only as one or more -/
def oLenSet : OpN := fun as Q => match as with
  | [.wv (.tup ws)] => ∃ ns : List Int, ws = ns.map W.int ∧ ns ≠ [] ∧ ns.length ≤ 4000 ∧ ∀ m : Int, (m = 1 ↔ ∀ x ∈ ns, ∀ y ∈ ns, x = y) → Q (.val (.int m))
  | _ => False
theorem oLenSet.mono {as : List Vw} {Q Q' : RV → Prop} (k : ∀ r, Q r → Q' r) (q : oLenSet as Q) : oLenSet as Q' := by
  unfold oLenSet at q ⊢
  split at q
  · obtain ⟨ns, a, b, c, q⟩ := q
    exact ⟨ns, a, b, c, fun m e => k _ (q m e)⟩
  · exact q.elim
section
variable {X : Cx} {G : Gx} {e : Expr} {p p2 q pos kpos cp : Pos} {j : Nat} {t : ART}
/-! ### x, y, z = a, b, c -/
end
end Ab

/-! Ab46: own objects: fields read and stored, objects made, their methods called. -/
namespace Ab
open PySem PySem.Spec PyProof.Rows L2 RZ
/-! ### fields -/
def putW (f : Str) (w : W) : List (Str × W) → List (Str × W)
  | [] => [(f, w)]
  | (g, x) :: r => if g = f then (g, w) :: r else (g, x) :: putW f w r
theorem FRep.put {K : PySem.W.Frag} {H : Hp} {f : Str} {w : W} {v : V} (r : Rep K H w v) : ∀ {fs : List (Str × W)} {vs : List (Str × V)}, FRep K H fs vs → FRep K H (putW f w fs) (putF f v vs)
  | [], [], _ => ⟨rfl, .cons r .nil⟩
  | [], v :: vs, h => by cases h.1
  | p :: fs, [], h => by cases h.1
  | (g, x) :: fs, (g', y) :: vs, ⟨h1, h2⟩ => by
    rw [List.map_cons, List.map_cons] at h1
    injection h1 with e1 e2
    have e1 : g = g' := e1
    subst e1
    obtain ⟨v', r', e3, a, b⟩ := RepL.of_cons (w := x) (ws := fs.map (·.2)) h2
    rw [List.map_cons] at e3
    injection e3 with e3 e4
    subst e3 e4
    unfold putW putF
    by_cases q : g = f
    · rw [if_pos q, if_pos q]
      exact ⟨by rw [List.map_cons, List.map_cons, e2], .cons r b⟩
    · rw [if_neg q, if_neg q]
      obtain ⟨i1, i2⟩ := FRep.put r (fs := fs) (vs := vs) ⟨e2, b⟩
      exact ⟨by rw [List.map_cons, List.map_cons, i1], .cons a i2⟩
theorem FRep.mono {K : PySem.W.Frag} {H H' : Hp} (k : Keeps H H') {fs : List (Str × W)} {vs : List (Str × V)} (h : FRep K H fs vs) : FRep K H' fs vs := ⟨h.1, RepL.mono k _ _ h.2⟩
theorem FRep.length {K : PySem.W.Frag} {H : Hp} {fs : List (Str × W)} {vs : List (Str × V)} (h : FRep K H fs vs) : fs.length = vs.length := by have := congrArg List.length h.1; simpa using this
/-- what the text must say of a class's field -/
structure FldOk (K : PySem.W.Frag) (n f : Str) : Prop where
  cl : Cls K (He.ga K n)
  no : NoAttr K (He.ga K n) f
section
variable {G : Gx} {env : AEnv} {h : AH} {σ : L2.St} {H : Hp}
end
def aFld (n f : Str) (t : AT) : AT := fun env h Q => t env h fun r env1 h1 => ∃ a fs w, r = .val (.ref a) ∧ h1 a = some (.ins n fs) ∧ fs.lookup f = some w ∧ Q (.val w) env1 h1
theorem aFld.mono {n f : Str} {t : AT} (m : Mono t) : Mono (aFld n f t) := fun env h Q Q' k q => m env h _ _ (fun r e g ⟨a, fs, w, z1, z2, z3, z4⟩ => ⟨a, fs, w, z1, z2, z3, k _ _ _ z4⟩) q
section
variable {X : Cx} {G : Gx} {o : Expr} {n f : Str} {to : AT} {pos : Pos}
end
/-! ### methods -/
/-- a def of a class that keeps a promise -/
structure OkM (P : Program) (w : World) (K : PySem.W.Frag) (mg : Str → Option Value) (base : Heap) (C m : Str) (st : Stmt) (k n : Nat) (ps : List Str) (kws : List (Str × V)) (sp : ASp) : Prop where
  sm : SpMono sp
  cl : Cls K (He.ga K C)
  ex : ∃ f fd, Meth K (He.ga K C) m f ∧ FunD K m (C ++ "." ++ m) (defArgs st) (defBody st) (defScope st) [] kws f fd ∧ FnOk P w K mg base (L2.CX P w) k f fd ps (cSp K n sp)
def BindsM (C m : Str) (st : Stmt) (ps : List Str) : Prop := ∀ (kV doc pm : Value) (an : Option Addr) (cdv ct : Value) (us : List Value), us.length = ps.length → bindArgs (PySem.W.fnOf m (C ++ "." ++ m) (defArgs st) (defBody st) (defScope st) .none kV doc pm an cdv ct) ⟨us, []⟩ = pure (ps.zip us)
def kRes (Q : RV → AEnv → AH → Prop) (env : AEnv) : RR → AH → Prop := fun r h2 => match r with
  | .val w => Q (.val w) env h2
  | .own c => Q (.own c) env h2
def aMeth (C m : Str) (E : AExc → AEnv → AH → Prop) (sp : ASp) (to : AT) (t : AAT) : AT := fun env h Q => to env h fun r env1 h1 => ∃ a fs, r = .val (.ref a) ∧ h1 a = some (.ins C fs) ∧ fs.lookup m = none ∧
  t env1 h1 fun ws env2 h2 => sp (.ref a :: ws) h2 (kRes Q env2) fun x h3 => E x env2 h3
theorem kRes.imp {Q Q' : RV → AEnv → AH → Prop} {env : AEnv} (k : ∀ r e h, Q r e h → Q' r e h) (r : RR) (h : AH) (z : kRes Q env r h) : kRes Q' env r h := by
  cases r with
  | val w => exact k _ _ _ z
  | own c => exact k _ _ _ z
theorem aMeth.mono {C m : Str} {E : AExc → AEnv → AH → Prop} {sp : ASp} {to : AT} {t : AAT} (sm : SpMono sp) (a : Mono to) (b : Mono t) : Mono (aMeth C m E sp to t) := fun env h Q Q' k q =>
  a env h _ _ (fun r e g ⟨p, fs, z1, z2, z3, z4⟩ => ⟨p, fs, z1, z2, z3, b e g _ _ (fun ws e2 g2 z => sm _ _ _ _ _ _ (fun r f y => kRes.imp k r f y) (fun x f y => y) z) z4⟩) q
section
variable {X : Cx} {G : Gx} {sp : ASp} {C m : Str} {st : Stmt} {k j n : Nat} {ps : List Str} {o e : Expr} {es : List Expr} {pos apos : Pos} {to : AT} {t : AAT} {E : AExc → AEnv → AH → Prop}
end
/-! ### objects are made -/
/-- what the text must say of a class whose objects are made -/
structure MkC (K : PySem.W.Frag) (mg : Str → Option Value) (n : Str) : Prop where
  gl : mg n = some (.ref (He.ga K n))
  makes : PySem.W.makesIn K (He.ga K n) = true
  kp : PySem.W.keepIn K (.ref (He.ga K n)) = true
def kMk (Q : RV → AEnv → AH → Prop) (env : AEnv) (a : Addr) : RR → AH → Prop := fun r h2 => r = .val .non ∧ Q (.val (.ref a)) env h2
def aMake (C : Str) (E : AExc → AEnv → AH → Prop) (sp : ASp) (t : AAT) : AT := fun env h Q => t env h fun ws env1 h1 => ∀ a, h1 a = none → sp (.ref a :: ws) (updA h1 a (.ins C [])) (kMk Q env1 a) fun x h3 => E x env1 h3
theorem aMake.mono {C : Str} {E : AExc → AEnv → AH → Prop} {sp : ASp} {t : AAT} (sm : SpMono sp) (b : Mono t) : Mono (aMake C E sp t) := fun env h Q Q' k q =>
  b env h _ _ (fun ws e g z a n => sm _ _ _ _ _ _ (fun r f y => ⟨y.1, k _ _ _ y.2⟩) (fun x f y => y) (z a n)) q
section
variable {G : Gx} {env : AEnv} {h : AH} {σ : L2.St} {H : Hp}
/-- a new object without fields -/
theorem BS.made (S : BS G env h σ H) {a dx : Addr} {C : Str} (n : H a = none) (nd : H dx = none) (ne : dx ≠ a) :
    BS G env (updA h a (.ins C [])) σ (upd (upd H dx (.own a)) a (.ins (He.ga G.K C) dx [])) ∧ Xt env h σ H env (updA h a (.ins C [])) (upd (upd H dx (.own a)) a (.ins (He.ga G.K C) dx [])) := by
  have nw : New H (upd (upd H dx (.own a)) a (.ins (He.ga G.K C) dx [])) := fun p o e => by
    have n1 : p ≠ a := fun z => by rw [z, n] at e; cases e
    have n2 : p ≠ dx := fun z => by rw [z, nd] at e; cases e
    rw [upd_ne n1, upd_ne n2]; exact e
  have S1 := nw.bs S
  obtain ⟨ha, h0, no⟩ := S.noAt n
  refine ⟨⟨S1.len, S1.val, fun i c e => ?_, S1.uni, fun b o e => ?_, S1.fr, fun b o e y => ?_, S1.tr, S1.tabs⟩, ⟨fun p o e _ _ _ => nw p o e, fun p o e y => ?_, fun p o e => ⟨o, nw p o e⟩, fun i c e => ⟨c, e⟩⟩⟩
  · obtain ⟨p, x, y, z, w⟩ := S1.own i c e
    have np : p ≠ a := fun q => no ⟨i, c, e, q ▸ x⟩
    exact ⟨p, x, y, by rw [updA_ne np]; exact z, w⟩
  · by_cases hb : b = a
    · subst hb; rw [updA_same] at e; cases e; exact ⟨dx, [], upd_same, rfl, .nil⟩
    · rw [updA_ne hb] at e; exact S1.hp b o e
  · by_cases hb : b = a
    · subst hb; exact h0
    · rw [updA_ne hb] at e; exact S1.ext b o e y
  · by_cases hb : p = a
    · subst hb; exact n
    · rw [updA_ne hb, y] at e; cases e
end
section
variable {X : Cx} {G : Gx} {sp : ASp} {C : Str} {st : Stmt} {k j n : Nat} {ps : List Str} {e : Expr} {es : List Expr} {pos p : Pos} {t : AAT} {E : AExc → AEnv → AH → Prop}
end
/-! ### a method keeps its promise -/
section
variable {P : Program} {w : World} {K : PySem.W.Frag} {mg : Str → Option Value} {base : Heap} {C m : Str} {st : Stmt} {f : Addr} {fd : FuncData} {N ps : List Str} {k n : Nat} {kws : List (Str × V)} {sp : ASp}
theorem OkM.mk' {t : (AExc → AEnv → AH → Prop) → ATS} (sm : SpMono sp) (cl : Cls K (He.ga K C)) (M : Meth K (He.ga K C) m f) (F : FunD K m (C ++ "." ++ m) (defArgs st) (defBody st) (defScope st) [] kws f fd) (S : FnScope N ps (defScope st)) (hn : ps.length = n)
    (hb : ∀ (cdv : Value) (A : Around) (outer : List Env) (s : Shared) (H : Hp) (E : XK) (G : Gx) (E' : AExc → AEnv → AH → Prop), Room k (A.deeper (envOfC (C ++ "." ++ m) (defScope st) s.heap.objs.size f cdv)) → G.K = K → Takes (bx P w K mg base N (C ++ "." ++ m) (defScope st) f cdv A outer s H E) (cW G E') →
      ASs (bx P w K mg base N (C ++ "." ++ m) (defScope st) f cdv A outer s H E) G (defBody st) (t E'))
    (hq : ∀ ws h Qa Ea, ws.length = n → sp ws h Qa Ea → t (excOf Ea) (endsOf Qa) (startA N.length ws) h) : OkM P w K mg base C m st (k + 1) n ps kws sp :=
  ⟨sm, cl, f, fd, M, F, def_ok [] kws F S hn hb hq⟩
end
end Ab

/-! Ab47: dicts keyed by texts, wherever they stand: in, [], stored, del, len, list, {}. -/
namespace Ab
open PySem PySem.Spec PyProof.Rows L2 RZ
def smap (l : List (Str × W)) : List (W × W) := l.map fun p => (W.str p.1, p.2)
def sput (l : List (Str × W)) (s : Str) (w : W) : List (Str × W) := if (l.any fun p => decide (p.1 = s)) = true then l.map (fun p => if p.1 = s then (p.1, w) else p) else l ++ [(s, w)]
def sdrop (l : List (Str × W)) (s : Str) : List (Str × W) := l.filter fun p => decide (p.1 ≠ s)
abbrev smapW (l : List (Str × W)) : W := (Cont.map (smap l)).fz
section
variable {K : PySem.W.Frag} {H : Hp}
theorem smap_keys (l : List (Str × W)) : ((smap l).map (·.1)).map keyF = l.map fun q => some (Sum.inr q.1) := by
  simp only [smap, List.map_map]; rfl
theorem smap_vals (l : List (Str × W)) : (smap l).map (·.2) = l.map (·.2) := by
  simp only [smap, List.map_map]; rfl
theorem map_some_inj {α : Type} : ∀ {a b : List α}, a.map some = b.map some → a = b
  | [], [], _ => rfl
  | [], _ :: _, e => by cases e
  | _ :: _, [], e => by cases e
  | x :: a, y :: b, e => by
    rw [List.map_cons, List.map_cons] at e
    injection e with e1 e2
    rw [Option.some.inj e1, map_some_inj e2]
theorem keys_eq {l : List (Str × W)} {ks : List (Key × V)} (e : ((smap l).map (·.1)).map keyF = ks.map (fun q => some q.1)) : ks.map (·.1) = l.map fun q => Sum.inr q.1 := by
  rw [smap_keys] at e
  have z : (ks.map (·.1)).map some = (l.map fun q => (Sum.inr q.1 : Key)).map some := by
    rw [List.map_map, List.map_map]; exact e.symm
  exact map_some_inj z
theorem not_T {l : List (Str × W)} {ks : List (List Key × V)} (e : ∃ r, (smap l).map (·.1) = .lst [] :: r ∧ r.map keyT = ks.map (fun q => some q.1)) : False := by
  obtain ⟨r, e, _⟩ := e
  cases l with
  | nil => cases e
  | cons p l => cases e
theorem sm_dK {p : Addr} {l : List (Str × W)} (h : CRep K H p (.map (smap l))) : ∃ ks, H p = some (.dK ks) ∧ ks.map (·.1) = l.map (fun q => Sum.inr q.1) ∧ RepL K H (l.map (·.2)) (ks.map (·.2)) := by
  rcases h with ⟨ks, e, a, b⟩ | ⟨ks, e, a, b⟩
  · exact ⟨ks, e, keys_eq a, smap_vals l ▸ b⟩
  · exact (not_T a).elim
theorem VR.smap {v : Vw} {x : V} {l : List (Str × W)} (r : VR K H v x) (e : v.toW = smapW l) : ∃ p ks, x = .ref p ∧ Rd H p (.dK ks) ∧ ks.map (·.1) = l.map (fun q => Sum.inr q.1) ∧ RepL K H (l.map (·.2)) (ks.map (·.2)) := by
  cases v with
  | bad => cases e
  | cv c =>
    cases c with
    | seq ws => cases e
    | map kvs =>
      obtain ⟨p, ex, c⟩ := r
      have e1 : kvs.map (·.1) = (Ab.smap l).map (·.1) := by injection e
      have e2 : kvs.map (·.2) = (Ab.smap l).map (·.2) := by injection e
      rcases c with ⟨ks, a, b, d⟩ | ⟨ks, a, b, d⟩
      · rw [e1] at b; rw [e2, smap_vals] at d
        exact ⟨p, ks, ex, .inl a, keys_eq b, d⟩
      · rw [e1] at b
        exact (not_T b).elim
  | wv w =>
    have e : w = smapW l := e
    subst e
    have z : Rep K H (.dct ((Ab.smap l).map (·.1)) ((Ab.smap l).map (·.2))) x := r
    simp only [Rep] at z
    obtain ⟨p, ex, ⟨o, ks, a, b, d⟩ | ⟨o, ks, a, b, d⟩⟩ := z
    · rw [smap_vals] at d
      exact ⟨p, ks, ex, .inr ⟨o, a⟩, keys_eq b, d⟩
    · exact (not_T b).elim
end
/-! ### readings -/
def inM (neg : Bool) (v : Vw) (w : W) (Q : RV → Prop) : Prop := ∃ l s, v.toW = smapW l ∧ w = .str s ∧ Q (.val (.bl (if neg = true then !(l.lookup s).isSome else (l.lookup s).isSome)))
def aInM (neg : Bool) (tk : AVT) (to : AT) : AT := fun env h Q => tk env h fun w env1 h1 => to env1 h1 fun r env2 h2 => inM neg (view env2 h2 r) w fun x => Q x env2 h2
theorem aInM.mono {neg : Bool} {tk : AVT} {to : AT} (m : Mono tk) (n : Mono to) : Mono (aInM neg tk to) := fun env h Q Q' k q => m env h _ _ (fun w e g z => n e g _ _ (fun r e g ⟨l, s, z1, z2, z3⟩ => ⟨l, s, z1, z2, k _ _ _ z3⟩) z) q
section
variable {X : Cx} {G : Gx} {o k e : Expr} {pos pos' : Pos} {tk tv : AVT} {to : AT}
/-- d[k], there -/
def getM (v : Vw) (w : W) (Q : RV → Prop) : Prop := ∃ l s u, v.toW = smapW l ∧ w = .str s ∧ l.lookup s = some u ∧ Q (.val u)
def aGetM (to : AT) (tk : AVT) : AT := fun env h Q => to env h fun r env1 h1 => tk env1 h1 fun w env2 h2 => getM (view env2 h2 r) w fun x => Q x env2 h2
theorem aGetM.mono {tk : AVT} {to : AT} (n : Mono to) (m : Mono tk) : Mono (aGetM to tk) := fun env h Q Q' k q => n env h _ _ (fun r e g z => m e g _ _ (fun w e g ⟨l, s, u, z1, z2, z3, z4⟩ => ⟨l, s, u, z1, z2, z3, k _ _ _ z4⟩) z) q
end
end Ab

namespace Ab
open PySem PySem.Spec PyProof.Rows L2 RZ
/-! ### promises in short -/
/-- nothing is written: what is handed in, what is told -/
def pureSp (P : List W → RR → Prop) : ASp := fun ws h Q _ => ∃ r, P ws r ∧ Q r h
theorem pureSp.m {P : List W → RR → Prop} : SpMono (pureSp P) := fun _ _ _ _ _ _ k _ ⟨r, p, q⟩ => ⟨r, p, k _ _ q⟩
/-- alike but at p -/
def Bt (p : Addr) (h h' : AH) : Prop := ∀ q, q ≠ p → h' q = h q
theorem Bt.refl {p : Addr} {h : AH} : Bt p h h := fun _ _ => rfl
theorem Bt.trans {p : Addr} {h h1 h2 : AH} (a : Bt p h h1) (b : Bt p h1 h2) : Bt p h h2 := fun q n => (b q n).trans (a q n)
theorem Bt.upd {p : Addr} {h : AH} {o : AO} : Bt p h (updA h p o) := fun q n => by unfold updA; rw [if_neg n]
/-! ### loops -/
section
variable {vs : List Nat} {g : AGT} {tt : ABT} {te : AVT} {env : AEnv} {h : AH} {Q : List W → AEnv → AH → Prop}
/-- pairs in order -/
inductive All2 {α β : Type} (P : α → β → Prop) : List α → List β → Prop where
  | nil : All2 P [] []
  | cons {a : α} {b : β} {as : List α} {bs : List β} : P a b → All2 P as bs → All2 P (a :: as) (b :: bs)
theorem All2.length {α β : Type} {P : α → β → Prop} {as : List α} {bs : List β} (r : All2 P as bs) : as.length = bs.length := by
  induction r with
  | nil => rfl
  | cons _ _ ih => rw [List.length_cons, List.length_cons, ih]
end
section
variable {g : AGT} {tb : ATS} {D : AEnds}
end
end Ab

namespace Ab
open PySem PySem.Spec PyProof.Rows L2 RZ
/-! ### readings, reckoned -/
section
variable {xs ys : List W} {i j : Int} {Q : RV → Prop} {v : Vw} {a b c d e w : W} {n : String}
def ixK (v : Vw) (i : Int) (Q : RV → Prop) : Prop := match v.items.bind fun xs => atI xs i with
  | some w => Q (.val w)
  | none => False
theorem ixK_eq {v : Vw} : (∃ xs w, v.items = some xs ∧ atI xs i = some w ∧ Q (.val w)) = ixK v i Q := by
  unfold ixK
  refine propext ⟨fun ⟨xs, w, e, f, q⟩ => ?_, fun q => ?_⟩
  · rw [e]
    show match atI xs i with
      | some w => Q (.val w)
      | none => False
    rw [f]; exact q
  · split at q
    · rename_i w e
      obtain ⟨xs, e1, e2⟩ := Option.bind_eq_some_iff.mp e
      exact ⟨xs, w, e1, e2, q⟩
    · exact q.elim
theorem y_ix {v b : Vw} : oIx v b Q = (match b with
  | .wv (.int i) => match v with
    | .wv (.str x) => x.length ≤ sizeLine ∧ ∃ c, L2.atI x.cps.toList i = some c ∧ Q (.val (.str ⟨#[c]⟩))
    | v => ixK v i Q
  | _ => False) := by
  cases b with
  | wv w => cases w with
    | int i => cases v with
      | wv u => cases u <;> first | rfl | exact ixK_eq
      | cv c => exact ixK_eq
      | bad => exact ixK_eq
    | _ => rfl
  | _ => rfl
theorem y_len : oLen [v] Q = (match v with
  | .wv (.str x) => x.length ≤ sizeLine ∧ Q (.val (.int x.length))
  | v => match v.items with
    | some xs => Q (.val (.int xs.length))
    | none => False) := by
  cases v with
  | wv w => cases w <;> simp [oLen, Vw.items]
  | cv c => cases c <;> simp [oLen, Vw.items]
  | bad => simp [oLen, Vw.items]
theorem y_tupC : oTupC [v] Q = (match v.items with
    | some xs => Q (.val (.tup xs))
    | none => False) := by
  unfold oTupC
  cases e : v.items <;> simp [e]
theorem y_lstC : oLstC [v] Q = (match v.items with
    | some xs => Q (.own (.seq xs))
    | none => False) := by
  unfold oLstC
  cases e : v.items <;> simp [e]
theorem y_isN {v : Vw} {neg : Bool} : oIsN neg v (.wv .non) Q = (v ≠ .bad ∧ Q (.val (.bl (if neg then !v.isNon else v.isNon)))) := by
  simp only [oIsN, true_and]
/-! isinstance -/
end
theorem mul_ok {i j : Int} (h0 : 0 ≤ i) (h1 : i < 2 ^ 200) (g0 : 0 ≤ j) (g1 : j < 2 ^ 200) : CMulW i j :=
  wide_mul (a := 200) (b := 200) (by omega) (by omega) (by decide) (by decide) (by decide)
theorem cut_to {xs : List W} {k : Nat} : cutW xs none (some (k : Int)) = xs.take k := by
  unfold cutW
  rw [HT.sIx_none, HT.sIx_nat]
  simp only [List.drop_zero, Nat.sub_zero]
  rcases Nat.le_total k xs.length with h | h
  · rw [Nat.min_eq_left h]
  · rw [Nat.min_eq_right h, List.take_of_length_le (Nat.le_refl _), List.take_of_length_le h]
theorem y_isi {v : Vw} {T : String} {Q : RV → Prop} : oIsi [v, .wv (.ty T)] Q = (match v.tyName with
  | some n => match isiB n T with
    | some b => Q (.val (.bl b))
    | none => False
  | none => False) := by
  refine propext ⟨fun q => ?_, fun q => ?_⟩
  · obtain ⟨n, b, e, f, q⟩ : ∃ n b, v.tyName = some n ∧ isiB n T = some b ∧ Q (.val (.bl b)) := q
    simp only [e, f]
    exact q
  · show ∃ n b, v.tyName = some n ∧ isiB n T = some b ∧ Q (.val (.bl b))
    split at q
    · rename_i n e
      split at q
      · rename_i b f
        exact ⟨n, b, e, f, q⟩
      · exact q.elim
    · exact q.elim
mutual
/-- data that is not too long anywhere, nested at most so deep -/
def W.fit : Nat → W → Bool
  | _, .non => true
  | _, .bl _ => true
  | _, .int _ => true
  | _, .str _ => true
  | n + 1, .tup xs => decide (xs.length ≤ 100000) && W.fitL n xs
  | n + 1, .lst xs => decide (xs.length ≤ 100000) && W.fitL n xs
  | _, _ => false
def W.fitL : Nat → List W → Bool
  | _, [] => true
  | n, x :: xs => W.fit n x && W.fitL n xs
end
theorem rngW_len {lo : Int} {n : Nat} : (rngW lo n).length = n := by simp [rngW]
end Ab

namespace Ab
open PySem PySem.Spec PyProof.Rows L2 RZ
theorem at_0 {x : W} {xs : List W} : atI (x :: xs) 0 = some x := atI_nat (j := 0) rfl
theorem at_1 {x y : W} {xs : List W} : atI (x :: y :: xs) 1 = some y := atI_nat (j := 1) rfl
theorem at_2 {x y z : W} {xs : List W} : atI (x :: y :: z :: xs) 2 = some z := atI_nat (j := 2) rfl
end Ab

/-! Mc0: two rules more of the layer: a list or a tuple is walked; a slot's list is frozen ahead of a statement. -/
namespace Ab
open PySem PySem.Spec PyProof.Rows L2 RZ
def iSqV (K : PySem.W.Frag) (tl : TE) : TI := fun σ H R => tl σ H fun x H1 =>
  ∃ a, x = .ref a ∧ (((∃ xs, SqL K H1 a xs) ∧ R (Itl K a) H1) ∨ ((∃ xs, SqT K H1 a xs) ∧ R (Itt K a) H1))
theorem pi_sq {X : Cx} {tg l : Expr} {tl : TE} (hl : PE X l tl) : PI X tg l (iSqV X.K tl) := by
  constructor
  intro pins s σ H R I h
  refine thn (hl.run pins s σ H _ I h) ?_
  rintro v s1 ⟨x, H1, I1, r1, a, rfl, q⟩
  cases r1
  have fp : ∀ b ∈ [s1.heap.objs.size], FpOk X pins H1 b := by
    intro b hb
    obtain rfl : b = s1.heap.objs.size := by simpa using hb
    exact I1.fpOk (Nat.le_refl _) (I1.hok.fresh (Nat.le_refl _))
  rcases q with ⟨⟨xs, hq⟩, q⟩ | ⟨⟨xs, hq⟩, q⟩
  · obtain ⟨its, rv, p, hz⟩ := I1.list hq
    apply wpAny_pyIter_list p.isList
    exact ⟨_, [s1.heap.objs.size], _, _, H1, rfl,
      I1.kept (t' := s1.toks) fun b o e => Heap.get?_push_of_some _ e, turn_list a _, ⟨_, Heap.get?_push_size _ rfl, rfl, rfl⟩, fp, q⟩
  · obtain ⟨its, rv, p, hz⟩ := I1.tuple hq
    apply wpAny_pyIter_tuple (show s1.heap.IsTuple a its.toArray from p)
    exact ⟨_, [s1.heap.objs.size], _, _, H1, rfl,
      I1.kept (t' := s1.toks) fun b o e => Heap.get?_push_of_some _ e, turn_tuple a _, ⟨_, Heap.get?_push_size _ rfl, rfl, rfl⟩, fp, q⟩
/-- a list or a tuple, walked -/
def iSq (t : AVT) : AIT := fun env h Q => t env h fun w env' h' => match w with
  | .lst ws => Q ws env' h'
  | .tup ws => Q ws env' h'
  | _ => False
theorem iSq.mono {t : AVT} (m : Mono t) : Mono (iSq t) := fun env h Q Q' k q => m env h _ _ (fun w e g z => by
  split at z
  · exact k _ _ _ z
  · exact k _ _ _ z
  · exact z) q
section
variable {X : Cx} {G : Gx} {tg e : Expr} {st : Stmt}
theorem ai_sq {t : AVT} (gk : G.K = X.K) (a : AV X G e t) : AI X G tg e (iSq t) := by
  refine ⟨iSq.mono a.mono, PI.imp (pi_sq a.pe) fun σ H R ⟨env, h, S, q⟩ => ?_⟩
  refine ⟨env, h, S, a.mono env h _ _ (fun w env1 h1 z v H1 S1 x1 r1 => ?_) q⟩
  cases w with
  | lst ws =>
    obtain ⟨p, vs, rfl, l, r⟩ := Rep.of_lst r1
    exact ⟨p, rfl, .inl ⟨⟨vs, l.sq⟩, z _ H1 S1 x1 (gk ▸ gives_list l r)⟩⟩
  | tup ws =>
    obtain ⟨p, vs, rfl, l, r⟩ := Rep.of_tup r1
    exact ⟨p, rfl, .inr ⟨⟨vs, gk ▸ l⟩, z _ H1 S1 x1 (gk ▸ gives_tup l r)⟩⟩
  | _ => exact z.elim
/-- a slot's own list is frozen ahead of the statement -/
def aFrz (i : Nat) (t : ATS) : ATS := fun D env h => match env[i]? with
  | some (some (.own c)) => t D (env.set i (some (.val c.fz))) h
  | some (some (.val _)) => t D env h
  | _ => False
theorem aFrz.mono {i : Nat} {t : ATS} (m : MonoS t) : MonoS (aFrz i t) := fun D D' env h l q => by
  unfold aFrz at q ⊢
  split at q
  · exact m _ _ _ _ l q
  · exact m _ _ _ _ l q
  · exact q
end
/-! sum(t) of a tuple of ints -/
theorem sum_rawT {prog : Program} {w : World} {A : Around} {E : Value → Shared → Prop} {s : Shared} {l : Addr} {its : List Value} {ns : List Int} {Q : Value → Shared → Prop} (hh : A.handled = none)
    (hl : s.heap.IsTuple l its.toArray) (hi : IntsAre its ns)
    (hq : ∀ h' tk t', (∀ b o, s.heap.get? b = some o → h'.get? b = some o) → Q (.int ns.sum t') { s with heap := h', toks := tk }) :
    wpAny (model prog w) A (call (.builtin "sum") [.ref l]) Q E s := by
  obtain ⟨xs, e⟩ := hi.allInts.items
  have hn := hi.numsOf
  have hn2 : numsOf (intItems xs).toList = ns := by rw [← e]; exact hn
  rw [nums_intItems] at hn2
  rw [e] at hl
  have lt : l < s.heap.objs.size := by
    obtain ⟨_, e, _⟩ := hl
    exact Heap.lt_size e
  refine call_sum_walkG (wpAny_pyIter_tuple hl ?_)
  refine ⟨_, _, _, _, _, _, numAt xs, rfl, Walks.tuple (A := A.in1) hh s.heap.objs.size l (Nat.ne_of_lt lt) (intItems xs), ⟨⟨_, Heap.get?_push_size _ rfl, rfl, rfl⟩, hl.push _⟩, fun b hb => ?_, fun _ _ => intItems_at, fun h' tk t' hk => ?_⟩
  · show b < (s.heap.push _).objs.size
    rw [Heap.size_push]
    simp only [List.mem_cons, List.not_mem_nil, or_false] at hb
    rcases hb with rfl | rfl
    · exact Nat.lt_succ_self _
    · exact Nat.lt_succ_of_lt lt
  · have k : ∀ b o, s.heap.get? b = some o → h'.get? b = some o := fun b o e => hk b o (fun hm => by
      have : b = s.heap.objs.size := by simpa using hm
      have h2 := Heap.lt_size e
      rw [this] at h2
      exact Nat.lt_irrefl _ h2) (Heap.get?_push_of_some _ e)
    have z := hq h' tk t' k
    rw [preSum_eq, List.take_of_length_le (by simp [intItems]), hn2]
    exact z
section
variable {X : Cx}
def rSumT (K : PySem.W.Frag) : List V → Hp → VK → Prop := fun vs H Q => ∃ (a : Addr) (ns : List Int), vs = [V.ref a] ∧ (SqL K H a (ns.map V.int) ∨ SqT K H a (ns.map V.int)) ∧ Q (.int ns.sum) H
theorem cr_sumT (hc : X.calm = true) : CallR X (.builtin "sum") (rSumT X.K) := by
  intro pins s σ H vs us Q I r h
  obtain ⟨a, ns, rfl, hs | hs, q⟩ := h
  · exact cr_sum hc pins s σ H _ us Q I r ⟨a, ns, rfl, hs, q⟩
  · obtain ⟨its, rv, hl, _⟩ := I.tuple hs
    rw [Vals.ref1 r]
    exact sum_rawT (I.ok.hd hc) (show s.heap.IsTuple a its.toArray from hl) rv.ints fun h' tk t' hk => ⟨.int _, H, I.kept hk, ⟨_, rfl⟩, q⟩
/-- sum of a list or a tuple -/
def oSumA : OpN := fun as Q => match as with
  | [a] => ∃ ns : List Int, a.items = some (ns.map W.int) ∧ Q (.val (.int ns.sum))
  | _ => False
theorem ca_sumA {K : PySem.W.Frag} : CallA K (rSumT K) oSumA :=
  ⟨fun as Q Q' k q => by
    unfold oSumA at q ⊢
    split at q
    · obtain ⟨ns, e, q⟩ := q
      exact ⟨ns, e, k _ q⟩
    · exact q, fun as vs H Q0 Q r q k => by
    unfold oSumA at q
    split at q
    · obtain ⟨ns, e, q⟩ := q
      obtain ⟨v, rfl, r1⟩ := r.one
      obtain ⟨p, us, rfl, hs, rl⟩ := r1.items e
      rw [rl.of_ints] at hs
      exact ⟨p, ns, rfl, hs.imp_left rd_sq, k _ _ (.val q .int)⟩
    · exact q.elim⟩
end
end Ab

/-! Ab48: lists that stand in the heap are walked as they are; comprehensions with two generators. -/
namespace Ab
open PySem PySem.Spec PyProof.Rows L2 RZ
/-! ### what is walked, and what must stand at each turn -/
abbrev AIL := AEnv → AH → ((AH → Prop) → List W → AEnv → AH → Prop) → Prop
def MonoI (t : AIL) : Prop := ∀ env h Q Q', (∀ ok ws e k, Q ok ws e k → Q' ok ws e k) → t env h Q → t env h Q'
def GivesL (G : Gx) (J : It) (H1 : Hp) (ok : AH → Prop) (ws : List W) : Prop := ∀ h H, (∀ a o, h a = some o → ORep G.K H a o) → Keeps H1 H → ok h → ∀ i : Nat, (ws.length ≤ i → J.stop i H) ∧ ∀ w, ws[i]? = some w → J.go i H ∧ ∀ x H', J.yld i H x H' → New H H' ∧ Rep G.K H' w x
def cIL (G : Gx) (t : AIL) : TI := fun σ H R => ∃ env h, BS G env h σ H ∧ t env h fun ok ws env' h' => ∀ J H', BS G env' h' σ H' → Xt env h σ H env' h' H' → GivesL G J H' ok ws → R J H'
structure AI2 (X : Cx) (G : Gx) (tg iter : Expr) (t : AIL) : Prop where
  mono : MonoI t
  pi : PI X tg iter (cIL G t)
def iFix (t : AIT) : AIL := fun env h Q => t env h fun ws e k => Q (fun _ => True) ws e k
theorem AI.two {X : Cx} {G : Gx} {tg e : Expr} {t : AIT} (a : AI X G tg e t) : AI2 X G tg e (iFix t) :=
  ⟨fun env h Q Q' k q => a.mono env h _ _ (fun ws e g z => k _ _ _ _ z) q, PI.imp a.pi fun σ H R ⟨env, h, S, q⟩ => ⟨env, h, S, a.mono env h _ _ (fun ws e g z J H' S1 x1 gv => z J H' S1 x1 fun _ H'' _ kk _ => gv H'' kk) q⟩⟩
/-- a list of the heap, a locked one, a tuple -/
def srcW (h : AH) (r : RV) (Q : (AH → Prop) → List W → Prop) : Prop := match r with
  | .val (.ref a) => ∃ ws, h a = some (.cont (.seq ws)) ∧ Q (fun k => k a = some (.cont (.seq ws))) ws
  | .val (.lst ws) => Q (fun _ => True) ws
  | .val (.tup ws) => Q (fun _ => True) ws
  | _ => False
def iLive (t : AT) : AIL := fun env h Q => t env h fun r env1 h1 => srcW h1 r fun ok ws => Q ok ws env1 h1
def iLvE (t : AT) : AIL := fun env h Q => t env h fun r env1 h1 => srcW h1 r fun ok ws => Q ok (enW ws) env1 h1
theorem srcW.imp {h : AH} {r : RV} {Q Q' : (AH → Prop) → List W → Prop} (k : ∀ ok ws, Q ok ws → Q' ok ws) (z : srcW h r Q) : srcW h r Q' := by
  unfold srcW at z ⊢
  split at z
  · obtain ⟨ws, e, z⟩ := z; exact ⟨ws, e, k _ _ z⟩
  · exact k _ _ z
  · exact k _ _ z
  · exact z
theorem iLive.mono {t : AT} (m : Mono t) : MonoI (iLive t) := fun env h Q Q' k q => m env h _ _ (fun r e g z => srcW.imp (fun ok ws y => k _ _ _ _ y) z) q
theorem iLvE.mono {t : AT} (m : Mono t) : MonoI (iLvE t) := fun env h Q Q' k q => m env h _ _ (fun r e g z => srcW.imp (fun ok ws y => k _ _ _ _ y) z) q
section
variable {X : Cx} {G : Gx} {tg e : Expr}
end
/-! ### for -/
def aLoopL (ok : AH → Prop) (g : AGT) (tb : ATS) (D : AEnds) : List W → AEnv → AH → Prop
  | [] => fun env h => ok h ∧ D.nx env h
  | w :: ws => fun env h => ok h ∧ g w env h fun env1 h1 => tb { D with nx := aLoopL ok g tb D ws, ct := aLoopL ok g tb D ws, bk := D.nx } env1 h1
theorem aLoopL.mono {ok : AH → Prop} {g : AGT} {tb : ATS} (mg : MonoG g) (mt : MonoS tb) {D D' : AEnds} (l : D.Le D') : ∀ (ws : List W) env h, aLoopL ok g tb D ws env h → aLoopL ok g tb D' ws env h
  | [], env, h, q => ⟨q.1, l.nx _ _ q.2⟩
  | w :: ws, env, h, q => ⟨q.1, mg w env h _ _ (fun e k z => mt { D with nx := aLoopL ok g tb D ws, ct := aLoopL ok g tb D ws, bk := D.nx } { D' with nx := aLoopL ok g tb D' ws, ct := aLoopL ok g tb D' ws, bk := D'.nx } e k ⟨aLoopL.mono mg mt l ws, l.rt, l.nx, aLoopL.mono mg mt l ws⟩ z) q.2⟩
section
variable {X : Cx} {G : Gx} {tg iter : Expr} {body : List Stmt} {pos : Pos}
end
/-! ### list comprehensions -/
def lcLoopL (ok : AH → Prop) (vs : List Nat) (g : AGT) (tt : ABT) (te : AVT) (Q : List W → AEnv → AH → Prop) : List W → List W → AEnv → AH → Prop
  | [], acc => fun env h => ok h ∧ Q acc env h
  | w :: ws, acc => fun env h => ok h ∧ g w (wipeA env vs) h fun e1 h1 => tt e1 h1 fun b e2 h2 => if b = true then te e2 h2 fun y e3 h3 => acc.length < sizeLine ∧ lcLoopL ok vs g tt te Q ws (acc ++ [y]) (mend env e3 vs) h3 else lcLoopL ok vs g tt te Q ws acc (mend env e2 vs) h2
theorem lcLoopL.mono {ok : AH → Prop} {vs : List Nat} {g : AGT} {tt : ABT} {te : AVT} (mg : MonoG g) (mt : Mono tt) (me : Mono te) {Q Q' : List W → AEnv → AH → Prop} (k : ∀ a e h, Q a e h → Q' a e h) : ∀ (ws acc : List W) env h, lcLoopL ok vs g tt te Q ws acc env h → lcLoopL ok vs g tt te Q' ws acc env h
  | [], acc, env, h, q => ⟨q.1, k _ _ _ q.2⟩
  | w :: ws, acc, env, h, q => ⟨q.1, mg _ _ _ _ _ (fun e1 h1 z => mt _ _ _ _ (fun b e2 h2 z => by
    cases b with
    | true => rw [if_pos rfl] at z ⊢; exact me _ _ _ _ (fun y e3 h3 z => ⟨z.1, lcLoopL.mono mg mt me k ws _ _ _ z.2⟩) z
    | false => rw [if_neg Bool.false_ne_true] at z ⊢; exact lcLoopL.mono mg mt me k ws _ _ _ z) z) q.2⟩
/-- the heap without what stands at D -/
def del (H : Hp) (D : Addr) : Hp := fun p => if p = D then none else H p
theorem del_same {H : Hp} {D : Addr} : del H D D = none := by unfold del; rw [if_pos rfl]
theorem del_ne {H : Hp} {D p : Addr} (n : p ≠ D) : del H D p = H p := by unfold del; rw [if_neg n]
theorem del_some {H : Hp} {D p : Addr} {o : HO} (e : del H D p = some o) : p ≠ D ∧ H p = some o := by
  have n : p ≠ D := fun z => by rw [z, del_same] at e; cases e
  exact ⟨n, (del_ne n).symm.trans e⟩
theorem Xt.del {env env' : AEnv} {h h' : AH} {σ : L2.St} {H H' : Hp} {D : Addr} (x : Xt env h σ H env' h' H') : Xt env h σ (del H D) env' h' H' :=
  ⟨fun p o e n w t => x.fr p o (del_some e).2 n w t, fun p o e n => by
    by_cases q : p = D
    · rw [q]; exact del_same
    · rw [del_ne q]; exact x.hn p o e n, fun p o e => x.th p o (del_some e).2, x.sl⟩
/-- a step but for D, then a further one but for D -/
theorem Xg.transD {sl : List Nat} {env env1 env2 : AEnv} {h h1 h2 : AH} {σ σ1 : L2.St} {H H1 H2 : Hp} {D : Addr} (a : Xg sl env h σ H env1 h1 σ1 H1) (b : Xt env1 h1 σ1 (Ab.del H1 D) env2 h2 H2) : Xg sl env h σ (Ab.del H D) env2 h2 σ1 H2 := by
  refine ⟨fun p o e n w t => ?_, fun p o e n => ?_, fun p o e => ?_, fun p q => a.ow p (b.own q), fun i c e => ?_, a.bt⟩
  · obtain ⟨ne, e⟩ := del_some e
    have e1 := a.fr p o e n w t
    refine b.fr p o ((del_ne ne).trans e1) ?_ (fun q => w (a.ow p q)) t
    cases q : h1 p with
    | none => rfl
    | some u => rw [a.hn p u q n] at e; cases e
  · by_cases ne : p = D
    · rw [ne]; exact del_same
    · rw [del_ne ne]
      cases q : h1 p with
      | some u => exact a.hn p u q n
      | none =>
        have z := b.hn p o e q
        rw [del_ne ne] at z
        cases q2 : H p with
        | none => rfl
        | some u => obtain ⟨o', e'⟩ := a.th p u q2; rw [z] at e'; cases e'
  · obtain ⟨ne, e⟩ := del_some e
    obtain ⟨o', e'⟩ := a.th p o e
    exact b.th p o' ((del_ne ne).trans e')
  · obtain ⟨c1, z⟩ := b.sl i c e
    exact a.so i c1 z
section
variable {X : Cx} {G : Gx} {elt tg iter : Expr} {ifs : List Expr} {scope : Scope} {own : List (Str × Nat)} {pos : Pos} {ti : AIL} {g : AGT} {tt : ABT} {te : AVT} {sl : List Nat}
/-- back from a block: what was changed but at D -/
theorem blk_end {env e2 e6 : AEnv} {h g2 g6 : AH} {σ σ4 : L2.St} {H H2 H3 H6 : Hp} {D : Addr} {vacc : List V} {vs : List Nat} (hsl : ∀ i ∈ sl, i ∈ vs) (hD : H D = none) (d2 : H2 D = some (.lst vacc)) (S2 : BS G e2 g2 σ H2) (x2 : Xt env h σ H e2 g2 H2) (n2 : g2 D = none) (no2 : ¬ OwnAt e2 σ D) (nw : New H2 H3)
    (bt : But sl (wipe σ vs) σ4) (S6 : BS G e6 g6 σ4 H6) (xx : Xg sl (wipeA e2 vs) g2 (wipe σ vs) (Ab.del H3 D) e6 g6 σ4 H6) (no6 : ¬ OwnAt e6 σ4 D) (n6 : g6 D = none) (t6 : ∃ o, H6 D = some o) :
    Keeps H2 H6 ∧ BS G (mend e2 e6 vs) g6 σ H6 ∧ ¬ OwnAt (mend e2 e6 vs) σ D ∧ ∀ ys, Xt env h σ H (mend e2 e6 vs) g6 (upd H6 D (.lst ys)) := by
  have f6 : ∀ p o, H2 p = some o → p ≠ D → g2 p = none → ¬ OwnAt e2 σ p → NT o → H6 p = some o := fun p o e ne n q t => xx.fr p o ((del_ne ne).trans (nw p o e)) n (fun q' => q q'.wiped) t
  have kk : Keeps H2 H6 := fun p o e i => f6 p o e (fun z => by rw [z, d2] at e; cases e; exact i.elim) (S2.imm e i).1 (S2.imm e i).2 i.nt
  have Sm := BS.mend (sl := sl) S2 S6 kk bt hsl
  have sameOut : ∀ {j : Nat}, j ∉ vs → σ4[j]? = σ[j]? := fun {j} hj => (bt.2 j fun q => hj (hsl j q)).trans (wipe_out' hj)
  have oM : ∀ p, OwnAt (mend e2 e6 vs) σ p → OwnAt e6 σ4 p := fun p ⟨j, c, a, b⟩ => by
    by_cases hj : j ∈ vs
    · obtain ⟨w', e0, _⟩ := mend_in hj a; cases e0
    · rw [mend_out hj] at a
      exact ⟨j, c, a, (sameOut hj).trans b⟩
  refine ⟨kk, Sm, fun q => no6 (oM D q), fun ys => ⟨fun p o e n q t => ?_, fun p o e n => ?_, fun p o e => ?_, fun j c e => ?_⟩⟩
  · have np : p ≠ D := fun z => by rw [z, hD] at e; cases e
    rw [upd_ne np]
    refine f6 p o (x2.fr p o e n q t) np ?_ (fun y => q (x2.own y)) t
    cases y : g2 p with
    | none => rfl
    | some u => rw [x2.hn p u y n] at e; cases e
  · by_cases np : p = D
    · rw [np]; exact hD
    cases y : g2 p with
    | some u => exact x2.hn p u y n
    | none =>
      have y3 := xx.hn p o e y
      rw [del_ne np] at y3
      cases y4 : H p with
      | none => rfl
      | some u =>
        obtain ⟨u', y5⟩ := x2.th p u y4
        rw [nw p u' y5] at y3; cases y3
  · by_cases hp : p = D
    · subst hp; exact ⟨_, upd_same⟩
    · obtain ⟨u, y⟩ := x2.th p o e
      obtain ⟨u', y'⟩ := xx.th p u ((del_ne hp).trans (nw p u y))
      exact ⟨u', by rw [upd_ne hp]; exact y'⟩
  · by_cases hj : j ∈ vs
    · obtain ⟨w', e0, _⟩ := mend_in hj e; cases e0
    · rw [mend_out hj] at e
      obtain ⟨c1, y⟩ := xx.so j _ e
      obtain ⟨y1, _⟩ := wipeA_some y
      exact x2.sl j c1 y1
theorem upd_id {H : Hp} {D : Addr} {o : HO} (e : H D = some o) : upd H D o = H := by
  funext p
  by_cases hp : p = D
  · subst hp; rw [upd_same, e]
  · rw [upd_ne hp]
/-- the loop of a comprehension, from a list that holds something -/
theorem lc_run {R : Hp → Prop} {J : It} {ok : AH → Prop} {ws acc0 : List W} {vacc0 : List V} {env env1 : AEnv} {h h1 : AH} {σ : L2.St} {H Hb H1 : Hp} {D : Addr} {vs : List Nat} (hsl : ∀ i ∈ sl, i ∈ vs) (mg : MonoG g) (mt : Mono tt) (me : Mono te)
    (hD : H D = none) (hd0 : G.H0 D = none) (gv : GivesL G J Hb ok ws) (k0 : Keeps Hb H1) (d1 : H1 D = some (.lst vacc0)) (r1 : RepL G.K H1 acc0 vacc0) (S1 : BS G env1 h1 σ H1) (x1 : Xt env h σ H env1 h1 H1) (n1 : h1 D = none) (no1 : ¬ OwnAt env1 σ D)
    (z : lcLoopL ok vs g tt te (fun acc e h' => ∀ vacc H', BS G e h' σ H' → Xt env h σ H e h' H' → H' D = some (.lst vacc) → RepL G.K H' acc vacc → h' D = none → ¬ OwnAt e σ D → Keeps H1 H' → R H') ws acc0 env1 h1) :
    ∃ W : Nat → Nat → Hp → Prop, (∃ m, W 0 m H1) ∧ ∀ i m H2, W i m H2 → (J.stop i H2 ∧ R H2) ∨ (J.go i H2 ∧ ∃ Nx : Hp → Prop, (∀ H', Nx H' → ∃ m', m' < m ∧ W (i + 1) m' H') ∧ ∀ x H3, J.yld i H2 x H3 → cG G sl g x (wipe σ vs) H3 fun σ4 H4 => wipe σ4 vs = wipe σ vs ∧ cT G tt σ4 H4 fun b H5 =>
      if b = true then cV G te σ4 H5 fun y H6 => ∃ acc, H6 D = some (.lst acc) ∧ acc.length < sizeLine ∧ Nx (upd H6 D (.lst (acc ++ [y]))) else Nx H5) := by
  refine ⟨fun i m H' => ws.length ≤ i + m ∧ Keeps H1 H' ∧ ∃ acc vacc e k, H' D = some (.lst vacc) ∧ RepL G.K H' acc vacc ∧ BS G e k σ H' ∧ Xt env h σ H e k H' ∧ k D = none ∧ ¬ OwnAt e σ D ∧
    lcLoopL ok vs g tt te (fun acc e h' => ∀ vacc H', BS G e h' σ H' → Xt env h σ H e h' H' → H' D = some (.lst vacc) → RepL G.K H' acc vacc → h' D = none → ¬ OwnAt e σ D → Keeps H1 H' → R H') (ws.drop i) acc e k,
    ⟨ws.length, by omega, .refl _, acc0, vacc0, env1, h1, d1, r1, S1, x1, n1, no1, by simpa using z⟩, ?_⟩
  rintro i m H2 ⟨hm, k2, acc, vacc, e2, g2, d2, r2, S2, x2, n2, no2, z2⟩
  cases e : ws[i]? with
  | none =>
    have hl := List.getElem?_eq_none_iff.mp e
    rw [List.drop_eq_nil_of_le hl] at z2
    have gi := gv g2 H2 S2.hp (k0.trans k2) z2.1 i
    exact .inl ⟨gi.1 hl, z2.2 vacc H2 S2 x2 d2 r2 n2 no2 k2⟩
  | some w =>
    obtain ⟨hl, ew⟩ := List.getElem?_eq_some_iff.mp e
    have ed : ws.drop i = w :: ws.drop (i + 1) := by rw [List.drop_eq_getElem_cons hl, ew]
    rw [ed] at z2
    simp only [lcLoopL] at z2
    have gi := gv g2 H2 S2.hp (k0.trans k2) z2.1 i
    obtain ⟨go, yl⟩ := gi.2 w e
    refine .inr ⟨go, fun H' => Keeps H1 H' ∧ ∃ acc vacc e k, H' D = some (.lst vacc) ∧ RepL G.K H' acc vacc ∧ BS G e k σ H' ∧ Xt env h σ H e k H' ∧ k D = none ∧ ¬ OwnAt e σ D ∧
      lcLoopL ok vs g tt te (fun acc e h' => ∀ vacc H', BS G e h' σ H' → Xt env h σ H e h' H' → H' D = some (.lst vacc) → RepL G.K H' acc vacc → h' D = none → ¬ OwnAt e σ D → Keeps H1 H' → R H') (ws.drop (i + 1)) acc e k, fun H' n => ⟨m - 1, by omega, by omega, n.1, n.2⟩, fun x H3 y => ?_⟩
    obtain ⟨nw, rx⟩ := yl x H3 y
    have S3 := nw.bs S2
    refine ⟨w, wipeA e2 vs, g2, rx, S3.wipe, mg _ _ _ _ _ (fun e4 g4 z4 σ4 H4 S4 x4 => ?_) z2.2⟩
    refine ⟨wipe_but x4.bt hsl, e4, g4, S4, mt _ _ _ _ (fun b e5 g5 z5 H5 S5 x5 => ?_) z4⟩
    have noW : ¬ OwnAt (wipeA e2 vs) (wipe σ vs) D := fun q => no2 q.wiped
    -- what has happened since the turn began
    have fin : ∀ {e6 : AEnv} {g6 : AH} {H6 : Hp}, BS G e6 g6 σ4 H6 → Xt e4 g4 σ4 H4 e6 g6 H6 → H6 D = some (.lst vacc) ∧ Keeps H2 H6 ∧ BS G (mend e2 e6 vs) g6 σ H6 ∧ g6 D = none ∧ ¬ OwnAt (mend e2 e6 vs) σ D ∧ ∀ ys, Xt env h σ H (mend e2 e6 vs) g6 (upd H6 D (.lst ys)) := fun {e6 g6 H6} S6 x6 => by
      have xx := x4.trans x6.xg
      have d6 : H6 D = some (.lst vacc) := xx.fr D _ (nw D _ d2) n2 noW (Mu.nt (o := .lst vacc) trivial)
      have g6D : g6 D = none := by
        cases q : g6 D with
        | none => rfl
        | some u => have y := xx.hn D u q n2; rw [nw D _ d2] at y; cases y
      have no6 : ¬ OwnAt e6 σ4 D := fun q => noW (xx.ow D q)
      obtain ⟨a, b, c, d⟩ := blk_end (sl := sl) hsl hD d2 S2 x2 n2 no2 nw x4.bt S6 (x4.transD x6.del) no6 g6D ⟨_, d6⟩
      exact ⟨d6, a, b, g6D, c, d⟩
    cases b with
    | true =>
      rw [if_pos rfl] at z5
      refine iteT ⟨e5, g5, S5, me _ _ _ _ (fun y e6 g6 ⟨hz, z6⟩ v H6 S6 x6 r6 => ?_) z5⟩
      obtain ⟨d6, k6, Sm, n6, no6, xm⟩ := fin S6 (x5.trans x6)
      obtain ⟨k7, S7⟩ := Sm.unseen (o' := .lst (vacc ++ [v])) d6 trivial n6 hd0 no6
      exact ⟨vacc, d6, by rw [← r2.length]; exact hz, (k2.trans k6).trans k7, acc ++ [y], vacc ++ [v], _, g6, upd_same, (RepL.mono (k6.trans k7) _ _ r2).append (.cons (Rep.mono k7 _ _ r6) .nil), S7, xm _, n6, no6, z6⟩
    | false =>
      rw [if_neg Bool.false_ne_true] at z5
      refine iteF ?_
      obtain ⟨d6, k6, Sm, n6, no6, xm⟩ := fin S5 x5
      have xm' := xm vacc
      rw [upd_id d6] at xm'
      exact ⟨k2.trans k6, acc, vacc, _, g5, d6, RepL.mono k6 _ _ r2, Sm, xm', n6, no6, z5⟩
/-! ### two generators -/
def lc2Loop (ok : AH → Prop) (vs : List Nat) (g : AGT) (tt : ABT) (ti1 : AIL) (vs1 : List Nat) (g1 : AGT) (tt1 : ABT) (te : AVT) (Q : List W → AEnv → AH → Prop) : List W → List W → AEnv → AH → Prop
  | [], acc => fun env h => ok h ∧ Q acc env h
  | w :: ws, acc => fun env h => ok h ∧ g w (wipeA env vs) h fun e1 h1 => tt e1 h1 fun b e2 h2 => if b = true then ti1 e2 h2 fun ok1 ws1 e3 h3 => lcLoopL ok1 vs1 g1 tt1 te (fun acc' e4 h4 => lc2Loop ok vs g tt ti1 vs1 g1 tt1 te Q ws acc' (mend env e4 vs) h4) ws1 acc e3 h3 else lc2Loop ok vs g tt ti1 vs1 g1 tt1 te Q ws acc (mend env e2 vs) h2
def aLc2 (vs : List Nat) (ti : AIL) (g : AGT) (tt : ABT) (ti1 : AIL) (vs1 : List Nat) (g1 : AGT) (tt1 : ABT) (te : AVT) : AT := fun env h Q => ti env h fun ok ws e1 h1 => lc2Loop ok vs g tt ti1 vs1 g1 tt1 te (fun acc e h => Q (.own (.seq acc)) e h) ws [] e1 h1
variable {ti1 : AIL} {g1 : AGT} {tt1 : ABT} {vs1 sl1 : List Nat} {tg1 iter1 : Expr} {ifs1 : List Expr}
theorem lc2Loop.mono {ok : AH → Prop} {vs : List Nat} (mg : MonoG g) (mt : Mono tt) (mi : MonoI ti1) (mg1 : MonoG g1) (mt1 : Mono tt1) (me : Mono te) {Q Q' : List W → AEnv → AH → Prop} (k : ∀ a e h, Q a e h → Q' a e h) : ∀ (ws acc : List W) env h, lc2Loop ok vs g tt ti1 vs1 g1 tt1 te Q ws acc env h → lc2Loop ok vs g tt ti1 vs1 g1 tt1 te Q' ws acc env h
  | [], acc, env, h, q => ⟨q.1, k _ _ _ q.2⟩
  | w :: ws, acc, env, h, q => ⟨q.1, mg _ _ _ _ _ (fun e1 h1 z => mt _ _ _ _ (fun b e2 h2 z => by
    cases b with
    | true => rw [if_pos rfl] at z ⊢; exact mi _ _ _ _ (fun ok1 ws1 e3 h3 z => lcLoopL.mono mg1 mt1 me (fun acc' e4 h4 z => lc2Loop.mono mg mt mi mg1 mt1 me k ws _ _ _ z) _ _ _ _ z) z
    | false => rw [if_neg Bool.false_ne_true] at z ⊢; exact lc2Loop.mono mg mt mi mg1 mt1 me k ws _ _ _ z) z) q.2⟩
theorem lc2_step {σ : L2.St} {H : Hp} {Q : VK} (hi : MonoI ti) (hsl : ∀ i ∈ sl, i ∈ own.map (·.2)) (hsl1 : ∀ i ∈ sl1, i ∈ vs1) (mg : MonoG g) (mt : Mono tt) (mi : MonoI ti1) (mg1 : MonoG g1) (mt1 : Mono tt1) (me : Mono te)
    (q : cE G (aLc2 (own.map (·.2)) ti g tt ti1 vs1 g1 tt1 te) σ H Q) : tLc2 (cIL G ti) (cG G sl g) (cT G tt) (cIL G ti1) (cG G sl1 g1) (cT G tt1) (cV G te) (own.map (·.2)) vs1 σ H Q := by
  obtain ⟨env, h, S, q⟩ := q
  refine ⟨env, h, S, hi env h _ _ (fun ok ws env1 h1 z J H1 S1 x1 gv => ?_) q⟩
  intro D nD
  have hD : H D = none := x1.fresh nD
  obtain ⟨hd1, hd0, hdo⟩ := S1.noAt nD
  have nw0 : New H1 (upd H1 D (.lst [])) := New.upd nD
  generalize own.map (·.2) = vs at hsl z ⊢
  refine ⟨fun i m H' => ws.length ≤ i + m ∧ Keeps H1 H' ∧ ∃ acc vacc e k, H' D = some (.lst vacc) ∧ RepL G.K H' acc vacc ∧ BS G e k σ H' ∧ Xt env h σ H e k H' ∧ k D = none ∧ ¬ OwnAt e σ D ∧
    lc2Loop ok vs g tt ti1 vs1 g1 tt1 te (fun acc e h' => ∀ v H', BS G e h' σ H' → Xt env h σ H e h' H' → RvRep G e h' σ H' (.own (.seq acc)) v → Fsh H (.own (.seq acc)) v → Q v H') (ws.drop i) acc e k,
    ⟨ws.length, by omega, nw0.keeps, [], [], env1, h1, upd_same, .nil, nw0.bs S1, x1.trans nw0.xt, hd1, hdo, by simpa using z⟩, ?_⟩
  rintro i m H2 ⟨hm, k2, acc, vacc, e2, g2, d2, r2, S2, x2, n2, no2, z2⟩
  cases e : ws[i]? with
  | none =>
    have hl := List.getElem?_eq_none_iff.mp e
    rw [List.drop_eq_nil_of_le hl] at z2
    have gi := gv g2 H2 S2.hp k2 z2.1 i
    exact .inl ⟨gi.1 hl, z2.2 _ H2 S2 x2 ⟨D, rfl, ⟨vacc, d2, r2⟩, n2, hd0, no2⟩ fun p ep => by cases ep; exact hD⟩
  | some w =>
    obtain ⟨hl, ew⟩ := List.getElem?_eq_some_iff.mp e
    have ed : ws.drop i = w :: ws.drop (i + 1) := by rw [List.drop_eq_getElem_cons hl, ew]
    rw [ed] at z2
    simp only [lc2Loop] at z2
    have gi := gv g2 H2 S2.hp k2 z2.1 i
    obtain ⟨go, yl⟩ := gi.2 w e
    refine .inr ⟨go, fun H' => Keeps H1 H' ∧ ∃ acc vacc e k, H' D = some (.lst vacc) ∧ RepL G.K H' acc vacc ∧ BS G e k σ H' ∧ Xt env h σ H e k H' ∧ k D = none ∧ ¬ OwnAt e σ D ∧
      lc2Loop ok vs g tt ti1 vs1 g1 tt1 te (fun acc e h' => ∀ v H', BS G e h' σ H' → Xt env h σ H e h' H' → RvRep G e h' σ H' (.own (.seq acc)) v → Fsh H (.own (.seq acc)) v → Q v H') (ws.drop (i + 1)) acc e k, fun H' n => ⟨m - 1, by omega, by omega, n.1, n.2⟩, fun x H3 y => ?_⟩
    obtain ⟨nw, rx⟩ := yl x H3 y
    have S3 := nw.bs S2
    refine ⟨w, wipeA e2 vs, g2, rx, S3.wipe, mg _ _ _ _ _ (fun e4 g4 z4 σ4 H4 S4 x4 => ?_) z2.2⟩
    refine ⟨wipe_but x4.bt hsl, e4, g4, S4, mt _ _ _ _ (fun b e5 g5 z5 H5 S5 x5 => ?_) z4⟩
    have noW : ¬ OwnAt (wipeA e2 vs) (wipe σ vs) D := fun q => no2 q.wiped
    have at5 : ∀ {e6 : AEnv} {g6 : AH} {H6 : Hp}, Xt e4 g4 σ4 H4 e6 g6 H6 → H6 D = some (.lst vacc) ∧ g6 D = none ∧ ¬ OwnAt e6 σ4 D := fun {e6 g6 H6} x6 => by
      have xx := x4.trans x6.xg
      refine ⟨xx.fr D _ (nw D _ d2) n2 noW (Mu.nt (o := .lst vacc) trivial), ?_, fun q => noW (xx.ow D q)⟩
      cases q : g6 D with
      | none => rfl
      | some u => have y := xx.hn D u q n2; rw [nw D _ d2] at y; cases y
    obtain ⟨d5, n5, no5⟩ := at5 x5
    have xg5 : Xg sl (wipeA e2 vs) g2 (wipe σ vs) H3 e5 g5 σ4 H5 := ⟨(x4.trans x5.xg).fr, (x4.trans x5.xg).hn, (x4.trans x5.xg).th, (x4.trans x5.xg).ow, (x4.trans x5.xg).so, x4.bt⟩
    cases b with
    | true =>
      rw [if_pos rfl] at z5
      refine iteT ⟨e5, g5, S5, mi _ _ _ _ (fun ok1 ws1 e6 g6 z6 J1 H6 S6 x6 gv1 => ?_) z5⟩
      obtain ⟨d6, n6, no6⟩ := at5 (x5.trans x6)
      have k6 : Keeps H2 H6 := (blk_end (sl := sl) hsl hD d2 S2 x2 n2 no2 nw x4.bt S6 (xg5.transD x6.del) no6 n6 ⟨_, d6⟩).1
      refine lc_run (H := Ab.del H5 D) (env := e5) (h := g5) hsl1 mg1 mt1 me del_same hd0 gv1 (.refl _) d6 (RepL.mono k6 _ _ r2) S6 x6.del n6 no6 ?_
      refine lcLoopL.mono mg1 mt1 me (fun acc' e7 h7 z7 vacc' H7 S7 x7 d7 r7 n7 no7 k7 => ?_) ws1 acc e6 g6 z6
      obtain ⟨a, b, c, d⟩ := blk_end (sl := sl) hsl hD d2 S2 x2 n2 no2 nw x4.bt S7 (xg5.transD x7) no7 n7 ⟨_, d7⟩
      have xm' := d vacc'
      rw [upd_id d7] at xm'
      exact ⟨k2.trans a, acc', vacc', _, h7, d7, r7, b, xm', n7, c, z7⟩
    | false =>
      rw [if_neg Bool.false_ne_true] at z5
      refine iteF ?_
      obtain ⟨a, b, c, d⟩ := blk_end (sl := sl) hsl hD d2 S2 x2 n2 no2 nw x4.bt S5 (x4.transD x5.del) no5 n5 ⟨_, d5⟩
      have xm' := d vacc
      rw [upd_id d5] at xm'
      exact ⟨k2.trans a, acc, vacc, _, g5, d5, RepL.mono a _ _ r2, b, xm', n5, c, z5⟩
theorem ae_lc2 (hc : X.calm = true) (hN : X.N.Nodup) (hi : AI2 X G tg iter ti) (ok : BlkOk X.N X.env.scope scope own) (hv : ∀ i ∈ vs1, i ∈ own.map (·.2)) (hsl : ∀ i ∈ sl, i ∈ own.map (·.2)) (hsl1 : ∀ i ∈ sl1, i ∈ vs1)
    (hg : ∀ (s : Shared) (H : Hp) (C : Addr) (cl : List (Str × Addr)) (fp : List Addr), AG (X.blk s H scope (compEnvC scope cl C X.env) fp) G tg sl g) (ht : ∀ (s : Shared) (H : Hp) (C : Addr) (cl : List (Str × Addr)) (fp : List Addr), APs (X.blk s H scope (compEnvC scope cl C X.env) fp) G ifs tt)
    (hi1 : ∀ (s : Shared) (H : Hp) (C : Addr) (cl : List (Str × Addr)) (fp : List Addr), AI2 (X.blk s H scope (compEnvC scope cl C X.env) fp) G tg1 iter1 ti1)
    (hg1 : ∀ (s : Shared) (H : Hp) (C : Addr) (cl : List (Str × Addr)) (fp : List Addr), AG (X.blk s H scope (compEnvC scope cl C X.env) fp) G tg1 sl1 g1) (ht1 : ∀ (s : Shared) (H : Hp) (C : Addr) (cl : List (Str × Addr)) (fp : List Addr), APs (X.blk s H scope (compEnvC scope cl C X.env) fp) G ifs1 tt1)
    (he : ∀ (s : Shared) (H : Hp) (C : Addr) (cl : List (Str × Addr)) (fp : List Addr), AV (X.blk s H scope (compEnvC scope cl C X.env) fp) G elt te) (mg : MonoG g) (mt : Mono tt) (mi : MonoI ti1) (mg1 : MonoG g1) (mt1 : Mono tt1) (me : Mono te)
    (hs : ∀ x, foldedSetIterable iter X.env x = pure x := by intro _; rfl) (hs1 : ∀ env x, foldedSetIterable iter1 env x = pure x := by intro _ _; rfl) :
    AE X G (.ListComp elt [⟨tg, iter, ifs, 0⟩, ⟨tg1, iter1, ifs1, 0⟩] scope pos) (aLc2 (own.map (·.2)) ti g tt ti1 vs1 g1 tt1 te) :=
  ⟨fun env h Q Q' k q => hi.mono env h _ _ (fun ok ws e1 h1 z => lc2Loop.mono mg mt mi mg1 mt1 me (fun a e h q => k _ _ _ q) ws [] e1 h1 z) q, PE.imp (pe_lc2 hc hN hi.pi ok hv (fun s H C cl fp => (hg s H C cl fp).pg) (fun s H C cl fp => (ht s H C cl fp).pts) (fun s H C cl fp => (hi1 s H C cl fp).pi) (fun s H C cl fp => (hg1 s H C cl fp).pg) (fun s H C cl fp => (ht1 s H C cl fp).pts) (fun s H C cl fp => (he s H C cl fp).pe) hs hs1) fun σ H Q q => lc2_step hi.mono hsl hsl1 mg mt mi mg1 mt1 me q⟩
end
end Ab

/-! Ab49: for a, b in self.f.items(): ..; {a: .. for a, b in self.f.items()}. The dict is locked meanwhile. -/
namespace Ab
open PySem PySem.Spec PyProof.Rows L2 RZ
mutual
/-- no dict within -/
def W.nodct : W → Bool
  | .dct _ _ => false
  | .tup ws => W.nodcts ws
  | .lst ws => W.nodcts ws
  | _ => true
def W.nodcts : List W → Bool
  | [] => true
  | w :: ws => w.nodct && W.nodcts ws
end
def SV.nodct : SV → Bool
  | .val w => w.nodct
  | .own (.seq ws) => W.nodcts ws
  | .own (.map kvs) => W.nodcts (kvs.map (·.2))
def nodctE (e : AEnv) : Bool := e.all fun x => match x with
  | some sv => sv.nodct
  | none => true
section
variable {K : PySem.W.Frag} {H H' : Hp} {q : Addr} {od : Obj} {u : HO} {kq : List (Key × V)}
theorem locked_ne (hq : H q = some (.frz od (.dK kq))) {p : Addr} {o : HO} (e : H p = some o) (n : ∀ od', o ≠ .frz od' (.dK kq)) : p ≠ q := fun z => by
  rw [z, hq] at e; exact n od (Option.some.inj e).symm
mutual
theorem Rep.unlock (hq : H q = some (.frz od (.dK kq))) (kp : ∀ p o, H p = some o → Imm o → p ≠ q → H' p = some o) : ∀ (w : W) (v : V), w.nodct = true → Rep K H w v → Rep K H' w v
  | .non, _, _, h => by simpa only [Rep] using h
  | .bl _, _, _, h => by simpa only [Rep] using h
  | .int _, _, _, h => by simpa only [Rep] using h
  | .str _, _, _, h => by simpa only [Rep] using h
  | .ref _, _, _, h => by simpa only [Rep] using h
  | .ty _, _, _, h => by simpa only [Rep] using h
  | .tup ws, v, d, h => by
    simp only [Rep] at h ⊢
    obtain ⟨a, vs, e, s, r⟩ := h
    refine ⟨a, vs, e, s.imp (fun e => kp _ _ e trivial (locked_ne hq e fun _ z => by cases z)) id, RepL.unlock hq kp ws vs ?_ r⟩
    simpa only [W.nodct] using d
  | .lst ws, v, d, h => by
    simp only [Rep] at h ⊢
    obtain ⟨a, vs, e, ⟨o, s⟩, r⟩ := h
    refine ⟨a, vs, e, ⟨o, kp _ _ s trivial (locked_ne hq s fun _ z => by cases z)⟩, RepL.unlock hq kp ws vs ?_ r⟩
    simpa only [W.nodct] using d
  | .dct ks ws, v, d, h => by simp only [W.nodct] at d; cases d
theorem RepL.unlock (hq : H q = some (.frz od (.dK kq))) (kp : ∀ p o, H p = some o → Imm o → p ≠ q → H' p = some o) : ∀ (ws : List W) (vs : List V), W.nodcts ws = true → RepL K H ws vs → RepL K H' ws vs
  | [], vs, _, h => by simpa only [RepL] using h
  | w :: ws, vs, d, h => by
    simp only [W.nodcts, Bool.and_eq_true] at d
    simp only [RepL] at h ⊢
    obtain ⟨v, r, e, a, b⟩ := h
    exact ⟨v, r, e, Rep.unlock hq kp w v d.1 a, RepL.unlock hq kp ws r d.2 b⟩
end
theorem CRep.unlock (hq : H q = some (.frz od (.dK kq))) (kp : ∀ p o, H p = some o → Imm o → p ≠ q → H' p = some o) {p : Addr} (s : H' p = H p) : ∀ {c : Cont}, (SV.own c).nodct = true → CRep K H p c → CRep K H' p c
  | .seq ws, d, ⟨vs, e, r⟩ => ⟨vs, s.trans e, RepL.unlock hq kp _ _ d r⟩
  | .map kvs, d, .inl ⟨ks, e, t, r⟩ => .inl ⟨ks, s.trans e, t, RepL.unlock hq kp _ _ d r⟩
  | .map kvs, d, .inr ⟨ks, e, t, r⟩ => .inr ⟨ks, s.trans e, t, RepL.unlock hq kp _ _ d r⟩
theorem TabsK.unlock {o o' : HO} (t : TabsK K H) (e : H q = some o) (n : ∀ ps, o ≠ .tbl ps) (n2 : ∀ φ, o ≠ .ext φ) : TabsK K (L2.upd H q o') := fun p hp => by
  obtain ⟨ps, h1, h2, h3⟩ := t p hp
  refine ⟨ps, ?_, h2, fun pos cv hc => ?_⟩
  · rw [upd_ne (fun z => by rw [z, e] at h1; exact n _ (Option.some.inj h1))]; exact h1
  · obtain ⟨c, e1, e2⟩ := h3 pos cv hc
    refine ⟨c, e1, ?_⟩
    rw [upd_ne (fun z => by rw [z, e] at e2; exact n2 _ (Option.some.inj e2))]; exact e2
end
section
variable {G : Gx} {env e : AEnv} {h : AH} {σ σ' : L2.St} {H Hk : Hp} {q : Addr} {od : Obj} {kq : List (Key × V)}
open Classical
/-- the ghost of what runs under the lock -/
noncomputable def lockG (G : Gx) (env : AEnv) (σ : L2.St) (H : Hp) : Gx := ⟨G.K, fun _ => none, fun p => if OwnAt env σ p then none else H p⟩
theorem lockG_in {p : Addr} {o : HO} (n : ¬ OwnAt env σ p) (e : H p = some o) : (lockG G env σ H).H0 p = some o := by
  show (if OwnAt env σ p then none else H p) = _
  rw [if_neg n]; exact e
theorem lockG_out {p : Addr} {o : HO} (e : (lockG G env σ H).H0 p = some o) : ¬ OwnAt env σ p ∧ H p = some o := by
  have e : (if OwnAt env σ p then none else H p) = some o := e
  by_cases n : OwnAt env σ p
  · rw [if_pos n] at e; cases e
  · rw [if_neg n] at e; exact ⟨n, e⟩
/-- the dict is locked: what runs then sees nothing of the abstract heap -/
theorem BS.lock (S : BS G env h σ H) {l : List (Str × W)} (hq : h q = some (.cont (.map (smap l)))) : ∃ kq, H q = some (.dK kq) ∧ kq.map (·.1) = l.map (fun p => Sum.inr p.1) ∧ RepL G.K H (l.map (·.2)) (kq.map (·.2)) ∧ ¬ OwnAt env σ q ∧
    ∀ od, BS (lockG G env σ (upd H q (.frz od (.dK kq)))) env (fun _ => none) σ (upd H q (.frz od (.dK kq))) ∧ Keeps H (upd H q (.frz od (.dK kq))) := by
  obtain ⟨kq, e0, e1, e2⟩ := sm_dK (S.hp q _ hq)
  have noq : ¬ OwnAt env σ q := fun ⟨i, c, a, b⟩ => by
    obtain ⟨p, x, _, n, _⟩ := S.own i c a
    rw [b] at x; cases x
    rw [hq] at n; cases n
  refine ⟨kq, e0, e1, e2, noq, fun od => ?_⟩
  have kp : Keeps H (upd H q (.frz od (.dK kq))) := fun p o e i => by
    have n : p ≠ q := fun z => by rw [z, e0] at e; cases e; exact i.elim
    rw [upd_ne n]; exact e
  refine ⟨⟨S.len, fun i w z => ?_, fun i c z => ?_, S.uni, fun _ _ z => (by cases z), fun p o z _ _ => (lockG_out z).2, fun _ _ z => (by cases z), fun p o z => ⟨o, (lockG_out z).2⟩, S.tabs.upd fun o z => (by rw [e0] at z; cases z; trivial)⟩, kp⟩
  · obtain ⟨v, a, b⟩ := S.val i w z; exact ⟨v, a, Rep.mono kp w v b⟩
  · obtain ⟨p, a, b, _, _⟩ := S.own i c z
    have np : p ≠ q := fun y => noq ⟨i, c, z, y ▸ a⟩
    refine ⟨p, a, b.mono kp (upd_ne np), rfl, ?_⟩
    show (if OwnAt env σ p then none else _) = none
    rw [if_pos ⟨i, c, z, a⟩]
/-- the lock is opened: frames as they stand, nothing else was changed -/
theorem BS.open (S : BS G env h σ H) {l : List (Str × W)} (hq : h q = some (.cont (.map (smap l)))) (e0 : H q = some (.dK kq)) (Sk : BS (lockG G env σ (upd H q (.frz od (.dK kq)))) e (fun _ => none) σ' Hk) (nd : nodctE e = true) :
    Hk q = some (.frz od (.dK kq)) ∧ BS G e h σ' (upd Hk q (.dK kq)) ∧ Keeps H (upd Hk q (.dK kq)) := by
  have noq : ¬ OwnAt env σ q := fun ⟨i, c, a, b⟩ => by
    obtain ⟨p, x, _, n, _⟩ := S.own i c a
    rw [b] at x; cases x
    rw [hq] at n; cases n
  have fr : ∀ p o, H p = some o → p ≠ q → ¬ OwnAt env σ p → NT o → Hk p = some o := fun p o e n w t => Sk.fr p o (lockG_in w (by rw [upd_ne n]; exact e)) rfl t
  have hk : Hk q = some (.frz od (.dK kq)) := Sk.fr q _ (lockG_in noq upd_same) rfl (fun _ z => (by cases z))
  have kp : Keeps H (upd Hk q (.dK kq)) := fun p o e i => by
    have n : p ≠ q := fun z => by rw [z, e0] at e; cases e; exact i.elim
    rw [upd_ne n]
    exact fr p o e n (S.imm e i).2 i.nt
  have up : ∀ p o, Hk p = some o → Imm o → p ≠ q → upd Hk q (.dK kq) p = some o := fun p o e _ n => by rw [upd_ne n]; exact e
  have at_ : ∀ {j : Nat} {sv : SV}, e[j]? = some (some sv) → sv.nodct = true := fun {j sv} z => by
    have := List.all_eq_true.mp nd (some sv) (List.mem_of_getElem? z)
    exact this
  have not_own : ∀ {p : Addr} {o : HO}, H p = some o → (lockG G env σ (upd H q (.frz od (.dK kq)))).H0 p = none → p ≠ q → OwnAt env σ p := fun {p o} e n ne => Classical.byContradiction fun y => by
    rw [lockG_in y (show upd H q _ p = some o by rw [upd_ne ne]; exact e)] at n; cases n
  refine ⟨hk, ⟨Sk.len, fun i w z => ?_, fun i c z => ?_, Sk.uni, fun a o z => ?_, fun p o z y t => ?_, S.ext, fun p o z => ?_, Sk.tabs.unlock hk (fun _ z => (by cases z)) (fun _ z => (by cases z))⟩, kp⟩
  · obtain ⟨v, a, b⟩ := Sk.val i w z
    exact ⟨v, a, Rep.unlock hk up w v (at_ z) b⟩
  · obtain ⟨p, a, b, _, d⟩ := Sk.own i c z
    have np : p ≠ q := fun y => by
      obtain ⟨o, eo, m⟩ := b.there
      rw [y, hk] at eo; cases eo; exact m
    refine ⟨p, a, b.unlock hk up (upd_ne np) (at_ z), ?_, ?_⟩
    · cases x : h p with
      | none => rfl
      | some o =>
        obtain ⟨u, eu, _⟩ := (S.hp p o x).there
        obtain ⟨j, c', f1, f2⟩ := not_own eu d np
        obtain ⟨p', f3, _, f4, _⟩ := S.own j c' f1
        rw [f2] at f3; cases f3
        rw [f4] at x; cases x
    · cases x : G.H0 p with
      | none => rfl
      | some o =>
        obtain ⟨u, eu⟩ := S.tr p o x
        obtain ⟨j, c', f1, f2⟩ := not_own eu d np
        obtain ⟨p', f3, _, _, f4⟩ := S.own j c' f1
        rw [f2] at f3; cases f3
        rw [f4] at x; cases x
  · by_cases ha : a = q
    · subst ha
      rw [hq] at z; cases z
      exact CRep.mono kp (upd_same.trans e0.symm) (show CRep G.K H a (.map (smap l)) from S.hp a _ hq)
    · obtain ⟨u, eu, m⟩ := (S.hp a o z).there
      have no : ¬ OwnAt env σ a := fun ⟨j, c', f1, f2⟩ => by
        obtain ⟨p', f3, _, f4, _⟩ := S.own j c' f1
        rw [f2] at f3; cases f3
        rw [f4] at z; cases z
      exact (S.hp a o z).mono kp (by rw [upd_ne ha, fr a u eu ha no m.nt, eu])
  · have e := S.fr p o z y t
    have np : p ≠ q := fun x => by
      subst x
      rw [S.ext p _ hq y] at z; cases z
    rw [upd_ne np]
    refine fr p o e np (fun ⟨j, c', f1, f2⟩ => ?_) t
    obtain ⟨p', f3, _, _, f4⟩ := S.own j c' f1
    rw [f2] at f3; cases f3
    rw [f4] at z; cases z
  · by_cases np : p = q
    · subst np; exact ⟨_, upd_same⟩
    · obtain ⟨u, eu⟩ := S.tr p o z
      have no : ¬ OwnAt env σ p := fun ⟨j, c', f1, f2⟩ => by
        obtain ⟨p', f3, _, _, f4⟩ := S.own j c' f1
        rw [f2] at f3; cases f3
        rw [f4] at z; cases z
      obtain ⟨u', eu'⟩ := Sk.tr p u (lockG_in no (by rw [upd_ne np]; exact eu))
      exact ⟨u', by rw [upd_ne np]; exact eu'⟩
theorem BS.le {G : Gx} {env : AEnv} {h h' : AH} {σ : L2.St} {H : Hp} (S : BS G env h σ H) (l : AH.Le h' h) : BS G env h' σ H :=
  ⟨S.len, S.val, fun i c e => (by
    obtain ⟨p, a, b, d, f⟩ := S.own i c e
    refine ⟨p, a, b, ?_, f⟩
    cases z : h' p with
    | none => rfl
    | some u => rw [l p u z] at d; cases d), S.uni, fun a o e => S.hp a o (l a o e), S.fr, fun a o e => S.ext a o (l a o e), S.tr, S.tabs⟩
end
/-! ### for a, b in self.f.items() -/
def itL (a b : Nat) (tb : ATS) (D : AEnv → Prop) : List (Str × W) → AEnv → Prop
  | [], e => nodctE e = true ∧ D e
  | p :: r, e => tb ⟨fun e' _ => itL a b tb D r e', fun _ _ _ => False, fun _ _ => False, fun e' _ => itL a b tb D r e'⟩ ((e.set a (some (.val (.str p.1)))).set b (some (.val p.2))) fun _ => none
theorem itL.mono {a b : Nat} {tb : ATS} (m : MonoS tb) {D D' : AEnv → Prop} (k : ∀ e, D e → D' e) : ∀ (l : List (Str × W)) (e : AEnv), itL a b tb D l e → itL a b tb D' l e
  | [], e, q => ⟨q.1, k e q.2⟩
  | p :: r, e, q => m ⟨fun e' _ => itL a b tb D r e', fun _ _ _ => False, fun _ _ => False, fun e' _ => itL a b tb D r e'⟩ ⟨fun e' _ => itL a b tb D' r e', fun _ _ _ => False, fun _ _ => False, fun e' _ => itL a b tb D' r e'⟩ _ _ ⟨fun e' _ z => itL.mono m k r e' z, fun _ _ _ z => z, fun _ _ z => z, fun e' _ z => itL.mono m k r e' z⟩ q
section
variable {X : Cx} {G : Gx} {i a b : Nat} {n f A B Sn : Str} {body : List Stmt} {pos p1 p2 p3 p4 p5 p6 p7 : Pos} {k0 : Nat} {tb : ATS}
end
end Ab

/-! Ab50: {a: .. for a, b in self.f.items()}. -/
namespace Ab
open PySem PySem.Spec PyProof.Rows L2 RZ
/-- all but tables stays as it stands -/
def Sta (H H' : Hp) : Prop := ∀ p o, H p = some o → NT o → H' p = some o
section
variable {G : Gx} {env e : AEnv} {h : AH} {σ σ' : L2.St} {H H' : Hp}
theorem Sta.keeps (s : Sta H H') : Keeps H H' := fun p o e i => s p o e i.nt
theorem BS.same (S : BS G env h σ H) (s : Sta H H') (th : ∀ p o, H p = some o → ∃ u, H' p = some u) (tb : TabsK G.K H') : BS G env h σ H' ∧ Xt env h σ H env h H' := by
  refine ⟨⟨S.len, fun i w z => ?_, fun i c z => ?_, S.uni, fun a o z => ?_, fun p o z y t => s p o (S.fr p o z y t) t, S.ext, fun p o z => ?_, tb⟩, ⟨fun p o e _ _ t => s p o e t, fun p o e n => (by rw [n] at e; cases e), th, fun i c e => ⟨c, e⟩⟩⟩
  · obtain ⟨v, a, b⟩ := S.val i w z; exact ⟨v, a, Rep.mono s.keeps w v b⟩
  · obtain ⟨p, a, b, d, f⟩ := S.own i c z
    obtain ⟨u, eu, m⟩ := b.there
    exact ⟨p, a, b.mono s.keeps ((s p u eu m.nt).trans eu.symm), d, f⟩
  · obtain ⟨u, eu, m⟩ := (S.hp a o z).there
    exact (S.hp a o z).mono s.keeps ((s a u eu m.nt).trans eu.symm)
  · obtain ⟨u, eu⟩ := S.tr p o z; exact th p u eu
def VOnly (e : AEnv) : Prop := ∀ (i : Nat) (c : Cont), e[i]? ≠ some (some (.own c))
theorem VOnly.set (v : VOnly e) {a : Nat} {w : W} : VOnly (e.set a (some (.val w))) := fun i c z => by
  by_cases hi : a = i
  · subst hi
    by_cases hl : a < e.length
    · rw [List.getElem?_set_self hl] at z; cases z
    · rw [List.getElem?_eq_none (by rw [List.length_set]; omega)] at z; cases z
  · rw [List.getElem?_set_ne hi] at z; exact v i c z
theorem VOnly.no (v : VOnly e) {p : Addr} : ¬ OwnAt e σ p := fun ⟨i, c, z, _⟩ => v i c z
end
def dcEnv (a b : Nat) (e0 : AEnv) (p : Str × W) : AEnv := (e0.set a (some (.val (.str p.1)))).set b (some (.val p.2))
def dcL (a b : Nat) (tk tv : AVT) (Q : List (Str × W) → Prop) (e0 : AEnv) : List (Str × W) → List (Str × W) → Prop
  | [], acc => W.nodcts (acc.map (·.2)) = true ∧ Q acc
  | p :: r, acc => tk (dcEnv a b e0 p) (fun _ => none) fun w e2 _ => e2 = dcEnv a b e0 p ∧ tv (dcEnv a b e0 p) (fun _ => none) fun u _ _ => ∃ s, w = .str s ∧ acc.length < sizeLine ∧ dcL a b tk tv Q e0 r (sput acc s u)
theorem dcL.mono {a b : Nat} {tk tv : AVT} {e0 : AEnv} (mk : Mono tk) (mv : Mono tv) {Q Q' : List (Str × W) → Prop} (k : ∀ l, Q l → Q' l) : ∀ (l acc : List (Str × W)), dcL a b tk tv Q e0 l acc → dcL a b tk tv Q' e0 l acc
  | [], acc, q => ⟨q.1, k _ q.2⟩
  | p :: r, acc, q => mk _ _ _ _ (fun w e2 _ ⟨z1, z2⟩ => ⟨z1, mv _ _ _ _ (fun u _ _ ⟨s, y1, y2, y3⟩ => ⟨s, y1, y2, dcL.mono mk mv k r _ y3⟩) z2⟩) q
section
variable {X : Cx} {G : Gx} {i a b : Nat} {n f A B Sn : Str} {kx vx : Expr} {pos p1 p2 p3 p4 p5 p6 p7 : Pos} {k0 : Nat} {tk tv : AVT} {scope : Scope} {own : List (Str × Nat)}
end
end Ab

/-! Ab51: own __len__, __repr__, __eq__ asked by len(o), repr(o), o == p, o != p; isinstance of own classes. -/
namespace Ab
open PySem PySem.Spec PyProof.Rows L2 RZ
section
variable {X : Cx} {CX : CXT} {k : Nat} {f C : Addr} {fd : FuncData} {ps : List Str} {sp : Sp} {E : XK}
open Builtin in
/-- what the text must say of a class whose objects are told apart by its == -/
structure NeOk (K : PySem.W.Frag) (C : Addr) : Prop where
  ne : PySem.W.findIn K (.ref C) "__ne__" = some (some (.builtin "object.__ne__"))
  mr : PySem.W.mroIn K C (.type "object") = some true
open Builtin in
end
end Ab

/-! Ab52: len(o), repr(o), o == p, o != p, isinstance(o, C): readings. -/
namespace Ab
open PySem PySem.Spec PyProof.Rows L2 RZ
def aOwn (C : Str) (sp : ASp) (po : RR → (RV → Prop) → Prop) (to : AT) : AT := fun env h Q => to env h fun r env1 h1 => ∃ a fs, r = .val (.ref a) ∧ h1 a = some (.ins C fs) ∧ sp [.ref a] h1 (fun x h2 => po x fun y => Q y env1 h2) fun _ _ => False
def MonoP (po : RR → (RV → Prop) → Prop) : Prop := ∀ r K K', (∀ y, K y → K' y) → po r K → po r K'
theorem aOwn.mono {C : Str} {sp : ASp} {po : RR → (RV → Prop) → Prop} {to : AT} (sm : SpMono sp) (pm : MonoP po) (m : Mono to) : Mono (aOwn C sp po to) := fun env h Q Q' k q =>
  m env h _ _ (fun r e g ⟨a, fs, z1, z2, z⟩ => ⟨a, fs, z1, z2, sm _ _ _ _ _ _ (fun x f y => pm _ _ _ (fun y' z => k _ _ _ z) y) (fun _ _ z => z) z⟩) q
section
variable {X : Cx} {G : Gx} {sp : ASp} {C : Str} {st : Stmt} {k j : Nat} {ps : List Str} {o o2 : Expr} {p pos : Pos} {to t2 : AT}
/-! ### == and != -/
def aEqO (C : Str) (neg : Bool) (sp : ASp) (ta tb : AT) : AT := fun env h Q => ta env h fun r env1 h1 => tb env1 h1 fun r2 env2 h2 => ∃ a b fs gs, r = .val (.ref a) ∧ r2 = .val (.ref b) ∧ h2 a = some (.ins C fs) ∧ h2 b = some (.ins C gs) ∧
  sp [.ref a, .ref b] h2 (fun x h3 => ∃ k : Bool, x = .val (.bl k) ∧ Q (.val (.bl (if neg = true then !k else k))) env2 h3) fun _ _ => False
theorem aEqO.mono {C : Str} {neg : Bool} {sp : ASp} {ta tb : AT} (sm : SpMono sp) (m : Mono ta) (n : Mono tb) : Mono (aEqO C neg sp ta tb) := fun env h Q Q' k q =>
  m env h _ _ (fun r e g z => n e g _ _ (fun r2 e2 g2 ⟨a, b, fs, gs, z1, z2, z3, z4, z⟩ => ⟨a, b, fs, gs, z1, z2, z3, z4, sm _ _ _ _ _ _ (fun x f ⟨b, y1, y2⟩ => ⟨b, y1, k _ _ _ y2⟩) (fun _ _ z => z) z⟩) z) q
section
variable (gk : G.K = X.K) (O : OkM X.prog X.w X.K X.mg X.base C "__eq__" st k 2 ps [] sp) (bd : BindsM C "__eq__" st ps) (hr : Room j X.A) (kj : k + 1 ≤ j) (ho : AE X G o to) (h2 : AE X G o2 t2)
include gk O bd hr kj ho h2
end
/-! ### isinstance(o, C) -/
structure IsO (K : PySem.W.Frag) (mg : Str → Option Value) (n C : Str) (b : Bool) : Prop where
  gl : mg C = some (.ref (He.ga K C))
  cl : Cls K (He.ga K n)
  ca : PySem.W.findIn K (.ref (He.ga K n)) "__class__" = some (some (.builtin "object.__class__"))
  cn : PySem.W.specialIn K (.builtin "object.__class__") "__get__" = some (some (.builtin "getset_descriptor.__get__"))
  ct : PySem.W.takesIn K (.builtin "object.__class__") = some true
  cm : PySem.W.mroIn K (He.ga K n) (.type "object") = some true
  ko : PySem.W.kitOne K (.ref (He.ga K n)) (.ref (He.ga K C)) = some b
end
end Ab

/-! Ab53: methods and classes called with values by place, by name, and with defaults. -/
namespace Ab
open PySem PySem.Spec PyProof.Rows L2 RZ
def aMethM (C m : Str) (E : AExc → AEnv → AH → Prop) (sp : ASp) (N : Nat) (gW : List W → List W → List W) (to : AT) (t tk : AAT) : AT := fun env h Q => to env h fun r env1 h1 => ∃ a fs, r = .val (.ref a) ∧ h1 a = some (.ins C fs) ∧ fs.lookup m = none ∧
  t env1 h1 fun ws env2 h2 => tk env2 h2 fun zs env3 h3 => (gW (.ref a :: ws) zs).length = N ∧ sp (gW (.ref a :: ws) zs) h3 (kRes Q env3) fun x h4 => E x env3 h4
theorem aMethM.mono {C m : Str} {E : AExc → AEnv → AH → Prop} {sp : ASp} {N : Nat} {gW : List W → List W → List W} {to : AT} {t tk : AAT} (sm : SpMono sp) (a : Mono to) (b : Mono t) (c : Mono tk) : Mono (aMethM C m E sp N gW to t tk) := fun env h Q Q' k q =>
  a env h _ _ (fun r e g ⟨p, fs, z1, z2, z3, z4⟩ => ⟨p, fs, z1, z2, z3, b e g _ _ (fun ws e2 g2 z => c e2 g2 _ _ (fun zs e3 g3 z => ⟨z.1, sm _ _ _ _ _ _ (fun r f y => kRes.imp k r f y) (fun x f y => y) z.2⟩) z) z4⟩) q
def aMakeM (C : Str) (E : AExc → AEnv → AH → Prop) (sp : ASp) (N : Nat) (gW : List W → List W → List W) (t tk : AAT) : AT := fun env h Q => t env h fun ws env1 h1 => tk env1 h1 fun zs env2 h2 => (∀ a : Addr, (gW (.ref a :: ws) zs).length = N) ∧ ∀ a, h2 a = none → sp (gW (.ref a :: ws) zs) (updA h2 a (.ins C [])) (kMk Q env2 a) fun x h3 => E x env2 h3
theorem aMakeM.mono {C : Str} {E : AExc → AEnv → AH → Prop} {sp : ASp} {N : Nat} {gW : List W → List W → List W} {t tk : AAT} (sm : SpMono sp) (b : Mono t) (c : Mono tk) : Mono (aMakeM C E sp N gW t tk) := fun env h Q Q' k q =>
  b env h _ _ (fun ws e g z => c e g _ _ (fun zs e g z => ⟨z.1, fun a n => sm _ _ _ _ _ _ (fun r f y => ⟨y.1, k _ _ _ y.2⟩) (fun x f y => y) (z.2 a n)⟩) z) q
section
variable {X : Cx} {G : Gx} {sp : ASp} {C m : Str} {st : Stmt} {k j n0 : Nat} {ps ks : List Str} {kws0 : List (Str × V)} {mz : List V} {ds : List W} {o e : Expr} {es : List Expr} {kws : List Keyword} {pos apos p : Pos} {to : AT} {t tk : AAT} {E : AExc → AEnv → AH → Prop} {perm : List Nat}
end
end Ab

/-! Ab54: == of dicts, of lists with []; * of lists that are read only, of texts; f-strings, str(n). -/
namespace Ab
open PySem PySem.Spec PyProof.Rows L2 RZ
/-! ### == of dicts keyed by texts -/
def eqMr (l2 : List (Str × W)) : List (Str × W) → Bool
  | [] => true
  | p :: r => match l2.lookup p.1 with
    | none => false
    | some u => eqw p.2 u && eqMr l2 r
def datM (l : List (Str × W)) : Bool := l.all fun p => p.2.dat 60
section
variable {X : Cx} {pins : List (Addr × Obj)} {σ : L2.St} {H : Hp} {s : Shared}
end
def oEqM : Op2 := fun a b Q => match a, b with
  | .cv (.map k1), .cv (.map k2) => ∃ l1 l2, k1 = smap l1 ∧ k2 = smap l2 ∧ datM l1 = true ∧ datM l2 = true ∧ Q (.val (.bl (l1.length == l2.length && eqMr l2 l1)))
  | _, _ => False
theorem oEqM.mono (a b : Vw) (Q Q' : RV → Prop) (k : ∀ r, Q r → Q' r) (q : oEqM a b Q) : oEqM a b Q' := by
  unfold oEqM at q ⊢
  split at q
  · obtain ⟨l1, l2, a, b, c, d, q⟩ := q; exact ⟨l1, l2, a, b, c, d, k _ q⟩
  · exact q
/-! ### a list's == with an empty one -/
section
variable {X : Cx}
end
/-! ### * -/
section
variable {X : Cx}
/-- so many times a text -/
def strMul (x : Str) (n : Int) : Str := ⟨(List.replicate n.toNat x.cps.toList).flatten.toArray⟩
end
def oMulX : Op2 := fun a b Q => match b with
  | .wv (.int j) => match a with
    | .wv (.int i) => CMulW i j ∧ Q (.val (.int (i * j)))
    | .wv (.str x) => (0 ≤ j ∧ j ≤ 1000 ∧ x.length ≤ 1000) ∧ Q (.val (.str (strMul x j)))
    | a => ∃ xs, a.seq = some xs ∧ (-(2 ^ 63) ≤ j ∧ j < 2 ^ 63 ∧ xs.length * j.toNat ≤ sizeLine) ∧ Q (.own (.seq (List.replicate j.toNat xs).flatten))
  | _ => False
theorem oMulX.mono (a b : Vw) (Q Q' : RV → Prop) (k : ∀ r, Q r → Q' r) (q : oMulX a b Q) : oMulX a b Q' := by
  unfold oMulX at q ⊢
  split at q
  · split at q
    · exact ⟨q.1, k _ q.2⟩
    · exact ⟨q.1, k _ q.2⟩
    · obtain ⟨xs, e, z, q⟩ := q; exact ⟨xs, e, z, k _ q⟩
  · exact q
section
variable {X : Cx} {G : Gx} {a b : Expr} {ta tb : AT} {pos : Pos}
end
/-! ### str(n), f-strings -/
abbrev AJT := AEnv → AH → (Str → AEnv → AH → Prop) → Prop
/-- {e}: a text or an int -/
def fmtV (v : Vw) (Q : Str → Prop) : Prop := match v with
  | .wv (.str y) => y.length ≤ sizeLine ∧ Q y
  | .wv (.int i) => i.natAbs.log2 < 1920 ∧ Q (toString i)
  | _ => False
def aFmt (t : AT) : AT := fun env h Q => t env h fun r env1 h1 => fmtV (view env1 h1 r) fun y => Q (.val (.str y)) env1 h1
theorem fmtV.imp {v : Vw} {Q Q' : Str → Prop} (k : ∀ y, Q y → Q' y) (q : fmtV v Q) : fmtV v Q' := by
  unfold fmtV at q ⊢
  split at q
  · exact ⟨q.1, k _ q.2⟩
  · exact ⟨q.1, k _ q.2⟩
  · exact q
theorem aFmt.mono {t : AT} (m : Mono t) : Mono (aFmt t) := fun env h Q Q' k q => m env h _ _ (fun r e g z => z.imp fun y z => k _ _ _ z) q
/-- the parts, one behind the other -/
def jsL : List AT → Str → AJT
  | [], acc => fun env h Q => Q acc env h
  | t :: ts, acc => fun env h Q => t env h fun r env1 h1 => ∃ y : Str, r = .val (.str y) ∧ (acc ++ y).length ≤ sizeLine ∧ jsL ts (acc ++ y) env1 h1 Q
inductive AJ (X : Cx) (G : Gx) : List Expr → List AT → Prop where
  | nil : AJ X G [] []
  | cons {e : Expr} {t : AT} {es : List Expr} {ts : List AT} (h : AE X G e t) (r : AJ X G es ts) : AJ X G (e :: es) (t :: ts)
section
variable {X : Cx} {G : Gx} {e v1 v2 : Expr} {t : AT} {es rest : List Expr} {ts : List AT} {pos : Pos}
theorem AJ.mono (a : AJ X G es ts) : ∀ acc, Mono (jsL ts acc) := by
  induction a with
  | nil => exact fun acc env h Q Q' k q => k _ _ _ q
  | cons h r ih => exact fun acc env g Q Q' k q => h.mono env g _ _ (fun r e g ⟨y, e1, e2, z⟩ => ⟨y, e1, e2, ih _ _ _ _ _ k z⟩) q
end
end Ab

/-! Ab55: texts walked, texts in texts, text constants; d[k] among targets. -/
namespace Ab
open PySem PySem.Spec PyProof.Rows L2 RZ
/-! ### for sign in text -/
def strW (x : Str) : List W := x.cps.toList.map fun c => .str ⟨#[c]⟩
section
variable {X : Cx} {G : Gx} {tg e a b o k : Expr} {t ta tb to : AT} {tk : AVT} {pos : Pos}
/-! ### sign in text -/
def strIn (i j : Str) : Bool := !(Builtin.Str.occurrences j i 0 j.length 1).isEmpty
def oInS (neg : Bool) : Op2 := fun a b Q => match a, b with
  | .wv (.str i), .wv (.str j) => Q (.val (.bl (if neg = true then !strIn i j else strIn i j)))
  | _, _ => False
theorem oInS.mono {neg : Bool} (a b : Vw) (Q Q' : RV → Prop) (k : ∀ r, Q r → Q' r) (q : oInS neg a b Q) : oInS neg a b Q' := by
  unfold oInS at q ⊢
  split at q
  · exact k _ q
  · exact q
/-! ### d[k] among targets -/
end
end Ab

/-! Ab56: two rules with fewer premises. -/
namespace Ab
open PySem PySem.Spec PyProof.Rows L2 RZ
section
variable {X : Cx} {G : Gx} {i a b : Nat} {n f A B Sn : Str} {kx vx : Expr} {pos p1 p2 p3 p4 p5 p6 p7 : Pos} {k0 : Nat} {tk tv : AVT} {scope : Scope} {own : List (Str × Nat)}
end
section
variable {X : Cx} {G : Gx} {elt tg iter : Expr} {ifs : List Expr} {scope : Scope} {own : List (Str × Nat)} {pos : Pos} {ti : AIL} {g : AGT} {tt : ABT} {te : AVT} {sl : List Nat}
variable {ti1 : AIL} {g1 : AGT} {tt1 : ABT} {vs1 sl1 : List Nat} {tg1 iter1 : Expr} {ifs1 : List Expr}
theorem ae_lc2O (hc : X.calm = true) (hN : X.N.Nodup) (hi : AI2 X G tg iter ti) (ok : BlkOk X.N X.env.scope scope own) (hv : ∀ i ∈ vs1, i ∈ own.map (·.2)) (hsl : ∀ i ∈ sl, i ∈ own.map (·.2)) (hsl1 : ∀ i ∈ sl1, i ∈ vs1)
    (hg : ∀ (s : Shared) (H : Hp) (C : Addr) (cl : List (Str × Addr)) (fp : List Addr), AG (X.blk s H scope (compEnvC scope cl C X.env) fp) G tg sl g) (ht : ∀ (s : Shared) (H : Hp) (C : Addr) (cl : List (Str × Addr)) (fp : List Addr), APs (X.blk s H scope (compEnvC scope cl C X.env) fp) G ifs tt)
    (hi1 : ∀ (s : Shared) (H : Hp) (C : Addr) (cl : List (Str × Addr)) (fp : List Addr), AI2 (X.blk s H scope (compEnvC scope cl C X.env) fp) G tg1 iter1 ti1)
    (hg1 : ∀ (s : Shared) (H : Hp) (C : Addr) (cl : List (Str × Addr)) (fp : List Addr), AG (X.blk s H scope (compEnvC scope cl C X.env) fp) G tg1 sl1 g1) (ht1 : ∀ (s : Shared) (H : Hp) (C : Addr) (cl : List (Str × Addr)) (fp : List Addr), APs (X.blk s H scope (compEnvC scope cl C X.env) fp) G ifs1 tt1)
    (he : ∀ (s : Shared) (H : Hp) (C : Addr) (cl : List (Str × Addr)) (fp : List Addr), AV (X.blk s H scope (compEnvC scope cl C X.env) fp) G elt te)
    (hs : ∀ x, foldedSetIterable iter X.env x = pure x := by intro _; rfl) (hs1 : ∀ env x, foldedSetIterable iter1 env x = pure x := by intro _ _; rfl) :
    AE X G (.ListComp elt [⟨tg, iter, ifs, 0⟩, ⟨tg1, iter1, ifs1, 0⟩] scope pos) (aLc2 (own.map (·.2)) ti g tt ti1 vs1 g1 tt1 te) :=
  ae_lc2 hc hN hi ok hv hsl hsl1 hg ht hi1 hg1 ht1 he (hg X.s_0 X.H_0 0 [] []).mono (ht X.s_0 X.H_0 0 [] []).mono (hi1 X.s_0 X.H_0 0 [] []).mono (hg1 X.s_0 X.H_0 0 [] []).mono (ht1 X.s_0 X.H_0 0 [] []).mono (he X.s_0 X.H_0 0 [] []).mono hs hs1
end
end Ab

namespace Ab
open PySem PySem.Spec PyProof.Rows L2 RZ
/-! ### what the head keeps of the top's heap: no lists -/
def isLs (o : Obj) : Bool := match o.cls with
  | .type c => decide (c = "list")
  | _ => false
def frK (g : Addr → Option Obj) (as : List Addr) : PySem.W.Frag := He.frG (fun a => (g a).bind fun o => if isLs o = true then none else some o) as
theorem frK_in {as : List Addr} {h : Heap} : (frK h.get? as).In h := fun a o e => by
  have z := He.frG_at (g := fun a => (h.get? a).bind fun o => if isLs o = true then none else some o) as e
  cases q : h.get? a with
  | none => rw [q] at z; cases z
  | some u =>
    rw [q] at z
    have z : (if isLs u = true then none else some u) = some o := z
    split at z
    · cases z
    · exact z
def NoLs (K : PySem.W.Frag) : Prop := ∀ a o, K.lookup a = some o → o.cls ≠ .type "list"
theorem frK_no {g : Addr → Option Obj} {as : List Addr} : NoLs (frK g as) := fun a o e c => by
  have z := He.frG_at (g := fun a => (g a).bind fun o => if isLs o = true then none else some o) as e
  cases q : g a with
  | none => rw [q] at z; cases z
  | some u =>
    rw [q] at z
    have z : (if isLs u = true then none else some u) = some o := z
    split at z
    · cases z
    · rename_i n
      cases z
      exact n (by unfold isLs; rw [c]; rfl)
def refsK (g : Addr → Option Obj) (a : Addr) : List Addr := match g a with
  | some o => match o.data with
    | .seq its _ => its.toList.flatMap He.refV
    | .dict es _ => es.toList.flatMap fun e => He.refV e.val
    | .func fd => He.refV fd.code ++ He.refV fd.defaults ++ He.refV fd.kwdefaults ++ fd.closure.map (·.2)
    | .cls cd => [cd.ns]
    | .cell (some v) => He.refV v
    | _ => []
  | none => []
/-- the module's names; what they name; a class's names; its methods; their codes -/
def asK (g : Addr → Option Obj) : List Addr :=
  let l1 := refsK g mainGlobals
  let l2 := l1.flatMap (refsK g)
  let l3 := l2.flatMap (refsK g)
  let l4 := l3.flatMap (refsK g)
  mainGlobals :: (l1 ++ l2 ++ l3 ++ l4)
/-- and, where defs make lambdas, the mark and these defs' code objects -/
def asL (g : Addr → Option Obj) (ls : List Str) : List Addr := match ls with
  | [] => asK g
  | l :: r => asK g ++ markA :: (l :: r).map fun x => He.codeOf (frK g (asK g)) (x, none)
abbrev AlK : Type := He.AlD × Bool
def tabB (g : Addr → Option Obj) (K : PySem.W.Frag) : Bool := (csOf K).all fun p => PySem.W.codeHdIn K p.1.1 p.1.2 && (match K.lookup p.1.2 with
  | none => true
  | some _ => false) && (match g p.1.2 with
  | some o => He.emptyTab o
  | none => false)
def TabE (K : PySem.W.Frag) (h : Heap) : Prop := ∀ p ∈ csOf K, PySem.W.codeHdIn K p.1.1 p.1.2 = true ∧ K.lookup p.1.2 = none ∧ h.get? p.1.2 = some { cls := .none, data := .fields #[] }
theorem tabB_ok {h : Heap} {K : PySem.W.Frag} (e : tabB h.get? K = true) : TabE K h := fun p hp => by
  have z := List.all_eq_true.mp e p hp
  simp only [Bool.and_eq_true] at z
  obtain ⟨⟨z1, z2⟩, z3⟩ := z
  refine ⟨z1, ?_, ?_⟩
  · cases q : K.lookup p.1.2 with
    | none => rfl
    | some o => rw [q] at z2; cases z2
  · cases q : h.get? p.1.2 with
    | none => rw [q] at z3; cases z3
    | some o => rw [q] at z3; rw [He.emptyTab_eq z3]
def obsK (fa : List He.Fa) (fn : List He.DefD) (ex : PySem.W.Frag → Bool) (ls : List Str) (g : Addr → Option Obj) : AlK :=
  let K := frK g (asL g ls)
  (He.obsD fa fn K, ex K && tabB g K)
def hookK (fa : List He.Fa) (fn : List He.DefD) (ex : PySem.W.Frag → Bool) (ls : List Str) : PySem.W.Hook where
  α := AlK
  obs := fun s => obsK fa fn ex ls s.heap.get?
  val := fun _ => (He.valD fn, true)
  says := fun _ h => ∃ K : PySem.W.Frag, K.In h ∧ (He.SaysD fa fn K ∧ ex K = true) ∧ NoLs K ∧ TabE K h
  of := fun _ _ e => by
    have z := congrArg Prod.snd e
    have z := Bool.and_eq_true_iff.mp z
    exact ⟨_, frK_in, ⟨congrArg Prod.fst e, z.1⟩, frK_no, tabB_ok z.2⟩
  keeps := fun _ _ _ ⟨K, hK, c, n, t⟩ k => ⟨K, PySem.W.Frag.In.keeps hK k, c, n, fun p hp => ⟨(t p hp).1, (t p hp).2.1, k _ _ (t p hp).2.2⟩⟩
theorem obsK_eq {fa : List He.Fa} {fn : List He.DefD} {ex : PySem.W.Frag → Bool} {ls : List Str} {g : Addr → Option Obj} {s : Shared} (h : ∀ a, g a = s.heap.get? a) : obsK fa fn ex ls g = (hookK fa fn ex ls).obs s := by
  have e : g = s.heap.get? := funext h
  rw [e] <;> rfl
theorem FunD.one {K : PySem.W.Frag} {x q x' q' : Str} {a a' : Arguments} {b b' : List Stmt} {sc sc' : Scope} {d d' : List V} {k k' : List (Str × V)} {f : Addr} {fd fd' : FuncData} (F : FunD K x q a b sc d k f fd) (F' : FunD K x' q' a' b' sc' d' k' f fd') : fd = fd' := by
  obtain ⟨oc, od, dV, kV, doc, pm, an, cdv, ct, osl, _, lk, _⟩ := F.ex
  obtain ⟨oc', od', dV', kV', doc', pm', an', cdv', ct', osl', _, lk', _⟩ := F'.ex
  rw [lk] at lk'
  cases lk'
  rfl
/-! ### defs that make lambdas: their code objects stand behind the mark -/
def lamB (K : PySem.W.Frag) (x : Str) : Bool := match K.lookup (He.fAd K (x, none)) with
  | some ⟨_, _, .func fd, _⟩ => (match fd.code with
    | .ref c => (csOf K).any fun p => decide (p.1.1 = c) && decide (p.2 = x ++ ".<locals>." ++ "<lambda>")
    | _ => false)
  | _ => false
def uniB (K : PySem.W.Frag) : Bool := (csOf K).all fun p => (csOf K).all fun p' => !decide (p.1.2 = p'.1.2) || decide (p.2 = p'.2)
theorem makes_of {K : PySem.W.Frag} {mg : Str → Option Value} {base : Heap} {x : Str} (h : lamB K x = true) (u : uniB K = true) (tb : ∀ p ∈ (csOf K).map (·.1), LamX.TabB base mg p.1 p.2) : ∀ cdv, CodeOf K (He.fAd K (x, none)) cdv → MakesL K mg base (x ++ ".<locals>." ++ "<lambda>") cdv := fun cdv ⟨oc, od, fd, osl, lk, ec⟩ => by
  unfold lamB at h
  rw [lk] at h
  have h : (match fd.code with
    | .ref c => (csOf K).any fun p => decide (p.1.1 = c) && decide (p.2 = x ++ ".<locals>." ++ "<lambda>")
    | _ => false) = true := h
  rw [ec] at h
  cases cdv with
  | ref c =>
    have h : ((csOf K).any fun p => decide (p.1.1 = c) && decide (p.2 = x ++ ".<locals>." ++ "<lambda>")) = true := h
    obtain ⟨p, hp, z⟩ := List.any_eq_true.mp h
    simp only [Bool.and_eq_true, decide_eq_true_eq] at z
    obtain ⟨z1, z2⟩ := z
    refine ⟨c, p.1.2, rfl, z1 ▸ tb p.1 (List.mem_map.mpr ⟨p, hp, rfl⟩), List.mem_map.mpr ⟨p, hp, by rw [z2]⟩, fun t ht e => ?_⟩
    obtain ⟨p', hp', rfl⟩ := List.mem_map.mp ht
    have y := List.all_eq_true.mp (List.all_eq_true.mp u p' hp') p hp
    simp only [Bool.or_eq_true, Bool.not_eq_true', decide_eq_true_eq, decide_eq_false_iff_not] at y
    rcases y with y | y
    · exact absurd e y
    · exact y.trans z2
  | _ => cases h
/-! ### the law's call -/
def LawSp (sp : ASp) : Prop := ∀ (ns : List Int), ns.length ≤ 63 → sp [W.lst (ns.map .int)] (fun _ => none) (fun r _ => r = .val (.bl true)) fun _ _ => False
/-- the script in the heap, as it may stand there -/
def lawS (K : PySem.W.Frag) : Sp := fun vs H Q _ => ∃ (a : Addr) (ns : List Int), vs = [.ref a] ∧ ns.length ≤ 63 ∧ SqL K H a (ns.map V.int) ∧ (∀ p ∈ csOf K, H p.1.2 = some (.tbl #[])) ∧ (∀ H', Q (.bl true) H')
theorem law_at {K : PySem.W.Frag} {sp : ASp} (ls : LawSp sp) {H : Hp} {a : Addr} {ns : List Int} {Q : VK} {E : XK} (hl : ns.length ≤ 63) (hS : LsF H a (ns.map V.int)) (hT : TabsK K H) (q : ∀ H', Q (.bl true) H') : cSp K 1 sp [.ref a] H Q E :=
  ⟨[.lst (ns.map .int)], fun _ => none, _, _, rfl, (fun _ _ e => nomatch e), hT, .cons (.lst hS .ints) .nil, ls ns hl, fun r h' v H' e _ rr => by
    subst e
    have z := Rep.of_bl (K := K) (H := H') rr
    rw [z]; exact q H', fun _ _ _ _ _ z _ _ => z.elim⟩
theorem tabs_at {K : PySem.W.Frag} {H : Hp} (h : ∀ p ∈ csOf K, H p.1.2 = some (.tbl #[])) : TabsK K H := fun p hp => by
  obtain ⟨q, hq, rfl⟩ := List.mem_map.mp hp
  exact LamX.TabS.nil (h q hq)
theorem law_fn {P : Program} {w : World} {K : PySem.W.Frag} {mg : Str → Option Value} {base : Heap} {k : Nat} {f : Addr} {fd : FuncData} {ps : List Str} {sp : ASp} (ls : LawSp sp) (no : NoLs K) (F : FnOk P w K mg base (L2.CX P w) k f fd ps (cSp K 1 sp)) (hp : ps.length = 1) :
    FnOk P w K mg base (L2.CX P w) k f fd ps (lawS K) := by
  refine ⟨fun vs H Q E ⟨a, ns, e, _⟩ => by rw [e, hp]; rfl, fun A outer s H args us vs Q E hr e0 hb hv ⟨a, ns, ev, hl, hS, hT, q⟩ => ?_⟩
  subst ev
  rcases hS with (h | h) | ⟨o, its, n, l, c, _⟩
  · -- a list: locked for good
    obtain ⟨l1, its, n, rv, ho⟩ := e0.hok a _ h
    have keep : ∀ b o, H b = some o → (∀ xs, o ≠ .lst xs) → upd H a (.frz { cls := .type "list", data := .seq its.toArray n } (.lst (ns.map V.int))) b = some o := fun b o e m => by
      have ne : b ≠ a := fun z => by
        rw [z, h] at e
        exact m _ (Option.some.inj e).symm
      rw [upd_ne ne]; exact e
    have non : ∀ b, H b = none → upd H a (.frz { cls := .type "list", data := .seq its.toArray n } (.lst (ns.map V.int))) b = none := fun b e => by
      have ne : b ≠ a := fun z => by rw [z, h] at e; cases e
      rw [upd_ne ne]; exact e
    have sub : ∀ b o, ObjOk P w H s.heap b o → ObjOk P w (upd H a (.frz { cls := .type "list", data := .seq its.toArray n } (.lst (ns.map V.int)))) s.heap b o := by
      intro b o
      induction o with
      | dT kvs =>
        rintro ⟨a1, a2, xs, a3, a4⟩
        exact ⟨a1, a2, xs, a3.mono fun x y ⟨b1, b2, b3⟩ => ⟨b1, keep _ _ b2 (fun xs z => by cases z), b3⟩, a4⟩
      | ins C dx fs =>
        rintro ⟨a1, a2⟩
        exact ⟨keep _ _ a1 (fun xs z => by cases z), a2⟩
      | frz o u ih => rintro ⟨a1, a2⟩; exact ⟨a1, ih a2⟩
      | _ => exact id
    have hok : HOk P w (upd H a (.frz { cls := .type "list", data := .seq its.toArray n } (.lst (ns.map V.int)))) s.heap := fun b o e => by
      by_cases hb : b = a
      · subst hb
        rw [upd_same] at e
        cases e
        exact ⟨ho, l1, its, n, rv, ho⟩
      · rw [upd_ne hb] at e
        exact sub b o (e0.hok b o e)
    have hT2 : TabsK K (upd H a (.frz { cls := .type "list", data := .seq its.toArray n } (.lst (ns.map V.int)))) := tabs_at fun p m => keep _ _ (hT p m) fun xs z => by cases z
    have run := F.run A outer s _ args us [.ref a] Q E hr ⟨e0.frames, e0.mod, fun b o e => ⟨(e0.bs b o e).1, non b (e0.bs b o e).2⟩, e0.bsz, e0.funs, fun b m => non b (e0.frf b m), hok, e0.bare⟩ hb hv (law_at ls hl ⟨_, upd_same⟩ hT2 q)
    refine codeAny_mono run fun r s' z => ?_
    cases r with
    | error e =>
      obtain ⟨a', B, H', cls, d, e1, e2, e3, e4, e5, e6, e7, e8⟩ := z
      have nn : ∀ b, upd H a (.frz { cls := .type "list", data := .seq its.toArray n } (.lst (ns.map V.int))) b = none → H b = none := fun b e => by
        by_cases hb : b = a
        · subst hb; rw [upd_same] at e; cases e
        · rw [upd_ne hb] at e; exact e
      exact ⟨a', B, H', cls, d, e1, e2, e3, ⟨fun b o x y => e4.keep b o x (non b y), e4.slot, fun b o x y => e4.free b o x (non b y), e4.there, fun b xs x => e4.tups b xs (keep _ _ x fun xs z => by cases z), fun b o u x => e4.frzs b o u (keep _ _ x fun xs z => by cases z), fun b ps x => e4.tbls b ps (keep _ _ x fun xs z => by cases z)⟩, e5, e6, e7, e8⟩
    | ok fl =>
      cases fl with
      | ret u =>
        obtain ⟨v, H', e1, e2, e3, e4, e5, e6⟩ := z
        exact ⟨v, H', e1, e2, ⟨fun b o x y => e3.keep b o x (non b y), fun b o x y => e3.slot b o x (non b y), fun b o x y => e3.free b o x (non b y), e3.there, fun b xs x => e3.tups b xs (keep _ _ x fun xs z => by cases z), fun b o u x => e3.frzs b o u (keep _ _ x fun xs z => by cases z), fun b ps x => e3.tbls b ps (keep _ _ x fun xs z => by cases z)⟩, e4, e5, e6⟩
      | next => exact z
      | brk => exact z
      | cont => exact z
  · exact F.run A outer s H args us [.ref a] Q E hr e0 hb hv (law_at ls hl h (tabs_at hT) q)
  · exact absurd c (no a o l)
theorem cx_no {P : Program} {w : World} (H : Hp) (s : Shared) (e : Value) (s' : Shared) (z : L2.CX P w [] H s (fun _ _ _ => False) e s') : False := by
  obtain ⟨_, _, _, _, _, _, _, _, _, _, _, _, z⟩ := z
  exact z
/-- the end of a head whose law may hold exceptions within -/
theorem walk_end {l : PySem.W.OpenLaw} {j : Nat} {vw : Program} {lo : List Str} {A : (Str → Option Value) → Heap → Prop} {B : World → Heap → Prop} {d : DefRec} {y : Str} (h1 : l.most = some 63) (h3 : d.params.defaults = []) (h4 : Room j callerA)
    (F : ∀ (u : World) (g : Str → Option Value) (at_ : Addr) (hp : Heap), B u hp → hp.Ns mainGlobals g → g d.name = some (.ref at_) → ∃ (K : PySem.W.Frag) (fd : FuncData) (sp : ASp), K.In hp ∧ NoLs K ∧ TabE K hp ∧ LawSp sp ∧ (∀ (t : Shared) (z : Value), BindsTo t fd ⟨[z], []⟩ [(y, z)]) ∧
      ∀ base : Heap, (∀ p ∈ (csOf K).map (·.1), LamX.TabB base g p.1 p.2) → FnOk l.prog u K g base (L2.CX l.prog u) j at_ fd [y] (cSp K 1 sp)) :
    PySem.W.WalkO vw lo A B l.row.toRowW d [] (fun f vs => PySem.call f vs) :=
  LamX.walk_ofTsE h1 (by decide) h3 h4 (fun u g at_ hp yb ns named =>
    let ⟨K, fd, sp, inK, no, te, ls, bind, ok⟩ := F u g at_ hp yb ns named
    ⟨K, inK, fd, (csOf K).map (·.1), lawS K, fun p m => (by obtain ⟨q, hq, rfl⟩ := List.mem_map.mp m; exact (te q hq).2.2), fun p m => (by obtain ⟨q, hq, rfl⟩ := List.mem_map.mp m; exact (te q hq).2.1),
      fun p m => (by obtain ⟨q, hq, rfl⟩ := List.mem_map.mp m; exact PySem.W.codeHd_of_K inK (te q hq).1), bind,
      fun H b is few _ hT seq => ⟨b, is, rfl, few, seq, fun p m => hT p.1 (List.mem_map.mpr ⟨p, m, rfl⟩), fun _ => rfl⟩, fun base _ _ tb => law_fn ls no (ok base tb) rfl⟩) fun u H s e s' => cx_no H s e s'
end Ab

namespace Ab
open PySem PySem.Spec PyProof.Rows L2
/-! ### what the head says of an own class of errors -/
def tailB (n : String) (bm : List Value) : Bool := (decide (n = "ValueError.__new__") && refsT tlV bm) || ((decide (n = "LookupError.__new__") && refsT tlL bm) || (decide (n = "IndexError.__new__") && refsT tlI bm))
theorem tailB_ok {n : String} {bm : List Value} (h : tailB n bm = true) : ∃ B ii bmB, ExcBaseFacts B n ii bmB ∧ MroG bm bmB := by
  unfold tailB at h
  rcases Bool.or_eq_true_iff.mp h with h | h
  · obtain ⟨a, b⟩ := Bool.and_eq_true_iff.mp h
    obtain rfl := of_decide_eq_true a
    exact ⟨_, _, _, F.excBase_ValueError, refsT_mro mro_V _ b⟩
  rcases Bool.or_eq_true_iff.mp h with h | h
  · obtain ⟨a, b⟩ := Bool.and_eq_true_iff.mp h
    obtain rfl := of_decide_eq_true a
    exact ⟨_, _, _, F.excBase_LookupError, refsT_mro mro_L _ b⟩
  · obtain ⟨a, b⟩ := Bool.and_eq_true_iff.mp h
    obtain rfl := of_decide_eq_true a
    exact ⟨_, _, _, F.excBase_IndexError, refsT_mro mro_I _ b⟩
def clsB (K : PySem.W.Frag) (C : Addr) : Bool := match K.lookup C with
  | some ⟨.type t, _, .cls cd, sl⟩ => decide (t = "type") && (match cd.mro, sl.toList with
    | .ref C' :: bm, [_, _, _, _, some (.builtin n), _] => decide (C' = C) && (tailB n bm && (!cd.hasDel && cd.hasDict))
    | _, _ => false)
  | _ => false
theorem clsB_ok {K : PySem.W.Frag} {C : Addr} (h : clsB K C = true) : ∃ nm q N bs bm bmB B newId initId sn sub ab col dd k0 k1 k2 k3 k5, K.lookup C = some (excClassObj nm q C N bs bm true sn sub ab col dd k0 k1 k2 k3 k5 newId) ∧ ExcBaseFacts B newId initId bmB ∧ MroG bm bmB := by
  unfold clsB at h
  split at h
  · rename_i t dd cd sl e
    obtain ⟨h1, h⟩ := Bool.and_eq_true_iff.mp h
    split at h
    · rename_i C' bm k0 k1 k2 k3 n k5 hm hs
      obtain ⟨h2, h⟩ := Bool.and_eq_true_iff.mp h
      obtain ⟨h3, h⟩ := Bool.and_eq_true_iff.mp h
      obtain ⟨h4, h5⟩ := Bool.and_eq_true_iff.mp h
      have h1 := of_decide_eq_true h1
      have h2 := of_decide_eq_true h2
      obtain ⟨B, ii, bmB, FB, M⟩ := tailB_ok h3
      obtain ⟨nm, bs, mro, ns, qn, hd, sn, sub, ab, col, del⟩ := cd
      dsimp only at hm h4 h5
      have h4 : del = false := by simpa using h4
      subst h1 h2 hm h4 h5
      have es : sl = #[k0, k1, k2, k3, some (.builtin n), k5] := by
        obtain ⟨l⟩ := sl
        simp only at hs
        rw [hs]
      subst es
      exact ⟨nm, qn, ns, bs, bm, bmB, B, n, ii, sn, sub, ab, col, dd, k0, k1, k2, k3, k5, e, FB, M⟩
    · cases h
  · cases h
def xkB (K : PySem.W.Frag) (x : Str) (fs : List Str) : Bool :=
  clsB K (He.ga K x) && (decide (PySem.W.findIn K (.ref (He.ga K x)) "__setattr__" = some (some (.builtin "object.__setattr__"))) && (decide (PySem.W.subIn K (.ref (He.ga K x)) (.type "BaseException") = some true) &&
    (decide (PySem.W.typeIn K (.ref (He.ga K x)) = some (.type "type")) && (PySem.W.keepIn K (.ref (He.ga K x)) && (decide (PySem.W.findIn K (.ref (He.ga K x)) "__init__" = some (some (.ref (He.ma K (He.ga K x) "__init__")))) &&
      (decide (PySem.W.typeIn K (.ref (He.ma K (He.ga K x) "__init__")) = some (.type "function")) && (xfB K (He.ga K x) && (("word" : Str) :: fs).all fun f => decide (PySem.W.findIn K (.ref (He.ga K x)) f = some none))))))))
structure XkF (K : PySem.W.Frag) (x : Str) (fs : List Str) : Prop where
  cls : OexG K (He.ga K x)
  ini : PySem.W.findIn K (.ref (He.ga K x)) "__init__" = some (some (.ref (He.ma K (He.ga K x) "__init__")))
  fn : PySem.W.typeIn K (.ref (He.ma K (He.ga K x) "__init__")) = some (.type "function")
  xf : XfC K (He.ga K x)
  no : ∀ f ∈ ("word" : Str) :: fs, PySem.W.findIn K (.ref (He.ga K x)) f = some none
theorem xk_ok {K : PySem.W.Frag} {x : Str} {fs : List Str} (h : xkB K x fs = true) : XkF K x fs := by
  unfold xkB at h
  obtain ⟨h1, h⟩ := Bool.and_eq_true_iff.mp h
  obtain ⟨h2, h⟩ := Bool.and_eq_true_iff.mp h
  obtain ⟨h3, h⟩ := Bool.and_eq_true_iff.mp h
  obtain ⟨h4, h⟩ := Bool.and_eq_true_iff.mp h
  obtain ⟨h5, h⟩ := Bool.and_eq_true_iff.mp h
  obtain ⟨h6, h⟩ := Bool.and_eq_true_iff.mp h
  obtain ⟨h7, h⟩ := Bool.and_eq_true_iff.mp h
  obtain ⟨h8, h9⟩ := Bool.and_eq_true_iff.mp h
  exact ⟨⟨clsB_ok h1, of_decide_eq_true h2, of_decide_eq_true h3, of_decide_eq_true h4, h5⟩, of_decide_eq_true h6, of_decide_eq_true h7, xfB_ok h8, fun f m => of_decide_eq_true (List.all_eq_true.mp h9 f m)⟩
/-- which clauses hit which errors -/
def exmB (K : PySem.W.Frag) (ks : List Str) (c : Str) : Bool := ks.all fun k => decide (PySem.W.exmOne K (.ref (He.ga K k)) (.ref (He.ga K c)) = some (subX k c))
theorem exm_of {K : PySem.W.Frag} {ks : List Str} {c : Str} (h : exmB K ks c = true) : ∀ k ∈ ks, PySem.W.exmOne K (.ref (He.ga K k)) (.ref (He.ga K c)) = some (subX k c) := fun k m => of_decide_eq_true (List.all_eq_true.mp h k m)
/-- classes whose instances have f from their own dict alone -/
def fldB (K : PySem.W.Frag) (ks : List Str) (f : Str) : Bool := ks.all fun c => xfB K (He.ga K c) && decide (PySem.W.findIn K (.ref (He.ga K c)) f = some none)
theorem fld_of {K : PySem.W.Frag} {ks : List Str} {f : Str} (h : fldB K ks f = true) : ∀ c ∈ ks, XfC K (He.ga K c) ∧ PySem.W.findIn K (.ref (He.ga K c)) f = some none := fun c m => by
  obtain ⟨a, b⟩ := Bool.and_eq_true_iff.mp (List.all_eq_true.mp h c m)
  exact ⟨xfB_ok a, of_decide_eq_true b⟩
theorem xk1 {P : Program} {w : World} {K : PySem.W.Frag} {mg : Str → Option Value} {base : Heap} {x qual word f : Str} {params : Arguments} {scope : Scope} {fd : FuncData} {q1 q2 q3 q4 q5 q6 q7 q8 : Pos} {j : Nat} (X : XkF K x [f]) (gl : mg x = some (.ref (He.ga K x)))
    (F : FunD K "__init__" qual params [.Assign [.Attribute (.Name "self" q1) "word" q2] (.Constant (.str word) j q3) q4, .Assign [.Attribute (.Name "self" q5) f q6] (.Name f q7) q8] scope [] [] (He.ma K (He.ga K x) "__init__") fd) (S : FnScope ["self", f] ["self", f] scope)
    (bd : ∀ (kV doc pm : Value) (an : Option Addr) (cdv ct : Value) (us : List Value), us.length = 2 → bindArgs (PySem.W.fnOf "__init__" qual params [.Assign [.Attribute (.Name "self" q1) "word" q2] (.Constant (.str word) j q3) q4, .Assign [.Attribute (.Name "self" q5) f q6] (.Name f q7) q8] scope .none kV doc pm an cdv ct) ⟨us, []⟩ = pure ((["self", f] : List Str).zip us))
    (hd : (f == ("__debug__" : Str)) = false := by decide) (hcd : (f == ("__classdict__" : Str)) = false := by decide) : XkOk P w K mg base x word [f] :=
  ⟨gl, X.cls, _, fd, ["self", f], X.ini, X.fn, F.bindsN bd, init1 F S X.cls (X.no _ (by simp)) (X.no _ (by simp)) hd hcd⟩
/-! ### no tuple of the written part holds whole numbers only -/
end Ab

/-! Mc1: a def as a function of its arguments, in continuation style; its local names are Lean's own. -/
namespace Ab
open PySem PySem.Spec PyProof.Rows L2 RZ
abbrev MC := AH → (RR → AH → Prop) → (AExc → AH → Prop) → Prop
abbrev CE := (SV → MC) → MC
abbrev CW := (W → MC) → MC
abbrev CB := (Bool → MC) → MC
abbrev CS := (List SV → MC) → MC
abbrev CWs := (List W → MC) → MC
abbrev CO := (Option Int → MC) → MC
def SV.fz : SV → W
  | .val w => w
  | .own c => c.fz
def SV.rr : SV → RR
  | .val w => .val w
  | .own c => .own c
def SV.rv : SV → RV
  | .val w => .val w
  | .own c => .own c
def RR.sv : RR → SV
  | .val w => .val w
  | .own c => .own c
def svw (h : AH) : SV → Vw
  | .val w => viewW h w
  | .own c => .cv c
def bad : MC := fun _ _ _ => False
def req (p : Prop) (m : MC) : MC := fun h Q E => p ∧ m h Q E
def ret (x : SV) : MC := fun h Q _ => Q x.rr h
def kRv (k : SV → MC) : RV → MC
  | .val w => k (.val w)
  | .own c => k (.own c)
  | .slot _ => bad
/-! ### operators' names -/
def oSub : Op2 := oII (fun _ _ => True) fun i j => .int (i - j)
def oMod : Op2 := oII CMod fun i j => .int (i % j)
def oFdiv : Op2 := oII CDivW fun i j => .int (i / j)
def oPow : Op2 := oII CPow fun i j => .int (i ^ j.toNat)
def oLt : Op2 := oII (fun _ _ => True) fun i j => .bl (decide (i < j))
def oLe : Op2 := oII (fun _ _ => True) fun i j => .bl (decide (i ≤ j))
def oGt : Op2 := oII (fun _ _ => True) fun i j => .bl (decide (j < i))
def oGe : Op2 := oII (fun _ _ => True) fun i j => .bl (decide (j ≤ i))
def oAny : OpN := oBls fun bs => bs.any id
def oAll : OpN := oBls fun bs => bs.all id
def oAbs : OpN := o1I fun i => if i < 0 then -i else i
def oMin2 : OpN := o2I fun i j => if j < i then j else i
def oMax2 : OpN := o2I fun i j => if j > i then j else i
/-! ### expressions -/
def eV (x : SV) : CE := fun k => k x
def eC (w : W) : CE := fun k => k (.val w)
def op2 (o : Op2) (x y : SV) (k : SV → MC) : MC := fun h Q E => o (svw h x) (svw h y) fun r => kRv k r h Q E
def eOp2 (o : Op2) (a b : CE) : CE := fun k => a fun x => b fun y => op2 o x y k
def eFz (a : CE) : CW := fun k => a fun x => k x.fz
def wNil : CWs := fun k => k []
def wCons (a : CW) (b : CWs) : CWs := fun k => a fun w => b fun ws => k (w :: ws)
def dispX (ws : List W) (k : SV → MC) : MC := fun h Q E => ∃ (kvs : List (W × W)) (ks : List Key), ws = flat2 kvs ∧ kvs.map (fun p => keyF p.1) = ks.map some ∧ ks.Nodup ∧ kvs.length ≤ 15 ∧ k (.own (.map kvs)) h Q E
def eDisp (a : CWs) : CE := fun k => a fun ws => dispX ws k
def getX (x : SV) (w d : W) (k : SV → MC) : MC := fun h Q E => ∃ kvs key, x = .own (.map kvs) ∧ Keyed kvs ∧ keyF w = some key ∧ k (.val (lookW kvs key d)) h Q E
def eGetD (x : SV) (mk md : CW) : CE := fun k => fun h Q E => (∃ kvs, x = .own (.map kvs)) ∧ (mk fun w => md fun d => getX x w d k) h Q E
def eTup (a : CWs) : CE := fun k => a fun ws => req (ws.length ≤ sizeLine) (k (.val (.tup ws)))
def eLst (a : CWs) : CE := fun k => a fun ws => req (ws.length ≤ sizeLine) (k (.own (.seq ws)))
def asI (x : SV) (k : Int → MC) : MC := fun h Q E => match svw h x with
  | .wv (.int i) => k i h Q E
  | _ => False
def asB (x : SV) (k : Bool → MC) : MC := fun h Q E => match svw h x with
  | .wv (.bl i) => k i h Q E
  | _ => False
def oNo : CO := fun k => k none
def oPart (a : CE) : CO := fun k => a fun x => asI x fun i => k (some i)
def slc (x : SV) (l u : Option Int) (k : SV → MC) : MC := fun h Q E => oSl (svw h x) l u fun r => kRv k r h Q E
def eSl (a : CE) (lo hi : CO) : CE := fun k => a fun x => lo fun l => hi fun u => slc x l u k
def sNil : CS := fun k => k []
def sCons (a : CE) (b : CS) : CS := fun k => a fun x => b fun xs => k (x :: xs)
def cb (o : OpN) (xs : List SV) (k : SV → MC) : MC := fun h Q E => o (xs.map (svw h)) fun r => kRv k r h Q E
def eCB (o : OpN) (a : CS) : CE := fun k => a fun xs => cb o xs k
def tYes : CB := fun k => k true
def tTst (a : CE) : CB := fun k => a fun x => asB x k
def tAnd (a b : CB) : CB := fun k => a fun x => if x = true then b k else k false
def tOr (a b : CB) : CB := fun k => a fun x => if x = true then k true else b k
def tNot (a : CB) : CB := fun k => a fun x => k (!x)
def eIf (c : CB) (a b : CE) : CE := fun k => c fun x => if x = true then a k else b k
def eAnd (a b : CE) : CE := fun k => a fun x => asB x fun c => if c = true then b k else k (.val (.bl false))
def eOr (a b : CE) : CE := fun k => a fun x => asB x fun c => if c = true then k (.val (.bl true)) else b k
def eNot (a : CE) : CE := fun k => a fun x => asB x fun c => k (.val (.bl (!c)))
def eNeg (a : CE) : CE := fun k => a fun x => asI x fun i => k (.val (.int (-i)))
def eChn (P P' : Int → Int → Bool) (a b c : CE) : CE := fun k => a fun x => b fun y => asI x fun i => asI y fun j =>
  if P i j = true then c fun z => asI z fun l => k (.val (.bl (P' j l))) else k (.val (.bl false))
def call (m : MC) (k : SV → MC) : MC := fun h Q E => m h (fun r h' => k r.sv h' Q E) E
def eCall (f : List W → MC) (a : CWs) : CE := fun k => a fun ws => call (f ws) k
/-- .. that raises nothing -/
def call0 (m : MC) (k : SV → MC) : MC := fun h Q E => m h (fun r h' => k r.sv h' Q E) fun _ _ => False
def eCall0 (f : List W → MC) (a : CWs) : CE := fun k => a fun ws => call0 (f ws) k
def raise (x : AExc) : MC := fun h _ E => E x h
/-- keywords: in the order of the parameters -/
def perm (p : List Nat) (ws : List W) (k : List W → MC) : MC := req (ws.length = p.length) (k (p.map fun i => ws.getD i .non))
def wPerm (p : List Nat) (a : CWs) : CWs := fun k => a fun ws => perm p ws k
/-! ### what is walked -/
def items (w : W) (k : List W → MC) : MC := match w with
  | .tup ws => k ws
  | .lst ws => k ws
  | _ => bad
def iItems (a : CW) : CWs := fun k => a fun w => items w k
def rng1 (xs : List SV) (k : List W → MC) : MC := match xs with
  | [x] => asI x fun j => req (-(2 ^ 62) ≤ j ∧ j < 2 ^ 62) (k (rngW 0 j.toNat))
  | _ => bad
def rng2 (xs : List SV) (k : List W → MC) : MC := match xs with
  | [x, y] => asI x fun i => asI y fun j => req (-(2 ^ 62) ≤ i ∧ i < 2 ^ 62 ∧ -(2 ^ 62) ≤ j ∧ j < 2 ^ 62) (k (rngW i (j - i).toNat))
  | _ => bad
def iRng1 (a : CS) : CWs := fun k => a fun xs => rng1 xs k
def iRng2 (a : CS) : CWs := fun k => a fun xs => rng2 xs k
def zip2 (ws : List W) (k : List W → MC) : MC := match ws with
  | [.tup xs, .tup ys] => k (List.zipWith (fun a b => W.tup [a, b]) xs ys)
  | [.lst xs, .lst ys] => k (List.zipWith (fun a b => W.tup [a, b]) xs ys)
  | _ => bad
def iZip (a : CWs) : CWs := fun k => a fun ws => zip2 ws k
def iEnum (a : CW) : CWs := fun k => a fun w => items w fun ws => k (enW ws)
def enz (ws : List W) (k : List W → MC) : MC := match ws with
  | [a, b] => items a fun xs => items b fun ys => k (ezW xs ys)
  | _ => bad
def iEnz (a : CWs) : CWs := fun k => a fun ws => enz ws k
/-! ### targets -/
def un2 (w : W) (k : W → W → MC) : MC := match w with
  | .tup [a, b] => k a b
  | _ => bad
def un3 (w : W) (k : W → W → W → MC) : MC := match w with
  | .tup [a, b, c] => k a b c
  | _ => bad
def un5 (w : W) (k : W → W → W → W → W → MC) : MC := match w with
  | .tup [a, b, c, d, e] => k a b c d e
  | _ => bad
/-- a tuple or a list -/
def uq2 (w : W) (k : W → W → MC) : MC := items w fun ws => match ws with
  | [a, b] => k a b
  | _ => bad
def uq3 (w : W) (k : W → W → W → MC) : MC := items w fun ws => match ws with
  | [a, b, c] => k a b c
  | _ => bad
def uq4 (w : W) (k : W → W → W → W → MC) : MC := items w fun ws => match ws with
  | [a, b, c, d] => k a b c d
  | _ => bad
def uq5 (w : W) (k : W → W → W → W → W → MC) : MC := items w fun ws => match ws with
  | [a, b, c, d, e] => k a b c d e
  | _ => bad
def star (w : W) (k : W → SV → MC) : MC := items w fun ws => match ws with
  | x :: r => k x (.own (.seq r))
  | _ => bad
/-! ### comprehensions, loops -/
def lcL (body : W → (Option W → MC) → MC) (k : List W → MC) : List W → List W → MC
  | [], acc => k acc
  | w :: ws, acc => body w fun o => match o with
    | some y => req (acc.length < sizeLine) (lcL body k ws (acc ++ [y]))
    | none => lcL body k ws acc
def eLc (it : CWs) (body : W → (Option W → MC) → MC) : CE := fun k => it fun ws => lcL body (fun acc => k (.own (.seq acc))) ws []
def forL {σ : Type} (body : W → σ → (σ → MC) → (σ → MC) → MC) (k : σ → MC) : List W → σ → MC
  | [], s => k s
  | w :: ws, s => body w s (forL body k ws) k
def join {σ : Type} (k : σ → MC) (f : (σ → MC) → MC) : MC := f k
/-! ### stores, methods of lists -/
def SV.isSq (h : AH) : SV → Prop
  | .own (.seq _) => True
  | .val (.ref a) => ∃ xs, h a = some (.cont (.seq xs))
  | _ => False
def isq (x : SV) (m : MC) : MC := fun h Q E => x.isSq h ∧ m h Q E
def lm (f : LmT) (x : SV) (ws : List W) (k : SV → W → MC) : MC := fun h Q E => match x with
  | .own (.seq xs) => f xs ws fun xs' w => k (.own (.seq xs')) w h Q E
  | .val (.ref a) => (match h a with
    | some (.cont (.seq xs)) => f xs ws fun xs' w => k (.val (.ref a)) w (updA h a (.cont (.seq xs'))) Q E
    | _ => False)
  | _ => False
def ext (x y : SV) (k : SV → MC) : MC := fun h Q E => match svw h y with
  | .cv (.seq ys) => (match x with
    | .own (.seq xs) => xs.length + ys.length ≤ sizeLine ∧ k (.own (.seq (xs ++ ys))) h Q E
    | .val (.ref a) => (match h a with
      | some (.cont (.seq xs)) => xs.length + ys.length ≤ sizeLine ∧ k (.val (.ref a)) (updA h a (.cont (.seq (xs ++ ys)))) Q E
      | _ => False)
    | _ => False)
  | _ => False
def setIx (x y : SV) (w : W) (k : SV → MC) : MC := fun h Q E => match svw h y with
  | .wv (.int i) => (match x with
    | .own (.seq xs) => ∃ j, ixN xs.length i = some j ∧ k (.own (.seq (xs.set j w))) h Q E
    | .val (.ref a) => (match h a with
      | some (.cont (.seq xs)) => ∃ j, ixN xs.length i = some j ∧ k (.val (.ref a)) (updA h a (.cont (.seq (xs.set j w)))) Q E
      | _ => False)
    | _ => False)
  | _ => False
def augIx (f : Int → Int → Int) (x y : SV) (e : CE) (k : SV → MC) : MC := asI y fun i => req (0 ≤ i ∧ i < 2 ^ 62) fun h Q E => match x with
  | .own (.seq xs) => (match xs[i.toNat]? with
    | some (.int a) => e (fun z => asI z fun b => k (.own (.seq (xs.set i.toNat (.int (f a b)))))) h Q E
    | _ => False)
  | .val (.ref p) => (match h p with
    | some (.cont (.seq xs)) => (match xs[i.toNat]? with
      | some (.int a) => e (fun z => asI z fun b => fun h' Q E => match h' p with
        | some (.cont (.seq ys)) => i.toNat < ys.length ∧ k (.val (.ref p)) (updA h' p (.cont (.seq (ys.set i.toNat (.int (f a b)))))) Q E
        | _ => False) h Q E
      | _ => False)
    | _ => False)
  | _ => False
def lrg1 (x : SV) (k : SV → MC) : MC := asI x fun n => req (0 ≤ n ∧ n ≤ 16777216) (k (.own (.seq (rngW 0 n.toNat))))
def eLrg1 (a : CE) : CE := fun k => a fun x => lrg1 x k
def ifC (mc : CB) (m1 m2 : MC) : MC := mc fun b => if b = true then m1 else m2
def forC {σ : Type} (mi : CWs) (s0 : σ) (body : W → σ → (σ → MC) → (σ → MC) → MC) (k : σ → MC) : MC := mi fun ws => forL body k ws s0
def lmC (f : LmT) (x : SV) (ma : CWs) (k : SV → W → MC) : MC := isq x (ma fun ws => lm f x ws k)
def extC (x : SV) (m : CE) (k : SV → MC) : MC := isq x (m fun y => ext x y k)
def setC (mv : CW) (x : SV) (m : CE) (k : SV → MC) : MC := mv fun w => m fun y => setIx x y w k
def setC2 (mv : CW) (x : SV) (m : CE) (m2 : SV → CE) (k : SV → MC) : MC := mv fun w => un2 w fun a b => m fun y => setIx x y a fun x1 => m2 x1 fun y2 => setIx x1 y2 b k
def augC (f : Int → Int → Int) (x : SV) (m m2 : CE) (k : SV → MC) : MC := m fun y => augIx f x y m2 k
def pr2 (ws : List W) (k : W → W → MC) : MC := match ws with
  | [v, w] => k v w
  | _ => bad
def parC (ma : CWs) (k : W → W → MC) : MC := ma fun ws => pr2 ws k
def starC (mv : CW) (k : W → SV → MC) : MC := mv fun w => star w k
/-- what a name owns comes into the heap -/
def prom (x : SV) (k : W → MC) : MC := fun h Q E => match x with
  | .own c => ∀ p, h p = none → k (.ref p) (updA h p (.cont c)) Q E
  | _ => False
def ePrm (m : CE) : CW := fun k => m fun x => prom x k
/-- a list in a list is changed in place -/
def lmR (f : LmT) (x : SV) (ma : CWs) (k : MC) : MC := fun h Q E => match x with
  | .val (.ref p) => (∃ xs, h p = some (.cont (.seq xs))) ∧ (ma fun ws => fun h2 Q E => match h2 p with
    | some (.cont (.seq xs)) => f xs ws fun xs' _ => k (updA h2 p (.cont (.seq xs'))) Q E
    | _ => False) h Q E
  | _ => False
def lmE (f : LmT) (m : CE) (ma : CWs) (k : MC) : MC := m fun x => lmR f x ma k
def upc (f : List W → MC) : ASp := fun ws h Q E => ∃ Q0 E0, (∀ r k, Q0 r k → Q r k) ∧ (∀ x k, E0 x k → E x k) ∧ f ws h Q0 E0
theorem upc.m {f : List W → MC} : SpMono (upc f) := fun ws h Q Q' E E' k k' ⟨Q0, E0, a, b, z⟩ => ⟨Q0, E0, fun r h q => k _ _ (a r h q), fun r h q => k' _ _ (b r h q), z⟩
end Ab

/-! Mc2: a reading follows from the function that mirrors it. -/
namespace Ab
open PySem PySem.Spec PyProof.Rows L2 RZ
def Rl (env : AEnv) : RV → SV → Prop
  | .val w, s => s = .val w
  | .own c, s => s = .own c
  | .slot i, s => ∃ c, s = .own c ∧ env[i]? = some (some (.own c))
theorem view_rl {env : AEnv} {h : AH} {r : RV} {s : SV} (a : Rl env r s) : view env h r = svw h s := by
  cases r with
  | val w => cases a; rfl
  | own c => cases a; rfl
  | slot i => obtain ⟨c, rfl, e⟩ := a; show viewS env[i]? = _; rw [e]; rfl
section
variable {Q : RR → AH → Prop} {E : AExc → AH → Prop} {env : AEnv}
def SE (Q : RR → AH → Prop) (E : AExc → AH → Prop) (env : AEnv) (t : AT) (m : CE) : Prop := ∀ h (k : SV → MC) (K : RV → AEnv → AH → Prop), (∀ r s h', Rl env r s → k s h' Q E → K r env h') → m k h Q E → t env h K
def SN (Q : RR → AH → Prop) (E : AExc → AH → Prop) (env : AEnv) (t : AT) (m : CE) : Prop := ∀ h (k : SV → MC) (K : RV → AEnv → AH → Prop), (∀ s h', k s h' Q E → K s.rv env h') → m k h Q E → t env h K
def SA {α : Type} (Q : RR → AH → Prop) (E : AExc → AH → Prop) (env : AEnv) (t : AEnv → AH → (α → AEnv → AH → Prop) → Prop) (m : (α → MC) → MC) : Prop := ∀ h (k : α → MC) (K : α → AEnv → AH → Prop), (∀ s h', k s h' Q E → K s env h') → m k h Q E → t env h K
inductive Rls (env : AEnv) : List RV → List SV → Prop where
  | nil : Rls env [] []
  | cons {r : RV} {rs : List RV} {s : SV} {ss : List SV} : Rl env r s → Rls env rs ss → Rls env (r :: rs) (s :: ss)
theorem views_rl {h : AH} {rs : List RV} {ss : List SV} (a : Rls env rs ss) : rs.map (view env h) = ss.map (svw h) := by
  induction a with
  | nil => rfl
  | cons a _ ih => rw [List.map_cons, List.map_cons, view_rl a, ih]
def SR (Q : RR → AH → Prop) (E : AExc → AH → Prop) (env : AEnv) (t : ART) (m : CS) : Prop := ∀ h (k : List SV → MC) (K : List RV → AEnv → AH → Prop), (∀ r s h', Rls env r s → k s h' Q E → K r env h') → m k h Q E → t env h K
theorem rl_rv {s : SV} : Rl env s.rv s := by cases s <;> rfl
variable {t t1 t2 t3 : AT} {m m1 m2 m3 : CE} {tv : AVT} {mv : CW} {ta ta2 : AAT} {ma ma2 : CWs} {tb tb2 : ABT} {mb mb2 : CB} {tr : ART} {mr : CS} {tl th : AOT} {ml mh : CO} {ti : AIT} {mi : CWs}
theorem SN.se (a : SN Q E env t m) : SE Q E env t m := fun h k K hk z => a h k K (fun s h' z => hk _ _ _ rl_rv z) z
theorem se_var {i : Nat} {x : SV} (e : env[i]? = some (some x)) : SE Q E env (aVar i) (eV x) := fun h k K hk z => by
  unfold aVar
  rw [e]
  cases x with
  | val w => exact hk (.val w) (.val w) h rfl z
  | own c => exact hk (.slot i) (.own c) h ⟨c, rfl, e⟩ z
theorem sn_var {i : Nat} {w : W} (e : env[i]? = some (some (.val w))) : SN Q E env (aVar i) (eV (.val w)) := fun h k K hk z => by
  unfold aVar
  rw [e]
  exact hk (.val w) h z
theorem sn_c {w : W} : SN Q E env (aC w) (eC w) := fun h k K hk z => hk _ _ z
def OpM (o : Op2) : Prop := ∀ a b Q Q', (∀ r, Q r → Q' r) → o a b Q → o a b Q'
def OpNM (o : OpN) : Prop := ∀ as Q Q', (∀ r, Q r → Q' r) → o as Q → o as Q'
theorem kRv_ok {k : SV → MC} {K : RV → AEnv → AH → Prop} {h : AH} (hk : ∀ s h', k s h' Q E → K s.rv env h') (r : RV) (z : kRv k r h Q E) : K r env h := by
  cases r with
  | val w => exact hk (.val w) h z
  | own c => exact hk (.own c) h z
  | slot i => exact z.elim
theorem sn_op2 {o : Op2} (om : OpM o) (a : SE Q E env t1 m1) (b : SE Q E env t2 m2) : SN Q E env (aOp2 o t1 t2) (eOp2 o m1 m2) := fun h k K hk z =>
  a h _ _ (fun rx x h1 r1 z => b h1 _ _ (fun ry y h2 r2 z => by rw [view_rl r1, view_rl r2]; exact om _ _ _ _ (fun r z => kRv_ok hk r z) z) z) z
theorem sw_fz (a : SN Q E env t m) : SA Q E env (aFz t) (eFz m) := fun h k K hk z => a h _ _ (fun s h' z => by
  cases s with
  | val w => exact hk _ _ z
  | own c => exact hk _ _ z) z
theorem sws_nil : SA Q E env aNil wNil := fun h k K hk z => hk _ _ z
theorem sws_cons (a : SA Q E env tv mv) (b : SA Q E env ta ma) : SA Q E env (aCons tv ta) (wCons mv ma) := fun h k K hk z => a h _ _ (fun w h1 z => b h1 _ _ (fun ws h2 z => hk _ _ z) z) z
theorem sn_tup (a : SA Q E env ta ma) : SN Q E env (aTup ta) (eTup ma) := fun h k K hk z => a h _ _ (fun ws h1 z => ⟨z.1, hk (.val _) _ z.2⟩) z
theorem sn_lst (a : SA Q E env ta ma) : SN Q E env (aLst ta) (eLst ma) := fun h k K hk z => a h _ _ (fun ws h1 z => ⟨z.1, hk (.own _) _ z.2⟩) z
theorem asI_ok {x : SV} {k : Int → MC} {h : AH} (z : asI x k h Q E) : ∃ i, svw h x = .wv (.int i) ∧ k i h Q E := by
  unfold asI at z
  split at z
  · rename_i i e; exact ⟨i, e, z⟩
  · exact z.elim
theorem asB_ok {x : SV} {k : Bool → MC} {h : AH} (z : asB x k h Q E) : ∃ i, svw h x = .wv (.bl i) ∧ k i h Q E := by
  unfold asB at z
  split at z
  · rename_i i e; exact ⟨i, e, z⟩
  · exact z.elim
theorem so_no : SA Q E env aNoPart oNo := fun h k K hk z => hk _ _ z
theorem so_part (a : SE Q E env t m) : SA Q E env (aPart t) (oPart m) := fun h k K hk z => a h _ _ (fun r s h1 rl z => by
  obtain ⟨i, e, z⟩ := asI_ok z
  rw [view_rl rl, e]
  exact hk _ _ z) z
theorem sn_sl (a : SE Q E env t m) (b : SA Q E env tl ml) (c : SA Q E env th mh) : SN Q E env (aSl t tl th) (eSl m ml mh) := fun h k K hk z =>
  a h _ _ (fun r s h1 rl z => b h1 _ _ (fun l h2 z => c h2 _ _ (fun u h3 z => by rw [view_rl rl]; exact oSl.mono (fun r z => kRv_ok hk r z) z) z) z) z
theorem sr_nil : SR Q E env rNil sNil := fun h k K hk z => hk _ _ _ .nil z
theorem sr_cons (a : SE Q E env t m) (b : SR Q E env tr mr) : SR Q E env (rCons t tr) (sCons m mr) := fun h k K hk z => a h _ _ (fun r s h1 rl z => b h1 _ _ (fun rs ss h2 rls z => hk _ _ _ (.cons rl rls) z) z) z
theorem sn_cb {o : OpN} (om : OpNM o) (a : SR Q E env tr mr) : SN Q E env (aCB o tr) (eCB o mr) := fun h k K hk z => a h _ _ (fun rs ss h1 rl z => by
  rw [views_rl rl]
  exact om _ _ _ (fun r z => kRv_ok hk r z) z) z
theorem st_yes : SA Q E env aYes tYes := fun h k K hk z => hk _ _ z
theorem st_tst (a : SE Q E env t m) : SA Q E env (aTst t) (tTst m) := fun h k K hk z => a h _ _ (fun r s h1 rl z => by
  obtain ⟨i, e, z⟩ := asB_ok z
  rw [view_rl rl, e]
  exact hk _ _ z) z
theorem ite_ok {b : Bool} {A B : MC} {P R : Prop} {h : AH} (x : A h Q E → P) (y : B h Q E → R) (z : (if b = true then A else B) h Q E) : if b = true then P else R := by
  cases b with
  | true => rw [if_pos rfl] at z ⊢; exact x z
  | false => rw [if_neg Bool.false_ne_true] at z ⊢; exact y z
theorem st_and (a : SA Q E env tb mb) (b : SA Q E env tb2 mb2) : SA Q E env (aAndT tb tb2) (tAnd mb mb2) := fun h k K hk z => a h _ _ (fun x h1 z => ite_ok (fun z => b h1 _ _ hk z) (fun z => hk _ _ z) z) z
theorem st_or (a : SA Q E env tb mb) (b : SA Q E env tb2 mb2) : SA Q E env (aOrT tb tb2) (tOr mb mb2) := fun h k K hk z => a h _ _ (fun x h1 z => ite_ok (fun z => hk _ _ z) (fun z => b h1 _ _ hk z) z) z
theorem st_not (a : SA Q E env tb mb) : SA Q E env (aNotT tb) (tNot mb) := fun h k K hk z => a h _ _ (fun x h1 z => hk _ _ z) z
theorem sn_if (c : SA Q E env tb mb) (a : SN Q E env t1 m1) (b : SN Q E env t2 m2) : SN Q E env (aIfE tb t1 t2) (eIf mb m1 m2) := fun h k K hk z => c h _ _ (fun x h1 z => ite_ok (fun z => a h1 _ _ hk z) (fun z => b h1 _ _ hk z) z) z
theorem sn_and (a : SE Q E env t1 m1) (b : SN Q E env t2 m2) : SN Q E env (aAndV t1 t2) (eAnd m1 m2) := fun h k K hk z => a h _ _ (fun r s h1 rl z => by
  obtain ⟨i, e, z⟩ := asB_ok z
  rw [view_rl rl, e]
  exact ite_ok (fun z => b h1 _ _ hk z) (fun z => hk (.val _) _ z) z) z
theorem sn_not (a : SE Q E env t1 m1) : SN Q E env (aNotV t1) (eNot m1) := fun h k K hk z => a h _ _ (fun r s h1 rl z => by
  obtain ⟨i, e, z⟩ := asB_ok z
  rw [view_rl rl, e]
  exact hk (.val _) _ z) z
theorem sn_neg (a : SE Q E env t1 m1) : SN Q E env (aNeg t1) (eNeg m1) := fun h k K hk z => a h _ _ (fun r s h1 rl z => by
  obtain ⟨i, e, z⟩ := asI_ok z
  rw [view_rl rl, e]
  exact hk (.val _) _ z) z
theorem sn_chn {P P' : Int → Int → Bool} (a : SE Q E env t1 m1) (b : SE Q E env t2 m2) (c : SE Q E env t3 m3) : SN Q E env (aChn P P' t1 t2 t3) (eChn P P' m1 m2 m3) := fun h k K hk z =>
  a h _ _ (fun r s h1 rl z => b h1 _ _ (fun r2 s2 h2 rl2 z => by
    obtain ⟨i, e, z⟩ := asI_ok z
    obtain ⟨j, e2, z⟩ := asI_ok z
    rw [view_rl rl, view_rl rl2, e, e2]
    refine ite_ok (fun z => c h2 _ _ (fun r3 s3 h3 rl3 z => ?_) z) (fun z => hk (.val _) _ z) z
    obtain ⟨l, e3, z⟩ := asI_ok z
    rw [view_rl rl3, e3]
    exact hk (.val _) _ z) z) z
theorem call_ok {E' : AExc → AEnv → AH → Prop} {f : List W → MC} {ws : List W} {h : AH} {k : SV → MC} {K : RV → AEnv → AH → Prop} (hk : ∀ s h', k s h' Q E → K s.rv env h') (hE : ∀ x h, E x h → E' x env h) (z : call (f ws) k h Q E) :
    upc f ws h (fun r h2 => match r with
  | .val w => K (.val w) env h2
  | .own c => K (.own c) env h2) fun x h2 => E' x env h2 :=
  ⟨_, _, fun r h' z => by cases r <;> exact hk _ _ z, hE, z⟩
theorem sn_call {E' : AExc → AEnv → AH → Prop} {f : List W → MC} (hE : ∀ x h, E x h → E' x env h) (a : SA Q E env ta ma) : SN Q E env (aCall E' (upc f) ta) (eCall f ma) := fun h k K hk z => a h _ _ (fun ws h1 z => call_ok hk hE z) z
theorem sn_call0 {f : List W → MC} (a : SA Q E env ta ma) : SN Q E env (aCall E0 (upc f) ta) (eCall0 f ma) := fun h k K hk z => a h _ _ (fun ws h1 z => ⟨_, _, fun r h' z => by cases r <;> exact hk _ _ z, fun _ _ z => z, z⟩) z
theorem perm_ok {p : List Nat} {ws : List W} {h : AH} {k : List W → MC} (z : perm p ws k h Q E) : gKw p [] ws = p.map (fun i => ws.getD i .non) ∧ ws.length = p.length ∧ k (p.map fun i => ws.getD i .non) h Q E := by
  refine ⟨?_, z.1, z.2⟩
  show (if ([] : List W).isEmpty && ws.length == p.length then _ else _) = _
  rw [z.1]
  simp
theorem sn_callK {E' : AExc → AEnv → AH → Prop} {f : List W → MC} {p : List Nat} (hE : ∀ x h, E x h → E' x env h) (a : SA Q E env ta ma) : SN Q E env (aCallK E' (upc f) p.length (gKw p) aNil ta) (eCall f (wPerm p ma)) := fun h k K hk z => a h _ _ (fun ws h1 z => by
  obtain ⟨e, l, z⟩ := perm_ok z
  exact ⟨by rw [e, List.length_map], by rw [e]; exact call_ok hk hE z⟩) z
/-! ### what is walked -/
theorem items_ok {w : W} {k : List W → MC} {h : AH} (z : items w k h Q E) : ∃ ws, (w = .tup ws ∨ w = .lst ws) ∧ k ws h Q E := by
  unfold items at z
  split at z
  · exact ⟨_, .inl rfl, z⟩
  · exact ⟨_, .inr rfl, z⟩
  · exact z.elim
theorem si_items (a : SA Q E env tv mv) : SA Q E env (iSq tv) (iItems mv) := fun h k K hk z => a h _ _ (fun w h1 z => by
  obtain ⟨ws, e, z⟩ := items_ok z
  rcases e with rfl | rfl <;> exact hk _ _ z) z
theorem si_enum (a : SA Q E env tv mv) : SA Q E env (iEn tv) (iEnum mv) := fun h k K hk z => a h _ _ (fun w h1 z => by
  obtain ⟨ws, e, z⟩ := items_ok z
  rcases e with rfl | rfl <;> exact hk _ _ z) z
theorem si_rng1 (a : SR Q E env tr mr) : SA Q E env (iRg1 tr) (iRng1 mr) := fun h k K hk z => a h _ _ (fun rs ss h1 rl z => by
  rw [views_rl rl]
  unfold rng1 at z
  split at z
  · obtain ⟨j, e, z⟩ := asI_ok z
    rw [List.map_cons, List.map_nil, e]
    exact ⟨z.1.1, z.1.2, hk _ _ z.2⟩
  · exact z.elim) z
theorem si_zip (a : SA Q E env ta ma) : SA Q E env (iZp ta) (iZip ma) := fun h k K hk z => a h _ _ (fun ws h1 z => by
  unfold zip2 at z
  split at z
  · exact hk _ _ z
  · exact hk _ _ z
  · exact z.elim) z
theorem si_enz (a : SA Q E env ta ma) : SA Q E env (iEz ta) (iEnz ma) := fun h k K hk z => a h _ _ (fun ws h1 z => by
  unfold enz at z
  split at z
  · obtain ⟨xs, e, z⟩ := items_ok z
    obtain ⟨ys, e2, z⟩ := items_ok z
    rcases e with rfl | rfl <;> rcases e2 with rfl | rfl <;> exact hk _ _ z
  · exact z.elim) z
/-! ### targets -/
def Gd (g : AGT) (w : W) (env e1 : AEnv) : Prop := ∀ h (K : AEnv → AH → Prop), K e1 h → g w env h K
theorem gd_nm {i : Nat} {w : W} : Gd (gNm i) w env (env.set i (some (.val w))) := fun h K k => k
theorem gd_2 {g1 g2 : AGT} {a b : W} {e1 e2 : AEnv} (d1 : Gd g1 a env e1) (d2 : Gd g2 b e1 e2) : Gd (gTp 2 (gsCons g1 (gsCons g2 gsNil))) (.tup [a, b]) env e2 := fun h K k =>
  ⟨rfl, a, [b], rfl, d1 h _ ⟨b, [], rfl, d2 h _ ⟨rfl, k⟩⟩⟩
theorem un2_ok {w : W} {f : W → W → MC} {h : AH} (z : un2 w f h Q E) : ∃ a b, w = .tup [a, b] ∧ f a b h Q E := by
  unfold un2 at z
  split at z
  · exact ⟨_, _, rfl, z⟩
  · exact z.elim
/-! ### comprehensions -/
def lcb (mt : CB) (me : CW) (kk : Option W → MC) : MC := mt fun b => if b = true then me fun y => kk (some y) else kk none
theorem lc_body {vs : List Nat} {g : AGT} {w : W} {e1 : AEnv} (gd : Gd g w (wipeA env vs) e1) (tst : SA Q E e1 tb mb) (elt : SA Q E e1 tv mv) (hm : mend env e1 vs = env) {h : AH} {kk : Option W → MC} {K1 : W → AEnv → AH → Prop} {K0 : AEnv → AH → Prop}
    (h1 : ∀ y h', kk (some y) h' Q E → K1 y env h') (h0 : ∀ h', kk none h' Q E → K0 env h') (z : lcb mb mv kk h Q E) :
    g w (wipeA env vs) h fun e1 h1 => tb e1 h1 fun b e2 h2 => if b = true then tv e2 h2 fun y e3 h3 => K1 y (mend env e3 vs) h3 else K0 (mend env e2 vs) h2 :=
  gd h _ (tst h _ _ (fun b h2 z => ite_ok (fun z => elt h2 _ _ (fun y h3 z => by rw [hm]; exact h1 y h3 z) z) (fun z => by rw [hm]; exact h0 h2 z) z) z)
def LcB (Q : RR → AH → Prop) (E : AExc → AH → Prop) (env : AEnv) (vs : List Nat) (g : AGT) (tt : ABT) (te : AVT) (mb : W → (Option W → MC) → MC) : Prop :=
  ∀ w h (kk : Option W → MC) (K1 : W → AEnv → AH → Prop) (K0 : AEnv → AH → Prop), (∀ y h', kk (some y) h' Q E → K1 y env h') → (∀ h', kk none h' Q E → K0 env h') → mb w kk h Q E →
    g w (wipeA env vs) h fun e1 h1 => tt e1 h1 fun b e2 h2 => if b = true then te e2 h2 fun y e3 h3 => K1 y (mend env e3 vs) h3 else K0 (mend env e2 vs) h2
theorem lc_go {vs : List Nat} {g : AGT} {body : W → (Option W → MC) → MC} {k : List W → MC} {K : List W → AEnv → AH → Prop} (hk : ∀ acc h', k acc h' Q E → K acc env h') (b : LcB Q E env vs g tb tv body) :
    ∀ (ws acc : List W) (h : AH), lcL body k ws acc h Q E → lcLoop vs g tb tv K ws acc env h
  | [], acc, h, z => hk acc h z
  | w :: ws, acc, h, z => b w h _ (fun y e3 h3 => acc.length < sizeLine ∧ lcLoop vs g tb tv K ws (acc ++ [y]) e3 h3) (fun e2 h2 => lcLoop vs g tb tv K ws acc e2 h2)
      (fun y h' z => ⟨z.1, lc_go hk b ws (acc ++ [y]) h' z.2⟩) (fun h' z => lc_go hk b ws acc h' z) z
theorem sn_lc {vs : List Nat} {g : AGT} {body : W → (Option W → MC) → MC} (it : SA Q E env ti mi) (b : LcB Q E env vs g tb tv body) : SN Q E env (aLc vs ti g tb tv) (eLc mi body) := fun h k K hk z =>
  it h _ _ (fun ws h1 z => lc_go (k := fun acc => k (.own (.seq acc))) (fun acc h' z => hk (.own (.seq acc)) h' z) b ws [] h1 z) z
/-! ### statements -/
variable {D : AEnds} {s u : ATS} {i j : Nat}
theorem ss_seq {mc : MC} (a : ∀ h, mc h Q E → s { D with nx := u D } env h) : ∀ h, mc h Q E → aSeq s u D env h := a
theorem nx_of {mc : MC} (a : ∀ h, mc h Q E → u D env h) : ∀ h, mc h Q E → ({ D with nx := u D } : AEnds).nx env h := a
theorem ss_ret (hr : ∀ r s env h, Rl env r s → Q s.rr h → D.rt r env h) (a : SE Q E env t m) : ∀ h, (m ret) h Q E → aRet t D env h := fun h z => a h _ _ (fun r s h' rl z => hr _ _ _ _ rl z) z
theorem ss_drop {k : SV → MC} (a : SE Q E env t m) (n : ∀ s h, k s h Q E → D.nx env h) : ∀ h, (m k) h Q E → aDrop t D env h := fun h z => a h _ _ (fun r s h' rl z => n s h' z) z
theorem ss_set {k : SV → MC} (e' : SV → AEnv) (he : ∀ x, env.set i (some x) = e' x) (a : SN Q E env t m) (n : ∀ x h, k x h Q E → D.nx (e' x) h) : ∀ h, (m k) h Q E → aSet i t D env h := fun h z => a h _ _ (fun s h' z => by
  have q := n s h' z
  rw [← he] at q
  cases s <;> exact q) z
theorem ss_asg {k : W → MC} (e' : W → AEnv) (he : ∀ x, env.set i (some (.val x)) = e' x) (a : SA Q E env tv mv) (n : ∀ x h, k x h Q E → D.nx (e' x) h) : ∀ h, (mv k) h Q E → aAsg tv (gNm i) D env h := fun h z => a h _ _ (fun s h' z => by
  have q := n s h' z
  rw [← he] at q
  exact q) z
theorem go_at {P R : AH → Prop} (h : AH) (z : P h) (f : ∀ h, P h → R h) : R h := f h z
theorem gd_lit {g : AGT} {w : W} {e1 : AEnv} (e2 : AEnv) (gd : Gd g w env e1) (he : e1 = e2) : Gd g w env e2 := he ▸ gd
theorem ss_if {c : ABT} {mc : CB} {m1 m2 : MC} (a : SA Q E env c mc) (x : ∀ h, m1 h Q E → s D env h) (y : ∀ h, m2 h Q E → u D env h) : ∀ h, ifC mc m1 m2 h Q E → aIf c s u D env h := fun h z =>
  a h _ _ (fun b h' z => ite_ok (x h') (y h') z) z
theorem ss_nx {mc : MC} (n : ∀ h, mc h Q E → D.nx env h) : ∀ h, mc h Q E → aNext D env h := n
theorem ss_never : ∀ h, bad h Q E → aNever D env h := fun _ z => z
theorem ss_prom {x : SV} {k : W → MC} (e' : W → AEnv) (he : ∀ p, env.set i (some (.val p)) = e' p) (e : env[i]? = some (some x)) (a : ∀ p h, k p h Q E → s D (e' p) h) : ∀ h, prom x k h Q E → aProm i s D env h := fun h z => by
  unfold aProm
  rw [e]
  cases x with
  | val w => exact z.elim
  | own c =>
    intro p n
    have q := a _ _ (z p n)
    rw [← he] at q
    exact q
theorem ss_join {β J : Type} {kk : β → MC} {f : (β → MC) → MC} (envOf : β → J → AEnv) (r : ∀ b j h, kk b h Q E → u D (envOf b j) h)
    (b : (∀ b j h, kk b h Q E → ({ D with nx := u D } : AEnds).nx (envOf b j) h) → ∀ h, f kk h Q E → s { D with nx := u D } env h) : ∀ h, join kk f h Q E → aSeq s u D env h := b r
theorem loop_go {σ J : Type} {g : AGT} {tb : ATS} {body : W → σ → (σ → MC) → (σ → MC) → MC} {k : σ → MC} (envOf : σ → J → AEnv) (r : ∀ s j h, k s h Q E → D.nx (envOf s j) h)
    (b : ∀ w s j (kn : σ → MC) (N : AEnv → AH → Prop), (∀ s j h, kn s h Q E → N (envOf s j) h) → ∀ h, body w s kn k h Q E → g w (envOf s j) h fun e1 h1 => tb { D with nx := N, ct := N, bk := D.nx } e1 h1) :
    ∀ ws s j h, forL body k ws s h Q E → aLoop g tb D ws (envOf s j) h
  | [], s, j, h, z => r s j h z
  | w :: ws, s, j, h, z => b w s j (forL body k ws) (aLoop g tb D ws) (fun s j h z => loop_go envOf r b ws s j h z) h z
theorem ss_for {σ J : Type} {g : AGT} {tb : ATS} {body : W → σ → (σ → MC) → (σ → MC) → MC} {k : σ → MC} (envOf : σ → J → AEnv) (s0 : σ) (j0 : J) (he : envOf s0 j0 = env) (it : SA Q E env ti mi) (r : ∀ s j h, k s h Q E → D.nx (envOf s j) h)
    (b : (∀ s j h, k s h Q E → D.nx (envOf s j) h) → ∀ w s j (kn : σ → MC) (N : AEnv → AH → Prop), (∀ s j h, kn s h Q E → N (envOf s j) h) → ∀ h, body w s kn k h Q E → g w (envOf s j) h fun e1 h1 => tb { D with nx := N, ct := N, bk := D.nx } e1 h1) :
    ∀ h, forC mi s0 body k h Q E → aFor ti g tb D env h := fun h z => it h _ _ (fun ws h' z => he ▸ loop_go envOf r (b r) ws s0 j0 h' z) z
/-! stores into what a name holds -/
theorem set_id {x : SV} (e : env[i]? = some (some x)) : env.set i (some x) = env := by
  obtain ⟨hi, e'⟩ := List.getElem?_eq_some_iff.mp e
  conv => rhs; rw [← List.set_getElem_self (as := env) hi]
  rw [e']
/-- how a name's list is read and put -/
theorem var_seq {x : SV} {h : AH} {K : RV → AEnv → AH → Prop} (e : env[i]? = some (some x)) (q : ∀ r, (∃ c, x = .own c ∧ r = .slot i) ∨ (∃ w, x = .val w ∧ r = .val w) → K r env h) : aVar i env h K := by
  unfold aVar
  rw [e]
  cases x with
  | val w => exact q _ (.inr ⟨w, rfl, rfl⟩)
  | own c => exact q _ (.inl ⟨c, rfl, rfl⟩)
theorem plc_slot {h : AH} {c : Cont} (e : env[i]? = some (some (.own c))) : plc env h (.slot i) = some c := by
  show (match env[i]? with
    | some (some (.own c)) => some c
    | _ => none) = _
  rw [e]
theorem plc_ref {h : AH} {p : Addr} {c : Cont} (e : h p = some (.cont c)) : plc env h (.val (.ref p)) = some c := by
  show (match h p with
    | some (.cont c) => some c
    | _ => none) = _
  rw [e]
theorem ss_setIx {x : SV} {k : SV → MC} (e' : SV → AEnv) (he : ∀ x, env.set i (some x) = e' x) (a : SA Q E env tv mv) (e : env[i]? = some (some x)) (b : SE Q E env t m) (n0 : ∀ x' h, k x' h Q E → D.nx (e' x') h) : ∀ h, setC mv x m k h Q E → aAsg tv (gSet (aVar i) t) D env h := fun h z => have n : ∀ x' h, k x' h Q E → D.nx (env.set i (some x')) h := fun x' h z => by rw [he]; exact n0 x' h z
  a h _ _ (fun w h1 z => by
  refine var_seq (K := fun ro env1 h1 => t env1 h1 fun ri env2 h2 => match view env2 h2 ri with
    | .wv (.int k) => match plc env2 h2 ro with
      | some (.seq xs) => ∃ j, ixN xs.length k = some j ∧ D.nx (putE env2 ro (.seq (xs.set j w))) (putH h2 ro (.seq (xs.set j w)))
      | _ => False
    | _ => False) e fun r hr => b h1 _ _ (fun ri y h2 rl z => ?_) z
  rw [view_rl rl]
  unfold setIx at z
  split at z
  · rename_i q e1
    try rw [e1]
    rcases hr with ⟨c, rfl, rfl⟩ | ⟨v, rfl, rfl⟩
    · cases c with
      | map kvs => exact z.elim
      | seq xs =>
        have pl : plc env h2 (.slot i) = some (.seq xs) := plc_slot e
        rw [pl]
        obtain ⟨j, ej, z⟩ := z
        exact ⟨j, ej, n _ _ z⟩
    · cases v with
      | ref p =>
        have z : (match h2 p with
          | some (.cont (.seq xs)) => ∃ j, ixN xs.length q = some j ∧ k (.val (.ref p)) (updA h2 p (.cont (.seq (xs.set j w)))) Q E
          | _ => False) := z
        split at z
        · rename_i xs2 e2
          have pl : plc env h2 (.val (.ref p)) = some (.seq xs2) := plc_ref e2
          rw [pl]
          obtain ⟨j, ej, z⟩ := z
          have q := n _ _ z
          rw [set_id e] at q
          exact ⟨j, ej, q⟩
        · exact z.elim
      | _ => exact z.elim
  · exact z.elim) z
theorem ss_augIx {f : Int → Int → Int} {x : SV} {k : SV → MC} {t2 : AT} {m2 : CE} (e' : SV → AEnv) (he : ∀ x, env.set i (some x) = e' x) (e : env[i]? = some (some x)) (b : SE Q E env t m) (c : SE Q E env t2 m2) (n0 : ∀ x' h, k x' h Q E → D.nx (e' x') h) : ∀ h, augC f x m m2 k h Q E → aAugS f (aVar i) t t2 D env h := fun h z => by
  have n : ∀ x' h, k x' h Q E → D.nx (env.set i (some x')) h := fun x' h z => by rw [he]; exact n0 x' h z
  refine var_seq e fun r hr => b h _ _ (fun ri y h2 rl z => ?_) z
  obtain ⟨q, e1, z0, z⟩ := asI_ok z
  rw [view_rl rl, e1]
  refine ⟨z0, ?_⟩
  rcases hr with ⟨c', rfl, rfl⟩ | ⟨v, rfl, rfl⟩
  · cases c' with
    | map kvs => exact z.elim
    | seq xs =>
      have pl : ∀ h, plc env h (.slot i) = some (.seq xs) := fun h => plc_slot e
      rw [pl]
      have z : (match xs[q.toNat]? with
        | some (.int a) => m2 (fun z => asI z fun b => k (.own (.seq (xs.set q.toNat (.int (f a b)))))) h2 Q E
        | _ => False) := z
      show (match xs[q.toNat]? with
        | some (.int x) => t2 env h2 fun re env3 h3 => (match view env3 h3 re with
          | .wv (.int y) => (match plc env3 h3 (.slot i) with
            | some (.seq ys) => q.toNat < ys.length ∧ D.nx (putE env3 (.slot i) (.seq (ys.set q.toNat (.int (f x y))))) (putH h3 (.slot i) (.seq (ys.set q.toNat (.int (f x y)))))
            | _ => False)
          | _ => False)
        | _ => False)
      split at z
      · rename_i a ea
        refine c h2 _ _ (fun re s3 h3 rl3 z => ?_) z
        obtain ⟨b', e3, z⟩ := asI_ok z
        rw [view_rl rl3, e3]
        show (match plc env h3 (.slot i) with
            | some (.seq ys) => q.toNat < ys.length ∧ D.nx (putE env (.slot i) (.seq (ys.set q.toNat (.int (f a b'))))) (putH h3 (.slot i) (.seq (ys.set q.toNat (.int (f a b')))))
            | _ => False)
        rw [pl]
        exact ⟨(List.getElem?_eq_some_iff.mp ea).1, n _ _ z⟩
      · exact z.elim
  · cases v with
    | ref p =>
      have z : (match h2 p with
        | some (.cont (.seq xs)) => (match xs[q.toNat]? with
          | some (.int a) => m2 (fun z => asI z fun b => fun h' Q E => match h' p with
            | some (.cont (.seq ys)) => q.toNat < ys.length ∧ k (.val (.ref p)) (updA h' p (.cont (.seq (ys.set q.toNat (.int (f a b)))))) Q E
            | _ => False) h2 Q E
          | _ => False)
        | _ => False) := z
      split at z
      · rename_i xs2 e2
        have pl : plc env h2 (.val (.ref p)) = some (.seq xs2) := plc_ref e2
        rw [pl]
        show (match xs2[q.toNat]? with
          | some (.int x) => t2 env h2 fun re env3 h3 => (match view env3 h3 re with
            | .wv (.int y) => (match plc env3 h3 (.val (.ref p)) with
              | some (.seq ys) => q.toNat < ys.length ∧ D.nx (putE env3 (.val (.ref p)) (.seq (ys.set q.toNat (.int (f x y))))) (putH h3 (.val (.ref p)) (.seq (ys.set q.toNat (.int (f x y)))))
              | _ => False)
            | _ => False)
          | _ => False)
        split at z
        · rename_i a ea
          refine c h2 _ _ (fun re s3 h3 rl3 z => ?_) z
          obtain ⟨b', e3, z⟩ := asI_ok z
          rw [view_rl rl3, e3]
          split at z
          · rename_i ys e4
            have pl : plc env h3 (.val (.ref p)) = some (.seq ys) := plc_ref e4
            show (match plc env h3 (.val (.ref p)) with
              | some (.seq ys) => q.toNat < ys.length ∧ D.nx (putE env (.val (.ref p)) (.seq (ys.set q.toNat (.int (f a b'))))) (putH h3 (.val (.ref p)) (.seq (ys.set q.toNat (.int (f a b')))))
              | _ => False)
            rw [pl]
            have q := n _ _ z.2
            rw [set_id e] at q
            exact ⟨z.1, q⟩
          · exact z.elim
        · exact z.elim
      · exact z.elim
    | _ => exact z.elim
/-! monotone -/
theorem om_sub : OpM oSub := fun _ _ _ _ k q => oII.mono _ _ _ _ k q
theorem om_mod : OpM oMod := fun _ _ _ _ k q => oII.mono _ _ _ _ k q
theorem om_fdiv : OpM oFdiv := fun _ _ _ _ k q => oII.mono _ _ _ _ k q
theorem om_pow : OpM oPow := fun _ _ _ _ k q => oII.mono _ _ _ _ k q
theorem om_lt : OpM oLt := fun _ _ _ _ k q => oII.mono _ _ _ _ k q
theorem om_le : OpM oLe := fun _ _ _ _ k q => oII.mono _ _ _ _ k q
theorem om_gt : OpM oGt := fun _ _ _ _ k q => oII.mono _ _ _ _ k q
theorem om_ge : OpM oGe := fun _ _ _ _ k q => oII.mono _ _ _ _ k q
theorem om_add : OpM oAdd := oAdd.mono
theorem om_ix : OpM oIx := oIx.mono
theorem om_mulT : OpM oMulT := oMulT.mono
theorem om_eq {neg : Bool} : OpM (oEq neg) := fun a b Q Q' k q => ⟨q.1, q.2.1, k _ q.2.2⟩
theorem om_isN {neg : Bool} : OpM (oIsN neg) := fun a b Q Q' k q => ⟨q.1, q.2.1, k _ q.2.2⟩
theorem on_len : OpNM oLen := fun as Q Q' k q => by
  unfold oLen at q ⊢
  split at q
  · exact ⟨q.1, k _ q.2⟩
  · obtain ⟨xs, e, q⟩ := q
    exact ⟨xs, e, k _ q⟩
  · exact q
theorem on_sumA : OpNM oSumA := fun as Q Q' k q => by
  unfold oSumA at q ⊢
  split at q
  · obtain ⟨ns, e, q⟩ := q
    exact ⟨ns, e, k _ q⟩
  · exact q
theorem on_bls {g : List Bool → Bool} : OpNM (oBls g) := oBls.mono
theorem on_isi : OpNM oIsi := fun as Q Q' k q => by
  unfold oIsi at q ⊢
  split at q
  · obtain ⟨n, b, e, f, q⟩ := q
    exact ⟨n, b, e, f, k _ q⟩
  · exact q
theorem on_tupC : OpNM oTupC := fun as Q Q' k q => by
  unfold oTupC at q ⊢
  split at q
  · obtain ⟨xs, e, q⟩ := q
    exact ⟨xs, e, k _ q⟩
  · exact q
theorem on_lstC : OpNM oLstC := fun as Q Q' k q => by
  unfold oLstC at q ⊢
  split at q
  · obtain ⟨xs, e, q⟩ := q
    exact ⟨xs, e, k _ q⟩
  · exact q
/-! ### the whole def -/
variable {Q' : RR → AH → Prop} {E' : AExc → AH → Prop}
theorem hr_top (hQ : ∀ r h, Q r h → Q' r h) : ∀ r s env h, Rl env r s → Q s.rr h → (endsOf Q').rt r env h := fun r s env h rl q => by
  refine ⟨h, fun _ _ e => e, ?_⟩
  cases r with
  | val w => cases rl; exact hQ _ _ q
  | own w => cases rl; exact hQ _ _ q
  | slot i =>
    obtain ⟨c, rfl, e⟩ := rl
    show (match env[i]? with
      | some (some (.val w)) => Q' (.val w) h
      | some (some (.own c)) => Q' (.own c) h
      | _ => False)
    rw [e]
    exact hQ _ _ q
theorem he_top (hE : ∀ x h, E x h → E' x h) (env : AEnv) : ∀ x h, E x h → excOf E' x env h := fun x h q => ⟨h, fun _ _ e => e, hE _ _ q⟩
theorem nx_top (hQ : ∀ r h, Q r h → Q' r h) (env : AEnv) : ∀ h, (ret (.val .non)) h Q E → (endsOf Q').nx env h := fun h z => ⟨h, fun _ _ e => e, hQ _ _ z⟩
end
end Ab

/-! Mc3: the mirrors' words, reckoned. -/
namespace Ab
open PySem PySem.Spec PyProof.Rows L2 RZ
section
variable {Q : RR → AH → Prop} {E : AExc → AH → Prop} {h : AH}
@[simp] theorem k_V {x : SV} {k : SV → MC} : eV x k = k x := rfl
@[simp] theorem k_C {x : W} {k : SV → MC} : eC x k = k (.val x) := rfl
@[simp] theorem k_Op2 {o : Op2} {a b : CE} {k : SV → MC} : eOp2 o a b k = a fun x => b fun y => op2 o x y k := rfl
@[simp] theorem k_Fz {a : CE} {k : W → MC} : eFz a k = a fun x => k x.fz := rfl
@[simp] theorem k_wNil {k : List W → MC} : wNil k = k [] := rfl
@[simp] theorem k_wCons {a : CW} {b : CWs} {k : List W → MC} : wCons a b k = a fun w => b fun ws => k (w :: ws) := rfl
@[simp] theorem k_Tup {a : CWs} {k : SV → MC} : eTup a k = a fun ws => req (ws.length ≤ sizeLine) (k (.val (.tup ws))) := rfl
@[simp] theorem k_Lst {a : CWs} {k : SV → MC} : eLst a k = a fun ws => req (ws.length ≤ sizeLine) (k (.own (.seq ws))) := rfl
@[simp] theorem k_oNo {k : Option Int → MC} : oNo k = k none := rfl
@[simp] theorem k_oPart {a : CE} {k : Option Int → MC} : oPart a k = a fun x => asI x fun i => k (some i) := rfl
@[simp] theorem k_Sl {a : CE} {l u : CO} {k : SV → MC} : eSl a l u k = a fun x => l fun l => u fun u => slc x l u k := rfl
@[simp] theorem k_sNil {k : List SV → MC} : sNil k = k [] := rfl
@[simp] theorem k_sCons {a : CE} {b : CS} {k : List SV → MC} : sCons a b k = a fun w => b fun ws => k (w :: ws) := rfl
@[simp] theorem k_CB {o : OpN} {a : CS} {k : SV → MC} : eCB o a k = a fun xs => cb o xs k := rfl
@[simp] theorem k_tYes {k : Bool → MC} : tYes k = k true := rfl
@[simp] theorem k_tTst {a : CE} {k : Bool → MC} : tTst a k = a fun x => asB x k := rfl
@[simp] theorem k_tAnd {a b : CB} {k : Bool → MC} : tAnd a b k = a fun x => if x = true then b k else k false := rfl
@[simp] theorem k_tOr {a b : CB} {k : Bool → MC} : tOr a b k = a fun x => if x = true then k true else b k := rfl
@[simp] theorem k_tNot {a : CB} {k : Bool → MC} : tNot a k = a fun x => k (!x) := rfl
@[simp] theorem k_If {c : CB} {a b : CE} {k : SV → MC} : eIf c a b k = c fun x => if x = true then a k else b k := rfl
@[simp] theorem k_And {a b : CE} {k : SV → MC} : eAnd a b k = a fun x => asB x fun c => if c = true then b k else k (.val (.bl false)) := rfl
@[simp] theorem k_Or {a b : CE} {k : SV → MC} : eOr a b k = a fun x => asB x fun c => if c = true then k (.val (.bl true)) else b k := rfl
@[simp] theorem k_Not {a : CE} {k : SV → MC} : eNot a k = a fun x => asB x fun c => k (.val (.bl (!c))) := rfl
@[simp] theorem k_Neg {a : CE} {k : SV → MC} : eNeg a k = a fun x => asI x fun i => k (.val (.int (-i))) := rfl
@[simp] theorem k_Chn {P P' : Int → Int → Bool} {a b c : CE} {k : SV → MC} : eChn P P' a b c k = a fun x => b fun y => asI x fun i => asI y fun j =>
  if P i j = true then c fun z => asI z fun l => k (.val (.bl (P' j l))) else k (.val (.bl false)) := rfl
@[simp] theorem k_Call {f : List W → MC} {a : CWs} {k : SV → MC} : eCall f a k = a fun ws => call (f ws) k := rfl
@[simp] theorem k_Call0 {f : List W → MC} {a : CWs} {k : SV → MC} : eCall0 f a k = a fun ws => call0 (f ws) k := rfl
@[simp] theorem k_wPerm {p : List Nat} {a : CWs} {k : List W → MC} : wPerm p a k = a fun ws => perm p ws k := rfl
@[simp] theorem k_iItems {a : CW} {k : List W → MC} : iItems a k = a fun w => items w k := rfl
@[simp] theorem k_iRng1 {a : CS} {k : List W → MC} : iRng1 a k = a fun w => rng1 w k := rfl
@[simp] theorem k_iRng2 {a : CS} {k : List W → MC} : iRng2 a k = a fun w => rng2 w k := rfl
@[simp] theorem k_iZip {a : CWs} {k : List W → MC} : iZip a k = a fun w => zip2 w k := rfl
@[simp] theorem k_iEnum {a : CW} {k : List W → MC} : iEnum a k = a fun w => items w fun ws => k (enW ws) := rfl
@[simp] theorem k_iEnz {a : CWs} {k : List W → MC} : iEnz a k = a fun ws => enz ws k := rfl
@[simp] theorem k_ifC {mc : CB} {m1 m2 : MC} : ifC mc m1 m2 = mc fun b => if b = true then m1 else m2 := rfl
@[simp] theorem k_Lrg1 {a : CE} {k : SV → MC} : eLrg1 a k = a fun x => lrg1 x k := rfl
@[simp] theorem k_parC {a : CWs} {k : W → W → MC} : parC a k = a fun ws => pr2 ws k := rfl
@[simp] theorem k_starC {a : CW} {k : W → SV → MC} : starC a k = a fun w => star w k := rfl
@[simp] theorem k_setC {mv : CW} {x : SV} {m : CE} {k : SV → MC} : setC mv x m k = mv fun w => m fun y => setIx x y w k := rfl
@[simp] theorem k_setC2 {mv : CW} {x : SV} {m : CE} {m2 : SV → CE} {k : SV → MC} : setC2 mv x m m2 k = mv fun w => un2 w fun a b => m fun y => setIx x y a fun x1 => m2 x1 fun y2 => setIx x1 y2 b k := rfl
@[simp] theorem k_augC {f : Int → Int → Int} {x : SV} {m m2 : CE} {k : SV → MC} : augC f x m m2 k = m fun y => augIx f x y m2 k := rfl
@[simp] theorem k_lcb {mt : CB} {me : CW} {kk : Option W → MC} : lcb mt me kk = mt fun b => if b = true then me fun y => kk (some y) else kk none := rfl
@[simp] theorem k_Lc {it : CWs} {body : W → (Option W → MC) → MC} {k : SV → MC} : eLc it body k = it fun ws => lcL body (fun acc => k (.own (.seq acc))) ws [] := rfl
@[simp] theorem k_forC {σ : Type} {mi : CWs} {s0 : σ} {body : W → σ → (σ → MC) → (σ → MC) → MC} {k : σ → MC} : forC mi s0 body k = mi fun ws => forL body k ws s0 := rfl
@[simp] theorem k_join {σ : Type} {k : σ → MC} {f : (σ → MC) → MC} : join k f = f k := rfl
/-! ### words written out -/
theorem nats_inj : ∀ {as bs : List Char}, as.map Char.toNat = bs.map Char.toNat → as = bs
  | [], [], _ => rfl
  | [], _ :: _, h => by cases h
  | _ :: _, [], h => by cases h
  | a :: as, b :: bs, h => by
    rw [List.map_cons, List.map_cons] at h
    injection h with h1 h2
    rw [Char.toNat_inj.mp h1, nats_inj h2]
@[simp] theorem str_lit {a b : String} : (Str.ofString a = Str.ofString b) = (a = b) := by
  refine propext ⟨fun e => ?_, fun e => by rw [e]⟩
  rw [Str.ofString_eq_toList, Str.ofString_eq_toList] at e
  injection e with e
  have z := nats_inj (congrArg Array.toList e)
  exact String.toList_inj.mp z
/-! ### values -/
@[simp] theorem fz_val {w : W} : SV.fz (.val w) = w := rfl
@[simp] theorem fz_seq {ws : List W} : SV.fz (.own (.seq ws)) = .lst ws := rfl
@[simp] theorem rr_val {w : W} : SV.rr (.val w) = .val w := rfl
@[simp] theorem rr_own {c : Cont} : SV.rr (.own c) = .own c := rfl
@[simp] theorem sv_val {w : W} : RR.sv (.val w) = .val w := rfl
@[simp] theorem sv_own {c : Cont} : RR.sv (.own c) = .own c := rfl
theorem sizeL : sizeLine = 16777216 := rfl
@[simp] theorem asI_int {i : Int} {k : Int → MC} : asI (.val (.int i)) k = k i := rfl
@[simp] theorem asB_bl {i : Bool} {k : Bool → MC} : asB (.val (.bl i)) k = k i := rfl
@[simp] theorem items_tup {ws : List W} {k : List W → MC} : items (.tup ws) k = k ws := rfl
@[simp] theorem items_lst {ws : List W} {k : List W → MC} : items (.lst ws) k = k ws := rfl
@[simp] theorem un2_tup {a b : W} {k : W → W → MC} : un2 (.tup [a, b]) k = k a b := rfl
@[simp] theorem un3_tup {a b c : W} {k : W → W → W → MC} : un3 (.tup [a, b, c]) k = k a b c := rfl
@[simp] theorem un5_tup {a b c d e : W} {k : W → W → W → W → W → MC} : un5 (.tup [a, b, c, d, e]) k = k a b c d e := rfl
@[simp] theorem uq2_tup {a b : W} {k : W → W → MC} : uq2 (.tup [a, b]) k = k a b := rfl
@[simp] theorem uq3_tup {a b c : W} {k : W → W → W → MC} : uq3 (.tup [a, b, c]) k = k a b c := rfl
@[simp] theorem uq2_lst {a b : W} {k : W → W → MC} : uq2 (.lst [a, b]) k = k a b := rfl
@[simp] theorem uq3_lst {a b c : W} {k : W → W → W → MC} : uq3 (.lst [a, b, c]) k = k a b c := rfl
@[simp] theorem uq4_tup {a b c d : W} {k : W → W → W → W → MC} : uq4 (.tup [a, b, c, d]) k = k a b c d := rfl
@[simp] theorem uq5_tup {a b c d e : W} {k : W → W → W → W → W → MC} : uq5 (.tup [a, b, c, d, e]) k = k a b c d e := rfl
@[simp] theorem star_tup {x : W} {r : List W} {k : W → SV → MC} : star (.tup (x :: r)) k = k x (.own (.seq r)) := rfl
@[simp] theorem star_lst {x : W} {r : List W} {k : W → SV → MC} : star (.lst (x :: r)) k = k x (.own (.seq r)) := rfl
@[simp] theorem pr2_2 {x y : W} {k : W → W → MC} : pr2 [x, y] k = k x y := rfl
@[simp] theorem zip2_tup {xs ys : List W} {k : List W → MC} : zip2 [.tup xs, .tup ys] k = k (List.zipWith (fun a b => W.tup [a, b]) xs ys) := rfl
@[simp] theorem zip2_lst {xs ys : List W} {k : List W → MC} : zip2 [.lst xs, .lst ys] k = k (List.zipWith (fun a b => W.tup [a, b]) xs ys) := rfl
@[simp] theorem enz_2 {a b : W} {k : List W → MC} : enz [a, b] k = items a fun xs => items b fun ys => k (ezW xs ys) := rfl
@[simp] theorem rng1_int {j : Int} {k : List W → MC} : rng1 [.val (.int j)] k = req (-(2 ^ 62) ≤ j ∧ j < 2 ^ 62) (k (rngW 0 j.toNat)) := rfl
@[simp] theorem rng2_int {i j : Int} {k : List W → MC} : rng2 [.val (.int i), .val (.int j)] k = req (-(2 ^ 62) ≤ i ∧ i < 2 ^ 62 ∧ -(2 ^ 62) ≤ j ∧ j < 2 ^ 62) (k (rngW i (j - i).toNat)) := rfl
@[simp] theorem lrg1_int {n : Int} {k : SV → MC} : lrg1 (.val (.int n)) k = req (0 ≤ n ∧ n ≤ 16777216) (k (.own (.seq (rngW 0 n.toNat)))) := rfl
theorem req_of {p : Prop} {m : MC} (hp : p) : req p m = m := by funext h Q E; exact propext ⟨fun z => z.2, fun z => ⟨hp, z⟩⟩
@[simp] theorem req_T {m : MC} : req True m = m := req_of trivial
theorem req_at {p : Prop} {m : MC} : req p m h Q E = (p ∧ m h Q E) := rfl
@[simp] theorem ret_at {x : SV} : ret x h Q E = Q x.rr h := rfl
@[simp] theorem raise_at {x : AExc} : raise x h Q E = E x h := rfl
@[simp] theorem call_ret {x : SV} {k : SV → MC} : call (ret x) k = k x := by cases x <;> rfl
@[simp] theorem call0_ret {x : SV} {k : SV → MC} : call0 (ret x) k = k x := by cases x <;> rfl
@[simp] theorem call_raise {x : AExc} {k : SV → MC} : call (raise x) k = raise x := rfl
theorem tr_eq {p : Prop} : (True ∧ p) = p := by simp
/-! keywords -/
@[simp] theorem pm_0 {a : W} {k : List W → MC} : perm [0] [a] k = k [a] := req_of rfl
@[simp] theorem pm_01 {a b : W} {k : List W → MC} : perm [0, 1] [a, b] k = k [a, b] := req_of rfl
@[simp] theorem pm_10 {a b : W} {k : List W → MC} : perm [1, 0] [a, b] k = k [b, a] := req_of rfl
@[simp] theorem pm_012 {a b c : W} {k : List W → MC} : perm [0, 1, 2] [a, b, c] k = k [a, b, c] := req_of rfl
@[simp] theorem pm_021 {a b c : W} {k : List W → MC} : perm [0, 2, 1] [a, b, c] k = k [a, c, b] := req_of rfl
@[simp] theorem pm_102 {a b c : W} {k : List W → MC} : perm [1, 0, 2] [a, b, c] k = k [b, a, c] := req_of rfl
@[simp] theorem pm_120 {a b c : W} {k : List W → MC} : perm [1, 2, 0] [a, b, c] k = k [b, c, a] := req_of rfl
@[simp] theorem pm_201 {a b c : W} {k : List W → MC} : perm [2, 0, 1] [a, b, c] k = k [c, a, b] := req_of rfl
@[simp] theorem pm_210 {a b c : W} {k : List W → MC} : perm [2, 1, 0] [a, b, c] k = k [c, b, a] := req_of rfl
@[simp] theorem pm_0123 {a b c d : W} {k : List W → MC} : perm [0, 1, 2, 3] [a, b, c, d] k = k [a, b, c, d] := req_of rfl
@[simp] theorem pm_0132 {a b c d : W} {k : List W → MC} : perm [0, 1, 3, 2] [a, b, c, d] k = k [a, b, d, c] := req_of rfl
@[simp] theorem pm_0213 {a b c d : W} {k : List W → MC} : perm [0, 2, 1, 3] [a, b, c, d] k = k [a, c, b, d] := req_of rfl
@[simp] theorem pm_0231 {a b c d : W} {k : List W → MC} : perm [0, 2, 3, 1] [a, b, c, d] k = k [a, c, d, b] := req_of rfl
@[simp] theorem pm_0312 {a b c d : W} {k : List W → MC} : perm [0, 3, 1, 2] [a, b, c, d] k = k [a, d, b, c] := req_of rfl
@[simp] theorem pm_0321 {a b c d : W} {k : List W → MC} : perm [0, 3, 2, 1] [a, b, c, d] k = k [a, d, c, b] := req_of rfl
@[simp] theorem pm_1023 {a b c d : W} {k : List W → MC} : perm [1, 0, 2, 3] [a, b, c, d] k = k [b, a, c, d] := req_of rfl
@[simp] theorem pm_1032 {a b c d : W} {k : List W → MC} : perm [1, 0, 3, 2] [a, b, c, d] k = k [b, a, d, c] := req_of rfl
@[simp] theorem pm_1203 {a b c d : W} {k : List W → MC} : perm [1, 2, 0, 3] [a, b, c, d] k = k [b, c, a, d] := req_of rfl
@[simp] theorem pm_1230 {a b c d : W} {k : List W → MC} : perm [1, 2, 3, 0] [a, b, c, d] k = k [b, c, d, a] := req_of rfl
@[simp] theorem pm_1302 {a b c d : W} {k : List W → MC} : perm [1, 3, 0, 2] [a, b, c, d] k = k [b, d, a, c] := req_of rfl
@[simp] theorem pm_1320 {a b c d : W} {k : List W → MC} : perm [1, 3, 2, 0] [a, b, c, d] k = k [b, d, c, a] := req_of rfl
@[simp] theorem pm_2013 {a b c d : W} {k : List W → MC} : perm [2, 0, 1, 3] [a, b, c, d] k = k [c, a, b, d] := req_of rfl
@[simp] theorem pm_2031 {a b c d : W} {k : List W → MC} : perm [2, 0, 3, 1] [a, b, c, d] k = k [c, a, d, b] := req_of rfl
@[simp] theorem pm_2103 {a b c d : W} {k : List W → MC} : perm [2, 1, 0, 3] [a, b, c, d] k = k [c, b, a, d] := req_of rfl
@[simp] theorem pm_2130 {a b c d : W} {k : List W → MC} : perm [2, 1, 3, 0] [a, b, c, d] k = k [c, b, d, a] := req_of rfl
@[simp] theorem pm_2301 {a b c d : W} {k : List W → MC} : perm [2, 3, 0, 1] [a, b, c, d] k = k [c, d, a, b] := req_of rfl
@[simp] theorem pm_2310 {a b c d : W} {k : List W → MC} : perm [2, 3, 1, 0] [a, b, c, d] k = k [c, d, b, a] := req_of rfl
@[simp] theorem pm_3012 {a b c d : W} {k : List W → MC} : perm [3, 0, 1, 2] [a, b, c, d] k = k [d, a, b, c] := req_of rfl
@[simp] theorem pm_3021 {a b c d : W} {k : List W → MC} : perm [3, 0, 2, 1] [a, b, c, d] k = k [d, a, c, b] := req_of rfl
@[simp] theorem pm_3102 {a b c d : W} {k : List W → MC} : perm [3, 1, 0, 2] [a, b, c, d] k = k [d, b, a, c] := req_of rfl
@[simp] theorem pm_3120 {a b c d : W} {k : List W → MC} : perm [3, 1, 2, 0] [a, b, c, d] k = k [d, b, c, a] := req_of rfl
@[simp] theorem pm_3201 {a b c d : W} {k : List W → MC} : perm [3, 2, 0, 1] [a, b, c, d] k = k [d, c, a, b] := req_of rfl
@[simp] theorem pm_3210 {a b c d : W} {k : List W → MC} : perm [3, 2, 1, 0] [a, b, c, d] k = k [d, c, b, a] := req_of rfl
/-! operators -/
section
variable {i j : Int} {k : SV → MC} {xs ys : List W}
@[simp] theorem o_sub : op2 oSub (.val (.int i)) (.val (.int j)) k = k (.val (.int (i - j))) := by funext h Q E; exact tr_eq
@[simp] theorem o_lt : op2 oLt (.val (.int i)) (.val (.int j)) k = k (.val (.bl (decide (i < j)))) := by funext h Q E; exact tr_eq
@[simp] theorem o_le : op2 oLe (.val (.int i)) (.val (.int j)) k = k (.val (.bl (decide (i ≤ j)))) := by funext h Q E; exact tr_eq
@[simp] theorem o_gt : op2 oGt (.val (.int i)) (.val (.int j)) k = k (.val (.bl (decide (j < i)))) := by funext h Q E; exact tr_eq
@[simp] theorem o_ge : op2 oGe (.val (.int i)) (.val (.int j)) k = k (.val (.bl (decide (j ≤ i)))) := by funext h Q E; exact tr_eq
@[simp] theorem o_mod : op2 oMod (.val (.int i)) (.val (.int j)) k = req (0 < j) (k (.val (.int (i % j)))) := rfl
@[simp] theorem o_fdiv : op2 oFdiv (.val (.int i)) (.val (.int j)) k = req (CDivW i j) (k (.val (.int (i / j)))) := rfl
@[simp] theorem o_pow : op2 oPow (.val (.int i)) (.val (.int j)) k = req (CPow i j) (k (.val (.int (i ^ j.toNat)))) := rfl
@[simp] theorem o_mul : op2 oMulT (.val (.int i)) (.val (.int j)) k = req (CMulW i j) (k (.val (.int (i * j)))) := rfl
@[simp] theorem o_rep : op2 oMulT (.own (.seq xs)) (.val (.int j)) k = req (-(2 ^ 63) ≤ j ∧ j < 2 ^ 63 ∧ xs.length * j.toNat ≤ sizeLine) (k (.own (.seq (List.replicate j.toNat xs).flatten))) := rfl
@[simp] theorem o_repT : op2 oMulT (.val (.tup xs)) (.val (.int j)) k = req (-(2 ^ 63) ≤ j ∧ j ≤ 1000 ∧ 1 ≤ xs.length ∧ xs.length ≤ 1000) (k (.val (.tup (List.replicate j.toNat xs).flatten))) := rfl
@[simp] theorem o_add : op2 oAdd (.val (.int i)) (.val (.int j)) k = k (.val (.int (i + j))) := rfl
@[simp] theorem o_addS {x y : Str} : op2 oAdd (.val (.str x)) (.val (.str y)) k = req (x.length + y.length ≤ sizeLine) (k (.val (.str (x ++ y)))) := rfl
@[simp] theorem o_addT : op2 oAdd (.val (.tup xs)) (.val (.tup ys)) k = req (xs.length + ys.length ≤ sizeLine) (k (.val (.tup (xs ++ ys)))) := rfl
@[simp] theorem o_addLL : op2 oAdd (.val (.lst xs)) (.val (.lst ys)) k = req (xs.length + ys.length ≤ sizeLine) (k (.own (.seq (xs ++ ys)))) := rfl
@[simp] theorem o_addLO : op2 oAdd (.val (.lst xs)) (.own (.seq ys)) k = req (xs.length + ys.length ≤ sizeLine) (k (.own (.seq (xs ++ ys)))) := rfl
@[simp] theorem o_addOL : op2 oAdd (.own (.seq xs)) (.val (.lst ys)) k = req (xs.length + ys.length ≤ sizeLine) (k (.own (.seq (xs ++ ys)))) := rfl
@[simp] theorem o_addOO : op2 oAdd (.own (.seq xs)) (.own (.seq ys)) k = req (xs.length + ys.length ≤ sizeLine) (k (.own (.seq (xs ++ ys)))) := rfl
/-! items, slices -/
def atS (xs : List W) (i : Int) (k : W → MC) : MC := match L2.atI xs i with
  | some w => k w
  | none => bad
theorem ix_items {v : Vw} {i : Int} {Q : RV → Prop} (hv : v.items = some xs) (hs : ∀ x, v ≠ .wv (.str x)) : oIx v (.wv (.int i)) Q = match L2.atI xs i with
  | some w => Q (.val w)
  | none => False := by
  rw [y_ix]
  have z : ixK v i Q = match L2.atI xs i with
    | some w => Q (.val w)
    | none => False := by
    unfold ixK
    rw [hv]
    rfl
  cases v with
  | wv w => cases w with
    | str x => exact absurd rfl (hs x)
    | _ => exact z
  | _ => exact z
theorem op2_at {x : SV} {v : Vw} (e : ∀ h, svw h x = v) (hv : v.items = some xs) (hs : ∀ x, v ≠ .wv (.str x)) : op2 oIx x (.val (.int i)) k = atS xs i fun w => k (.val w) := by
  funext h Q E
  show oIx (svw h x) (.wv (.int i)) _ = _
  rw [e, ix_items hv hs]
  unfold atS
  cases L2.atI xs i <;> rfl
@[simp] theorem o_ixT : op2 oIx (.val (.tup xs)) (.val (.int i)) k = atS xs i fun w => k (.val w) := op2_at (v := .wv (.tup xs)) (fun _ => rfl) rfl (fun _ z => by cases z)
@[simp] theorem o_ixL : op2 oIx (.val (.lst xs)) (.val (.int i)) k = atS xs i fun w => k (.val w) := op2_at (v := .wv (.lst xs)) (fun _ => rfl) rfl (fun _ z => by cases z)
@[simp] theorem o_ixO : op2 oIx (.own (.seq xs)) (.val (.int i)) k = atS xs i fun w => k (.val w) := op2_at (v := .cv (.seq xs)) (fun _ => rfl) rfl (fun _ z => by cases z)
theorem atS_some {k : W → MC} {w : W} (e : L2.atI xs i = some w) : atS xs i k = k w := by unfold atS; rw [e]
@[simp] theorem atS_0 {k : W → MC} {w : W} : atS (w :: xs) 0 k = k w := atS_some at_0
@[simp] theorem atS_1 {k : W → MC} {w v : W} : atS (w :: v :: xs) 1 k = k v := atS_some at_1
@[simp] theorem atS_2 {k : W → MC} {w v u : W} : atS (w :: v :: u :: xs) 2 k = k u := atS_some at_2
@[simp] theorem atS_3 {k : W → MC} {w v u t : W} : atS (w :: v :: u :: t :: xs) 3 k = k t := atS_some (atI_nat (j := 3) rfl)
@[simp] theorem atS_4 {k : W → MC} {w v u t s : W} : atS (w :: v :: u :: t :: s :: xs) 4 k = k s := atS_some (atI_nat (j := 4) rfl)
theorem atS_nat {k : W → MC} {n : Nat} (hn : n < xs.length) : atS xs (n : Int) k = k xs[n] := atS_some (atI_nat (List.getElem?_eq_getElem hn))
theorem atS_map {α : Type} {e : α → W} {l : List α} {k : W → MC} {n : Nat} (hn : n < l.length) : atS (l.map e) (n : Int) k = k (e l[n]) := by
  rw [atS_nat (by rw [List.length_map]; exact hn), List.getElem_map]
@[simp] theorem slc_T {l u : Option Int} : slc (.val (.tup xs)) l u k = k (.val (.tup (cutW xs l u))) := rfl
@[simp] theorem slc_L {l u : Option Int} : slc (.val (.lst xs)) l u k = k (.own (.seq (cutW xs l u))) := rfl
@[simp] theorem slc_O {l u : Option Int} : slc (.own (.seq xs)) l u k = k (.own (.seq (cutW xs l u))) := rfl
/-! stores and methods of what a name owns -/
section
variable {w : W} {k1 : SV → W → MC}
theorem isq_own {m : MC} : isq (.own (.seq xs)) m = m := req_of trivial
@[simp] theorem ext_own {m : CE} : extC (.own (.seq xs)) m k = m fun y => ext (.own (.seq xs)) y k := isq_own
@[simp] theorem ext_OO : ext (.own (.seq xs)) (.own (.seq ys)) k = req (xs.length + ys.length ≤ sizeLine) (k (.own (.seq (xs ++ ys)))) := rfl
@[simp] theorem lm_own {f : LmT} {ma : CWs} : lmC f (.own (.seq xs)) ma k1 = ma fun ws => lm f (.own (.seq xs)) ws k1 := isq_own
@[simp] theorem append_own : lm fAppend (.own (.seq xs)) [w] k1 = req (xs.length < sizeLine) (k1 (.own (.seq (xs ++ [w]))) .non) := rfl
theorem ixN_nat {n j : Nat} (h : j < n) : ixN n (j : Int) = some j := by
  unfold ixN
  rw [if_pos (by omega), if_pos (by omega)]
  rfl
theorem set_own {j : Nat} (h : j < xs.length) : setIx (.own (.seq xs)) (.val (.int (j : Int))) w k = k (.own (.seq (xs.set j w))) := by
  funext h' Q E
  refine propext ⟨fun ⟨i, e, q⟩ => ?_, fun q => ⟨j, ixN_nat h, q⟩⟩
  rw [ixN_nat h] at e
  cases e
  exact q
theorem aug_own {f : Int → Int → Int} {e : CE} {j : Nat} {a : Int} (h : xs[j]? = some (.int a)) (hj : j < 4611686018427387904) : augIx f (.own (.seq xs)) (.val (.int (j : Int))) e k = e fun z => asI z fun b => k (.own (.seq (xs.set j (.int (f a b))))) := by
  funext h' Q E
  show ((0 ≤ (j : Int) ∧ (j : Int) < 2 ^ 62) ∧ (match xs[(j : Int).toNat]? with
    | some (.int a) => e (fun z => asI z fun b => k (.own (.seq (xs.set (j : Int).toNat (.int (f a b)))))) h' Q E
    | _ => False)) = _
  rw [Int.toNat_natCast, h]
  refine propext ⟨fun q => q.2, fun q => ⟨⟨by omega, by omega⟩, q⟩⟩
end
/-! builtins -//-! builtins -/
@[simp] theorem b_lenT : cb oLen [.val (.tup xs)] k = k (.val (.int xs.length)) := by
  funext h Q E; show oLen [.wv (.tup xs)] _ = _; rw [y_len]; rfl
@[simp] theorem b_lenL : cb oLen [.val (.lst xs)] k = k (.val (.int xs.length)) := by
  funext h Q E; show oLen [.wv (.lst xs)] _ = _; rw [y_len]; rfl
@[simp] theorem b_lenO : cb oLen [.own (.seq xs)] k = k (.val (.int xs.length)) := by
  funext h Q E; show oLen [.cv (.seq xs)] _ = _; rw [y_len]; rfl
@[simp] theorem b_lenS {x : Str} : cb oLen [.val (.str x)] k = req (x.length ≤ sizeLine) (k (.val (.int x.length))) := by
  funext h Q E; show oLen [.wv (.str x)] _ = _; rw [y_len]; rfl
@[simp] theorem k_Disp {a : CWs} {k : SV → MC} : eDisp a k = a fun ws => dispX ws k := rfl
@[simp] theorem k_GetD {kvs : List (W × W)} {a b : CW} {k : SV → MC} : eGetD (.own (.map kvs)) a b k = a fun w => b fun d => getX (.own (.map kvs)) w d k := by
  funext h Q E
  exact propext ⟨fun z => z.2, fun z => ⟨⟨kvs, rfl⟩, z⟩⟩
@[simp] theorem k_Prm {m : CE} {k : W → MC} : ePrm m k = m fun x => prom x k := rfl
@[simp] theorem k_lmE {f : LmT} {m : CE} {ma : CWs} {k : MC} : lmE f m ma k = m fun x => lmR f x ma k := rfl
@[simp] theorem b_back : cb oBack [.val (.tup xs), .val (.int i)] k = req (i = -1) (k (.val (.tup xs.reverse))) := rfl
@[simp] theorem b_tupT : cb oTupC [.val (.tup xs)] k = k (.val (.tup xs)) := by
  funext h Q E; show oTupC [.wv (.tup xs)] _ = _; rw [y_tupC]; rfl
@[simp] theorem b_tupL : cb oTupC [.val (.lst xs)] k = k (.val (.tup xs)) := by
  funext h Q E; show oTupC [.wv (.lst xs)] _ = _; rw [y_tupC]; rfl
@[simp] theorem b_tupO : cb oTupC [.own (.seq xs)] k = k (.val (.tup xs)) := by
  funext h Q E; show oTupC [.cv (.seq xs)] _ = _; rw [y_tupC]; rfl
@[simp] theorem b_lstT : cb oLstC [.val (.tup xs)] k = k (.own (.seq xs)) := by
  funext h Q E; show oLstC [.wv (.tup xs)] _ = _; rw [y_lstC]; rfl
@[simp] theorem b_lstL : cb oLstC [.val (.lst xs)] k = k (.own (.seq xs)) := by
  funext h Q E; show oLstC [.wv (.lst xs)] _ = _; rw [y_lstC]; rfl
@[simp] theorem b_lstO : cb oLstC [.own (.seq xs)] k = k (.own (.seq xs)) := by
  funext h Q E; show oLstC [.cv (.seq xs)] _ = _; rw [y_lstC]; rfl
theorem if_min {a b : Int} : (if b < a then b else a) = min a b := by rw [Int.min_def]; split <;> split <;> omega
theorem if_max {a b : Int} : (if b > a then b else a) = max a b := by rw [Int.max_def]; split <;> split <;> omega
theorem if_abs {a : Int} : (if a < 0 then -a else a) = (a.natAbs : Int) := by split <;> omega
@[simp] theorem b_min2 : cb oMin2 [.val (.int i), .val (.int j)] k = k (.val (.int (min i j))) := by
  rw [← if_min]; rfl
@[simp] theorem b_max2 : cb oMax2 [.val (.int i), .val (.int j)] k = k (.val (.int (max i j))) := by
  rw [← if_max]; rfl
@[simp] theorem b_abs : cb oAbs [.val (.int i)] k = k (.val (.int (i.natAbs : Int))) := by
  rw [← if_abs]; rfl
theorem int_inj {as bs : List Int} (e : as.map W.int = bs.map W.int) : as = bs := by
  induction as generalizing bs with
  | nil => cases bs with
    | nil => rfl
    | cons _ _ => cases e
  | cons a as ih => cases bs with
    | nil => cases e
    | cons b bs =>
      rw [List.map_cons, List.map_cons] at e
      injection e with e1 e2
      injection e1 with e1
      rw [e1, ih e2]
theorem bl_inj {as bs : List Bool} (e : as.map W.bl = bs.map W.bl) : as = bs := by
  induction as generalizing bs with
  | nil => cases bs with
    | nil => rfl
    | cons _ _ => cases e
  | cons a as ih => cases bs with
    | nil => cases e
    | cons b bs =>
      rw [List.map_cons, List.map_cons] at e
      injection e with e1 e2
      injection e1 with e1
      rw [e1, ih e2]
theorem oInts_eq {g : List Int → (RV → Prop) → Prop} {ns : List Int} {v : Vw} {Q : RV → Prop} (e : v.seq = some (ns.map W.int)) : oInts g [v] Q = g ns Q := by
  refine propext ⟨fun ⟨ms, e2, q⟩ => ?_, fun q => ⟨ns, e, q⟩⟩
  rw [e] at e2
  rw [int_inj (Option.some.inj e2)]
  exact q
theorem oBls_eq {g : List Bool → Bool} {ns : List Bool} {v : Vw} {Q : RV → Prop} (e : v.seq = some (ns.map W.bl)) : oBls g [v] Q = Q (.val (.bl (g ns))) := by
  refine propext ⟨fun ⟨ms, e2, q⟩ => ?_, fun q => ⟨ns, e, q⟩⟩
  rw [e] at e2
  rw [bl_inj (Option.some.inj e2)]
  exact q
theorem cb_bls {g : List Bool → Bool} {ns : List Bool} {x : SV} {v : Vw} (e : ∀ h, svw h x = v) (es : v.seq = some (ns.map W.bl)) : cb (oBls g) [x] k = k (.val (.bl (g ns))) := by
  funext h Q E
  unfold cb
  rw [List.map_cons, List.map_nil, e, oBls_eq es]
  rfl
theorem cb_ints {g : List Int → (RV → Prop) → Prop} {ns : List Int} {x : SV} {v : Vw} (e : ∀ h, svw h x = v) (es : v.seq = some (ns.map W.int)) : cb (oInts g) [x] k = fun h Q E => g ns fun r => kRv k r h Q E := by
  funext h Q E
  unfold cb
  rw [List.map_cons, List.map_nil, e, oInts_eq es]
theorem cb_sum {ns : List Int} {x : SV} {v : Vw} (e : ∀ h, svw h x = v) (es : v.items = some (ns.map W.int)) : cb oSumA [x] k = k (.val (.int ns.sum)) := by
  funext h Q E
  unfold cb
  rw [List.map_cons, List.map_nil, e]
  refine propext ⟨fun ⟨ms, e2, q⟩ => ?_, fun q => ⟨ns, es, q⟩⟩
  rw [es] at e2
  rw [int_inj (Option.some.inj e2)]
  exact q
@[simp] theorem b_sorted {ns : List Int} : cb oSorted [.own (.seq (ns.map W.int))] k = k (.own (.seq ((srt ns).map W.int))) := cb_ints (v := .cv (.seq _)) (fun _ => rfl) rfl
@[simp] theorem b_sortedL {ns : List Int} : cb oSorted [.val (.lst (ns.map W.int))] k = k (.own (.seq ((srt ns).map W.int))) := cb_ints (v := .wv (.lst _)) (fun _ => rfl) rfl
@[simp] theorem b_sumO {ns : List Int} : cb oSumA [.own (.seq (ns.map W.int))] k = k (.val (.int ns.sum)) := cb_sum (v := .cv (.seq _)) (fun _ => rfl) rfl
@[simp] theorem b_sumL {ns : List Int} : cb oSumA [.val (.lst (ns.map W.int))] k = k (.val (.int ns.sum)) := cb_sum (v := .wv (.lst _)) (fun _ => rfl) rfl
@[simp] theorem b_sumT {ns : List Int} : cb oSumA [.val (.tup (ns.map W.int))] k = k (.val (.int ns.sum)) := cb_sum (v := .wv (.tup _)) (fun _ => rfl) rfl
@[simp] theorem b_anyO {ns : List Bool} : cb oAny [.own (.seq (ns.map W.bl))] k = k (.val (.bl (ns.any id))) := cb_bls (v := .cv (.seq _)) (fun _ => rfl) rfl
@[simp] theorem b_allO {ns : List Bool} : cb oAll [.own (.seq (ns.map W.bl))] k = k (.val (.bl (ns.all id))) := cb_bls (v := .cv (.seq _)) (fun _ => rfl) rfl
end
end
end Ab

/-! Mc4: loops and comprehensions over mapped lists; equality of data; draws. -/
namespace Ab
open PySem PySem.Spec PyProof.Rows L2 RZ
section
variable {Q : RR → AH → Prop} {E : AExc → AH → Prop} {h : AH} {α β σ : Type}
/-! ### what is walked, as a mapped list -/
theorem rng_map {n : Nat} : rngW 0 n = (List.range n).map fun (i : Nat) => W.int i := by
  unfold rngW
  simp
theorem zip_map {e1 : α → W} {e2 : β → W} : ∀ {as : List α} {bs : List β}, List.zipWith (fun a b => W.tup [a, b]) (as.map e1) (bs.map e2) = (as.zip bs).map fun p => W.tup [e1 p.1, e2 p.2]
  | [], _ => rfl
  | _ :: _, [] => rfl
  | a :: as, b :: bs => by
    simp only [List.map_cons, List.zipWith_cons_cons, List.zip_cons_cons]
    rw [zip_map]
theorem en_map {e : α → W} {l : List α} : enW (l.map e) = l.zipIdx.map fun p => W.tup [.int (p.2 : Int), e p.1] := by
  refine List.ext_getElem (by simp [enW]) fun i h1 h2 => ?_
  have hi : i < l.length := by simpa [enW] using h1
  simp [enW, List.getD_eq_getElem?_getD, hi]
theorem ez_map {e1 : α → W} {e2 : β → W} {as : List α} {bs : List β} : ezW (as.map e1) (bs.map e2) = (as.zip bs).zipIdx.map fun p => W.tup [.int (p.2 : Int), .tup [e1 p.1.1, e2 p.1.2]] := by
  unfold ezW
  rw [zip_map, en_map]
/-! ### comprehensions -/
section
variable {body : W → (Option W → MC) → MC} {k : List W → MC}
theorem lc_opt (e : α → W) (f : α → Option W) : ∀ (l : List α) (acc : List W), (∀ a ∈ l, ∀ kk, body (e a) kk = kk (f a)) → acc.length + l.length ≤ sizeLine → lcL body k (l.map e) acc = k (acc ++ l.filterMap f)
  | [], acc, _, _ => by simp [lcL]
  | a :: l, acc, hb, hl => by
    rw [List.length_cons] at hl
    show body (e a) _ = _
    rw [hb a (by simp)]
    cases q : f a with
    | none =>
      show lcL body k (l.map e) acc = _
      rw [lc_opt e f l acc (fun b hb' => hb b (by simp [hb'])) (by omega), List.filterMap_cons_none q]
    | some y =>
      show req _ _ = _
      rw [req_of (by omega), lc_opt e f l (acc ++ [y]) (fun b hb' => hb b (by simp [hb'])) (by rw [List.length_append, List.length_singleton]; omega), List.filterMap_cons_some q]
      simp
theorem lc_all (e : α → W) (g : α → W) (l : List α) (hb : ∀ a ∈ l, ∀ kk, body (e a) kk = kk (some (g a))) (hl : l.length ≤ sizeLine) : lcL body k (l.map e) [] = k (l.map g) := by
  rw [lc_opt e (fun a => some (g a)) l [] hb (by simpa using hl)]
  congr 1
  rw [List.nil_append, List.filterMap_eq_map']
/-- pairs in order -/
theorem lc_wp (I : Nat → AH → Prop) (P : W → W → Prop) : ∀ (ws acc : List W) (i : Nat) (h : AH), acc.length + ws.length ≤ sizeLine → I i h →
    (∀ w ∈ ws, ∀ j h kk, j < i + ws.length → I j h → (∀ y h', P w y → I (j + 1) h' → kk (some y) h' Q E) → body w kk h Q E) →
    (∀ ys h', All2 P ws ys → I (i + ws.length) h' → k (acc ++ ys) h' Q E) → lcL body k ws acc h Q E
  | [], acc, i, h, _, j, _, q => by
    have z := q [] h .nil (by simpa using j)
    simpa [lcL] using z
  | w :: ws, acc, i, h, hl, j, hb, q => by
    rw [List.length_cons] at hl
    refine hb w (by simp) i h _ (by rw [List.length_cons]; omega) j fun y h' py j' => ⟨by omega, ?_⟩
    refine lc_wp I P ws (acc ++ [y]) (i + 1) h' (by rw [List.length_append, List.length_singleton]; omega) j' (fun v hv j h kk hj => hb v (by simp [hv]) j h kk (by rw [List.length_cons]; omega)) fun ys h2 ay j2 => ?_
    have z := q (y :: ys) h2 (.cons py ay) (by rw [List.length_cons]; rwa [show i + (ws.length + 1) = i + 1 + ws.length by omega])
    simpa using z
end
/-! ### loops -/
section
variable {body : W → σ → (σ → MC) → (σ → MC) → MC} {k : σ → MC}
/-- .. the state told by a datum, by turns -/
theorem for_enc {τ : Type} (e : α → W) (eS : τ → σ) (f : τ → α → τ) (I : Nat → τ → Prop) : ∀ (l : List α) (t : τ) (i : Nat), I i t → (∀ (j : Nat) a, l[j]? = some a → ∀ t, I (i + j) t → I (i + j + 1) (f t a) ∧ ∀ kn, body (e a) (eS t) kn k = kn (eS (f t a))) → forL body k (l.map e) (eS t) = k (eS (l.foldl f t))
  | [], t, i, _, _ => rfl
  | a :: l, t, i, h0, hb => by
    obtain ⟨i', hb'⟩ := hb 0 a rfl t h0
    show body (e a) (eS t) _ k = _
    rw [hb', for_enc e eS f I l (f t a) (i + 1) i' fun j b hj t hi => ?_]
    · rfl
    · have z := hb (j + 1) b (by simpa using hj) t (by rwa [show i + (j + 1) = i + 1 + j by omega])
      rwa [show i + (j + 1) + 1 = i + 1 + j + 1 by omega] at z
/-- a turn: go on with a state, or end so -/
inductive Stp (σ : Type) where
  | go (s : σ) | out (m : MC)
theorem for_none {body : W → Unit → (Unit → MC) → (Unit → MC) → MC} {k : Unit → MC} (ws : List W) (hb : ∀ w ∈ ws, ∀ kn, body w () kn k = kn ()) : forL body k ws () = k () := by
  induction ws with
  | nil => rfl
  | cons w ws ih =>
    show body w () _ k = _
    rw [hb w (by simp)]
    exact ih fun v hv => hb v (by simp [hv])
theorem for_wp (I : List W → σ → AH → Prop) (h0 : ∀ s h, I [] s h → k s h Q E) (hs : ∀ w ws s h kn, I (w :: ws) s h → (∀ s' h', I ws s' h' → kn s' h' Q E) → body w s kn k h Q E) : ∀ ws s h, I ws s h → forL body k ws s h Q E
  | [], s, h, i => h0 s h i
  | w :: ws, s, h, i => hs w ws s h _ i fun s' h' i' => for_wp I h0 hs ws s' h' i'
end
end
/-! ### equality of data: no truth values, no addresses in it -/
mutual
def W.nb : Nat → W → Bool
  | _, .non => true
  | _, .int _ => true
  | _, .str _ => true
  | n + 1, .tup xs => W.nbs n xs
  | n + 1, .lst xs => W.nbs n xs
  | _, _ => false
def W.nbs : Nat → List W → Bool
  | _, [] => true
  | n, x :: xs => W.nb n x && W.nbs n xs
end
theorem W.nbs_of {n : Nat} : ∀ {xs : List W}, (∀ x ∈ xs, x.nb n = true) → W.nbs n xs = true
  | [], _ => rfl
  | x :: xs, h => by
    simp only [W.nbs, Bool.and_eq_true]
    exact ⟨h x (by simp), W.nbs_of fun y hy => h y (by simp [hy])⟩
theorem W.nbs_mem {n : Nat} : ∀ {xs : List W}, W.nbs n xs = true → ∀ x ∈ xs, x.nb n = true
  | [], _, x, h => by cases h
  | y :: ys, e, x, h => by
    simp only [W.nbs, Bool.and_eq_true] at e
    rcases List.mem_cons.mp h with rfl | h
    · exact e.1
    · exact W.nbs_mem e.2 x h
theorem nb_int {n : Nat} {i : Int} : (W.int i).nb n = true := by cases n <;> rfl
theorem nb_tup {n : Nat} {xs : List W} (h : ∀ x ∈ xs, x.nb n = true) : (W.tup xs).nb (n + 1) = true := W.nbs_of h
theorem nb_lst {n : Nat} {xs : List W} (h : ∀ x ∈ xs, x.nb n = true) : (W.lst xs).nb (n + 1) = true := W.nbs_of h
theorem nb_ints {n : Nat} {xs : List Int} : ∀ x ∈ xs.map W.int, x.nb n = true := fun x hx => by
  obtain ⟨i, _, rfl⟩ := List.mem_map.mp hx
  exact nb_int
theorem nb_dat : ∀ {n : Nat} {w : W}, w.nb n = true → w.dat n = true
  | 0, .non, _ => rfl
  | 0, .int _, _ => rfl
  | 0, .str _, _ => rfl
  | _ + 1, .non, _ => rfl
  | _ + 1, .int _, _ => rfl
  | _ + 1, .str _, _ => rfl
  | n + 1, .tup xs, h => by
    show xs.all (W.dat n) = true
    rw [List.all_eq_true]
    exact fun x hx => nb_dat (W.nbs_mem h x hx)
  | n + 1, .lst xs, h => by
    show xs.all (W.dat n) = true
    rw [List.all_eq_true]
    exact fun x hx => nb_dat (W.nbs_mem h x hx)
  | 0, .tup _, h => by simp [W.nb] at h
  | 0, .lst _, h => by simp [W.nb] at h
  | _, .bl _, h => by simp [W.nb] at h
  | _, .dct _ _, h => by simp [W.nb] at h
  | _, .ref _, h => by simp [W.nb] at h
  | _, .ty _, h => by simp [W.nb] at h
theorem dat_up : ∀ {n m : Nat} {w : W}, n ≤ m → w.dat n = true → w.dat m = true
  | _, 0, .non, _, _ => rfl
  | _, 0, .int _, _, _ => rfl
  | _, 0, .str _, _, _ => rfl
  | _, 0, .bl _, _, _ => rfl
  | _, _ + 1, .non, _, _ => rfl
  | _, _ + 1, .int _, _, _ => rfl
  | _, _ + 1, .str _, _, _ => rfl
  | _, _ + 1, .bl _, _, _ => rfl
  | 0, _, .tup _, _, h => by simp [W.dat] at h
  | 0, _, .lst _, _, h => by simp [W.dat] at h
  | n + 1, m + 1, .tup xs, l, h => by
    have h : xs.all (W.dat n) = true := h
    show xs.all (W.dat m) = true
    rw [List.all_eq_true] at h ⊢
    exact fun x hx => dat_up (by omega) (h x hx)
  | n + 1, m + 1, .lst xs, l, h => by
    have h : xs.all (W.dat n) = true := h
    show xs.all (W.dat m) = true
    rw [List.all_eq_true] at h ⊢
    exact fun x hx => dat_up (by omega) (h x hx)
  | _ + 1, 0, .tup _, l, _ => by omega
  | _ + 1, 0, .lst _, l, _ => by omega
  | _, _, .dct _ _, _, h => by simp [W.dat] at h
  | _, _, .ref _, _, h => by simp [W.dat] at h
  | _, _, .ty _, _, h => by simp [W.dat] at h
/-- a value as data -/
def W.plain (w : W) : Prop := ∃ n, n ≤ 60 ∧ w.nb n = true
@[simp] theorem pl_int {i : Int} : (W.int i).plain := ⟨0, by omega, rfl⟩
@[simp] theorem pl_str {i : Str} : (W.str i).plain := ⟨0, by omega, rfl⟩
@[simp] theorem pl_non : W.non.plain := ⟨0, by omega, rfl⟩
theorem pl_tup (n : Nat) (hn : n < 60) {xs : List W} (h : ∀ x ∈ xs, x.nb n = true) : (W.tup xs).plain := ⟨n + 1, hn, nb_tup h⟩
theorem pl_lst (n : Nat) (hn : n < 60) {xs : List W} (h : ∀ x ∈ xs, x.nb n = true) : (W.lst xs).plain := ⟨n + 1, hn, nb_lst h⟩
@[simp] theorem pl_ints {xs : List Int} : (W.tup (xs.map W.int)).plain := pl_tup 0 (by omega) nb_ints
@[simp] theorem pl_intsL {xs : List Int} : (W.lst (xs.map W.int)).plain := pl_lst 0 (by omega) nb_ints
mutual
theorem eqw_nb : ∀ (n : Nat) (a b : W) (m : Nat), a.nb n = true → b.nb m = true → (eqw a b = true ↔ a = b)
  | _, .non, .non, _, _, _ => by simp [eqw, W.pd, PyData.eqv]
  | _, .non, .int _, _, _, _ => by simp [eqw, W.pd, PyData.eqv]
  | _, .non, .str _, _, _, _ => by simp [eqw, W.pd, PyData.eqv]
  | _, .non, .tup _, _, _, _ => by simp [eqw, W.pd, PyData.eqv]
  | _, .non, .lst _, _, _, _ => by simp [eqw, W.pd, PyData.eqv]
  | _, .int _, .non, _, _, _ => by simp [eqw, W.pd, PyData.eqv]
  | _, .int _, .int _, _, _, _ => by simp [eqw, W.pd, PyData.eqv]
  | _, .int _, .str _, _, _, _ => by simp [eqw, W.pd, PyData.eqv]
  | _, .int _, .tup _, _, _, _ => by simp [eqw, W.pd, PyData.eqv]
  | _, .int _, .lst _, _, _, _ => by simp [eqw, W.pd, PyData.eqv]
  | _, .str _, .non, _, _, _ => by simp [eqw, W.pd, PyData.eqv]
  | _, .str _, .int _, _, _, _ => by simp [eqw, W.pd, PyData.eqv]
  | _, .str _, .str _, _, _, _ => by simp [eqw, W.pd, PyData.eqv]
  | _, .str _, .tup _, _, _, _ => by simp [eqw, W.pd, PyData.eqv]
  | _, .str _, .lst _, _, _, _ => by simp [eqw, W.pd, PyData.eqv]
  | _, .tup _, .non, _, _, _ => by simp [eqw, W.pd, PyData.eqv]
  | _, .tup _, .int _, _, _, _ => by simp [eqw, W.pd, PyData.eqv]
  | _, .tup _, .str _, _, _, _ => by simp [eqw, W.pd, PyData.eqv]
  | n + 1, .tup xs, .tup ys, m + 1, h, g => by
    have z := eqws_nb n xs ys m h g
    show PyData.eqvAll (W.pds xs) (W.pds ys) = true ↔ _
    rw [z]
    simp
  | _, .tup _, .lst _, _, _, _ => by simp [eqw, W.pd, PyData.eqv]
  | _, .lst _, .non, _, _, _ => by simp [eqw, W.pd, PyData.eqv]
  | _, .lst _, .int _, _, _, _ => by simp [eqw, W.pd, PyData.eqv]
  | _, .lst _, .str _, _, _, _ => by simp [eqw, W.pd, PyData.eqv]
  | _, .lst _, .tup _, _, _, _ => by simp [eqw, W.pd, PyData.eqv]
  | n + 1, .lst xs, .lst ys, m + 1, h, g => by
    have z := eqws_nb n xs ys m h g
    show PyData.eqvAll (W.pds xs) (W.pds ys) = true ↔ _
    rw [z]
    simp
  | 0, .tup _, .tup _, _, h, _ => by simp [W.nb] at h
  | _, .tup _, .tup _, 0, _, h => by simp [W.nb] at h
  | 0, .lst _, .lst _, _, h, _ => by simp [W.nb] at h
  | _, .lst _, .lst _, 0, _, h => by simp [W.nb] at h
  | _, .bl _, _, _, h, _ => by simp [W.nb] at h
  | _, .dct _ _, _, _, h, _ => by simp [W.nb] at h
  | _, .ref _, _, _, h, _ => by simp [W.nb] at h
  | _, .ty _, _, _, h, _ => by simp [W.nb] at h
  | _, _, .bl _, _, _, h => by simp [W.nb] at h
  | _, _, .dct _ _, _, _, h => by simp [W.nb] at h
  | _, _, .ref _, _, _, h => by simp [W.nb] at h
  | _, _, .ty _, _, _, h => by simp [W.nb] at h
theorem eqws_nb : ∀ (n : Nat) (xs ys : List W) (m : Nat), W.nbs n xs = true → W.nbs m ys = true → (PyData.eqvAll (W.pds xs) (W.pds ys) = true ↔ xs = ys)
  | _, [], [], _, _, _ => by simp [W.pds, PyData.eqvAll]
  | _, [], _ :: _, _, _, _ => by simp [W.pds, PyData.eqvAll]
  | _, _ :: _, [], _, _, _ => by simp [W.pds, PyData.eqvAll]
  | n, x :: xs, y :: ys, m, h, g => by
    simp only [W.nbs, Bool.and_eq_true] at h g
    have z1 := eqw_nb n x y m h.1 g.1
    have z2 := eqws_nb n xs ys m h.2 g.2
    simp only [W.pds, PyData.eqvAll, Bool.and_eq_true]
    rw [z2, show PyData.eqv x.pd y.pd = eqw x y from rfl, z1]
    simp
end
/-- what a name or a result is, as data -/
def SV.pl (x : SV) : Prop := match x with
  | .val w => w.plain
  | .own c => c.fz.plain
theorem view_plain {w : W} (h : w.plain) (k : AH) : viewW k w = .wv w := by
  obtain ⟨n, _, h⟩ := h
  cases w with
  | ref a => simp [W.nb] at h
  | _ => rfl
theorem svw_plain {x : SV} (h : x.pl) (k : AH) : (svw k x).toW = x.fz ∧ svw k x ≠ .bad ∧ x.fz.plain := by
  cases x with
  | val w =>
    have h : w.plain := h
    refine ⟨by show (viewW k w).toW = w; rw [view_plain h]; rfl, by show viewW k w ≠ .bad; rw [view_plain h]; exact (fun z => nomatch z), h⟩
  | own c => exact ⟨rfl, (fun z => nomatch z), h⟩
theorem plain_dat {w : W} (h : w.plain) : w.dat 60 = true := by
  obtain ⟨n, hn, h⟩ := h
  exact dat_up hn (nb_dat h)
theorem ok_plain {x : SV} (h : x.pl) (k : AH) : (svw k x).ok = true := by
  obtain ⟨a, b, c⟩ := svw_plain h k
  have d := plain_dat c
  cases e : svw k x with
  | bad => exact absurd e b
  | wv w => rw [e] at a; show w.dat 60 = true; rw [show w = x.fz from a]; exact d
  | cv w => rw [e] at a; show w.fz.dat 60 = true; rw [show w.fz = x.fz from a]; exact d
theorem o_eq {x y : SV} {neg : Bool} {k : SV → MC} (hx : x.pl) (hy : y.pl) : op2 (oEq neg) x y k = k (.val (.bl (if neg = true then !eqw x.fz y.fz else eqw x.fz y.fz))) := by
  funext h Q E
  unfold op2 oEq
  rw [(svw_plain hx h).1, (svw_plain hy h).1]
  refine propext ⟨fun z => z.2.2, fun z => ⟨ok_plain hx h, ok_plain hy h, z⟩⟩
noncomputable instance : DecidableEq W := fun _ _ => Classical.propDecidable _
theorem sp {w : W} (h : w.plain) : SV.pl (.val w) := h
theorem so {c : Cont} (h : c.fz.plain) : SV.pl (.own c) := h
/-- == as a test -/
theorem t_eq {x y : SV} {k : Bool → MC} (hx : x.pl) (hy : y.pl) : (op2 (oEq false) x y fun r => asB r k) = k (decide (x.fz = y.fz)) := by
  rw [o_eq hx hy]
  obtain ⟨_, _, n, _, hn⟩ := svw_plain hx (fun _ => none)
  obtain ⟨_, _, m, _, hm⟩ := svw_plain hy (fun _ => none)
  have z := eqw_nb n x.fz y.fz m hn hm
  have : eqw x.fz y.fz = decide (x.fz = y.fz) := by
    by_cases q : x.fz = y.fz
    · rw [z.mpr q, decide_eq_true q]
    · have q' := mt z.mp q
      rw [decide_eq_false q]
      simpa using q'
  rw [this]
  rfl
theorem t_ne {x y : SV} {k : Bool → MC} (hx : x.pl) (hy : y.pl) : (op2 (oEq true) x y fun r => asB r k) = k (!decide (x.fz = y.fz)) := by
  have z := t_eq (k := fun b => k (!b)) hx hy
  rw [o_eq hx hy] at z ⊢
  simp only [Bool.false_eq_true, if_false, if_true] at z ⊢
  exact z
/-! == and the like of plain data, as values -/
theorem o_eqP {x y : SV} {k : SV → MC} (hx : x.pl) (hy : y.pl) : op2 (oEq false) x y k = k (.val (.bl (decide (x.fz = y.fz)))) := by
  rw [o_eq hx hy]
  obtain ⟨_, _, n, _, hn⟩ := svw_plain hx (fun _ => none)
  obtain ⟨_, _, m, _, hm⟩ := svw_plain hy (fun _ => none)
  have z := eqw_nb n x.fz y.fz m hn hm
  have : eqw x.fz y.fz = decide (x.fz = y.fz) := by
    by_cases q : x.fz = y.fz
    · rw [z.mpr q, decide_eq_true q]
    · have q' := mt z.mp q
      rw [decide_eq_false q]
      simpa using q'
  rw [this]
  rfl
theorem o_neP {x y : SV} {k : SV → MC} (hx : x.pl) (hy : y.pl) : op2 (oEq true) x y k = k (.val (.bl (!decide (x.fz = y.fz)))) := by
  have z := o_eqP (k := fun r => match r with
    | .val (.bl b) => k (.val (.bl (!b)))
    | _ => bad) hx hy
  rw [o_eq hx hy] at z ⊢
  exact z
theorem dec_cong {p q : Prop} [Decidable p] [Decidable q] (h : p ↔ q) : decide p = decide q := decide_eq_decide.mpr h
section
variable {k : SV → MC} {i j : Int} {a b : Str} {as bs : List Int} {xs : List W}
@[simp] theorem o_eqI : op2 (oEq false) (.val (.int i)) (.val (.int j)) k = k (.val (.bl (decide (i = j)))) := by
  rw [o_eqP (sp pl_int) (sp pl_int), dec_cong (q := i = j) (by simp)]
@[simp] theorem o_neI : op2 (oEq true) (.val (.int i)) (.val (.int j)) k = k (.val (.bl (!decide (i = j)))) := by
  rw [o_neP (sp pl_int) (sp pl_int), dec_cong (q := i = j) (by simp)]
@[simp] theorem o_eqSt : op2 (oEq false) (.val (.str a)) (.val (.str b)) k = k (.val (.bl (decide (a = b)))) := by
  rw [o_eqP (sp pl_str) (sp pl_str), dec_cong (q := a = b) (by simp)]
@[simp] theorem o_neSt : op2 (oEq true) (.val (.str a)) (.val (.str b)) k = k (.val (.bl (!decide (a = b)))) := by
  rw [o_neP (sp pl_str) (sp pl_str), dec_cong (q := a = b) (by simp)]
theorem tup_ints : W.tup (as.map W.int) = W.tup (bs.map W.int) ↔ as = bs := ⟨fun e => by injection e with e; exact int_inj e, fun e => by rw [e]⟩
@[simp] theorem o_eqT : op2 (oEq false) (.val (.tup (as.map W.int))) (.val (.tup (bs.map W.int))) k = k (.val (.bl (decide (as = bs)))) := by
  rw [o_eqP (sp pl_ints) (sp pl_ints), fz_val, fz_val, dec_cong (q := as = bs) tup_ints]
@[simp] theorem o_neT : op2 (oEq true) (.val (.tup (as.map W.int))) (.val (.tup (bs.map W.int))) k = k (.val (.bl (!decide (as = bs)))) := by
  rw [o_neP (sp pl_ints) (sp pl_ints), fz_val, fz_val, dec_cong (q := as = bs) tup_ints]
theorem isN_at {w : W} {neg : Bool} (hv : ∀ h, viewW h w = .wv w) : op2 (oIsN neg) (.val w) (.val .non) k = k (.val (.bl (if neg then !(Vw.wv w).isNon else (Vw.wv w).isNon))) := by
  funext h Q E
  show oIsN neg (viewW h w) (.wv .non) _ = _
  rw [hv, y_isN]
  refine propext ⟨fun z => z.2, fun z => ⟨(fun e => nomatch e), z⟩⟩
@[simp] theorem isN_non : op2 (oIsN false) (.val .non) (.val .non) k = k (.val (.bl true)) := isN_at (fun _ => rfl)
@[simp] theorem isN_int : op2 (oIsN false) (.val (.int i)) (.val .non) k = k (.val (.bl false)) := isN_at (fun _ => rfl)
@[simp] theorem isN_str : op2 (oIsN false) (.val (.str a)) (.val .non) k = k (.val (.bl false)) := isN_at (fun _ => rfl)
@[simp] theorem isN_tup : op2 (oIsN false) (.val (.tup xs)) (.val .non) k = k (.val (.bl false)) := isN_at (fun _ => rfl)
@[simp] theorem isN_lst : op2 (oIsN false) (.val (.lst xs)) (.val .non) k = k (.val (.bl false)) := isN_at (fun _ => rfl)
@[simp] theorem nIsN_non : op2 (oIsN true) (.val .non) (.val .non) k = k (.val (.bl false)) := isN_at (fun _ => rfl)
@[simp] theorem nIsN_int : op2 (oIsN true) (.val (.int i)) (.val .non) k = k (.val (.bl true)) := isN_at (fun _ => rfl)
@[simp] theorem nIsN_str : op2 (oIsN true) (.val (.str a)) (.val .non) k = k (.val (.bl true)) := isN_at (fun _ => rfl)
@[simp] theorem nIsN_tup : op2 (oIsN true) (.val (.tup xs)) (.val .non) k = k (.val (.bl true)) := isN_at (fun _ => rfl)
@[simp] theorem nIsN_lst : op2 (oIsN true) (.val (.lst xs)) (.val .non) k = k (.val (.bl true)) := isN_at (fun _ => rfl)
end
end Ab

/-! Mc5: a lambda handed to a def. -/
namespace Ab
open PySem PySem.Spec PyProof.Rows L2 RZ
abbrev CL := (Addr → List W → MC) → MC
def lHere (mw : CWs) : CL := fun k h Q E => ∀ f : Addr, mw (fun ws => k f (.ref f :: ws)) h Q E
def lCons (a : CW) (u : CL) : CL := fun k => a fun w => u fun f ws => k f (w :: ws)
/-- .. of none -/
def lam0 (b : CE) : List W → MC
  | [] => b ret
  | _ => bad
/-- .. of one parameter -/
def lam1 (b : W → CE) : List W → MC
  | [w] => b w ret
  | _ => bad
def eLamCall (m : Addr → List W → MC) (l : CL) : CE := fun k => l fun f ws => call (m f ws) k
section
variable {Q : RR → AH → Prop} {E : AExc → AH → Prop} {env : AEnv} {h : AH} {k : SV → MC}
@[simp] theorem k_LamCall {m : Addr → List W → MC} {l : CL} : eLamCall m l k = l fun f ws => call (m f ws) k := rfl
@[simp] theorem k_lCons {a : CW} {u : CL} {k : Addr → List W → MC} : lCons a u k = a fun w => u fun f ws => k f (w :: ws) := rfl
theorem lHere_const {mw : CWs} {k : Addr → List W → MC} {R : MC} (e : ∀ f : Addr, mw (fun ws => k f (.ref f :: ws)) = R) : lHere mw k = R := by
  funext h Q E
  exact propext ⟨fun z => by rw [← e 0]; exact z 0, fun z f => by rw [e f]; exact z⟩
@[simp] theorem lam0_nil {b : CE} : lam0 b [] = b ret := rfl
@[simp] theorem lam1_one {b : W → CE} {w : W} : lam1 b [w] = b w ret := rfl
def SL (Q : RR → AH → Prop) (E : AExc → AH → Prop) (env : AEnv) (t : ALT) (m : CL) : Prop := ∀ h (k : Addr → List W → MC) (K : Addr → List W → AEnv → AH → Prop), (∀ f ws h', k f ws h' Q E → K f ws env h') → m k h Q E → t env h K
theorem sl_here {ta : AAT} {ma : CWs} (a : SA Q E env ta ma) : SL Q E env (aLamHere ta) (lHere ma) := fun h k K hk z f => a h _ _ (fun ws h1 y => hk _ _ _ y) (z f)
theorem sn_lam {E' : AExc → AEnv → AH → Prop} {i : Nat} {f : Addr} {sp : ASp} {ML : List W → MC} {ta : AAT} {ma : CWs} (hE : ∀ x h, E x h → E' x env h) (hs : ∀ ws h Q E, upc ML ws h Q E → sp ws h Q E) (e : env[i]? = some (some (.val (.ref f)))) (a : SA Q E env ta ma) : SN Q E env (aLam E' i f sp ta) (eCall ML ma) := fun h k K hk z =>
  ⟨e, a h _ _ (fun ws h1 z => hs _ _ _ _ (call_ok hk hE z)) z⟩
theorem sn_lamcall {E' : AExc → AEnv → AH → Prop} {n m : Nat} {tc : Addr → ASp → (AExc → AEnv → AH → Prop) → ATS} {tb : (AExc → AEnv → AH → Prop) → AT} {tl : ALT} {ml : CL} {mm : Addr → List W → MC} {ML : List W → MC} (hE : ∀ x h, E x h → E' x env h)
    (hz : ∀ (f : Addr) (sp : ASp), (∀ ws h Q E, upc ML ws h Q E → sp ws h Q E) → ∀ ws h Qa Ea, ws.length = n → upc (mm f) ws h Qa Ea → tc f sp (excOf Ea) (endsOf Qa) (startA m ws) h)
    (hb : ∀ ws h Q E, upc ML ws h Q E → lamSp tb env ws h Q E) (a : SL Q E env tl ml) : SN Q E env (aLamCall E' n m tc tb tl) (eLamCall mm ml) := fun h k K hk z =>
  a h _ _ (fun f ws h1 z => ⟨fun r h2 => k r.sv h2 Q E, E, fun r h2 z => by cases r <;> exact hk _ _ z, fun x h2 z => hE x h2 z, fun l => hz f _ hb _ _ _ _ l ⟨_, _, fun _ _ z => z, fun _ _ z => z, z⟩⟩) z
theorem lam0_ok {tb : (AExc → AEnv → AH → Prop) → AT} {b : CE} (s : ∀ (Q : RR → AH → Prop) (E : AExc → AH → Prop) (E' : AExc → AEnv → AH → Prop), (∀ env x h, E x h → E' x env h) → SE Q E (lamEnvA env []) (tb E') b) : ∀ ws h Q E, upc (lam0 b) ws h Q E → lamSp tb env ws h Q E := fun ws h Qa Ea ⟨Q0, E0, hQ, hE, z⟩ => by
  match ws with
  | [] => exact ⟨excOf Ea, fun _ _ _ z => z, s Q0 E0 (excOf Ea) (he_top hE) h ret _ (fun r x h' rl q => hr_top hQ r x _ h' rl q) z⟩
  | _ :: _ => exact z.elim
/-! ### raise, try -/
def raiseC (x word : Str) (fs : List Str) (ma : CWs) : MC := ma fun ws => raise ⟨x, initF (W.str word) fs ws⟩
@[simp] theorem k_raiseC {x word : Str} {fs : List Str} {ma : CWs} : raiseC x word fs ma = ma fun ws => raise ⟨x, initF (W.str word) fs ws⟩ := rfl
theorem ss_raise {E' : AExc → AEnv → AH → Prop} {D : AEnds} {x word : Str} {fs : List Str} {ta : AAT} {ma : CWs} (hE : ∀ x h, E x h → E' x env h) (a : SA Q E env ta ma) : ∀ h, raiseC x word fs ma h Q E → aRaise E' x word fs ta D env h := fun h z =>
  a h (fun ws => raise ⟨x, initF (W.str word) fs ws⟩) (fun ws env1 h1 => E' ⟨x, initF (W.str word) fs ws⟩ env1 h1) (fun ws h1 y => hE _ _ y) z
/-- the clauses: class, value -/
def handsM (ks : List Str) : List (Str × XT) → (W → MC) → AExc → MC
  | [], _, x => raise x
  | (c, sv) :: r, k, x => fun h Q E => x.n ∈ ks ∧ if subX x.n c = true then sv x (fun w => k w h Q E) else handsM ks r k x h Q E
def tryC (b : (W → MC) → MC) (k : W → MC) (hd : (W → MC) → AExc → MC) : MC := fun h Q E => b (fun s h' _ _ => k s h' Q E) h Q fun x h' => hd k x h' Q E
theorem tryC_val {b : (W → MC) → MC} {k : W → MC} {hd : (W → MC) → AExc → MC} {w : W} (e : ∀ kk : W → MC, b kk = kk w) : tryC b k hd = k w := by
  funext h Q E
  show b _ h Q _ = _
  rw [e]
theorem tryC_exc {b : (W → MC) → MC} {k : W → MC} {hd : (W → MC) → AExc → MC} {x : AExc} (e : ∀ kk : W → MC, b kk = raise x) : tryC b k hd = hd k x := by
  funext h Q E
  show b _ h Q _ = _
  rw [e]
  rfl
inductive MonoL2 : List (Str × XT) → Prop where
  | nil : MonoL2 []
  | cons {c : Str} {sv : XT} {l : List (Str × XT)} (m : MonoX sv) (t : MonoL2 l) : MonoL2 ((c, sv) :: l)
theorem mx_fld {f : Str} : MonoX (xFld f) := fun x K K' k ⟨w, e, q⟩ => ⟨w, e, k _ q⟩
theorem mx_con {w : W} : MonoX (xCon w) := fun x K K' k q => k _ q
theorem mx_nil : MonoXs xNil := fun x K K' k q => k _ q
theorem mx_cons {a : XT} {b : XTs} (m : MonoX a) (n : MonoXs b) : MonoXs (xCons a b) := fun x K K' k q => m x _ _ (fun w z => n x _ _ (fun ws y => k _ y) z) q
theorem mx_tup {a : XTs} (m : MonoXs a) : MonoX (xTup a) := fun x K K' k q => m x _ _ (fun ws z => ⟨z.1, k _ z.2⟩) q
theorem hands_ok {E' : AExc → AEnv → AH → Prop} {D : AEnds} {ks : List Str} {i j : Nat} {k : W → MC} (hi : i < env.length) (N : ∀ w h, k w h Q E → D.nx ((env.set j (some (.val w))).set i none) h) (hE : ∀ x h, E x h → E' x env h) :
    ∀ {l : List (Str × XT)}, MonoL2 l → ∀ x h, handsM ks l k x h Q E → aHands ks (l.map fun p => (p.1, i, j, p.2)) E' D x env h
  | _, .nil, x, h, z => hE x h z
  | _, .cons m t, x, h, z => by
    obtain ⟨z1, z2⟩ := z
    refine ⟨z1, hi, ?_⟩
    split at z2
    · rename_i b
      rw [if_pos b]
      exact m x _ _ (fun w y => N w h y) z2
    · rename_i b
      rw [if_neg b]
      exact hands_ok hi N hE t x h z2
theorem ss_try {E' : AExc → AEnv → AH → Prop} {D : AEnds} {ks : List Str} {i j : Nat} {k : W → MC} {b : (W → MC) → MC} {l : List (Str × XT)} {t : (AExc → AEnv → AH → Prop) → ATS} (no : noOwn env = true) (hi : i < env.length) (ml : MonoL2 l) (hE : ∀ x h, E x h → E' x env h)
    (N : ∀ w h, k w h Q E → D.nx ((env.set j (some (.val w))).set i none) h)
    (hb : ∀ (E2 : AExc → AH → Prop) (Ein : AExc → AEnv → AH → Prop) (hz : ∀ x h, E2 x h → Ein x env h) (kk : W → MC), (∀ w h, kk w h Q E2 → D.nx ((env.set j (some (.val w))).set i none) h) → ∀ h, b kk h Q E2 → t Ein D env h) :
    ∀ h, tryC b k (handsM ks l) h Q E → aTry ks (l.map fun p => (p.1, i, j, p.2)) E' t D env h := fun h z =>
  ⟨no, fun x e g => aHands ks (l.map fun p => (p.1, i, j, p.2)) E' D x e g, fun _ _ _ y => y, hb (fun x h' => handsM ks l k x h' Q E) _ (fun x h' y => hands_ok hi N hE ml x h' y) (fun s h' _ _ => k s h' Q E) (fun w h' y => N w h' y) h z⟩
/-! the body gives another name than the clauses -/
end
end Ab

/-! Mc6: while. -/
namespace Ab
open PySem PySem.Spec PyProof.Rows L2 RZ
section
variable {Q : RR → AH → Prop} {E : AExc → AH → Prop} {env : AEnv} {D : AEnds}
end
/-! ### dicts keyed by tuples of whole numbers -/
def getT (x : SV) (w : W) (k : SV → MC) : MC := fun h Q E => ∃ (l : List (List Int × W)) (ns : List Int) (v : W), x = .own (.map (tmap l)) ∧ w = .tup (ns.map .int) ∧ tlook l ns = some v ∧ k (.val v) h Q E
section
variable {Q : RR → AH → Prop} {E : AExc → AH → Prop} {env : AEnv} {D : AEnds} {k : SV → MC}
/-! {}, d.get(t, v) -/
end
end Ab

/-! Mc7: more words. -/
namespace Ab
open PySem PySem.Spec PyProof.Rows L2 RZ
def oPowW : Op2 := oII CPowW fun i j => .int (i ^ j.toNat)
section
variable {i j : Int} {k : SV → MC}
@[simp] theorem o_powW : op2 oPowW (.val (.int i)) (.val (.int j)) k = req (CPowW i j) (k (.val (.int (i ^ j.toNat)))) := rfl
end
/-! ### xs.index(x) -/
def idx (x : SV) (ws : List W) (k : SV → MC) : MC := fun h Q E => oIndexW (svw h x) ws fun r => kRv k r h Q E
def idxq (x : SV) (m : MC) : MC := fun h Q E => (∃ ns : List Int, (svw h x).seq = some (ns.map W.int)) ∧ m h Q E
def eIdx (a : CE) (ma : CWs) : CE := fun k => a fun x => idxq x (ma fun ws => idx x ws k)
section
variable {Q : RR → AH → Prop} {E : AExc → AH → Prop} {env : AEnv} {t : AT} {m : CE} {ta : AAT} {ma : CWs} {k : SV → MC} {ns : List Int} {x : Int}
@[simp] theorem k_Idx {a : CE} : eIdx a ma k = a fun x => idxq x (ma fun ws => idx x ws k) := rfl
@[simp] theorem idxq_own {m : MC} : idxq (.own (.seq (ns.map W.int))) m = m := by
  funext h Q E
  exact propext ⟨fun z => z.2, fun z => ⟨⟨ns, rfl⟩, z⟩⟩
@[simp] theorem idxq_lst {m : MC} : idxq (.val (.lst (ns.map W.int))) m = m := by
  funext h Q E
  exact propext ⟨fun z => z.2, fun z => ⟨⟨ns, rfl⟩, z⟩⟩
end
/-! ### calls with values by place and by name -/
def mix (n0 m0 : Nat) (perm : List Nat) (ds us ws : List W) (k : List W → MC) : MC := req (us.length = n0 ∧ ws.length = m0) (k (perm.map fun i => (us ++ (ws ++ ds)).getD i .non))
def wMx (n0 m0 : Nat) (perm : List Nat) (ds : List W) (a b : CWs) : CWs := fun k => a fun us => b fun ws => mix n0 m0 perm ds us ws k
@[simp] theorem k_wMx {n0 m0 : Nat} {perm : List Nat} {ds : List W} {a b : CWs} {k : List W → MC} : wMx n0 m0 perm ds a b k = a fun us => b fun ws => mix n0 m0 perm ds us ws k := rfl
theorem mix_eq {n0 m0 : Nat} {perm : List Nat} {ds us ws : List W} {k : List W → MC} (h : us.length = n0 ∧ ws.length = m0) : mix n0 m0 perm ds us ws k = k (perm.map fun i => (us ++ (ws ++ ds)).getD i .non) := req_of h
section
variable {Q : RR → AH → Prop} {E : AExc → AH → Prop} {env : AEnv} {ta tb : AAT} {ma mb : CWs}
end
theorem oisB_eq {neg x y : Bool} {k : SV → MC} : op2 (oIsB neg) (.val (.bl x)) (.val (.bl y)) k = k (.val (.bl (if neg then !decide (x = y) else decide (x = y)))) := by
  funext h Q E
  refine propext ⟨fun ⟨u, v, e1, e2, q⟩ => ?_, fun q => ⟨x, y, rfl, rfl, q⟩⟩
  cases e1
  cases e2
  exact q
@[simp] theorem o_isB {x y : Bool} {k : SV → MC} : op2 (oIsB false) (.val (.bl x)) (.val (.bl y)) k = k (.val (.bl (decide (x = y)))) := oisB_eq
@[simp] theorem o_notB {x y : Bool} {k : SV → MC} : op2 (oIsB true) (.val (.bl x)) (.val (.bl y)) k = k (.val (.bl (!decide (x = y)))) := oisB_eq
section
variable {a b c d e f x : W} {k : List W → MC}
@[simp] theorem mix_32 : mix 3 2 [0, 1, 2, 3, 4] [] [a, b, c] [d, e] k = k [a, b, c, d, e] := by rw [mix_eq (by exact ⟨rfl, rfl⟩)]; rfl
@[simp] theorem mix_32s : mix 3 2 [0, 1, 2, 4, 3] [] [a, b, c] [d, e] k = k [a, b, c, e, d] := by rw [mix_eq (by exact ⟨rfl, rfl⟩)]; rfl
@[simp] theorem mix_05 : mix 0 5 [4, 3, 2, 1, 0] [] [] [a, b, c, d, e] k = k [e, d, c, b, a] := by rw [mix_eq (by exact ⟨rfl, rfl⟩)]; rfl
@[simp] theorem mix_31 : mix 3 1 [0, 1, 2, 3, 4] [x] [a, b, c] [d] k = k [a, b, c, d, x] := by rw [mix_eq (by exact ⟨rfl, rfl⟩)]; rfl
@[simp] theorem mix_42 : mix 4 2 [0, 1, 2, 3, 4, 5] [] [a, b, c, d] [e, f] k = k [a, b, c, d, e, f] := by rw [mix_eq (by exact ⟨rfl, rfl⟩)]; rfl
@[simp] theorem mix_051 : mix 0 5 [4, 3, 2, 1, 0, 5] [x] [] [a, b, c, d, e] k = k [e, d, c, b, a, x] := by rw [mix_eq (by exact ⟨rfl, rfl⟩)]; rfl
end
/-! ### xs[::-1] of a list -/
def revL (x : SV) (k : SV → MC) : MC := fun h Q E => ∃ xs, (svw h x).seq = some xs ∧ k (.own (.seq xs.reverse)) h Q E
def eRevL (a : CE) : CE := fun k => a fun x => revL x k
section
variable {Q : RR → AH → Prop} {E : AExc → AH → Prop} {env : AEnv} {t : AT} {m : CE} {k : SV → MC} {xs : List W}
@[simp] theorem k_RevL {a : CE} : eRevL a k = a fun x => revL x k := rfl
@[simp] theorem revL_own : revL (.own (.seq xs)) k = k (.own (.seq xs.reverse)) := by
  funext h Q E
  exact propext ⟨fun ⟨ys, e, z⟩ => by cases e; exact z, fun z => ⟨xs, rfl, z⟩⟩
@[simp] theorem revL_lst : revL (.val (.lst xs)) k = k (.own (.seq xs.reverse)) := by
  funext h Q E
  exact propext ⟨fun ⟨ys, e, z⟩ => by cases e; exact z, fun z => ⟨xs, rfl, z⟩⟩
end
/-! the calls' equations once more, not by mere unfolding (the kernel then compares less) -/
end Ab

/-! Mc8: words of Ab45. -/
namespace Ab
open PySem PySem.Spec PyProof.Rows L2 RZ
def lenSet (w : W) (k : SV → MC) : MC := fun h Q E => oLenSet [.wv w] fun r => kRv k r h Q E
def eLenSet (mk : CW) : CE := fun k => mk fun w => lenSet w k
section
variable {Q : RR → AH → Prop} {E : AExc → AH → Prop} {env : AEnv} {t : AVT} {mk : CW} {k : SV → MC} {ns : List Int} {h : AH}
@[simp] theorem k_eLenSet : eLenSet mk k = mk fun w => lenSet w k := rfl
end
def pr3 (ws : List W) (k : W → W → W → MC) : MC := match ws with
  | [a, b, c] => k a b c
  | _ => bad
def parC3 (ma : CWs) (k : W → W → W → MC) : MC := ma fun ws => pr3 ws k
@[simp] theorem k_parC3 {a : CWs} {k : W → W → W → MC} : parC3 a k = a fun ws => pr3 ws k := rfl
@[simp] theorem pr3_3 {x y z : W} {k : W → W → W → MC} : pr3 [x, y, z] k = k x y z := rfl
end Ab

/-! Mc9: words of Ab46-Ab54: objects, dicts keyed by texts, live walks. -/
namespace Ab
open PySem PySem.Spec PyProof.Rows L2 RZ
/-! ### fields -/
def fldX (n f : Str) (x : SV) (k : SV → MC) : MC := fun h Q E => match x with
  | .val (.ref a) => ∃ fs w, h a = some (.ins n fs) ∧ fs.lookup f = some w ∧ k (.val w) h Q E
  | _ => False
def eFld (n f : Str) (m : CE) : CE := fun k => m fun x => fldX n f x k
def setF (n f : Str) (x : SV) (w : W) (k : MC) : MC := fun h Q E => match x with
  | .val (.ref a) => ∃ fs, h a = some (.ins n fs) ∧ fs.length < 1000 ∧ k (updA h a (.ins n (putW f w fs))) Q E
  | _ => False
/-- o.f = e -/
def setFC (n f : Str) (mv : CW) (m : CE) (k : MC) : MC := mv fun w => m fun x => setF n f x w k
/-- x, o.f = e -/
def nmFC (n f : Str) (mv : CW) (m : W → CE) (k : W → MC) : MC := mv fun w => un2 w fun a b => m a fun x => setF n f x b (k a)
/-- o.f, o2.g = e -/
def ffC (n f n2 g : Str) (mv : CW) (m m2 : CE) (k : MC) : MC := mv fun w => un2 w fun a b => m fun x => setF n f x a (m2 fun y => setF n2 g y b k)
/-! ### methods, making -/
def asO (C nm : Str) (x : SV) (k : Addr → MC) : MC := fun h Q E => match x with
  | .val (.ref a) => (∃ fs, h a = some (.ins C fs) ∧ fs.lookup nm = none) ∧ k a h Q E
  | _ => False
def eMeth (C nm : Str) (f : List W → MC) (mo : CE) (ma : CWs) : CE := fun k => mo fun x => asO C nm x fun a => ma fun ws => call (f (.ref a :: ws)) k
def eMeth0 (C nm : Str) (f : List W → MC) (mo : CE) (ma : CWs) : CE := fun k => mo fun x => asO C nm x fun a => ma fun ws => call0 (f (.ref a :: ws)) k
def mxW (n0 m0 : Nat) (P : List Nat) (ds us zs : List W) (k : List W → MC) : MC := req (us.length = n0 ∧ zs.length = m0) (k (P.map fun i => (us ++ (zs ++ ds)).getD i .non))
def eMethM (C nm : Str) (f : List W → MC) (n0 m0 : Nat) (P : List Nat) (ds : List W) (mo : CE) (ma mk : CWs) : CE := fun k => mo fun x => asO C nm x fun a => ma fun ws => mk fun zs => mxW (n0 + 1) m0 P ds (.ref a :: ws) zs fun vs => call (f vs) k
def eMethM0 (C nm : Str) (f : List W → MC) (n0 m0 : Nat) (P : List Nat) (ds : List W) (mo : CE) (ma mk : CWs) : CE := fun k => mo fun x => asO C nm x fun a => ma fun ws => mk fun zs => mxW (n0 + 1) m0 P ds (.ref a :: ws) zs fun vs => call0 (f vs) k
def mkX (C : Str) (f : Addr → MC) (k : SV → MC) : MC := fun h Q E => ∀ a, h a = none → f a (updA h a (.ins C [])) (fun r h2 => r = .val .non ∧ k (.val (.ref a)) h2 Q E) E
def mkX0 (C : Str) (f : Addr → MC) (k : SV → MC) : MC := fun h Q E => ∀ a, h a = none → f a (updA h a (.ins C [])) (fun r h2 => r = .val .non ∧ k (.val (.ref a)) h2 Q E) fun _ _ => False
def eMake (C : Str) (f : List W → MC) (ma : CWs) : CE := fun k => ma fun ws => mkX C (fun a => f (.ref a :: ws)) k
def eMake0 (C : Str) (f : List W → MC) (ma : CWs) : CE := fun k => ma fun ws => mkX0 C (fun a => f (.ref a :: ws)) k
def eMakeM (C : Str) (f : List W → MC) (n0 m0 : Nat) (P : List Nat) (ds : List W) (ma mk : CWs) : CE := fun k => ma fun ws => mk fun zs => req (ws.length = n0 ∧ zs.length = m0) (mkX C (fun a => f (P.map fun i => ((.ref a :: ws) ++ (zs ++ ds)).getD i .non)) k)
def eMakeM0 (C : Str) (f : List W → MC) (n0 m0 : Nat) (P : List Nat) (ds : List W) (ma mk : CWs) : CE := fun k => ma fun ws => mk fun zs => req (ws.length = n0 ∧ zs.length = m0) (mkX0 C (fun a => f (P.map fun i => ((.ref a :: ws) ++ (zs ++ ds)).getD i .non)) k)
/-! ### what objects answer of themselves -/
def ownX (C : Str) (f : List W → MC) (po : RR → (RV → Prop) → Prop) (x : SV) (k : SV → MC) : MC := fun h Q E => match x with
  | .val (.ref a) => ∃ fs, h a = some (.ins C fs) ∧ f [.ref a] h (fun r h2 => po r fun y => kRv k y h2 Q E) fun _ _ => False
  | _ => False
def eOwn (C : Str) (f : List W → MC) (po : RR → (RV → Prop) → Prop) (m : CE) : CE := fun k => m fun x => ownX C f po x k
def eqX (C : Str) (neg : Bool) (f : List W → MC) (x y : SV) (k : SV → MC) : MC := fun h Q E => match x, y with
  | .val (.ref a), .val (.ref b) => (∃ fs gs, h a = some (.ins C fs) ∧ h b = some (.ins C gs)) ∧ f [.ref a, .ref b] h (fun r h2 => ∃ c : Bool, r = .val (.bl c) ∧ k (.val (.bl (if neg = true then !c else c))) h2 Q E) fun _ _ => False
  | _, _ => False
def eEqO (C : Str) (neg : Bool) (f : List W → MC) (m m2 : CE) : CE := fun k => m fun x => m2 fun y => eqX C neg f x y k
def isoX (n : Str) (b : Bool) (x : SV) (k : SV → MC) : MC := fun h Q E => match x with
  | .val (.ref a) => (∃ fs, h a = some (.ins n fs)) ∧ k (.val (.bl b)) h Q E
  | _ => False
def eIsO (n : Str) (b : Bool) (m : CE) : CE := fun k => m fun x => isoX n b x k
/-! ### dicts keyed by texts -/
def inX (neg : Bool) (w : W) (x : SV) (k : SV → MC) : MC := fun h Q E => inM neg (svw h x) w fun r => kRv k r h Q E
def eInM (neg : Bool) (mk : CW) (m : CE) : CE := fun k => mk fun w => m fun x => inX neg w x k
def getMX (x : SV) (w : W) (k : SV → MC) : MC := fun h Q E => getM (svw h x) w fun r => kRv k r h Q E
def eGetM (m : CE) (mk : CW) : CE := fun k => m fun x => mk fun w => getMX x w k
def putX (x : SV) (w v : W) (k : SV → MC) : MC := fun h Q E => match x with
  | .own (.map kvs) => ∃ l s, kvs = smap l ∧ w = .str s ∧ l.length < sizeLine ∧ k (.own (.map (smap (sput l s v)))) h Q E
  | .val (.ref a) => ∃ l s, h a = some (.cont (.map (smap l))) ∧ w = .str s ∧ l.length < sizeLine ∧ k (.val (.ref a)) (updA h a (.cont (.map (smap (sput l s v))))) Q E
  | _ => False
/-- d[k] = v, d a name -/
def putMC (mv : CW) (x : SV) (mk : CW) (k : SV → MC) : MC := mv fun v => mk fun w => putX x w v k
/-- .. d an expression -/
def putEX (x : SV) (w v : W) (k : MC) : MC := fun h Q E => match x with
  | .val (.ref a) => ∃ l s, h a = some (.cont (.map (smap l))) ∧ w = .str s ∧ l.length < sizeLine ∧ k (updA h a (.cont (.map (smap (sput l s v))))) Q E
  | _ => False
def putME (mv : CW) (m : CE) (mk : CW) (k : MC) : MC := mv fun v => m fun x => mk fun w => putEX x w v k
def delX (x : SV) (w : W) (k : MC) : MC := fun h Q E => match x with
  | .val (.ref a) => ∃ l s, h a = some (.cont (.map (smap l))) ∧ w = .str s ∧ (l.lookup s).isSome = true ∧ k (updA h a (.cont (.map (smap (sdrop l s))))) Q E
  | _ => False
def delME (m : CE) (mk : CW) (k : MC) : MC := m fun x => mk fun w => delX x w k
def eDispK : CE := fun k => k (.own (.map (smap [])))
/-! ### lists of the heap walked -/
def srcM (x : SV) (k : (AH → Prop) → List W → MC) : MC := fun h Q E => match x with
  | .val (.ref a) => ∃ ws, h a = some (.cont (.seq ws)) ∧ k (fun g => g a = some (.cont (.seq ws))) ws h Q E
  | .val (.lst ws) => k (fun _ => True) ws h Q E
  | .val (.tup ws) => k (fun _ => True) ws h Q E
  | _ => False
abbrev CIL := ((AH → Prop) → List W → MC) → MC
def lLive (m : CE) : CIL := fun k => m fun x => srcM x k
def lLvE (m : CE) : CIL := fun k => m fun x => srcM x fun ok ws => k ok (enW ws)
def lFix (m : CWs) : CIL := fun k => m fun ws => k (fun _ => True) ws
def guard (ok : AH → Prop) (m : MC) : MC := fun h Q E => ok h ∧ m h Q E
def forLL {σ : Type} (ok : AH → Prop) (body : W → σ → (σ → MC) → (σ → MC) → MC) (k : σ → MC) : List W → σ → MC
  | [], s => guard ok (k s)
  | w :: ws, s => guard ok (body w s (forLL ok body k ws) k)
def forLC {σ : Type} (mi : CIL) (s0 : σ) (body : W → σ → (σ → MC) → (σ → MC) → MC) (k : σ → MC) : MC := mi fun ok ws => forLL ok body k ws s0
def lcLL (ok : AH → Prop) (body : W → (Option W → MC) → MC) (k : List W → MC) : List W → List W → MC
  | [], acc => guard ok (k acc)
  | w :: ws, acc => guard ok (body w fun o => match o with
    | some y => req (acc.length < sizeLine) (lcLL ok body k ws (acc ++ [y]))
    | none => lcLL ok body k ws acc)
def eLcL (mi : CIL) (body : W → (Option W → MC) → MC) : CE := fun k => mi fun ok ws => lcLL ok body (fun acc => k (.own (.seq acc))) ws []
def lc2L (ok : AH → Prop) (body : W → List W → (List W → MC) → MC) (k : List W → MC) : List W → List W → MC
  | [], acc => guard ok (k acc)
  | w :: ws, acc => guard ok (body w acc (lc2L ok body k ws))
def eLc2 (mi : CIL) (body : W → List W → (List W → MC) → MC) : CE := fun k => mi fun ok ws => lc2L ok body (fun acc => k (.own (.seq acc))) ws []
/-- the inner walk of a comprehension with two -/
def lc2b (mt : CB) (mi : CIL) (body : W → (Option W → MC) → MC) (acc : List W) (kk : List W → MC) : MC := mt fun b => if b = true then mi fun ok ws => lcLL ok body kk ws acc else kk acc
/-! ### items -/
def dcM (mv : W → W → CW) (K : List (Str × W) → Prop) (Q : RR → AH → Prop) (E : AExc → AH → Prop) : List (Str × W) → List (Str × W) → Prop
  | [], acc => W.nodcts (acc.map (·.2)) = true ∧ K acc
  | p :: r, acc => mv (.str p.1) p.2 (fun u => fun _ _ _ => acc.length < sizeLine ∧ dcM mv K Q E r (sput acc p.1 u)) (fun _ => none) Q E
/-- {a: e for a, b in x.f.items()} -/
def dcX (n f : Str) (x : SV) (mv : W → W → CW) (k : SV → MC) : MC := fun h Q E => match x with
  | .val (.ref s) => ∃ fs q l, h s = some (.ins n fs) ∧ fs.lookup f = some (.ref q) ∧ h q = some (.cont (.map (smap l))) ∧ dcM mv (fun acc => k (.own (.map (smap acc))) h Q E) Q E l []
  | _ => False
def eDcX (n f : Str) (x : SV) (mv : W → W → CW) : CE := fun k => dcX n f x mv k
/-! ### f-strings -/
def fmtX (x : SV) (k : Str → MC) : MC := fun h Q E => fmtV (svw h x) fun y => k y h Q E
def eFmt (m : CE) : CE := fun k => m fun x => fmtX x fun y => k (.val (.str y))
def asS (x : SV) (k : Str → MC) : MC := fun h Q E => match x with
  | .val (.str y) => k y h Q E
  | _ => False
def jsM : List CE → Str → (Str → MC) → MC
  | [], acc, k => k acc
  | m :: ms, acc, k => m fun x => asS x fun y => req ((acc ++ y).length ≤ sizeLine) (jsM ms (acc ++ y) k)
def eJoined (ms : List CE) : CE := fun k => jsM ms Str.empty fun s => k (.val (.str s))
section
variable {Q : RR → AH → Prop} {E : AExc → AH → Prop} {env : AEnv} {t t1 t2 : AT} {m m1 m2 : CE} {tv tv2 : AVT} {mv mv2 : CW} {ta tk : AAT} {ma mk : CWs} {tb : ABT} {mb : CB} {D : AEnds} {i j : Nat}
/-! methods -/
/-! what objects answer of themselves -/
/-! dicts -/
end
end Ab

/-! Mc10: what of Mc9 reads as it says: live walks, comprehensions with two, items, dict comprehensions, f-strings. -/
namespace Ab
open PySem PySem.Spec PyProof.Rows L2 RZ
def SI (Q : RR → AH → Prop) (E : AExc → AH → Prop) (env : AEnv) (t : AIL) (m : CIL) : Prop := ∀ h (k : (AH → Prop) → List W → MC) (K : (AH → Prop) → List W → AEnv → AH → Prop), (∀ ok ws h', k ok ws h' Q E → K ok ws env h') → m k h Q E → t env h K
/-- x.f(..), x an expression, as a value -/
def lmRV (f : LmT) (x : SV) (ma : CWs) (k : SV → MC) : MC := fun h Q E => match x with
  | .val (.ref p) => (∃ xs, h p = some (.cont (.seq xs))) ∧ (ma fun ws => fun h2 Q E => match h2 p with
    | some (.cont (.seq xs)) => f xs ws fun xs' w => k (.val w) (updA h2 p (.cont (.seq xs'))) Q E
    | _ => False) h Q E
  | _ => False
def eLmV (f : LmT) (m : CE) (ma : CWs) : CE := fun k => m fun x => lmRV f x ma k
section
variable {Q : RR → AH → Prop} {E : AExc → AH → Prop} {env : AEnv} {t t1 t2 : AT} {m m1 m2 : CE} {tv tv2 : AVT} {mv mv2 : CW} {ta tk : AAT} {ma mk : CWs} {tb : ABT} {mb : CB} {D : AEnds} {i j : Nat} {ti : AIL} {mi : CIL}
/-! walks -/
theorem si_fix {tf : AIT} {mf : CWs} (a : SA Q E env tf mf) : SI Q E env (iFix tf) (lFix mf) := fun h k K hk z => a h _ _ (fun ws h' z => hk _ _ _ z) z
/-! comprehensions -/
theorem lc_goL {ok : AH → Prop} {vs : List Nat} {g : AGT} {body : W → (Option W → MC) → MC} {k : List W → MC} {K : List W → AEnv → AH → Prop} (hk : ∀ acc h', k acc h' Q E → K acc env h') (b : LcB Q E env vs g tb tv body) :
    ∀ (ws acc : List W) (h : AH), lcLL ok body k ws acc h Q E → lcLoopL ok vs g tb tv K ws acc env h
  | [], acc, h, z => ⟨z.1, hk acc h z.2⟩
  | w :: ws, acc, h, z => ⟨z.1, b w h _ (fun y e3 h3 => acc.length < sizeLine ∧ lcLoopL ok vs g tb tv K ws (acc ++ [y]) e3 h3) (fun e2 h2 => lcLoopL ok vs g tb tv K ws acc e2 h2)
      (fun y h' z => ⟨z.1, lc_goL hk b ws (acc ++ [y]) h' z.2⟩) (fun h' z => lc_goL hk b ws acc h' z) z.2⟩
def L2B (Q : RR → AH → Prop) (E : AExc → AH → Prop) (env : AEnv) (vs : List Nat) (g : AGT) (tt : ABT) (ti1 : AIL) (vs1 : List Nat) (g1 : AGT) (tt1 : ABT) (te : AVT) (mb : W → List W → (List W → MC) → MC) : Prop :=
  ∀ w acc h (kk : List W → MC) (K : List W → AEnv → AH → Prop), (∀ a h', kk a h' Q E → K a env h') → mb w acc kk h Q E →
    g w (wipeA env vs) h fun e1 h1 => tt e1 h1 fun b e2 h2 => if b = true then ti1 e2 h2 fun ok1 ws1 e3 h3 => lcLoopL ok1 vs1 g1 tt1 te (fun acc' e4 h4 => K acc' (mend env e4 vs) h4) ws1 acc e3 h3 else K acc (mend env e2 vs) h2
theorem lc2_body {vs vs1 : List Nat} {g g1 : AGT} {w : W} {acc : List W} {e1 : AEnv} {tb1 : ABT} {body : W → (Option W → MC) → MC} (gd : Gd g w (wipeA env vs) e1) (tst : SA Q E e1 tb mb) (it : SI Q E e1 ti mi) (b : LcB Q E e1 vs1 g1 tb1 tv body) (hm : mend env e1 vs = env) {h : AH} {kk : List W → MC} {K : List W → AEnv → AH → Prop}
    (hk : ∀ a h', kk a h' Q E → K a env h') (z : lc2b mb mi body acc kk h Q E) :
    g w (wipeA env vs) h fun e1 h1 => tb e1 h1 fun b e2 h2 => if b = true then ti e2 h2 fun ok1 ws1 e3 h3 => lcLoopL ok1 vs1 g1 tb1 tv (fun acc' e4 h4 => K acc' (mend env e4 vs) h4) ws1 acc e3 h3 else K acc (mend env e2 vs) h2 :=
  gd h _ (tst h _ _ (fun b' h2 z => ite_ok (fun z => it h2 _ _ (fun ok1 ws1 h3 z => lc_goL (k := kk) (fun a h4 z => by rw [hm]; exact hk a h4 z) b ws1 acc h3 z) z) (fun z => by rw [hm]; exact hk acc h2 z) z) z)
theorem lc2_go {ok : AH → Prop} {vs vs1 : List Nat} {g g1 : AGT} {tb1 : ABT} {ti1 : AIL} {body : W → List W → (List W → MC) → MC} {k : List W → MC} {K : List W → AEnv → AH → Prop} (hk : ∀ acc h', k acc h' Q E → K acc env h') (b : L2B Q E env vs g tb ti1 vs1 g1 tb1 tv body) :
    ∀ (ws acc : List W) (h : AH), lc2L ok body k ws acc h Q E → lc2Loop ok vs g tb ti1 vs1 g1 tb1 tv K ws acc env h
  | [], acc, h, z => ⟨z.1, hk acc h z.2⟩
  | w :: ws, acc, h, z => ⟨z.1, b w acc h _ (fun acc' e h => lc2Loop ok vs g tb ti1 vs1 g1 tb1 tv K ws acc' e h) (fun a h' z => lc2_go hk b ws a h' z) z.2⟩
theorem sn_lc2 {vs vs1 : List Nat} {g g1 : AGT} {tb1 : ABT} {ti1 : AIL} {body : W → List W → (List W → MC) → MC} (it : SI Q E env ti mi) (b : L2B Q E env vs g tb ti1 vs1 g1 tb1 tv body) : SN Q E env (aLc2 vs ti g tb ti1 vs1 g1 tb1 tv) (eLc2 mi body) := fun h k K hk z =>
  it h _ _ (fun ok ws h1 z => lc2_go (k := fun acc => k (.own (.seq acc))) (fun acc h' z => hk (.own (.seq acc)) h' z) b ws [] h1 z) z
/-! pairs of a dict -/
/-! dict comprehensions -/
/-! f-strings -/
inductive SJ (Q : RR → AH → Prop) (E : AExc → AH → Prop) (env : AEnv) : List AT → List CE → Prop where
  | nil : SJ Q E env [] []
  | cons {t : AT} {m : CE} {ts : List AT} {ms : List CE} (a : SE Q E env t m) (r : SJ Q E env ts ms) : SJ Q E env (t :: ts) (m :: ms)
end
/-! monotone -/
end Ab

/-! Mc11: texts walked; d[k], e[l] = a, b; the equations of the words of Mc9-Mc11. -/
namespace Ab
open PySem PySem.Spec PyProof.Rows L2 RZ
def iChars (m : CE) : CWs := fun k => m fun x => asS x fun s => k (strW s)
/-- d[k], e[l] = a, b -/
def put2C (mv : CW) (m1 : CE) (mk1 : CW) (m2 : CE) (mk2 : CW) (k : MC) : MC := mv fun w => un2 w fun a b => m1 fun x => mk1 fun w1 => putEX x w1 a (m2 fun y => mk2 fun w2 => putEX y w2 b k)
def un4 (w : W) (k : W → W → W → W → MC) : MC := match w with
  | .tup [a, b, c, d] => k a b c d
  | _ => bad
section
variable {Q : RR → AH → Prop} {E : AExc → AH → Prop} {env : AEnv} {t t1 t2 : AT} {m m1 m2 : CE} {tv tv2 tk1 tk2 : AVT} {mv mv2 mk1 mk2 : CW} {D : AEnds} {i j : Nat}
end
/-! ### the words' equations -/
section
variable {Q : RR → AH → Prop} {E : AExc → AH → Prop} {h : AH}
@[simp] theorem un4_tup {a b c d : W} {k : W → W → W → W → MC} : un4 (.tup [a, b, c, d]) k = k a b c d := rfl
@[simp] theorem asS_str {s : Str} {k : Str → MC} : asS (.val (.str s)) k = k s := rfl
@[simp] theorem k_iChars {m : CE} {k : List W → MC} : iChars m k = m fun x => asS x fun s => k (strW s) := rfl
@[simp] theorem k_put2C {mv : CW} {m1 m2 : CE} {mk1 mk2 : CW} {k : MC} : put2C mv m1 mk1 m2 mk2 k = mv fun w => un2 w fun a b => m1 fun x => mk1 fun w1 => putEX x w1 a (m2 fun y => mk2 fun w2 => putEX y w2 b k) := rfl
@[simp] theorem k_Fld {n f : Str} {m : CE} {k : SV → MC} : eFld n f m k = m fun x => fldX n f x k := rfl
@[simp] theorem k_setFC {n f : Str} {mv : CW} {m : CE} {k : MC} : setFC n f mv m k = mv fun w => m fun x => setF n f x w k := rfl
@[simp] theorem k_nmFC {n f : Str} {mv : CW} {m : W → CE} {k : W → MC} : nmFC n f mv m k = mv fun w => un2 w fun a b => m a fun x => setF n f x b (k a) := rfl
@[simp] theorem k_ffC {n f n2 g : Str} {mv : CW} {m m2 : CE} {k : MC} : ffC n f n2 g mv m m2 k = mv fun w => un2 w fun a b => m fun x => setF n f x a (m2 fun y => setF n2 g y b k) := rfl
@[simp] theorem k_Meth {C nm : Str} {f : List W → MC} {mo : CE} {ma : CWs} {k : SV → MC} : eMeth C nm f mo ma k = mo fun x => asO C nm x fun a => ma fun ws => call (f (.ref a :: ws)) k := rfl
@[simp] theorem k_Meth0 {C nm : Str} {f : List W → MC} {mo : CE} {ma : CWs} {k : SV → MC} : eMeth0 C nm f mo ma k = mo fun x => asO C nm x fun a => ma fun ws => call0 (f (.ref a :: ws)) k := rfl
@[simp] theorem k_MethM {C nm : Str} {f : List W → MC} {n0 m0 : Nat} {P : List Nat} {ds : List W} {mo : CE} {ma mk : CWs} {k : SV → MC} : eMethM C nm f n0 m0 P ds mo ma mk k = mo fun x => asO C nm x fun a => ma fun ws => mk fun zs => mxW (n0 + 1) m0 P ds (.ref a :: ws) zs fun vs => call (f vs) k := rfl
@[simp] theorem k_MethM0 {C nm : Str} {f : List W → MC} {n0 m0 : Nat} {P : List Nat} {ds : List W} {mo : CE} {ma mk : CWs} {k : SV → MC} : eMethM0 C nm f n0 m0 P ds mo ma mk k = mo fun x => asO C nm x fun a => ma fun ws => mk fun zs => mxW (n0 + 1) m0 P ds (.ref a :: ws) zs fun vs => call0 (f vs) k := rfl
@[simp] theorem k_Make {C : Str} {f : List W → MC} {ma : CWs} {k : SV → MC} : eMake C f ma k = ma fun ws => mkX C (fun a => f (.ref a :: ws)) k := rfl
@[simp] theorem k_Make0 {C : Str} {f : List W → MC} {ma : CWs} {k : SV → MC} : eMake0 C f ma k = ma fun ws => mkX0 C (fun a => f (.ref a :: ws)) k := rfl
@[simp] theorem k_MakeM {C : Str} {f : List W → MC} {n0 m0 : Nat} {P : List Nat} {ds : List W} {ma mk : CWs} {k : SV → MC} : eMakeM C f n0 m0 P ds ma mk k = ma fun ws => mk fun zs => req (ws.length = n0 ∧ zs.length = m0) (mkX C (fun a => f (P.map fun i => ((.ref a :: ws) ++ (zs ++ ds)).getD i .non)) k) := rfl
@[simp] theorem k_MakeM0 {C : Str} {f : List W → MC} {n0 m0 : Nat} {P : List Nat} {ds : List W} {ma mk : CWs} {k : SV → MC} : eMakeM0 C f n0 m0 P ds ma mk k = ma fun ws => mk fun zs => req (ws.length = n0 ∧ zs.length = m0) (mkX0 C (fun a => f (P.map fun i => ((.ref a :: ws) ++ (zs ++ ds)).getD i .non)) k) := rfl
@[simp] theorem k_Own {C : Str} {f : List W → MC} {po : RR → (RV → Prop) → Prop} {m : CE} {k : SV → MC} : eOwn C f po m k = m fun x => ownX C f po x k := rfl
@[simp] theorem k_EqO {C : Str} {neg : Bool} {f : List W → MC} {m m2 : CE} {k : SV → MC} : eEqO C neg f m m2 k = m fun x => m2 fun y => eqX C neg f x y k := rfl
@[simp] theorem k_IsO {n : Str} {b : Bool} {m : CE} {k : SV → MC} : eIsO n b m k = m fun x => isoX n b x k := rfl
@[simp] theorem k_InM {neg : Bool} {mk : CW} {m : CE} {k : SV → MC} : eInM neg mk m k = mk fun w => m fun x => inX neg w x k := rfl
@[simp] theorem k_GetM {m : CE} {mk : CW} {k : SV → MC} : eGetM m mk k = m fun x => mk fun w => getMX x w k := rfl
@[simp] theorem k_putMC {mv : CW} {x : SV} {mk : CW} {k : SV → MC} : putMC mv x mk k = mv fun v => mk fun w => putX x w v k := rfl
@[simp] theorem k_putME {mv : CW} {m : CE} {mk : CW} {k : MC} : putME mv m mk k = mv fun v => m fun x => mk fun w => putEX x w v k := rfl
@[simp] theorem k_delME {m : CE} {mk : CW} {k : MC} : delME m mk k = m fun x => mk fun w => delX x w k := rfl
@[simp] theorem k_DispK {k : SV → MC} : eDispK k = k (.own (.map (smap []))) := rfl
@[simp] theorem k_lLive {m : CE} {k : (AH → Prop) → List W → MC} : lLive m k = m fun x => srcM x k := rfl
@[simp] theorem k_lLvE {m : CE} {k : (AH → Prop) → List W → MC} : lLvE m k = m fun x => srcM x fun ok ws => k ok (enW ws) := rfl
@[simp] theorem k_lFix {m : CWs} {k : (AH → Prop) → List W → MC} : lFix m k = m fun ws => k (fun _ => True) ws := rfl
@[simp] theorem k_forLC {σ : Type} {mi : CIL} {s0 : σ} {body : W → σ → (σ → MC) → (σ → MC) → MC} {k : σ → MC} : forLC mi s0 body k = mi fun ok ws => forLL ok body k ws s0 := rfl
@[simp] theorem k_LcL {mi : CIL} {body : W → (Option W → MC) → MC} {k : SV → MC} : eLcL mi body k = mi fun ok ws => lcLL ok body (fun acc => k (.own (.seq acc))) ws [] := rfl
@[simp] theorem k_Lc2 {mi : CIL} {body : W → List W → (List W → MC) → MC} {k : SV → MC} : eLc2 mi body k = mi fun ok ws => lc2L ok body (fun acc => k (.own (.seq acc))) ws [] := rfl
@[simp] theorem k_lc2b {mt : CB} {mi : CIL} {body : W → (Option W → MC) → MC} {acc : List W} {kk : List W → MC} : lc2b mt mi body acc kk = mt fun b => if b = true then mi fun ok ws => lcLL ok body kk ws acc else kk acc := rfl
@[simp] theorem k_Fmt {m : CE} {k : SV → MC} : eFmt m k = m fun x => fmtX x fun y => k (.val (.str y)) := rfl
@[simp] theorem k_Joined {ms : List CE} {k : SV → MC} : eJoined ms k = jsM ms Str.empty fun s => k (.val (.str s)) := rfl
@[simp] theorem k_jsNil {acc : Str} {k : Str → MC} : jsM [] acc k = k acc := rfl
@[simp] theorem k_jsCons {m : CE} {ms : List CE} {acc : Str} {k : Str → MC} : jsM (m :: ms) acc k = m fun x => asS x fun y => req ((acc ++ y).length ≤ sizeLine) (jsM ms (acc ++ y) k) := rfl
@[simp] theorem k_LmV {f : LmT} {m : CE} {ma : CWs} {k : SV → MC} : eLmV f m ma k = m fun x => lmRV f x ma k := rfl
@[simp] theorem k_DcX {n f : Str} {x : SV} {mv : W → W → CW} {k : SV → MC} : eDcX n f x mv k = dcX n f x mv k := rfl
@[simp] theorem k_ePrm {m : CE} {k : W → MC} : ePrm m k = m fun x => prom x k := rfl
/-! walks that nothing disturbs -/
theorem guard_T {m : MC} : guard (fun _ => True) m = m := by funext h Q E; exact propext ⟨fun z => z.2, fun z => ⟨trivial, z⟩⟩
theorem lcLL_T {body : W → (Option W → MC) → MC} {k : List W → MC} : ∀ ws acc, lcLL (fun _ => True) body k ws acc = lcL body k ws acc
  | [], acc => guard_T
  | w :: ws, acc => by
    show guard _ (body w _) = body w _
    rw [guard_T]
    congr 1
    funext o
    cases o with
    | some y => show req _ (lcLL _ body k ws (acc ++ [y])) = req _ (lcL body k ws (acc ++ [y])); rw [lcLL_T ws]
    | none => exact lcLL_T ws acc
/-- two generators, each turn adds its own -/
theorem lc2_fold {α : Type} {body : W → List W → (List W → MC) → MC} {k : List W → MC} (e : α → W) (g : α → List W) : ∀ (l : List α) (acc : List W), (∀ (i : Nat) (a : α) (acc : List W) (kk : List W → MC), l[i]? = some a → acc.length + (g a).length ≤ sizeLine → body (e a) acc kk = kk (acc ++ g a)) → acc.length + (l.flatMap g).length ≤ sizeLine → lc2L (fun _ => True) body k (l.map e) acc = k (acc ++ l.flatMap g)
  | [], acc, _, _ => by
    show guard _ (k acc) = _
    rw [guard_T]
    simp
  | a :: l, acc, hb, hl => by
    rw [List.flatMap_cons, List.length_append] at hl
    show guard _ (body (e a) acc (lc2L _ body k (l.map e))) = _
    rw [guard_T, hb 0 a acc _ rfl (by omega), lc2_fold e g l (acc ++ g a) (fun i b acc kk hi => hb (i + 1) b acc kk hi) (by rw [List.length_append]; omega), List.flatMap_cons, List.append_assoc]
@[simp] theorem src_lst {ws : List W} {k : (AH → Prop) → List W → MC} : srcM (.val (.lst ws)) k = k (fun _ => True) ws := rfl
@[simp] theorem src_tup {ws : List W} {k : (AH → Prop) → List W → MC} : srcM (.val (.tup ws)) k = k (fun _ => True) ws := rfl
end
end Ab

namespace Ab
open PySem PySem.Spec PyProof.Rows L2 RZ
/-! ### the data of the document -/
/-- good sizes -/
def SzOk (ss : List Int) : Prop := 1 ≤ ss.length ∧ ss.length ≤ 6 ∧ ∀ s ∈ ss, 1 ≤ s ∧ s ≤ 40
/-- counts of drops in casks -/
def CtOk (ss cs : List Int) : Prop := cs.length = ss.length ∧ ∀ (i : Nat) (c s : Int), cs[i]? = some c → ss[i]? = some s → 0 ≤ c ∧ c ≤ s
/-- a deed -/
inductive Dd where
  | swap (i j : Nat) | tap (n : Int) (c : Nat) | drain (n : Int) (c : Nat) | over (n : Int) (cs : List Nat) | down (n : Int) (cs : List Nat)
abbrev natW (c : Nat) : W := .int (c : Int)
def Dd.w : Dd → W
  | .swap i j => .tup [.str "swap", natW i, natW j]
  | .tap n c => .tup [.str "tap", .int n, natW c]
  | .drain n c => .tup [.str "drain", .int n, natW c]
  | .over n cs => .tup (.str "over" :: .int n :: cs.map natW)
  | .down n cs => .tup (.str "down" :: .int n :: cs.map natW)
/-- a row of casks -/
def CsOk (ss : List Int) (cs : List Nat) : Prop := 2 ≤ cs.length ∧ cs.length ≤ ss.length ∧ cs.Nodup ∧ ∀ c ∈ cs, c < ss.length
def great : Int := 1000000000000000000000000000000
def Dd.ok (ss : List Int) : Dd → Prop
  | .swap i j => i < ss.length ∧ j < ss.length ∧ i ≠ j ∧ ss[i]? = ss[j]?
  | .tap n c => 0 ≤ n ∧ n < great ∧ c < ss.length
  | .drain n c => 0 ≤ n ∧ n < great ∧ c < ss.length
  | .over n cs => 0 ≤ n ∧ n < great ∧ CsOk ss cs
  | .down n cs => 0 ≤ n ∧ n < great ∧ CsOk ss cs
theorem range_nat (n : Nat) : rngW 0 n = (List.range n).map natW := rng_map
def Dd.word : Dd → Str
  | .swap _ _ => "swap"
  | .tap _ _ => "tap"
  | .drain _ _ => "drain"
  | .over _ _ => "over"
  | .down _ _ => "down"
def Dd.rest : Dd → List W
  | .swap i j => [natW i, natW j]
  | .tap n c => [.int n, natW c]
  | .drain n c => [.int n, natW c]
  | .over n cs => .int n :: cs.map natW
  | .down n cs => .int n :: cs.map natW
end Ab
namespace Ab
open PySem PySem.Spec PyProof.Rows L2 RZ
def mf__law_open (x_script : W) : MC :=
  ((eLst (wCons (eFz (eCB oLstC (sCons (eSl (eV (.val x_script)) oNo (oPart (eC (.int 63)))) sNil))) (wCons (eFz (eC (.int 0))) (wCons (eFz (eC (.int 0))) (wCons (eFz (eC (.int 9465))) (wCons (eFz (eC (.int 0))) wNil)))))) ret)
def m__law_open : List W → MC
  | [x_script] => mf__law_open x_script
  | _ => bad
def mf__law_take (x_bag x_sides : W) : MC :=
  (join (fun (s1 : SV) => (ifC (tTst (eOp2 oGe (eOp2 oIx (eV s1) (eC (.int 2))) (eV (.val x_sides)))) ((eFz (eOp2 oMod (eOp2 oIx (eV s1) (eC (.int 2))) (eV (.val x_sides)))) fun x_side => (setC (eFz (eOp2 oFdiv (eOp2 oIx (eV s1) (eC (.int 2))) (eV (.val x_sides)))) s1 (eC (.int 2)) fun x_bag => ((eV (.val x_side)) ret))) (setC (eFz (eOp2 oAdd (eOp2 oIx (eV s1) (eC (.int 4))) (eC (.int 1)))) s1 (eC (.int 4)) fun x_bag => ((eFz (eOp2 oIx (eV x_bag) (eC (.int 3)))) fun x_mix => (setC (eFz (eOp2 oMod (eOp2 oAdd (eOp2 oAdd (eOp2 oAdd (eOp2 oMulT (eOp2 oMod (eOp2 oMulT (eV (.val x_mix)) (eV (.val x_mix))) (eC (.int 2147483629))) (eC (.int 5))) (eOp2 oMulT (eV (.val x_mix)) (eC (.int 16811)))) (eOp2 oMulT (eC (.int 7919)) (eOp2 oIx (eV x_bag) (eC (.int 4))))) (eC (.int 2531011))) (eC (.int 2147483647)))) x_bag (eC (.int 3)) fun x_bag => ((eOp2 oMod (eOp2 oAdd (eOp2 oFdiv (eOp2 oIx (eV x_bag) (eC (.int 3))) (eC (.int 61))) (eOp2 oMulT (eOp2 oMod (eOp2 oIx (eV x_bag) (eC (.int 3))) (eC (.int 8191))) (eC (.int 31)))) (eV (.val x_sides))) ret)))))) fun kj3 => (ifC (tAnd (tTst (eOp2 oLt (eOp2 oIx (eV (.val x_bag)) (eC (.int 2))) (eV (.val x_sides)))) (tTst (eOp2 oLt (eOp2 oIx (eV (.val x_bag)) (eC (.int 1))) (eCB oLen (sCons (eOp2 oIx (eV (.val x_bag)) (eC (.int 0))) sNil))))) ((eFz (eOp2 oIx (eOp2 oIx (eV (.val x_bag)) (eC (.int 0))) (eOp2 oIx (eV (.val x_bag)) (eC (.int 1))))) fun x_cell => (setC (eFz (eOp2 oAdd (eOp2 oIx (eV (.val x_bag)) (eC (.int 1))) (eC (.int 1)))) (.val x_bag) (eC (.int 1)) fun x_bag => (setC (eFz (eC (.int 0))) x_bag (eC (.int 2)) fun x_bag => (ifC (tTst (eOp2 oGe (eV (.val x_cell)) (eOp2 oPow (eC (.int 10)) (eC (.int 18))))) (setC (eFz (eV (.val x_cell))) x_bag (eC (.int 2)) fun x_bag => (kj3 x_bag)) (setC (eFz (eOp2 oMod (eOp2 oAdd (eOp2 oAdd (eOp2 oMulT (eOp2 oIx (eV x_bag) (eC (.int 3))) (eC (.int 48271))) (eOp2 oMulT (eOp2 oMod (eV (.val x_cell)) (eC (.int 2147483629))) (eC (.int 69621)))) (eC (.int 12345))) (eC (.int 2147483647)))) x_bag (eC (.int 3)) fun x_bag => (kj3 x_bag)))))) (kj3 (.val x_bag))))
def m__law_take : List W → MC
  | [x_bag, x_sides] => mf__law_take x_bag x_sides
  | _ => bad
def mf__law_pick (x_bag x_row : W) : MC :=
  ((eOp2 oIx (eV (.val x_row)) (eCall m__law_take (wCons (eFz (eV (.val x_bag))) (wCons (eFz (eCB oLen (sCons (eV (.val x_row)) sNil))) wNil)))) ret)
def m__law_pick : List W → MC
  | [x_bag, x_row] => mf__law_pick x_bag x_row
  | _ => bad
/-! ### draws -/
section
variable {Q : RR → AH → Prop} {E : AExc → AH → Prop} {h : AH} {p : Addr} {xs : List W}
theorem join_wp {σ : Type} {k : σ → MC} {f : (σ → MC) → MC} (P : σ → AH → Prop) (hk : ∀ s h, P s h → k s h Q E) (hf : ∀ kk : σ → MC, (∀ s h, P s h → kk s h Q E) → f kk h Q E) : join k f h Q E := hf k hk
theorem ix_ref {i : Int} {k : SV → MC} (e : h p = some (.cont (.seq xs))) : op2 oIx (.val (.ref p)) (.val (.int i)) k h Q E = atS xs i (fun w => k (.val w)) h Q E := by
  have ev : svw h (.val (.ref p)) = .cv (.seq xs) := by
    show (match h p with
      | some (.cont c) => Vw.cv c
      | _ => .wv (.ref p)) = _
    rw [e]
  show oIx (svw h (.val (.ref p))) (.wv (.int i)) _ = _
  rw [ev, ix_items rfl (fun _ z => by cases z)]
  unfold atS
  cases L2.atI xs i <;> rfl
theorem set_ref {i : Int} {w : W} {k : SV → MC} {j : Nat} (e : h p = some (.cont (.seq xs))) (ej : ixN xs.length i = some j) : setIx (.val (.ref p)) (.val (.int i)) w k h Q E = k (.val (.ref p)) (updA h p (.cont (.seq (xs.set j w)))) Q E := by
  show (match h p with
      | some (.cont (.seq xs)) => ∃ j, ixN xs.length i = some j ∧ k (.val (.ref p)) (updA h p (.cont (.seq (xs.set j w)))) Q E
      | _ => False) = _
  rw [e]
  show (∃ j, ixN xs.length i = some j ∧ k (.val (.ref p)) (updA h p (.cont (.seq (xs.set j w)))) Q E) = _
  rw [ej]
  refine propext ⟨fun ⟨_, a, b⟩ => ?_, fun z => ⟨j, rfl, z⟩⟩
  cases a
  exact b
theorem ite_wp {b : Prop} [Decidable b] {A B : MC} (x : b → A h Q E) (y : ¬ b → B h Q E) : (if b then A else B) h Q E := by
  split
  · exact x ‹_›
  · exact y ‹_›
end
/-- the bag of draws at p: n draws at most have been done -/
def bagC (ns : List Int) (i b m c : Int) : AO := .cont (.seq [.lst (ns.map .int), .int i, .int b, .int m, .int c])
def Bag (n : Nat) (h : AH) (p : Addr) : Prop := ∃ (ns : List Int) (i b m c : Int), h p = some (bagC ns i b m c) ∧ 0 ≤ i ∧ i ≤ ns.length ∧ 0 ≤ b ∧ 0 ≤ m ∧ m < 2147483648 ∧ 0 ≤ c ∧ c ≤ n
theorem Bag.le {n m : Nat} {h : AH} {p : Addr} (b : Bag n h p) (l : n ≤ m) : Bag m h p := let ⟨ns, i, x, y, c, a1, a2, a3, a4, a5, a6, a7, a8⟩ := b; ⟨ns, i, x, y, c, a1, a2, a3, a4, a5, a6, a7, by omega⟩
/-- a drawing def: c draws at most -/
def Dr (c : Nat) (m : Addr → MC) (P : RR → Prop) : Prop := ∀ (p : Addr) (n : Nat) (h : AH) (Q : RR → AH → Prop) (E : AExc → AH → Prop), Bag n h p → n + c ≤ 1000000000000000 → (∀ r h', P r → Bag (n + c) h' p → Bt p h h' → Q r h') → m p h Q E
section
variable {Q : RR → AH → Prop} {E : AExc → AH → Prop} {h : AH} {p : Addr} {n c : Nat} {m : Addr → MC} {P : RR → Prop} {K : SV → MC}
theorem Dr.call (d : Dr c m P) (b : Bag n h p) (l : n + c ≤ 1000000000000000) (q : ∀ r h', P r → Bag (n + c) h' p → Bt p h h' → K r.sv h' Q E) : call (m p) K h Q E := d p n h _ _ b l q
theorem Dr.call0 (d : Dr c m P) (b : Bag n h p) (l : n + c ≤ 1000000000000000) (q : ∀ r h', P r → Bag (n + c) h' p → Bt p h h' → K r.sv h' Q E) : call0 (m p) K h Q E := d p n h _ _ b l q
theorem Dr.imp {P' : RR → Prop} {c' : Nat} (d : Dr c m P) (i : ∀ r, P r → P' r) (l : c ≤ c') : Dr c' m P' := fun p n h Q E b l' q => d p n h Q E b (by omega) fun r h' z b' t => q r h' (i r z) (b'.le (by omega)) t
end
theorem take_end {ns : List Int} {i b m c s : Int} {h : AH} {p : Addr} {Q : RR → AH → Prop} {E : AExc → AH → Prop} (hp : h p = some (bagC ns i b m c)) (i0 : 0 ≤ i) (i1 : i ≤ ns.length) (b0 : 0 ≤ b) (m0 : 0 ≤ m) (m1 : m < 2147483648) (c0 : 0 ≤ c)
    (c1 : c ≤ 1000000000000000) (s1 : 1 ≤ s) (cd : ∀ b : Int, CDivW b s)
    (q : ∀ k h', 0 ≤ k → k < s → (∃ b' m' c', h' p = some (bagC ns i b' m' c') ∧ 0 ≤ b' ∧ 0 ≤ m' ∧ m' < 2147483648 ∧ 0 ≤ c' ∧ c' ≤ c + 1) → Bt p h h' → Q (.val (.int k)) h') :
    (ifC (tTst (eOp2 oGe (eOp2 oIx (eV (.val (.ref p))) (eC (.int 2))) (eV (.val (.int s))))) ((eFz (eOp2 oMod (eOp2 oIx (eV (.val (.ref p))) (eC (.int 2))) (eV (.val (.int s))))) fun x_side => (setC (eFz (eOp2 oFdiv (eOp2 oIx (eV (.val (.ref p))) (eC (.int 2))) (eV (.val (.int s))))) (.val (.ref p)) (eC (.int 2)) fun x_bag => ((eV (.val x_side)) ret))) (setC (eFz (eOp2 oAdd (eOp2 oIx (eV (.val (.ref p))) (eC (.int 4))) (eC (.int 1)))) (.val (.ref p)) (eC (.int 4)) fun x_bag => ((eFz (eOp2 oIx (eV x_bag) (eC (.int 3)))) fun x_mix => (setC (eFz (eOp2 oMod (eOp2 oAdd (eOp2 oAdd (eOp2 oAdd (eOp2 oMulT (eOp2 oMod (eOp2 oMulT (eV (.val x_mix)) (eV (.val x_mix))) (eC (.int 2147483629))) (eC (.int 5))) (eOp2 oMulT (eV (.val x_mix)) (eC (.int 16811)))) (eOp2 oMulT (eC (.int 7919)) (eOp2 oIx (eV x_bag) (eC (.int 4))))) (eC (.int 2531011))) (eC (.int 2147483647)))) x_bag (eC (.int 3)) fun x_bag => ((eOp2 oMod (eOp2 oAdd (eOp2 oFdiv (eOp2 oIx (eV x_bag) (eC (.int 3))) (eC (.int 61))) (eOp2 oMulT (eOp2 oMod (eOp2 oIx (eV x_bag) (eC (.int 3))) (eC (.int 8191))) (eC (.int 31)))) (eV (.val (.int s)))) ret))))) h Q E := by
  have cd := cd b
  have hp' : h p = some (.cont (.seq [.lst (ns.map .int), .int i, .int b, .int m, .int c])) := hp
  have e2 : ixN 5 2 = some 2 := rfl
  have e3 : ixN 5 3 = some 3 := rfl
  have e4 : ixN 5 4 = some 4 := rfl
  simp only [k_ifC, k_tTst, k_Op2, k_V, k_C, ix_ref hp', atS_2, o_ge, asB_bl, decide_eq_true_eq]
  refine ite_wp (fun _ => ?_) fun _ => ?_
  · simp only [k_Fz, k_Op2, k_V, k_C, k_setC, ix_ref hp', atS_2, o_mod, o_fdiv, req_at, fz_val]
    refine ⟨by omega, cd, ?_⟩
    rw [set_ref hp' e2]
    exact q _ _ (Int.emod_nonneg _ (by omega)) (Int.emod_lt_of_pos _ (by omega)) ⟨_, _, _, updA_same, Int.ediv_nonneg b0 (by omega), m0, m1, c0, by omega⟩ .upd
  · simp only [k_Fz, k_Op2, k_V, k_C, k_setC, ix_ref hp', atS_4, o_add, fz_val]
    rw [set_ref hp' e4]
    have h1 : updA h p (.cont (.seq ([.lst (ns.map .int), .int i, .int b, .int m, .int c].set 4 (.int (c + 1))))) p = some (.cont (.seq [.lst (ns.map .int), .int i, .int b, .int m, .int (c + 1)])) := updA_same
    have x0 : 0 ≤ m * m % 2147483629 := Int.emod_nonneg _ (by decide)
    have x1 : m * m % 2147483629 < 2147483629 := Int.emod_lt_of_pos _ (by decide)
    simp only [k_Fz, k_Op2, k_V, k_C, k_setC, ix_ref h1, atS_4, atS_3, o_add, o_mul, o_mod, req_at, fz_val]
    refine ⟨mul_ok m0 (by omega) m0 (by omega), by decide, mul_ok x0 (by omega) (by decide) (by decide), mul_ok m0 (by omega) (by decide) (by decide), mul_ok (by decide) (by decide) (by omega) (by omega), by decide, ?_⟩
    rw [set_ref h1 e3]
    generalize m * m % 2147483629 * 5 + m * 16811 + 7919 * (c + 1) + 2531011 = y
    have g0 : 0 ≤ y % 2147483647 := Int.emod_nonneg _ (by decide)
    have g1 : y % 2147483647 < 2147483647 := Int.emod_lt_of_pos _ (by decide)
    have w0 : 0 ≤ y % 2147483647 % 8191 := Int.emod_nonneg _ (by decide)
    have w1 : y % 2147483647 % 8191 < 8191 := Int.emod_lt_of_pos _ (by decide)
    have h2 : updA (updA h p (.cont (.seq ([.lst (ns.map .int), .int i, .int b, .int m, .int c].set 4 (.int (c + 1)))))) p (.cont (.seq ([.lst (ns.map .int), .int i, .int b, .int m, .int (c + 1)].set 3 (.int (y % 2147483647))))) p = some (.cont (.seq [.lst (ns.map .int), .int i, .int b, .int (y % 2147483647), .int (c + 1)])) := updA_same
    simp only [ix_ref h2, atS_3, o_add, o_mul, o_mod, o_fdiv, req_at]
    refine ⟨wide_div (b := 10) (by decide) (by decide) (by decide) (by decide), by decide, mul_ok w0 (by omega) (by decide) (by decide), by omega, ?_⟩
    exact q _ _ (Int.emod_nonneg _ (by omega)) (Int.emod_lt_of_pos _ (by omega)) ⟨_, _, _, updA_same, b0, g0, by omega, by omega, by omega⟩ (Bt.upd.trans .upd)
theorem take_drG {s : Int} (s1 : 1 ≤ s) (s2 : ∀ b : Int, CDivW b s) : Dr 1 (fun p => m__law_take [.ref p, .int s]) fun r => ∃ k, r = .val (.int k) ∧ 0 ≤ k ∧ k < s := by
  intro p n h Q E ⟨ns, i, b, m, c, hp, i0, i1, b0, m0, m1, c0, c1⟩ hn q
  have q' : ∀ k h', 0 ≤ k → k < s → (∃ i' b' m' c', h' p = some (bagC ns i' b' m' c') ∧ 0 ≤ i' ∧ i' ≤ ns.length ∧ 0 ≤ b' ∧ 0 ≤ m' ∧ m' < 2147483648 ∧ 0 ≤ c' ∧ c' ≤ c + 1) → Bt p h h' → Q (.val (.int k)) h' :=
    fun k h' k0 k1 ⟨i', b', m', c', a0, a1, a2, a3, a4, a5, a6, a7⟩ t => q _ _ ⟨k, rfl, k0, k1⟩ ⟨ns, i', b', m', c', a0, a1, a2, a3, a4, a5, a6, by omega⟩ t
  clear q
  show mf__law_take (.ref p) (.int s) h Q E
  unfold mf__law_take
  have hp' : h p = some (.cont (.seq [.lst (ns.map .int), .int i, .int b, .int m, .int c])) := hp
  refine join_wp (fun x k => x = .val (.ref p) ∧ ∃ i' b' m' : Int, 0 ≤ i' ∧ i' ≤ ns.length ∧ 0 ≤ b' ∧ 0 ≤ m' ∧ m' < 2147483648 ∧ k p = some (bagC ns i' b' m' c) ∧ Bt p h k) ?_ ?_
  · rintro _ k ⟨rfl, i', b', m', z1, z2, z3, z4, z5, z6, z7⟩
    exact take_end z6 z1 z2 z3 z4 z5 c0 (by omega) s1 s2 fun k h' k0 k1 ⟨b2, m2, c2, a0, a1, a2, a3, a4, a5⟩ t => q' k h' k0 k1 ⟨i', b2, m2, c2, a0, z1, z2, a1, a2, a3, a4, a5⟩ (z7.trans t)
  · intro kk hk
    have same : kk (.val (.ref p)) h Q E := hk _ _ ⟨rfl, i, b, m, i0, i1, b0, m0, m1, hp, .refl⟩
    have e1 : ixN 5 1 = some 1 := rfl
    have e2 : ixN 5 2 = some 2 := rfl
    have e3 : ixN 5 3 = some 3 := rfl
    simp only [k_ifC, k_tAnd, k_tTst, k_Op2, k_V, k_C, ix_ref hp', atS_2, o_lt, asB_bl, decide_eq_true_eq]
    refine ite_wp (fun _ => ?_) fun _ => by rw [if_neg Bool.false_ne_true]; exact same
    simp only [k_CB, k_sCons, k_sNil, k_Op2, k_V, k_C, ix_ref hp', atS_1, atS_0, b_lenL, o_lt, asB_bl, decide_eq_true_eq, List.length_map]
    refine ite_wp (fun h2 => ?_) fun _ => same
    obtain ⟨j, rfl⟩ := Int.eq_ofNat_of_zero_le i0
    have hj : j < ns.length := by omega
    simp only [k_Fz, k_Op2, k_V, k_C, k_setC, ix_ref hp', atS_1, atS_0, o_ixL, atS_map hj, o_add, fz_val]
    generalize ns[j] = v
    rw [set_ref hp' e1]
    have h1 : updA h p (.cont (.seq ([.lst (ns.map .int), .int (j : Int), .int b, .int m, .int c].set 1 (.int ((j : Int) + 1))))) p = some (.cont (.seq [.lst (ns.map .int), .int ((j : Int) + 1), .int b, .int m, .int c])) := updA_same
    rw [set_ref h1 e2]
    generalize hk1 : updA (updA h p (.cont (.seq ([.lst (ns.map .int), .int (j : Int), .int b, .int m, .int c].set 1 (.int ((j : Int) + 1)))))) p (.cont (.seq ([.lst (ns.map .int), .int ((j : Int) + 1), .int b, .int m, .int c].set 2 (.int 0)))) = h2'
    have hp2 : h2' p = some (.cont (.seq [.lst (ns.map .int), .int ((j : Int) + 1), .int 0, .int m, .int c])) := by rw [← hk1]; exact updA_same
    have bt : Bt p h h2' := by rw [← hk1]; exact Bt.upd.trans .upd
    simp only [k_ifC, k_tTst, k_Op2, k_V, k_C, o_pow, req_at, o_ge, asB_bl, decide_eq_true_eq]
    refine ⟨⟨by decide, by decide, by decide⟩, ite_wp (fun h3 => ?_) fun h3 => ?_⟩
    · have z : (0 : Int) ≤ 10 ^ Int.toNat 18 := by decide
      rw [set_ref hp2 e2]
      exact hk _ _ ⟨rfl, (j : Int) + 1, v, m, by omega, by omega, by omega, m0, m1, updA_same, bt.trans .upd⟩
    · have a0 : 0 ≤ v % 2147483629 := Int.emod_nonneg _ (by decide)
      have a1 : v % 2147483629 < 2147483629 := Int.emod_lt_of_pos _ (by decide)
      simp only [k_setC, k_Fz, k_Op2, k_V, k_C, ix_ref hp2, atS_3, o_mul, o_mod, o_add, req_at, fz_val]
      refine ⟨mul_ok m0 (by omega) (by decide) (by decide), by decide, mul_ok a0 (by omega) (by decide) (by decide), by decide, ?_⟩
      rw [set_ref hp2 e3]
      have b1 : 0 ≤ (m * 48271 + v % 2147483629 * 69621 + 12345) % 2147483647 := Int.emod_nonneg _ (by decide)
      have b2 : (m * 48271 + v % 2147483629 * 69621 + 12345) % 2147483647 < 2147483647 := Int.emod_lt_of_pos _ (by decide)
      exact hk _ _ ⟨rfl, (j : Int) + 1, 0, _, by omega, by omega, by omega, b1, by omega, updA_same, bt.trans .upd⟩
theorem take_dr {s : Int} (s1 : 1 ≤ s) (s2 : s ≤ 10 ^ 40) : Dr 1 (fun p => m__law_take [.ref p, .int s]) fun r => ∃ k, r = .val (.int k) ∧ 0 ≤ k ∧ k < s := take_drG s1 fun b => wide_div (b := 200) (by omega) (by omega) (by decide) (by decide)
theorem open_ok {ns : List Int} (h : ns.length ≤ 63) : m__law_open [.lst (ns.map .int)] = ret (.own (.seq [.lst (ns.map .int), .int 0, .int 0, .int 9465, .int 0])) := by
  show mf__law_open _ = _
  unfold mf__law_open
  simp only [k_Lst, k_wCons, k_wNil, k_Fz, k_CB, k_sCons, k_sNil, k_Sl, k_V, k_C, k_oNo, k_oPart, asI_int, slc_L, b_lstO, fz_seq, fz_val]
  rw [req_of (by simp [sizeL]), show cutW (ns.map W.int) none (some 63) = (ns.map W.int).take 63 from cut_to (k := 63), List.take_of_length_le (by rw [List.length_map]; exact h)]
theorem bag_new {h : AH} {p : Addr} {ns : List Int} : Bag 0 (updA h p (.cont (.seq [.lst (ns.map .int), .int 0, .int 0, .int 9465, .int 0]))) p := ⟨ns, 0, 0, 9465, 0, updA_same, by omega, by omega, by omega, by omega, by omega, by omega, by omega⟩
theorem pick_dr {row : W} {xs : List W} (hr : row = .lst xs ∨ row = .tup xs) (h0 : xs ≠ []) (h1 : xs.length ≤ 1000000) : Dr 1 (fun p => m__law_pick [.ref p, row]) fun r => ∃ w, r = .val w ∧ w ∈ xs := by
  intro p n h Q E b hn q
  have l0 : 0 < xs.length := List.length_pos_iff.mpr h0
  show mf__law_pick (.ref p) row h Q E
  unfold mf__law_pick
  have go : call (m__law_take [.ref p, .int xs.length]) (fun x => op2 oIx (.val row) x ret) h Q E := by
    refine (take_dr (by omega) (by omega)).call b hn fun r h' ⟨k, e, k0, k1⟩ b' t => ?_
    subst e
    obtain ⟨j, rfl⟩ := Int.eq_ofNat_of_zero_le k0
    have hj : j < xs.length := by omega
    rcases hr with rfl | rfl <;> (simp only [sv_val, o_ixT, o_ixL, atS_nat hj]; exact q _ _ ⟨_, rfl, List.getElem_mem hj⟩ b' t)
  rcases hr with rfl | rfl <;> simpa only [k_Op2, k_V, k_Call, k_wCons, k_wNil, k_Fz, k_CB, k_sCons, k_sNil, b_lenL, b_lenT, fz_val] using go
end Ab
namespace Ab
open PySem PySem.Spec PyProof.Rows L2 RZ
def mf__law_sizes (x_bag x_mcasks x_most : W) : MC :=
  ((eCB oTupC (sCons (eLc (iRng1 (sCons (eOp2 oAdd (eC (.int 1)) (eCall m__law_take (wCons (eFz (eV (.val x_bag))) (wCons (eFz (eV (.val x_mcasks))) wNil)))) sNil)) fun x_mcask kk => lcb tYes (eFz (eOp2 oAdd (eC (.int 1)) (eCall0 m__law_take (wCons (eFz (eV (.val x_bag))) (wCons (eFz (eV (.val x_most))) wNil))))) kk) sNil)) ret)
def m__law_sizes : List W → MC
  | [x_bag, x_mcasks, x_most] => mf__law_sizes x_bag x_mcasks x_most
  | _ => bad
def mf__law_any_sizes (x_bag : W) : MC :=
  ((eCall m__law_sizes (wCons (eFz (eV (.val x_bag))) (wCons (eFz (eC (.int 6))) (wCons (eFz (eCall m__law_pick (wCons (eFz (eV (.val x_bag))) (wCons (eFz (eLst (wCons (eFz (eC (.int 40))) (wCons (eFz (eC (.int 9))) (wCons (eFz (eC (.int 4))) (wCons (eFz (eC (.int 2))) wNil)))))) wNil)))) wNil)))) ret)
def m__law_any_sizes : List W → MC
  | [x_bag] => mf__law_any_sizes x_bag
  | _ => bad
def mf__law_load (x_bag x_msizes : W) : MC :=
  ((eCB oTupC (sCons (eLc (iItems (eFz (eV (.val x_msizes)))) fun x_size kk => lcb tYes (eFz (eCall0 m__law_take (wCons (eFz (eV (.val x_bag))) (wCons (eFz (eOp2 oAdd (eV (.val x_size)) (eC (.int 1)))) wNil)))) kk) sNil)) ret)
def m__law_load : List W → MC
  | [x_bag, x_msizes] => mf__law_load x_bag x_msizes
  | _ => bad
def mf__law_full_load (x_bag x_msizes : W) : MC :=
  ((eFz (eCall m__law_take (wCons (eFz (eV (.val x_bag))) (wCons (eFz (eC (.int 3))) wNil)))) fun x_how => (ifC (tTst (eOp2 (oEq false) (eV (.val x_how)) (eC (.int 0)))) ((eCB oTupC (sCons (eLc (iItems (eFz (eV (.val x_msizes)))) fun x_size kk => lcb tYes (eFz (eOp2 oSub (eV (.val x_size)) (eCall0 m__law_take (wCons (eFz (eV (.val x_bag))) (wCons (eFz (eC (.int 2))) wNil))))) kk) sNil)) ret) ((eCall m__law_load (wCons (eFz (eV (.val x_bag))) (wCons (eFz (eV (.val x_msizes))) wNil))) ret)))
def m__law_full_load : List W → MC
  | [x_bag, x_msizes] => mf__law_full_load x_bag x_msizes
  | _ => bad
/-! ### sizes, loads, deeds drawn -/
theorem all2_map {α : Type} {P : α → Prop} {e : α → W} : ∀ {ws ys : List W}, All2 (fun _ y => ∃ a, y = e a ∧ P a) ws ys → ∃ as : List α, ys = as.map e ∧ as.length = ws.length ∧ ∀ a ∈ as, P a
  | _, _, .nil => ⟨[], rfl, rfl, fun _ h => by cases h⟩
  | _, _, .cons ⟨a, e1, hp⟩ r => by
    obtain ⟨as, e2, l, h⟩ := all2_map r
    subst e1 e2
    exact ⟨a :: as, rfl, by rw [List.length_cons, List.length_cons, l], fun b hb => by
      rcases List.mem_cons.mp hb with rfl | hb
      · exact hp
      · exact h b hb⟩
/-- a comprehension whose turns draw -/
theorem lc_dr {α : Type} {P : α → Prop} {e : α → W} {Q : RR → AH → Prop} {E : AExc → AH → Prop} {body : W → (Option W → MC) → MC} {k : List W → MC} {p : Addr} {n c : Nat} {h : AH} (ws : List W) (hl : ws.length ≤ 1000) (b : Bag n h p) (hn : n + ws.length * c ≤ 1000000000000000)
    (hb : ∀ w ∈ ws, ∀ m h1 kk, m + c ≤ 1000000000000000 → Bag m h1 p → (∀ a h', P a → Bag (m + c) h' p → Bt p h1 h' → kk (some (e a)) h' Q E) → body w kk h1 Q E)
    (q : ∀ (as : List α) h', as.length = ws.length → (∀ a ∈ as, P a) → Bag (n + ws.length * c) h' p → Bt p h h' → k (as.map e) h' Q E) : lcL body k ws [] h Q E := by
  refine lc_wp (fun i h' => Bag (n + i * c) h' p ∧ Bt p h h') (fun _ y => ∃ a, y = e a ∧ P a) ws [] 0 h (by simp [sizeL]; omega) ⟨by simpa using b, .refl⟩ (fun w hw j h1 kk hj ⟨b1, t1⟩ hk => ?_) fun ys h' ay ⟨b', t'⟩ => ?_
  · have z : j * c + c ≤ ws.length * c := by rw [← Nat.succ_mul]; exact Nat.mul_le_mul_right _ (by omega)
    refine hb w hw _ h1 kk (by omega) b1 fun a h' pa b2 t2 => hk _ h' ⟨a, rfl, pa⟩ ⟨by rw [Nat.succ_mul, ← Nat.add_assoc]; exact b2, t1.trans t2⟩
  · obtain ⟨as, rfl, l, pa⟩ := all2_map ay
    rw [List.nil_append]
    exact q as h' l pa (by simpa using b') t'
theorem sizes_dr {mc mo : Int} (h0 : 1 ≤ mc) (h1 : mc ≤ 6) (g0 : 1 ≤ mo) (g1 : mo ≤ 40) : Dr 10 (fun p => m__law_sizes [.ref p, .int mc, .int mo]) fun r => ∃ ss : List Int, r = .val (.tup (ss.map .int)) ∧ 1 ≤ ss.length ∧ ss.length ≤ mc ∧ ∀ s ∈ ss, 1 ≤ s ∧ s ≤ mo := by
  intro p n h Q E b hn q
  show mf__law_sizes (.ref p) (.int mc) (.int mo) h Q E
  unfold mf__law_sizes
  simp only [k_CB, k_sCons, k_sNil, k_Lc, k_iRng1, k_Op2, k_C, k_V, k_Call, k_wCons, k_wNil, k_Fz, fz_val]
  refine (take_dr h0 (by omega)).call b (by omega) fun r h' ⟨k, e, k0, k1⟩ b' t => ?_
  subst e
  simp only [sv_val, o_add, rng1_int, req_at]
  refine ⟨by omega, ?_⟩
  refine lc_dr (P := fun s => 1 ≤ s ∧ s ≤ mo) (e := W.int) (c := 1) _ (by rw [rngW_len]; omega) b' (by rw [rngW_len]; omega) (fun w hw m h1 kk hm b1 hk => ?_) fun ss h2 l ps b2 t2 => ?_
  · simp only [k_lcb, k_tYes, if_true, k_Fz, k_Op2, k_C, k_V, k_Call0, k_wCons, k_wNil, fz_val]
    refine (take_dr g0 (by omega)).call0 b1 (by omega) fun r h' ⟨k, e, k0, k1⟩ b' t => ?_
    subst e
    simp only [sv_val, o_add, fz_val]
    exact hk _ _ ⟨by omega, by omega⟩ b' t
  · rw [rngW_len] at l b2
    simp only [b_tupO]
    exact q _ _ ⟨ss, rfl, by omega, by omega, ps⟩ (b2.le (by omega)) (t.trans t2)
theorem any_sizes_dr : Dr 20 (fun p => m__law_any_sizes [.ref p]) fun r => ∃ ss : List Int, r = .val (.tup (ss.map .int)) ∧ SzOk ss := by
  intro p n h Q E b hn q
  show mf__law_any_sizes (.ref p) h Q E
  unfold mf__law_any_sizes
  simp only [k_C, k_V, k_Call, k_wCons, k_wNil, k_Fz, fz_val, k_Lst, fz_seq]
  rw [req_of (by simp [sizeL])]
  refine (pick_dr (.inl rfl) (by simp) (by simp)).call b (by omega) fun r h' ⟨w, e, hw⟩ b' t => ?_
  subst e
  obtain ⟨mo, rfl, g0, g1⟩ : ∃ mo : Int, w = .int mo ∧ 1 ≤ mo ∧ mo ≤ 40 := by
    simp only [List.mem_cons, List.not_mem_nil, or_false] at hw
    rcases hw with rfl | rfl | rfl | rfl <;> exact ⟨_, rfl, by omega, by omega⟩
  simp only [sv_val, fz_val]
  refine (sizes_dr (by omega) (by omega) g0 g1).call b' (by omega) fun r h2 ⟨ss, e, l1, l2, ps⟩ b2 t2 => ?_
  subst e
  exact q _ _ ⟨ss, rfl, l1, by omega, fun s hs => ⟨(ps s hs).1, Int.le_trans (ps s hs).2 g1⟩⟩ (b2.le (by omega)) (t.trans t2)
theorem all2_get {α β : Type} {P : α → β → Prop} : ∀ {as : List α} {bs : List β}, All2 P as bs → ∀ (i : Nat) a b, as[i]? = some a → bs[i]? = some b → P a b
  | _, _, .nil, _, _, _, h, _ => by simp at h
  | _, _, .cons p _, 0, _, _, h, g => by simp at h g; subst h g; exact p
  | _, _, .cons _ r, i + 1, a, b, h, g => all2_get r i a b (by simpa using h) (by simpa using g)
/-- .. one for each size -/
theorem lc_drs {Q : RR → AH → Prop} {E : AExc → AH → Prop} {body : W → (Option W → MC) → MC} {k : List W → MC} {p : Addr} {n c : Nat} {h : AH} (R : Int → Int → Prop) (ss : List Int) (hl : ss.length ≤ 1000) (b : Bag n h p) (hn : n + ss.length * c ≤ 1000000000000000)
    (hb : ∀ s ∈ ss, ∀ m h1 kk, m + c ≤ 1000000000000000 → Bag m h1 p → (∀ a h', R s a → Bag (m + c) h' p → Bt p h1 h' → kk (some (.int a)) h' Q E) → body (.int s) kk h1 Q E)
    (q : ∀ (as : List Int) h', as.length = ss.length → (∀ (i : Nat) a s, as[i]? = some a → ss[i]? = some s → R s a) → Bag (n + ss.length * c) h' p → Bt p h h' → k (as.map .int) h' Q E) : lcL body k (ss.map .int) [] h Q E := by
  refine lc_wp (fun i h' => Bag (n + i * c) h' p ∧ Bt p h h') (fun w y => ∃ s a, w = .int s ∧ y = .int a ∧ R s a) _ [] 0 h (by simp [sizeL]; omega) ⟨by simpa using b, .refl⟩ (fun w hw j h1 kk hj ⟨b1, t1⟩ hk => ?_) fun ys h' ay ⟨b', t'⟩ => ?_
  · obtain ⟨s, hs, rfl⟩ := List.mem_map.mp hw
    rw [List.length_map] at hj
    have z : j * c + c ≤ ss.length * c := by rw [← Nat.succ_mul]; exact Nat.mul_le_mul_right _ (by omega)
    refine hb s hs _ h1 kk (by omega) b1 fun a h' pa b2 t2 => hk _ h' ⟨s, a, rfl, rfl, pa⟩ ⟨by rw [Nat.succ_mul, ← Nat.add_assoc]; exact b2, t1.trans t2⟩
  · have hy : ∀ {ws ys : List W}, All2 (fun w y => ∃ s a, w = W.int s ∧ y = W.int a ∧ R s a) ws ys → ∃ as : List Int, ys = as.map .int := fun r => by
      induction r with
      | nil => exact ⟨[], rfl⟩
      | cons z _ ih =>
        obtain ⟨s, a, _, rfl, _⟩ := z
        obtain ⟨as, rfl⟩ := ih
        exact ⟨a :: as, rfl⟩
    obtain ⟨as, rfl⟩ := hy ay
    have hlen := ay.length
    rw [List.length_map, List.length_map] at hlen
    rw [List.nil_append]
    refine q as h' hlen.symm (fun i a s ha hs => ?_) (by simpa using b') t'
    obtain ⟨s', a', e1, e2, r⟩ := all2_get ay i (.int s) (.int a) (by rw [List.getElem?_map, hs]; rfl) (by rw [List.getElem?_map, ha]; rfl)
    cases e1
    cases e2
    exact r
theorem load_dr {ss : List Int} (hs : SzOk ss) : Dr 6 (fun p => m__law_load [.ref p, .tup (ss.map .int)]) fun r => ∃ cs : List Int, r = .val (.tup (cs.map .int)) ∧ CtOk ss cs := by
  intro p n h Q E b hn q
  show mf__law_load (.ref p) (.tup (ss.map .int)) h Q E
  unfold mf__law_load
  obtain ⟨l1, l2, s3⟩ := hs
  simp only [k_CB, k_sCons, k_sNil, k_Lc, k_iItems, k_Fz, k_V, fz_val, items_tup]
  refine lc_drs (c := 1) (fun s a => 0 ≤ a ∧ a ≤ s) ss (by omega) b (by omega) (fun s hs m h1 kk hm b1 hk => ?_) fun cs h2 l ps b2 t2 => ?_
  · obtain ⟨z1, z2⟩ := s3 s hs
    simp only [k_lcb, k_tYes, if_true, k_Fz, k_Op2, k_C, k_V, k_Call0, k_wCons, k_wNil, fz_val, o_add]
    refine (take_dr (by omega) (by omega)).call0 b1 (by omega) fun r h' ⟨k, e, k0, k1⟩ b' t => ?_
    subst e
    exact hk _ _ ⟨by omega, by omega⟩ b' t
  · simp only [b_tupO]
    exact q _ _ ⟨cs, rfl, l, fun i c s hc hs => ps i c s hc hs⟩ (b2.le (by omega)) t2
theorem full_load_dr {ss : List Int} (hs : SzOk ss) : Dr 10 (fun p => m__law_full_load [.ref p, .tup (ss.map .int)]) fun r => ∃ cs : List Int, r = .val (.tup (cs.map .int)) ∧ CtOk ss cs := by
  intro p n h Q E b hn q
  show mf__law_full_load (.ref p) (.tup (ss.map .int)) h Q E
  unfold mf__law_full_load
  obtain ⟨l1, l2, s3⟩ := id hs
  simp only [k_Fz, k_Call, k_wCons, k_wNil, k_V, k_C, fz_val]
  refine (take_dr (by omega) (by omega)).call b (by omega) fun r h' ⟨k, e, k0, k1⟩ b' t => ?_
  subst e
  simp only [k_ifC, k_tTst, k_Op2, k_V, k_C, sv_val, fz_val]
  rw [t_eq (sp pl_int) (sp pl_int)]
  refine ite_wp (fun _ => ?_) fun _ => ?_
  · simp only [k_CB, k_sCons, k_sNil, k_Lc, k_iItems, k_Fz, k_V, fz_val, items_tup]
    refine lc_drs (c := 1) (fun s a => 0 ≤ a ∧ a ≤ s) ss (by omega) b' (by omega) (fun s hs m h1 kk hm b1 hk => ?_) fun cs h2 l ps b2 t2 => ?_
    · obtain ⟨z1, z2⟩ := s3 s hs
      simp only [k_lcb, k_tYes, if_true, k_Fz, k_Op2, k_C, k_V, k_Call0, k_wCons, k_wNil, fz_val]
      refine (take_dr (by omega) (by omega)).call0 b1 (by omega) fun r h' ⟨k, e, k0, k1⟩ b' t => ?_
      subst e
      simp only [sv_val, o_sub, fz_val]
      exact hk _ _ ⟨by omega, by omega⟩ b' t
    · simp only [b_tupO]
      exact q _ _ ⟨cs, rfl, l, fun i c s hc hs => ps i c s hc hs⟩ (b2.le (by omega)) (t.trans t2)
  · refine (load_dr hs).call b' (by omega) fun r h2 hr b2 t2 => ?_
    obtain ⟨cs, rfl, ct⟩ := hr
    exact q _ _ ⟨cs, rfl, ct⟩ (b2.le (by omega)) (t.trans t2)
/-! a row shuffled -/
end Ab
namespace Ab
open PySem PySem.Spec PyProof.Rows L2 RZ
def mf_look_sizes (x_sizes : W) : MC :=
  (ifC (tNot (tTst (eChn (fun i j => decide (i ≤ j)) (fun i j => decide (i ≤ j)) (eC (.int 1)) (eCB oLen (sCons (eV (.val x_sizes)) sNil)) (eC (.int 6))))) bad (forC (iEnum (eFz (eV (.val x_sizes)))) () (fun w6 (s1 : Unit) kn3 kb4 => un2 w6 fun x_cask x_size => (ifC (tNot (tTst (eChn (fun i j => decide (i ≤ j)) (fun i j => decide (i ≤ j)) (eC (.int 1)) (eV (.val x_size)) (eC (.int 40))))) bad (kn3 ()))) fun (s1 : Unit) => (ret (.val .non))))
def m_look_sizes : List W → MC
  | [x_sizes] => mf_look_sizes x_sizes
  | _ => bad
def mf_look_counts (x_sizes x_counts : W) : MC :=
  ((eCall m_look_sizes (wCons (eFz (eV (.val x_sizes))) wNil)) fun _ => (ifC (tTst (eOp2 (oEq true) (eCB oLen (sCons (eV (.val x_counts)) sNil)) (eCB oLen (sCons (eV (.val x_sizes)) sNil)))) bad (forC (iEnz (wCons (eFz (eV (.val x_counts))) (wCons (eFz (eV (.val x_sizes))) wNil))) () (fun w9 (s1 : Unit) kn3 kb4 => un2 w9 fun x_cask w6 => un2 w6 fun x_many x_size => (ifC (tNot (tTst (eChn (fun i j => decide (i ≤ j)) (fun i j => decide (i ≤ j)) (eC (.int 0)) (eV (.val x_many)) (eV (.val x_size))))) bad (kn3 ()))) fun (s1 : Unit) => (ret (.val .non)))))
def m_look_counts : List W → MC
  | [x_sizes, x_counts] => mf_look_counts x_sizes x_counts
  | _ => bad
/-! ### sizes, counts, deeds looked at (all is well); counts behind a deed -/
theorem mem_zipIdx {α : Type} {l : List α} {q : α × Nat} (h : q ∈ l.zipIdx) : l[q.2]? = some q.1 := by
  obtain ⟨a, i⟩ := q
  simpa using List.mem_zipIdx_iff_getElem?.mp h
theorem look_sizes_ok {ss : List Int} (hs : SzOk ss) : m_look_sizes [.tup (ss.map .int)] = ret (.val .non) := by
  show mf_look_sizes _ = _
  unfold mf_look_sizes
  obtain ⟨l1, l2, s3⟩ := hs
  have e1 : decide ((1 : Int) ≤ ss.length) = true := decide_eq_true (by omega)
  have e2 : decide ((ss.length : Int) ≤ 6) = true := decide_eq_true (by omega)
  simp only [k_ifC, k_tNot, k_tTst, k_Chn, k_C, k_V, k_CB, k_sCons, k_sNil, b_lenT, List.length_map, asI_int, asB_bl, e1, e2, if_true, Bool.not_true, Bool.false_eq_true, if_false, k_forC, k_iEnum, k_Fz, fz_val, items_tup, en_map]
  refine for_none _ fun w hw kn => ?_
  obtain ⟨⟨s, i⟩, hq, rfl⟩ := List.mem_map.mp hw
  obtain ⟨g1, g2⟩ := s3 s (List.mem_of_getElem? (mem_zipIdx hq))
  simp only [un2_tup, k_ifC, k_tNot, k_tTst, k_Chn, k_C, k_V, asI_int, asB_bl, decide_eq_true g1, decide_eq_true g2, if_true, Bool.not_true, Bool.false_eq_true, if_false]
theorem look_counts_ok {ss cs : List Int} (hs : SzOk ss) (hc : CtOk ss cs) : m_look_counts [.tup (ss.map .int), .tup (cs.map .int)] = ret (.val .non) := by
  show mf_look_counts _ _ = _
  unfold mf_look_counts
  obtain ⟨l, c3⟩ := hc
  simp only [k_Call, k_wCons, k_wNil, k_Fz, k_V, fz_val, look_sizes_ok hs, call_ret, k_ifC, k_tTst, k_Op2, k_CB, k_sCons, k_sNil, b_lenT, List.length_map]
  rw [t_ne (sp pl_int) (sp pl_int)]
  simp only [fz_val, l, decide_true, Bool.not_true, Bool.false_eq_true, if_false, k_forC, k_iEnz, k_wCons, k_wNil, k_Fz, k_V, enz_2, items_tup, ez_map]
  refine for_none _ fun w hw kn => ?_
  obtain ⟨⟨⟨c, s⟩, i⟩, hq, rfl⟩ := List.mem_map.mp hw
  have z := mem_zipIdx hq
  rw [List.getElem?_zip_eq_some] at z
  obtain ⟨g1, g2⟩ := c3 i c s z.1 z.2
  simp only [un2_tup, k_ifC, k_tNot, k_tTst, k_Chn, k_C, k_V, asI_int, asB_bl, decide_eq_true g1, decide_eq_true g2, if_true, Bool.not_true, Bool.false_eq_true, if_false]
/-! pouring -/
theorem set_map {cs : List Int} {c : Nat} {x : Int} : (cs.map W.int).set c (.int x) = (cs.set c x).map W.int := by rw [List.map_set]
theorem atS_ints {cs : List Int} {c : Nat} {k : W → MC} (h : c < cs.length) : atS (cs.map W.int) (c : Int) k = k (.int (cs.getD c 0)) := by
  rw [atS_map h]
  congr 2
  rw [List.getD_eq_getElem?_getD, List.getElem?_eq_getElem h]; rfl
/-! rows beside one another -/
end Ab
namespace Ab
open PySem PySem.Spec PyProof.Rows L2 RZ
/-! ### what pouring does: counts stay counts, more stays more, sums -/
theorem getD_set {l : List Int} {c i : Nat} {x : Int} : (l.set c x).getD i 0 = if i = c ∧ c < l.length then x else l.getD i 0 := by
  simp only [List.getD_eq_getElem?_getD, List.getElem?_set]
  by_cases h : c = i
  · subst h
    by_cases h2 : c < l.length
    · simp [h2]
    · simp [h2]
  · rw [if_neg h, if_neg (fun z => h z.1.symm)]
/-- nowhere above -/
def LeL (as bs : List Int) : Prop := as.length = bs.length ∧ ∀ i, as.getD i 0 ≤ bs.getD i 0
noncomputable instance {as bs : List Int} : Decidable (LeL as bs) := Classical.propDecidable _
theorem LeL.set {as bs : List Int} {c : Nat} {x y : Int} (h : LeL as bs) (xy : x ≤ y) : LeL (as.set c x) (bs.set c y) := by
  refine ⟨by rw [List.length_set, List.length_set]; exact h.1, fun i => ?_⟩
  rw [getD_set, getD_set, ← h.1]
  split
  · exact xy
  · exact h.2 i
theorem LeL.refl {as : List Int} : LeL as as := ⟨rfl, fun _ => Int.le_refl _⟩
theorem LeL.trans {as bs cs : List Int} (h : LeL as bs) (g : LeL bs cs) : LeL as cs := ⟨h.1.trans g.1, fun i => Int.le_trans (h.2 i) (g.2 i)⟩
/-- neither tap nor drain -/
def Dd.still : Dd → Bool
  | .tap _ _ => false
  | .drain _ _ => false
  | _ => true
theorem getD_zip {f : Int → Int → Int} {as bs : List Int} {i : Nat} (ha : i < as.length) (hb : i < bs.length) : (List.zipWith f as bs).getD i 0 = f (as.getD i 0) (bs.getD i 0) := by
  simp only [List.getD_eq_getElem?_getD, List.getElem?_zipWith, List.getElem?_eq_getElem ha, List.getElem?_eq_getElem hb]
  rfl
end Ab
namespace Ab
open PySem PySem.Spec PyProof.Rows L2 RZ
/-! ### rows of deeds by counts; how far apart -/
def Dd.ws (ds : List Dd) : List W := ds.map Dd.w
theorem getD_out {l : List Int} {i : Nat} (h : l.length ≤ i) : l.getD i 0 = 0 := by
  rw [List.getD_eq_getElem?_getD, List.getElem?_eq_none h]; rfl
theorem le_of {as bs : List Int} (hl : as.length = bs.length) (h : ∀ i, i < as.length → as.getD i 0 ≤ bs.getD i 0) : LeL as bs := ⟨hl, fun i => by
  by_cases hi : i < as.length
  · exact h i hi
  · rw [getD_out (by omega), getD_out (by omega)]; exact Int.le_refl _⟩
theorem max_le {as bs cs : List Int} (h1 : LeL as cs) (h2 : LeL bs cs) : LeL (List.zipWith max as bs) cs := le_of (by rw [List.length_zipWith, h1.1, h2.1]; omega) fun i hi => by
  have a := h1.1
  have b := h2.1
  rw [List.length_zipWith] at hi
  rw [getD_zip (by omega) (by omega)]
  have := h1.2 i
  have := h2.2 i
  omega
end Ab
namespace Ab
open PySem PySem.Spec PyProof.Rows L2 RZ
def mf__law_same (m__law_same : List W → MC) (x_found x_due : W) : MC :=
  (ifC (tTst (eOp2 (oIsN false) (eV (.val x_due)) (eC .non))) ((eOp2 (oIsN false) (eV (.val x_found)) (eC .non)) ret) (ifC (tTst (eCB oIsi (sCons (eV (.val x_due)) (sCons (eC (.ty "bool")) sNil)))) ((eAnd (eCB oIsi (sCons (eV (.val x_found)) (sCons (eC (.ty "bool")) sNil))) (eOp2 (oEq false) (eV (.val x_found)) (eV (.val x_due)))) ret) (ifC (tTst (eCB oIsi (sCons (eV (.val x_due)) (sCons (eC (.ty "int")) sNil)))) ((eAnd (eCB oIsi (sCons (eV (.val x_found)) (sCons (eC (.ty "int")) sNil))) (eAnd (eNot (eCB oIsi (sCons (eV (.val x_found)) (sCons (eC (.ty "bool")) sNil)))) (eOp2 (oEq false) (eV (.val x_found)) (eV (.val x_due))))) ret) (ifC (tTst (eCB oIsi (sCons (eV (.val x_due)) (sCons (eC (.ty "str")) sNil)))) ((eAnd (eCB oIsi (sCons (eV (.val x_found)) (sCons (eC (.ty "str")) sNil))) (eOp2 (oEq false) (eV (.val x_found)) (eV (.val x_due)))) ret) (ifC (tOr (tTst (eOp2 (oEq true) (eCB oIsi (sCons (eV (.val x_due)) (sCons (eC (.ty "tuple")) sNil))) (eCB oIsi (sCons (eV (.val x_found)) (sCons (eC (.ty "tuple")) sNil))))) (tTst (eOp2 (oEq true) (eCB oIsi (sCons (eV (.val x_due)) (sCons (eC (.ty "list")) sNil))) (eCB oIsi (sCons (eV (.val x_found)) (sCons (eC (.ty "list")) sNil)))))) ((eC (.bl false)) ret) (ifC (tTst (eOp2 (oEq true) (eCB oLen (sCons (eV (.val x_found)) sNil)) (eCB oLen (sCons (eV (.val x_due)) sNil)))) ((eC (.bl false)) ret) ((eCB oAll (sCons (eLc (iRng1 (sCons (eCB oLen (sCons (eV (.val x_due)) sNil)) sNil)) fun x_at kk => lcb tYes (eFz (eCall0 m__law_same (wCons (eFz (eOp2 oIx (eV (.val x_found)) (eV (.val x_at)))) (wCons (eFz (eOp2 oIx (eV (.val x_due)) (eV (.val x_at)))) wNil)))) kk) sNil)) ret)))))))
def m__law_same : Nat → List W → MC
  | 0 => fun _ => bad
  | d + 1 => fun ws => match ws with
    | [x_found, x_due] => mf__law_same (m__law_same d) x_found x_due
    | _ => bad
/-! ### alike, of one value -/
section
variable {k : SV → MC} {b c : Bool} {i : Int} {x : Str} {xs : List W} {T : String}
theorem isi_at {w : W} {n : String} {r : Bool} (hv : ∀ h, viewW h w = .wv w) (e1 : w.tyName = some n) (e2 : isiB n T = some r) : cb oIsi [.val w, .val (.ty T)] k = k (.val (.bl r)) := by
  funext h Q E
  show oIsi [viewW h w, .wv (.ty T)] _ = _
  rw [hv, y_isi]
  show (match (Vw.wv w).tyName with
    | some n => (match isiB n T with
      | some b => kRv k (.val (.bl b)) h Q E
      | none => False)
    | none => False) = _
  rw [show (Vw.wv w).tyName = w.tyName from rfl, e1]
  show (match isiB n T with
      | some b => kRv k (.val (.bl b)) h Q E
      | none => False) = _
  rw [e2]
  rfl
theorem ii_non_bool : cb oIsi [.val .non, .val (.ty "bool")] k = k (.val (.bl false)) := isi_at (fun _ => rfl) rfl rfl
theorem ii_non_int : cb oIsi [.val .non, .val (.ty "int")] k = k (.val (.bl false)) := isi_at (fun _ => rfl) rfl rfl
theorem ii_non_str : cb oIsi [.val .non, .val (.ty "str")] k = k (.val (.bl false)) := isi_at (fun _ => rfl) rfl rfl
theorem ii_non_tuple : cb oIsi [.val .non, .val (.ty "tuple")] k = k (.val (.bl false)) := isi_at (fun _ => rfl) rfl rfl
theorem ii_non_list : cb oIsi [.val .non, .val (.ty "list")] k = k (.val (.bl false)) := isi_at (fun _ => rfl) rfl rfl
theorem ii_bl_bool : cb oIsi [.val (.bl b), .val (.ty "bool")] k = k (.val (.bl true)) := isi_at (fun _ => rfl) rfl rfl
theorem ii_bl_int : cb oIsi [.val (.bl b), .val (.ty "int")] k = k (.val (.bl true)) := isi_at (fun _ => rfl) rfl rfl
theorem ii_bl_str : cb oIsi [.val (.bl b), .val (.ty "str")] k = k (.val (.bl false)) := isi_at (fun _ => rfl) rfl rfl
theorem ii_bl_tuple : cb oIsi [.val (.bl b), .val (.ty "tuple")] k = k (.val (.bl false)) := isi_at (fun _ => rfl) rfl rfl
theorem ii_bl_list : cb oIsi [.val (.bl b), .val (.ty "list")] k = k (.val (.bl false)) := isi_at (fun _ => rfl) rfl rfl
theorem ii_int_bool : cb oIsi [.val (.int i), .val (.ty "bool")] k = k (.val (.bl false)) := isi_at (fun _ => rfl) rfl rfl
theorem ii_int_int : cb oIsi [.val (.int i), .val (.ty "int")] k = k (.val (.bl true)) := isi_at (fun _ => rfl) rfl rfl
theorem ii_int_str : cb oIsi [.val (.int i), .val (.ty "str")] k = k (.val (.bl false)) := isi_at (fun _ => rfl) rfl rfl
theorem ii_int_tuple : cb oIsi [.val (.int i), .val (.ty "tuple")] k = k (.val (.bl false)) := isi_at (fun _ => rfl) rfl rfl
theorem ii_int_list : cb oIsi [.val (.int i), .val (.ty "list")] k = k (.val (.bl false)) := isi_at (fun _ => rfl) rfl rfl
theorem ii_str_bool : cb oIsi [.val (.str x), .val (.ty "bool")] k = k (.val (.bl false)) := isi_at (fun _ => rfl) rfl rfl
theorem ii_str_int : cb oIsi [.val (.str x), .val (.ty "int")] k = k (.val (.bl false)) := isi_at (fun _ => rfl) rfl rfl
theorem ii_str_str : cb oIsi [.val (.str x), .val (.ty "str")] k = k (.val (.bl true)) := isi_at (fun _ => rfl) rfl rfl
theorem ii_str_tuple : cb oIsi [.val (.str x), .val (.ty "tuple")] k = k (.val (.bl false)) := isi_at (fun _ => rfl) rfl rfl
theorem ii_str_list : cb oIsi [.val (.str x), .val (.ty "list")] k = k (.val (.bl false)) := isi_at (fun _ => rfl) rfl rfl
theorem ii_tup_bool : cb oIsi [.val (.tup xs), .val (.ty "bool")] k = k (.val (.bl false)) := isi_at (fun _ => rfl) rfl rfl
theorem ii_tup_int : cb oIsi [.val (.tup xs), .val (.ty "int")] k = k (.val (.bl false)) := isi_at (fun _ => rfl) rfl rfl
theorem ii_tup_str : cb oIsi [.val (.tup xs), .val (.ty "str")] k = k (.val (.bl false)) := isi_at (fun _ => rfl) rfl rfl
theorem ii_tup_tuple : cb oIsi [.val (.tup xs), .val (.ty "tuple")] k = k (.val (.bl true)) := isi_at (fun _ => rfl) rfl rfl
theorem ii_tup_list : cb oIsi [.val (.tup xs), .val (.ty "list")] k = k (.val (.bl false)) := isi_at (fun _ => rfl) rfl rfl
theorem ii_lst_bool : cb oIsi [.val (.lst xs), .val (.ty "bool")] k = k (.val (.bl false)) := isi_at (fun _ => rfl) rfl rfl
theorem ii_lst_int : cb oIsi [.val (.lst xs), .val (.ty "int")] k = k (.val (.bl false)) := isi_at (fun _ => rfl) rfl rfl
theorem ii_lst_str : cb oIsi [.val (.lst xs), .val (.ty "str")] k = k (.val (.bl false)) := isi_at (fun _ => rfl) rfl rfl
theorem ii_lst_tuple : cb oIsi [.val (.lst xs), .val (.ty "tuple")] k = k (.val (.bl false)) := isi_at (fun _ => rfl) rfl rfl
theorem ii_lst_list : cb oIsi [.val (.lst xs), .val (.ty "list")] k = k (.val (.bl true)) := isi_at (fun _ => rfl) rfl rfl
theorem eqw_bl : eqw (.bl b) (.bl c) = decide (b = c) := by cases b <;> cases c <;> rfl
theorem o_eqB : op2 (oEq false) (.val (.bl b)) (.val (.bl c)) k = k (.val (.bl (decide (b = c)))) := by
  funext h Q E
  show (_ ∧ _ ∧ _) = _
  refine propext ⟨fun z => ?_, fun z => ⟨rfl, rfl, ?_⟩⟩
  · have z := z.2.2
    rw [← eqw_bl]
    exact z
  · rw [← eqw_bl] at z
    exact z
theorem isN_bl : op2 (oIsN false) (.val (.bl b)) (.val .non) k = k (.val (.bl false)) := isN_at (fun _ => rfl)
theorem o_neB : op2 (oEq true) (.val (.bl b)) (.val (.bl c)) k = k (.val (.bl (!decide (b = c)))) := by
  funext h Q E
  show (_ ∧ _ ∧ _) = _
  refine propext ⟨fun z => ?_, fun z => ⟨rfl, rfl, ?_⟩⟩
  · have z := z.2.2
    rw [← eqw_bl]
    exact z
  · rw [← eqw_bl] at z
    exact z
end
mutual
/-- data nested at most so deep, truth values too -/
def W.sm : Nat → W → Bool
  | _, .non => true
  | _, .bl _ => true
  | _, .int _ => true
  | _, .str _ => true
  | n + 1, .tup xs => decide (xs.length ≤ 100000) && W.sms n xs
  | n + 1, .lst xs => decide (xs.length ≤ 100000) && W.sms n xs
  | _, _ => false
def W.sms : Nat → List W → Bool
  | _, [] => true
  | n, x :: xs => W.sm n x && W.sms n xs
end
theorem W.sms_mem {n : Nat} : ∀ {xs : List W}, W.sms n xs = true → ∀ x ∈ xs, x.sm n = true
  | [], _, x, h => by cases h
  | y :: ys, e, x, h => by
    simp only [W.sms, Bool.and_eq_true] at e
    rcases List.mem_cons.mp h with rfl | h
    · exact e.1
    · exact W.sms_mem e.2 x h
theorem W.sms_of {n : Nat} : ∀ {xs : List W}, (∀ x ∈ xs, x.sm n = true) → W.sms n xs = true
  | [], _ => rfl
  | x :: xs, h => by
    simp only [W.sms, Bool.and_eq_true]
    exact ⟨h x (by simp), W.sms_of fun y hy => h y (by simp [hy])⟩
theorem sm_tup {n : Nat} {xs : List W} (l : xs.length ≤ 100000) (h : ∀ x ∈ xs, x.sm n = true) : (W.tup xs).sm (n + 1) = true := by
  simp only [W.sm, Bool.and_eq_true, decide_eq_true_eq]; exact ⟨l, W.sms_of h⟩
theorem sm_ints {n : Nat} {as : List Int} (l : as.length ≤ 100000) : (W.tup (as.map .int)).sm (n + 1) = true := sm_tup (by simpa using l) fun x hx => by
  obtain ⟨i, _, rfl⟩ := List.mem_map.mp hx
  cases n <;> rfl
theorem same_ok : ∀ (d : Nat) (w : W), w.sm d = true → m__law_same (d + 1) [w, w] = ret (.val (.bl true)) := by
  intro d
  induction d with
  | zero =>
    intro w h
    show mf__law_same _ w w = _
    unfold mf__law_same
    cases w with
    | non => simp only [↓un4_tup, ↓asS_str, ↓k_iChars, ↓k_put2C, ↓k_Fld, ↓k_setFC, ↓k_nmFC, ↓k_ffC, ↓k_Meth, ↓k_Meth0, ↓k_MethM, ↓k_MethM0, ↓k_Make, ↓k_Make0, ↓k_MakeM, ↓k_MakeM0, ↓k_Own, ↓k_EqO, ↓k_IsO, ↓k_InM, ↓k_GetM, ↓k_putMC, ↓k_putME, ↓k_delME, ↓k_DispK, ↓k_lLive, ↓k_lLvE, ↓k_lFix, ↓k_forLC, ↓k_LcL, ↓k_Lc2, ↓k_lc2b, ↓k_Fmt, ↓k_Joined, ↓k_jsNil, ↓k_jsCons, ↓k_LmV, ↓k_DcX, ↓k_ePrm, ↓src_lst, ↓src_tup, ↓k_V, ↓k_C, ↓k_Op2, ↓k_Fz, ↓k_wNil, ↓k_wCons, ↓k_Tup, ↓k_Lst, ↓k_oNo, ↓k_oPart, ↓k_Sl, ↓k_sNil, ↓k_sCons, ↓k_CB, ↓k_tYes, ↓k_tTst, ↓k_tAnd, ↓k_tOr, ↓k_tNot, ↓k_If, ↓k_And, ↓k_Or, ↓k_Not, ↓k_Neg, ↓k_Chn, ↓k_Call, ↓k_Call0, ↓k_wPerm, ↓k_iItems, ↓k_iRng1, ↓k_iRng2, ↓k_iZip, ↓k_iEnum, ↓k_iEnz, ↓k_ifC, ↓k_Lrg1, ↓k_parC, ↓k_starC, ↓k_setC, ↓k_setC2, ↓k_augC, ↓k_lcb, ↓k_Lc, ↓k_forC, ↓str_lit, ↓fz_val, ↓fz_seq, ↓rr_val, ↓rr_own, ↓sv_val, ↓sv_own, ↓asI_int, ↓asB_bl, ↓items_tup, ↓items_lst, ↓un2_tup, ↓un3_tup, ↓un5_tup, ↓uq2_tup, ↓uq3_tup, ↓uq2_lst, ↓uq3_lst, ↓uq4_tup, ↓uq5_tup, ↓star_tup, ↓star_lst, ↓pr2_2, ↓zip2_tup, ↓zip2_lst, ↓enz_2, ↓rng1_int, ↓rng2_int, ↓lrg1_int, ↓req_T, ↓ret_at, ↓raise_at, ↓call_ret, ↓call0_ret, ↓call_raise, ↓pm_0, ↓pm_01, ↓pm_10, ↓pm_012, ↓pm_021, ↓pm_102, ↓pm_120, ↓pm_201, ↓pm_210, ↓pm_0123, ↓pm_0132, ↓pm_0213, ↓pm_0231, ↓pm_0312, ↓pm_0321, ↓pm_1023, ↓pm_1032, ↓pm_1203, ↓pm_1230, ↓pm_1302, ↓pm_1320, ↓pm_2013, ↓pm_2031, ↓pm_2103, ↓pm_2130, ↓pm_2301, ↓pm_2310, ↓pm_3012, ↓pm_3021, ↓pm_3102, ↓pm_3120, ↓pm_3201, ↓pm_3210, ↓o_sub, ↓o_lt, ↓o_le, ↓o_gt, ↓o_ge, ↓o_mod, ↓o_fdiv, ↓o_pow, ↓o_mul, ↓o_rep, ↓o_repT, ↓o_add, ↓o_addS, ↓o_addT, ↓o_addLL, ↓o_addLO, ↓o_addOL, ↓o_addOO, ↓o_ixT, ↓o_ixL, ↓o_ixO, ↓atS_0, ↓atS_1, ↓atS_2, ↓atS_3, ↓atS_4, ↓slc_T, ↓slc_L, ↓slc_O, ↓ext_own, ↓ext_OO, ↓lm_own, ↓append_own, ↓b_lenT, ↓b_lenL, ↓b_lenO, ↓b_lenS, ↓k_Disp, ↓k_GetD, ↓k_Prm, ↓k_lmE, ↓b_back, ↓b_tupT, ↓b_tupL, ↓b_tupO, ↓b_lstT, ↓b_lstL, ↓b_lstO, ↓b_min2, ↓b_max2, ↓b_abs, ↓b_sorted, ↓b_sortedL, ↓b_sumO, ↓b_sumL, ↓b_sumT, ↓b_anyO, ↓b_allO, ↓o_eqI, ↓o_neI, ↓o_eqSt, ↓o_neSt, ↓o_eqT, ↓o_neT, ↓isN_non, ↓isN_int, ↓isN_str, ↓isN_tup, ↓isN_lst, ↓nIsN_non, ↓nIsN_int, ↓nIsN_str, ↓nIsN_tup, ↓nIsN_lst, ↓k_LamCall, ↓k_lCons, ↓lam0_nil, ↓lam1_one, ↓k_raiseC, ↓o_powW, ↓k_Idx, ↓idxq_own, ↓idxq_lst, ↓k_wMx, ↓o_isB, ↓o_notB, ↓mix_32, ↓mix_32s, ↓mix_05, ↓mix_31, ↓mix_42, ↓mix_051, ↓k_RevL, ↓revL_own, ↓revL_lst, ↓k_eLenSet, ↓k_parC3, ↓pr3_3, if_true, if_false, Bool.not_true, Bool.not_false, Bool.false_eq_true, decide_true, decide_false, String.reduceEq, decide_eq_true_eq, Int.toNat_natCast, List.length_map, List.length_cons, List.length_nil, sizeL, Nat.zero_add, Nat.reduceAdd, Nat.reduceLeDiff, ↓ii_non_bool, ↓ii_non_int, ↓ii_non_str, ↓ii_non_tuple, ↓ii_non_list, ↓ii_bl_bool, ↓ii_bl_int, ↓ii_bl_str, ↓ii_bl_tuple, ↓ii_bl_list, ↓ii_int_bool, ↓ii_int_int, ↓ii_int_str, ↓ii_int_tuple, ↓ii_int_list, ↓ii_str_bool, ↓ii_str_int, ↓ii_str_str, ↓ii_str_tuple, ↓ii_str_list, ↓ii_tup_bool, ↓ii_tup_int, ↓ii_tup_str, ↓ii_tup_tuple, ↓ii_tup_list, ↓ii_lst_bool, ↓ii_lst_int, ↓ii_lst_str, ↓ii_lst_tuple, ↓ii_lst_list, ↓o_eqB, ↓o_neB]
    | bl b => simp only [↓un4_tup, ↓asS_str, ↓k_iChars, ↓k_put2C, ↓k_Fld, ↓k_setFC, ↓k_nmFC, ↓k_ffC, ↓k_Meth, ↓k_Meth0, ↓k_MethM, ↓k_MethM0, ↓k_Make, ↓k_Make0, ↓k_MakeM, ↓k_MakeM0, ↓k_Own, ↓k_EqO, ↓k_IsO, ↓k_InM, ↓k_GetM, ↓k_putMC, ↓k_putME, ↓k_delME, ↓k_DispK, ↓k_lLive, ↓k_lLvE, ↓k_lFix, ↓k_forLC, ↓k_LcL, ↓k_Lc2, ↓k_lc2b, ↓k_Fmt, ↓k_Joined, ↓k_jsNil, ↓k_jsCons, ↓k_LmV, ↓k_DcX, ↓k_ePrm, ↓src_lst, ↓src_tup, ↓k_V, ↓k_C, ↓k_Op2, ↓k_Fz, ↓k_wNil, ↓k_wCons, ↓k_Tup, ↓k_Lst, ↓k_oNo, ↓k_oPart, ↓k_Sl, ↓k_sNil, ↓k_sCons, ↓k_CB, ↓k_tYes, ↓k_tTst, ↓k_tAnd, ↓k_tOr, ↓k_tNot, ↓k_If, ↓k_And, ↓k_Or, ↓k_Not, ↓k_Neg, ↓k_Chn, ↓k_Call, ↓k_Call0, ↓k_wPerm, ↓k_iItems, ↓k_iRng1, ↓k_iRng2, ↓k_iZip, ↓k_iEnum, ↓k_iEnz, ↓k_ifC, ↓k_Lrg1, ↓k_parC, ↓k_starC, ↓k_setC, ↓k_setC2, ↓k_augC, ↓k_lcb, ↓k_Lc, ↓k_forC, ↓str_lit, ↓fz_val, ↓fz_seq, ↓rr_val, ↓rr_own, ↓sv_val, ↓sv_own, ↓asI_int, ↓asB_bl, ↓items_tup, ↓items_lst, ↓un2_tup, ↓un3_tup, ↓un5_tup, ↓uq2_tup, ↓uq3_tup, ↓uq2_lst, ↓uq3_lst, ↓uq4_tup, ↓uq5_tup, ↓star_tup, ↓star_lst, ↓pr2_2, ↓zip2_tup, ↓zip2_lst, ↓enz_2, ↓rng1_int, ↓rng2_int, ↓lrg1_int, ↓req_T, ↓ret_at, ↓raise_at, ↓call_ret, ↓call0_ret, ↓call_raise, ↓pm_0, ↓pm_01, ↓pm_10, ↓pm_012, ↓pm_021, ↓pm_102, ↓pm_120, ↓pm_201, ↓pm_210, ↓pm_0123, ↓pm_0132, ↓pm_0213, ↓pm_0231, ↓pm_0312, ↓pm_0321, ↓pm_1023, ↓pm_1032, ↓pm_1203, ↓pm_1230, ↓pm_1302, ↓pm_1320, ↓pm_2013, ↓pm_2031, ↓pm_2103, ↓pm_2130, ↓pm_2301, ↓pm_2310, ↓pm_3012, ↓pm_3021, ↓pm_3102, ↓pm_3120, ↓pm_3201, ↓pm_3210, ↓o_sub, ↓o_lt, ↓o_le, ↓o_gt, ↓o_ge, ↓o_mod, ↓o_fdiv, ↓o_pow, ↓o_mul, ↓o_rep, ↓o_repT, ↓o_add, ↓o_addS, ↓o_addT, ↓o_addLL, ↓o_addLO, ↓o_addOL, ↓o_addOO, ↓o_ixT, ↓o_ixL, ↓o_ixO, ↓atS_0, ↓atS_1, ↓atS_2, ↓atS_3, ↓atS_4, ↓slc_T, ↓slc_L, ↓slc_O, ↓ext_own, ↓ext_OO, ↓lm_own, ↓append_own, ↓b_lenT, ↓b_lenL, ↓b_lenO, ↓b_lenS, ↓k_Disp, ↓k_GetD, ↓k_Prm, ↓k_lmE, ↓b_back, ↓b_tupT, ↓b_tupL, ↓b_tupO, ↓b_lstT, ↓b_lstL, ↓b_lstO, ↓b_min2, ↓b_max2, ↓b_abs, ↓b_sorted, ↓b_sortedL, ↓b_sumO, ↓b_sumL, ↓b_sumT, ↓b_anyO, ↓b_allO, ↓o_eqI, ↓o_neI, ↓o_eqSt, ↓o_neSt, ↓o_eqT, ↓o_neT, ↓isN_non, ↓isN_int, ↓isN_str, ↓isN_tup, ↓isN_lst, ↓nIsN_non, ↓nIsN_int, ↓nIsN_str, ↓nIsN_tup, ↓nIsN_lst, ↓k_LamCall, ↓k_lCons, ↓lam0_nil, ↓lam1_one, ↓k_raiseC, ↓o_powW, ↓k_Idx, ↓idxq_own, ↓idxq_lst, ↓k_wMx, ↓o_isB, ↓o_notB, ↓mix_32, ↓mix_32s, ↓mix_05, ↓mix_31, ↓mix_42, ↓mix_051, ↓k_RevL, ↓revL_own, ↓revL_lst, ↓k_eLenSet, ↓k_parC3, ↓pr3_3, if_true, if_false, Bool.not_true, Bool.not_false, Bool.false_eq_true, decide_true, decide_false, String.reduceEq, decide_eq_true_eq, Int.toNat_natCast, List.length_map, List.length_cons, List.length_nil, sizeL, Nat.zero_add, Nat.reduceAdd, Nat.reduceLeDiff, ↓isN_bl, ↓ii_non_bool, ↓ii_non_int, ↓ii_non_str, ↓ii_non_tuple, ↓ii_non_list, ↓ii_bl_bool, ↓ii_bl_int, ↓ii_bl_str, ↓ii_bl_tuple, ↓ii_bl_list, ↓ii_int_bool, ↓ii_int_int, ↓ii_int_str, ↓ii_int_tuple, ↓ii_int_list, ↓ii_str_bool, ↓ii_str_int, ↓ii_str_str, ↓ii_str_tuple, ↓ii_str_list, ↓ii_tup_bool, ↓ii_tup_int, ↓ii_tup_str, ↓ii_tup_tuple, ↓ii_tup_list, ↓ii_lst_bool, ↓ii_lst_int, ↓ii_lst_str, ↓ii_lst_tuple, ↓ii_lst_list, ↓o_eqB, ↓o_neB]
    | int i => simp only [↓un4_tup, ↓asS_str, ↓k_iChars, ↓k_put2C, ↓k_Fld, ↓k_setFC, ↓k_nmFC, ↓k_ffC, ↓k_Meth, ↓k_Meth0, ↓k_MethM, ↓k_MethM0, ↓k_Make, ↓k_Make0, ↓k_MakeM, ↓k_MakeM0, ↓k_Own, ↓k_EqO, ↓k_IsO, ↓k_InM, ↓k_GetM, ↓k_putMC, ↓k_putME, ↓k_delME, ↓k_DispK, ↓k_lLive, ↓k_lLvE, ↓k_lFix, ↓k_forLC, ↓k_LcL, ↓k_Lc2, ↓k_lc2b, ↓k_Fmt, ↓k_Joined, ↓k_jsNil, ↓k_jsCons, ↓k_LmV, ↓k_DcX, ↓k_ePrm, ↓src_lst, ↓src_tup, ↓k_V, ↓k_C, ↓k_Op2, ↓k_Fz, ↓k_wNil, ↓k_wCons, ↓k_Tup, ↓k_Lst, ↓k_oNo, ↓k_oPart, ↓k_Sl, ↓k_sNil, ↓k_sCons, ↓k_CB, ↓k_tYes, ↓k_tTst, ↓k_tAnd, ↓k_tOr, ↓k_tNot, ↓k_If, ↓k_And, ↓k_Or, ↓k_Not, ↓k_Neg, ↓k_Chn, ↓k_Call, ↓k_Call0, ↓k_wPerm, ↓k_iItems, ↓k_iRng1, ↓k_iRng2, ↓k_iZip, ↓k_iEnum, ↓k_iEnz, ↓k_ifC, ↓k_Lrg1, ↓k_parC, ↓k_starC, ↓k_setC, ↓k_setC2, ↓k_augC, ↓k_lcb, ↓k_Lc, ↓k_forC, ↓str_lit, ↓fz_val, ↓fz_seq, ↓rr_val, ↓rr_own, ↓sv_val, ↓sv_own, ↓asI_int, ↓asB_bl, ↓items_tup, ↓items_lst, ↓un2_tup, ↓un3_tup, ↓un5_tup, ↓uq2_tup, ↓uq3_tup, ↓uq2_lst, ↓uq3_lst, ↓uq4_tup, ↓uq5_tup, ↓star_tup, ↓star_lst, ↓pr2_2, ↓zip2_tup, ↓zip2_lst, ↓enz_2, ↓rng1_int, ↓rng2_int, ↓lrg1_int, ↓req_T, ↓ret_at, ↓raise_at, ↓call_ret, ↓call0_ret, ↓call_raise, ↓pm_0, ↓pm_01, ↓pm_10, ↓pm_012, ↓pm_021, ↓pm_102, ↓pm_120, ↓pm_201, ↓pm_210, ↓pm_0123, ↓pm_0132, ↓pm_0213, ↓pm_0231, ↓pm_0312, ↓pm_0321, ↓pm_1023, ↓pm_1032, ↓pm_1203, ↓pm_1230, ↓pm_1302, ↓pm_1320, ↓pm_2013, ↓pm_2031, ↓pm_2103, ↓pm_2130, ↓pm_2301, ↓pm_2310, ↓pm_3012, ↓pm_3021, ↓pm_3102, ↓pm_3120, ↓pm_3201, ↓pm_3210, ↓o_sub, ↓o_lt, ↓o_le, ↓o_gt, ↓o_ge, ↓o_mod, ↓o_fdiv, ↓o_pow, ↓o_mul, ↓o_rep, ↓o_repT, ↓o_add, ↓o_addS, ↓o_addT, ↓o_addLL, ↓o_addLO, ↓o_addOL, ↓o_addOO, ↓o_ixT, ↓o_ixL, ↓o_ixO, ↓atS_0, ↓atS_1, ↓atS_2, ↓atS_3, ↓atS_4, ↓slc_T, ↓slc_L, ↓slc_O, ↓ext_own, ↓ext_OO, ↓lm_own, ↓append_own, ↓b_lenT, ↓b_lenL, ↓b_lenO, ↓b_lenS, ↓k_Disp, ↓k_GetD, ↓k_Prm, ↓k_lmE, ↓b_back, ↓b_tupT, ↓b_tupL, ↓b_tupO, ↓b_lstT, ↓b_lstL, ↓b_lstO, ↓b_min2, ↓b_max2, ↓b_abs, ↓b_sorted, ↓b_sortedL, ↓b_sumO, ↓b_sumL, ↓b_sumT, ↓b_anyO, ↓b_allO, ↓o_eqI, ↓o_neI, ↓o_eqSt, ↓o_neSt, ↓o_eqT, ↓o_neT, ↓isN_non, ↓isN_int, ↓isN_str, ↓isN_tup, ↓isN_lst, ↓nIsN_non, ↓nIsN_int, ↓nIsN_str, ↓nIsN_tup, ↓nIsN_lst, ↓k_LamCall, ↓k_lCons, ↓lam0_nil, ↓lam1_one, ↓k_raiseC, ↓o_powW, ↓k_Idx, ↓idxq_own, ↓idxq_lst, ↓k_wMx, ↓o_isB, ↓o_notB, ↓mix_32, ↓mix_32s, ↓mix_05, ↓mix_31, ↓mix_42, ↓mix_051, ↓k_RevL, ↓revL_own, ↓revL_lst, ↓k_eLenSet, ↓k_parC3, ↓pr3_3, if_true, if_false, Bool.not_true, Bool.not_false, Bool.false_eq_true, decide_true, decide_false, String.reduceEq, decide_eq_true_eq, Int.toNat_natCast, List.length_map, List.length_cons, List.length_nil, sizeL, Nat.zero_add, Nat.reduceAdd, Nat.reduceLeDiff, ↓ii_non_bool, ↓ii_non_int, ↓ii_non_str, ↓ii_non_tuple, ↓ii_non_list, ↓ii_bl_bool, ↓ii_bl_int, ↓ii_bl_str, ↓ii_bl_tuple, ↓ii_bl_list, ↓ii_int_bool, ↓ii_int_int, ↓ii_int_str, ↓ii_int_tuple, ↓ii_int_list, ↓ii_str_bool, ↓ii_str_int, ↓ii_str_str, ↓ii_str_tuple, ↓ii_str_list, ↓ii_tup_bool, ↓ii_tup_int, ↓ii_tup_str, ↓ii_tup_tuple, ↓ii_tup_list, ↓ii_lst_bool, ↓ii_lst_int, ↓ii_lst_str, ↓ii_lst_tuple, ↓ii_lst_list, ↓o_eqB, ↓o_neB]
    | str x => simp only [↓un4_tup, ↓asS_str, ↓k_iChars, ↓k_put2C, ↓k_Fld, ↓k_setFC, ↓k_nmFC, ↓k_ffC, ↓k_Meth, ↓k_Meth0, ↓k_MethM, ↓k_MethM0, ↓k_Make, ↓k_Make0, ↓k_MakeM, ↓k_MakeM0, ↓k_Own, ↓k_EqO, ↓k_IsO, ↓k_InM, ↓k_GetM, ↓k_putMC, ↓k_putME, ↓k_delME, ↓k_DispK, ↓k_lLive, ↓k_lLvE, ↓k_lFix, ↓k_forLC, ↓k_LcL, ↓k_Lc2, ↓k_lc2b, ↓k_Fmt, ↓k_Joined, ↓k_jsNil, ↓k_jsCons, ↓k_LmV, ↓k_DcX, ↓k_ePrm, ↓src_lst, ↓src_tup, ↓k_V, ↓k_C, ↓k_Op2, ↓k_Fz, ↓k_wNil, ↓k_wCons, ↓k_Tup, ↓k_Lst, ↓k_oNo, ↓k_oPart, ↓k_Sl, ↓k_sNil, ↓k_sCons, ↓k_CB, ↓k_tYes, ↓k_tTst, ↓k_tAnd, ↓k_tOr, ↓k_tNot, ↓k_If, ↓k_And, ↓k_Or, ↓k_Not, ↓k_Neg, ↓k_Chn, ↓k_Call, ↓k_Call0, ↓k_wPerm, ↓k_iItems, ↓k_iRng1, ↓k_iRng2, ↓k_iZip, ↓k_iEnum, ↓k_iEnz, ↓k_ifC, ↓k_Lrg1, ↓k_parC, ↓k_starC, ↓k_setC, ↓k_setC2, ↓k_augC, ↓k_lcb, ↓k_Lc, ↓k_forC, ↓str_lit, ↓fz_val, ↓fz_seq, ↓rr_val, ↓rr_own, ↓sv_val, ↓sv_own, ↓asI_int, ↓asB_bl, ↓items_tup, ↓items_lst, ↓un2_tup, ↓un3_tup, ↓un5_tup, ↓uq2_tup, ↓uq3_tup, ↓uq2_lst, ↓uq3_lst, ↓uq4_tup, ↓uq5_tup, ↓star_tup, ↓star_lst, ↓pr2_2, ↓zip2_tup, ↓zip2_lst, ↓enz_2, ↓rng1_int, ↓rng2_int, ↓lrg1_int, ↓req_T, ↓ret_at, ↓raise_at, ↓call_ret, ↓call0_ret, ↓call_raise, ↓pm_0, ↓pm_01, ↓pm_10, ↓pm_012, ↓pm_021, ↓pm_102, ↓pm_120, ↓pm_201, ↓pm_210, ↓pm_0123, ↓pm_0132, ↓pm_0213, ↓pm_0231, ↓pm_0312, ↓pm_0321, ↓pm_1023, ↓pm_1032, ↓pm_1203, ↓pm_1230, ↓pm_1302, ↓pm_1320, ↓pm_2013, ↓pm_2031, ↓pm_2103, ↓pm_2130, ↓pm_2301, ↓pm_2310, ↓pm_3012, ↓pm_3021, ↓pm_3102, ↓pm_3120, ↓pm_3201, ↓pm_3210, ↓o_sub, ↓o_lt, ↓o_le, ↓o_gt, ↓o_ge, ↓o_mod, ↓o_fdiv, ↓o_pow, ↓o_mul, ↓o_rep, ↓o_repT, ↓o_add, ↓o_addS, ↓o_addT, ↓o_addLL, ↓o_addLO, ↓o_addOL, ↓o_addOO, ↓o_ixT, ↓o_ixL, ↓o_ixO, ↓atS_0, ↓atS_1, ↓atS_2, ↓atS_3, ↓atS_4, ↓slc_T, ↓slc_L, ↓slc_O, ↓ext_own, ↓ext_OO, ↓lm_own, ↓append_own, ↓b_lenT, ↓b_lenL, ↓b_lenO, ↓b_lenS, ↓k_Disp, ↓k_GetD, ↓k_Prm, ↓k_lmE, ↓b_back, ↓b_tupT, ↓b_tupL, ↓b_tupO, ↓b_lstT, ↓b_lstL, ↓b_lstO, ↓b_min2, ↓b_max2, ↓b_abs, ↓b_sorted, ↓b_sortedL, ↓b_sumO, ↓b_sumL, ↓b_sumT, ↓b_anyO, ↓b_allO, ↓o_eqI, ↓o_neI, ↓o_eqSt, ↓o_neSt, ↓o_eqT, ↓o_neT, ↓isN_non, ↓isN_int, ↓isN_str, ↓isN_tup, ↓isN_lst, ↓nIsN_non, ↓nIsN_int, ↓nIsN_str, ↓nIsN_tup, ↓nIsN_lst, ↓k_LamCall, ↓k_lCons, ↓lam0_nil, ↓lam1_one, ↓k_raiseC, ↓o_powW, ↓k_Idx, ↓idxq_own, ↓idxq_lst, ↓k_wMx, ↓o_isB, ↓o_notB, ↓mix_32, ↓mix_32s, ↓mix_05, ↓mix_31, ↓mix_42, ↓mix_051, ↓k_RevL, ↓revL_own, ↓revL_lst, ↓k_eLenSet, ↓k_parC3, ↓pr3_3, if_true, if_false, Bool.not_true, Bool.not_false, Bool.false_eq_true, decide_true, decide_false, String.reduceEq, decide_eq_true_eq, Int.toNat_natCast, List.length_map, List.length_cons, List.length_nil, sizeL, Nat.zero_add, Nat.reduceAdd, Nat.reduceLeDiff, ↓ii_non_bool, ↓ii_non_int, ↓ii_non_str, ↓ii_non_tuple, ↓ii_non_list, ↓ii_bl_bool, ↓ii_bl_int, ↓ii_bl_str, ↓ii_bl_tuple, ↓ii_bl_list, ↓ii_int_bool, ↓ii_int_int, ↓ii_int_str, ↓ii_int_tuple, ↓ii_int_list, ↓ii_str_bool, ↓ii_str_int, ↓ii_str_str, ↓ii_str_tuple, ↓ii_str_list, ↓ii_tup_bool, ↓ii_tup_int, ↓ii_tup_str, ↓ii_tup_tuple, ↓ii_tup_list, ↓ii_lst_bool, ↓ii_lst_int, ↓ii_lst_str, ↓ii_lst_tuple, ↓ii_lst_list, ↓o_eqB, ↓o_neB]
    | tup xs => simp [W.sm] at h
    | lst xs => simp [W.sm] at h
    | dct _ _ => simp [W.sm] at h
    | ref _ => simp [W.sm] at h
    | ty _ => simp [W.sm] at h
  | succ d ih =>
    intro w h
    show mf__law_same (m__law_same (d + 1)) w w = _
    unfold mf__law_same
    have seq : ∀ xs : List W, xs.length ≤ 100000 → (∀ x ∈ xs, x.sm d = true) → ∀ v : W, (∀ (i : Nat) (k : SV → MC), i < xs.length → op2 oIx (.val v) (.val (.int i)) k = atS xs i fun w => k (.val w)) →
        ∀ k : SV → MC, lcL (fun x_at kk => op2 oIx (.val v) (.val x_at) fun x => op2 oIx (.val v) (.val x_at) fun y => call0 (m__law_same (d + 1) [x.fz, y.fz]) fun z => kk (some z.fz)) (fun acc => k (.own (.seq acc))) (rngW 0 xs.length) [] = k (.own (.seq ((List.replicate xs.length true).map W.bl))) := by
      intro xs hl hx v hv k
      rw [range_nat, lc_all natW (fun _ => .bl true) _ (fun i hi kk => ?_) (by simp [sizeL]; omega)]
      · congr 3
        rw [List.map_const', List.map_replicate, List.length_range]
      · have hi : i < xs.length := by simpa using hi
        rw [hv i _ hi, atS_nat hi, hv i _ hi, atS_nat hi, fz_val, ih _ (hx _ (List.getElem_mem hi)), call0_ret, fz_val]
    cases w with
    | non => simp only [↓un4_tup, ↓asS_str, ↓k_iChars, ↓k_put2C, ↓k_Fld, ↓k_setFC, ↓k_nmFC, ↓k_ffC, ↓k_Meth, ↓k_Meth0, ↓k_MethM, ↓k_MethM0, ↓k_Make, ↓k_Make0, ↓k_MakeM, ↓k_MakeM0, ↓k_Own, ↓k_EqO, ↓k_IsO, ↓k_InM, ↓k_GetM, ↓k_putMC, ↓k_putME, ↓k_delME, ↓k_DispK, ↓k_lLive, ↓k_lLvE, ↓k_lFix, ↓k_forLC, ↓k_LcL, ↓k_Lc2, ↓k_lc2b, ↓k_Fmt, ↓k_Joined, ↓k_jsNil, ↓k_jsCons, ↓k_LmV, ↓k_DcX, ↓k_ePrm, ↓src_lst, ↓src_tup, ↓k_V, ↓k_C, ↓k_Op2, ↓k_Fz, ↓k_wNil, ↓k_wCons, ↓k_Tup, ↓k_Lst, ↓k_oNo, ↓k_oPart, ↓k_Sl, ↓k_sNil, ↓k_sCons, ↓k_CB, ↓k_tYes, ↓k_tTst, ↓k_tAnd, ↓k_tOr, ↓k_tNot, ↓k_If, ↓k_And, ↓k_Or, ↓k_Not, ↓k_Neg, ↓k_Chn, ↓k_Call, ↓k_Call0, ↓k_wPerm, ↓k_iItems, ↓k_iRng1, ↓k_iRng2, ↓k_iZip, ↓k_iEnum, ↓k_iEnz, ↓k_ifC, ↓k_Lrg1, ↓k_parC, ↓k_starC, ↓k_setC, ↓k_setC2, ↓k_augC, ↓k_lcb, ↓k_Lc, ↓k_forC, ↓str_lit, ↓fz_val, ↓fz_seq, ↓rr_val, ↓rr_own, ↓sv_val, ↓sv_own, ↓asI_int, ↓asB_bl, ↓items_tup, ↓items_lst, ↓un2_tup, ↓un3_tup, ↓un5_tup, ↓uq2_tup, ↓uq3_tup, ↓uq2_lst, ↓uq3_lst, ↓uq4_tup, ↓uq5_tup, ↓star_tup, ↓star_lst, ↓pr2_2, ↓zip2_tup, ↓zip2_lst, ↓enz_2, ↓rng1_int, ↓rng2_int, ↓lrg1_int, ↓req_T, ↓ret_at, ↓raise_at, ↓call_ret, ↓call0_ret, ↓call_raise, ↓pm_0, ↓pm_01, ↓pm_10, ↓pm_012, ↓pm_021, ↓pm_102, ↓pm_120, ↓pm_201, ↓pm_210, ↓pm_0123, ↓pm_0132, ↓pm_0213, ↓pm_0231, ↓pm_0312, ↓pm_0321, ↓pm_1023, ↓pm_1032, ↓pm_1203, ↓pm_1230, ↓pm_1302, ↓pm_1320, ↓pm_2013, ↓pm_2031, ↓pm_2103, ↓pm_2130, ↓pm_2301, ↓pm_2310, ↓pm_3012, ↓pm_3021, ↓pm_3102, ↓pm_3120, ↓pm_3201, ↓pm_3210, ↓o_sub, ↓o_lt, ↓o_le, ↓o_gt, ↓o_ge, ↓o_mod, ↓o_fdiv, ↓o_pow, ↓o_mul, ↓o_rep, ↓o_repT, ↓o_add, ↓o_addS, ↓o_addT, ↓o_addLL, ↓o_addLO, ↓o_addOL, ↓o_addOO, ↓o_ixT, ↓o_ixL, ↓o_ixO, ↓atS_0, ↓atS_1, ↓atS_2, ↓atS_3, ↓atS_4, ↓slc_T, ↓slc_L, ↓slc_O, ↓ext_own, ↓ext_OO, ↓lm_own, ↓append_own, ↓b_lenT, ↓b_lenL, ↓b_lenO, ↓b_lenS, ↓k_Disp, ↓k_GetD, ↓k_Prm, ↓k_lmE, ↓b_back, ↓b_tupT, ↓b_tupL, ↓b_tupO, ↓b_lstT, ↓b_lstL, ↓b_lstO, ↓b_min2, ↓b_max2, ↓b_abs, ↓b_sorted, ↓b_sortedL, ↓b_sumO, ↓b_sumL, ↓b_sumT, ↓b_anyO, ↓b_allO, ↓o_eqI, ↓o_neI, ↓o_eqSt, ↓o_neSt, ↓o_eqT, ↓o_neT, ↓isN_non, ↓isN_int, ↓isN_str, ↓isN_tup, ↓isN_lst, ↓nIsN_non, ↓nIsN_int, ↓nIsN_str, ↓nIsN_tup, ↓nIsN_lst, ↓k_LamCall, ↓k_lCons, ↓lam0_nil, ↓lam1_one, ↓k_raiseC, ↓o_powW, ↓k_Idx, ↓idxq_own, ↓idxq_lst, ↓k_wMx, ↓o_isB, ↓o_notB, ↓mix_32, ↓mix_32s, ↓mix_05, ↓mix_31, ↓mix_42, ↓mix_051, ↓k_RevL, ↓revL_own, ↓revL_lst, ↓k_eLenSet, ↓k_parC3, ↓pr3_3, if_true, if_false, Bool.not_true, Bool.not_false, Bool.false_eq_true, decide_true, decide_false, String.reduceEq, decide_eq_true_eq, Int.toNat_natCast, List.length_map, List.length_cons, List.length_nil, sizeL, Nat.zero_add, Nat.reduceAdd, Nat.reduceLeDiff, ↓ii_non_bool, ↓ii_non_int, ↓ii_non_str, ↓ii_non_tuple, ↓ii_non_list, ↓ii_bl_bool, ↓ii_bl_int, ↓ii_bl_str, ↓ii_bl_tuple, ↓ii_bl_list, ↓ii_int_bool, ↓ii_int_int, ↓ii_int_str, ↓ii_int_tuple, ↓ii_int_list, ↓ii_str_bool, ↓ii_str_int, ↓ii_str_str, ↓ii_str_tuple, ↓ii_str_list, ↓ii_tup_bool, ↓ii_tup_int, ↓ii_tup_str, ↓ii_tup_tuple, ↓ii_tup_list, ↓ii_lst_bool, ↓ii_lst_int, ↓ii_lst_str, ↓ii_lst_tuple, ↓ii_lst_list, ↓o_eqB, ↓o_neB]
    | bl b => simp only [↓un4_tup, ↓asS_str, ↓k_iChars, ↓k_put2C, ↓k_Fld, ↓k_setFC, ↓k_nmFC, ↓k_ffC, ↓k_Meth, ↓k_Meth0, ↓k_MethM, ↓k_MethM0, ↓k_Make, ↓k_Make0, ↓k_MakeM, ↓k_MakeM0, ↓k_Own, ↓k_EqO, ↓k_IsO, ↓k_InM, ↓k_GetM, ↓k_putMC, ↓k_putME, ↓k_delME, ↓k_DispK, ↓k_lLive, ↓k_lLvE, ↓k_lFix, ↓k_forLC, ↓k_LcL, ↓k_Lc2, ↓k_lc2b, ↓k_Fmt, ↓k_Joined, ↓k_jsNil, ↓k_jsCons, ↓k_LmV, ↓k_DcX, ↓k_ePrm, ↓src_lst, ↓src_tup, ↓k_V, ↓k_C, ↓k_Op2, ↓k_Fz, ↓k_wNil, ↓k_wCons, ↓k_Tup, ↓k_Lst, ↓k_oNo, ↓k_oPart, ↓k_Sl, ↓k_sNil, ↓k_sCons, ↓k_CB, ↓k_tYes, ↓k_tTst, ↓k_tAnd, ↓k_tOr, ↓k_tNot, ↓k_If, ↓k_And, ↓k_Or, ↓k_Not, ↓k_Neg, ↓k_Chn, ↓k_Call, ↓k_Call0, ↓k_wPerm, ↓k_iItems, ↓k_iRng1, ↓k_iRng2, ↓k_iZip, ↓k_iEnum, ↓k_iEnz, ↓k_ifC, ↓k_Lrg1, ↓k_parC, ↓k_starC, ↓k_setC, ↓k_setC2, ↓k_augC, ↓k_lcb, ↓k_Lc, ↓k_forC, ↓str_lit, ↓fz_val, ↓fz_seq, ↓rr_val, ↓rr_own, ↓sv_val, ↓sv_own, ↓asI_int, ↓asB_bl, ↓items_tup, ↓items_lst, ↓un2_tup, ↓un3_tup, ↓un5_tup, ↓uq2_tup, ↓uq3_tup, ↓uq2_lst, ↓uq3_lst, ↓uq4_tup, ↓uq5_tup, ↓star_tup, ↓star_lst, ↓pr2_2, ↓zip2_tup, ↓zip2_lst, ↓enz_2, ↓rng1_int, ↓rng2_int, ↓lrg1_int, ↓req_T, ↓ret_at, ↓raise_at, ↓call_ret, ↓call0_ret, ↓call_raise, ↓pm_0, ↓pm_01, ↓pm_10, ↓pm_012, ↓pm_021, ↓pm_102, ↓pm_120, ↓pm_201, ↓pm_210, ↓pm_0123, ↓pm_0132, ↓pm_0213, ↓pm_0231, ↓pm_0312, ↓pm_0321, ↓pm_1023, ↓pm_1032, ↓pm_1203, ↓pm_1230, ↓pm_1302, ↓pm_1320, ↓pm_2013, ↓pm_2031, ↓pm_2103, ↓pm_2130, ↓pm_2301, ↓pm_2310, ↓pm_3012, ↓pm_3021, ↓pm_3102, ↓pm_3120, ↓pm_3201, ↓pm_3210, ↓o_sub, ↓o_lt, ↓o_le, ↓o_gt, ↓o_ge, ↓o_mod, ↓o_fdiv, ↓o_pow, ↓o_mul, ↓o_rep, ↓o_repT, ↓o_add, ↓o_addS, ↓o_addT, ↓o_addLL, ↓o_addLO, ↓o_addOL, ↓o_addOO, ↓o_ixT, ↓o_ixL, ↓o_ixO, ↓atS_0, ↓atS_1, ↓atS_2, ↓atS_3, ↓atS_4, ↓slc_T, ↓slc_L, ↓slc_O, ↓ext_own, ↓ext_OO, ↓lm_own, ↓append_own, ↓b_lenT, ↓b_lenL, ↓b_lenO, ↓b_lenS, ↓k_Disp, ↓k_GetD, ↓k_Prm, ↓k_lmE, ↓b_back, ↓b_tupT, ↓b_tupL, ↓b_tupO, ↓b_lstT, ↓b_lstL, ↓b_lstO, ↓b_min2, ↓b_max2, ↓b_abs, ↓b_sorted, ↓b_sortedL, ↓b_sumO, ↓b_sumL, ↓b_sumT, ↓b_anyO, ↓b_allO, ↓o_eqI, ↓o_neI, ↓o_eqSt, ↓o_neSt, ↓o_eqT, ↓o_neT, ↓isN_non, ↓isN_int, ↓isN_str, ↓isN_tup, ↓isN_lst, ↓nIsN_non, ↓nIsN_int, ↓nIsN_str, ↓nIsN_tup, ↓nIsN_lst, ↓k_LamCall, ↓k_lCons, ↓lam0_nil, ↓lam1_one, ↓k_raiseC, ↓o_powW, ↓k_Idx, ↓idxq_own, ↓idxq_lst, ↓k_wMx, ↓o_isB, ↓o_notB, ↓mix_32, ↓mix_32s, ↓mix_05, ↓mix_31, ↓mix_42, ↓mix_051, ↓k_RevL, ↓revL_own, ↓revL_lst, ↓k_eLenSet, ↓k_parC3, ↓pr3_3, if_true, if_false, Bool.not_true, Bool.not_false, Bool.false_eq_true, decide_true, decide_false, String.reduceEq, decide_eq_true_eq, Int.toNat_natCast, List.length_map, List.length_cons, List.length_nil, sizeL, Nat.zero_add, Nat.reduceAdd, Nat.reduceLeDiff, ↓isN_bl, ↓ii_non_bool, ↓ii_non_int, ↓ii_non_str, ↓ii_non_tuple, ↓ii_non_list, ↓ii_bl_bool, ↓ii_bl_int, ↓ii_bl_str, ↓ii_bl_tuple, ↓ii_bl_list, ↓ii_int_bool, ↓ii_int_int, ↓ii_int_str, ↓ii_int_tuple, ↓ii_int_list, ↓ii_str_bool, ↓ii_str_int, ↓ii_str_str, ↓ii_str_tuple, ↓ii_str_list, ↓ii_tup_bool, ↓ii_tup_int, ↓ii_tup_str, ↓ii_tup_tuple, ↓ii_tup_list, ↓ii_lst_bool, ↓ii_lst_int, ↓ii_lst_str, ↓ii_lst_tuple, ↓ii_lst_list, ↓o_eqB, ↓o_neB]
    | int i => simp only [↓un4_tup, ↓asS_str, ↓k_iChars, ↓k_put2C, ↓k_Fld, ↓k_setFC, ↓k_nmFC, ↓k_ffC, ↓k_Meth, ↓k_Meth0, ↓k_MethM, ↓k_MethM0, ↓k_Make, ↓k_Make0, ↓k_MakeM, ↓k_MakeM0, ↓k_Own, ↓k_EqO, ↓k_IsO, ↓k_InM, ↓k_GetM, ↓k_putMC, ↓k_putME, ↓k_delME, ↓k_DispK, ↓k_lLive, ↓k_lLvE, ↓k_lFix, ↓k_forLC, ↓k_LcL, ↓k_Lc2, ↓k_lc2b, ↓k_Fmt, ↓k_Joined, ↓k_jsNil, ↓k_jsCons, ↓k_LmV, ↓k_DcX, ↓k_ePrm, ↓src_lst, ↓src_tup, ↓k_V, ↓k_C, ↓k_Op2, ↓k_Fz, ↓k_wNil, ↓k_wCons, ↓k_Tup, ↓k_Lst, ↓k_oNo, ↓k_oPart, ↓k_Sl, ↓k_sNil, ↓k_sCons, ↓k_CB, ↓k_tYes, ↓k_tTst, ↓k_tAnd, ↓k_tOr, ↓k_tNot, ↓k_If, ↓k_And, ↓k_Or, ↓k_Not, ↓k_Neg, ↓k_Chn, ↓k_Call, ↓k_Call0, ↓k_wPerm, ↓k_iItems, ↓k_iRng1, ↓k_iRng2, ↓k_iZip, ↓k_iEnum, ↓k_iEnz, ↓k_ifC, ↓k_Lrg1, ↓k_parC, ↓k_starC, ↓k_setC, ↓k_setC2, ↓k_augC, ↓k_lcb, ↓k_Lc, ↓k_forC, ↓str_lit, ↓fz_val, ↓fz_seq, ↓rr_val, ↓rr_own, ↓sv_val, ↓sv_own, ↓asI_int, ↓asB_bl, ↓items_tup, ↓items_lst, ↓un2_tup, ↓un3_tup, ↓un5_tup, ↓uq2_tup, ↓uq3_tup, ↓uq2_lst, ↓uq3_lst, ↓uq4_tup, ↓uq5_tup, ↓star_tup, ↓star_lst, ↓pr2_2, ↓zip2_tup, ↓zip2_lst, ↓enz_2, ↓rng1_int, ↓rng2_int, ↓lrg1_int, ↓req_T, ↓ret_at, ↓raise_at, ↓call_ret, ↓call0_ret, ↓call_raise, ↓pm_0, ↓pm_01, ↓pm_10, ↓pm_012, ↓pm_021, ↓pm_102, ↓pm_120, ↓pm_201, ↓pm_210, ↓pm_0123, ↓pm_0132, ↓pm_0213, ↓pm_0231, ↓pm_0312, ↓pm_0321, ↓pm_1023, ↓pm_1032, ↓pm_1203, ↓pm_1230, ↓pm_1302, ↓pm_1320, ↓pm_2013, ↓pm_2031, ↓pm_2103, ↓pm_2130, ↓pm_2301, ↓pm_2310, ↓pm_3012, ↓pm_3021, ↓pm_3102, ↓pm_3120, ↓pm_3201, ↓pm_3210, ↓o_sub, ↓o_lt, ↓o_le, ↓o_gt, ↓o_ge, ↓o_mod, ↓o_fdiv, ↓o_pow, ↓o_mul, ↓o_rep, ↓o_repT, ↓o_add, ↓o_addS, ↓o_addT, ↓o_addLL, ↓o_addLO, ↓o_addOL, ↓o_addOO, ↓o_ixT, ↓o_ixL, ↓o_ixO, ↓atS_0, ↓atS_1, ↓atS_2, ↓atS_3, ↓atS_4, ↓slc_T, ↓slc_L, ↓slc_O, ↓ext_own, ↓ext_OO, ↓lm_own, ↓append_own, ↓b_lenT, ↓b_lenL, ↓b_lenO, ↓b_lenS, ↓k_Disp, ↓k_GetD, ↓k_Prm, ↓k_lmE, ↓b_back, ↓b_tupT, ↓b_tupL, ↓b_tupO, ↓b_lstT, ↓b_lstL, ↓b_lstO, ↓b_min2, ↓b_max2, ↓b_abs, ↓b_sorted, ↓b_sortedL, ↓b_sumO, ↓b_sumL, ↓b_sumT, ↓b_anyO, ↓b_allO, ↓o_eqI, ↓o_neI, ↓o_eqSt, ↓o_neSt, ↓o_eqT, ↓o_neT, ↓isN_non, ↓isN_int, ↓isN_str, ↓isN_tup, ↓isN_lst, ↓nIsN_non, ↓nIsN_int, ↓nIsN_str, ↓nIsN_tup, ↓nIsN_lst, ↓k_LamCall, ↓k_lCons, ↓lam0_nil, ↓lam1_one, ↓k_raiseC, ↓o_powW, ↓k_Idx, ↓idxq_own, ↓idxq_lst, ↓k_wMx, ↓o_isB, ↓o_notB, ↓mix_32, ↓mix_32s, ↓mix_05, ↓mix_31, ↓mix_42, ↓mix_051, ↓k_RevL, ↓revL_own, ↓revL_lst, ↓k_eLenSet, ↓k_parC3, ↓pr3_3, if_true, if_false, Bool.not_true, Bool.not_false, Bool.false_eq_true, decide_true, decide_false, String.reduceEq, decide_eq_true_eq, Int.toNat_natCast, List.length_map, List.length_cons, List.length_nil, sizeL, Nat.zero_add, Nat.reduceAdd, Nat.reduceLeDiff, ↓ii_non_bool, ↓ii_non_int, ↓ii_non_str, ↓ii_non_tuple, ↓ii_non_list, ↓ii_bl_bool, ↓ii_bl_int, ↓ii_bl_str, ↓ii_bl_tuple, ↓ii_bl_list, ↓ii_int_bool, ↓ii_int_int, ↓ii_int_str, ↓ii_int_tuple, ↓ii_int_list, ↓ii_str_bool, ↓ii_str_int, ↓ii_str_str, ↓ii_str_tuple, ↓ii_str_list, ↓ii_tup_bool, ↓ii_tup_int, ↓ii_tup_str, ↓ii_tup_tuple, ↓ii_tup_list, ↓ii_lst_bool, ↓ii_lst_int, ↓ii_lst_str, ↓ii_lst_tuple, ↓ii_lst_list, ↓o_eqB, ↓o_neB]
    | str x => simp only [↓un4_tup, ↓asS_str, ↓k_iChars, ↓k_put2C, ↓k_Fld, ↓k_setFC, ↓k_nmFC, ↓k_ffC, ↓k_Meth, ↓k_Meth0, ↓k_MethM, ↓k_MethM0, ↓k_Make, ↓k_Make0, ↓k_MakeM, ↓k_MakeM0, ↓k_Own, ↓k_EqO, ↓k_IsO, ↓k_InM, ↓k_GetM, ↓k_putMC, ↓k_putME, ↓k_delME, ↓k_DispK, ↓k_lLive, ↓k_lLvE, ↓k_lFix, ↓k_forLC, ↓k_LcL, ↓k_Lc2, ↓k_lc2b, ↓k_Fmt, ↓k_Joined, ↓k_jsNil, ↓k_jsCons, ↓k_LmV, ↓k_DcX, ↓k_ePrm, ↓src_lst, ↓src_tup, ↓k_V, ↓k_C, ↓k_Op2, ↓k_Fz, ↓k_wNil, ↓k_wCons, ↓k_Tup, ↓k_Lst, ↓k_oNo, ↓k_oPart, ↓k_Sl, ↓k_sNil, ↓k_sCons, ↓k_CB, ↓k_tYes, ↓k_tTst, ↓k_tAnd, ↓k_tOr, ↓k_tNot, ↓k_If, ↓k_And, ↓k_Or, ↓k_Not, ↓k_Neg, ↓k_Chn, ↓k_Call, ↓k_Call0, ↓k_wPerm, ↓k_iItems, ↓k_iRng1, ↓k_iRng2, ↓k_iZip, ↓k_iEnum, ↓k_iEnz, ↓k_ifC, ↓k_Lrg1, ↓k_parC, ↓k_starC, ↓k_setC, ↓k_setC2, ↓k_augC, ↓k_lcb, ↓k_Lc, ↓k_forC, ↓str_lit, ↓fz_val, ↓fz_seq, ↓rr_val, ↓rr_own, ↓sv_val, ↓sv_own, ↓asI_int, ↓asB_bl, ↓items_tup, ↓items_lst, ↓un2_tup, ↓un3_tup, ↓un5_tup, ↓uq2_tup, ↓uq3_tup, ↓uq2_lst, ↓uq3_lst, ↓uq4_tup, ↓uq5_tup, ↓star_tup, ↓star_lst, ↓pr2_2, ↓zip2_tup, ↓zip2_lst, ↓enz_2, ↓rng1_int, ↓rng2_int, ↓lrg1_int, ↓req_T, ↓ret_at, ↓raise_at, ↓call_ret, ↓call0_ret, ↓call_raise, ↓pm_0, ↓pm_01, ↓pm_10, ↓pm_012, ↓pm_021, ↓pm_102, ↓pm_120, ↓pm_201, ↓pm_210, ↓pm_0123, ↓pm_0132, ↓pm_0213, ↓pm_0231, ↓pm_0312, ↓pm_0321, ↓pm_1023, ↓pm_1032, ↓pm_1203, ↓pm_1230, ↓pm_1302, ↓pm_1320, ↓pm_2013, ↓pm_2031, ↓pm_2103, ↓pm_2130, ↓pm_2301, ↓pm_2310, ↓pm_3012, ↓pm_3021, ↓pm_3102, ↓pm_3120, ↓pm_3201, ↓pm_3210, ↓o_sub, ↓o_lt, ↓o_le, ↓o_gt, ↓o_ge, ↓o_mod, ↓o_fdiv, ↓o_pow, ↓o_mul, ↓o_rep, ↓o_repT, ↓o_add, ↓o_addS, ↓o_addT, ↓o_addLL, ↓o_addLO, ↓o_addOL, ↓o_addOO, ↓o_ixT, ↓o_ixL, ↓o_ixO, ↓atS_0, ↓atS_1, ↓atS_2, ↓atS_3, ↓atS_4, ↓slc_T, ↓slc_L, ↓slc_O, ↓ext_own, ↓ext_OO, ↓lm_own, ↓append_own, ↓b_lenT, ↓b_lenL, ↓b_lenO, ↓b_lenS, ↓k_Disp, ↓k_GetD, ↓k_Prm, ↓k_lmE, ↓b_back, ↓b_tupT, ↓b_tupL, ↓b_tupO, ↓b_lstT, ↓b_lstL, ↓b_lstO, ↓b_min2, ↓b_max2, ↓b_abs, ↓b_sorted, ↓b_sortedL, ↓b_sumO, ↓b_sumL, ↓b_sumT, ↓b_anyO, ↓b_allO, ↓o_eqI, ↓o_neI, ↓o_eqSt, ↓o_neSt, ↓o_eqT, ↓o_neT, ↓isN_non, ↓isN_int, ↓isN_str, ↓isN_tup, ↓isN_lst, ↓nIsN_non, ↓nIsN_int, ↓nIsN_str, ↓nIsN_tup, ↓nIsN_lst, ↓k_LamCall, ↓k_lCons, ↓lam0_nil, ↓lam1_one, ↓k_raiseC, ↓o_powW, ↓k_Idx, ↓idxq_own, ↓idxq_lst, ↓k_wMx, ↓o_isB, ↓o_notB, ↓mix_32, ↓mix_32s, ↓mix_05, ↓mix_31, ↓mix_42, ↓mix_051, ↓k_RevL, ↓revL_own, ↓revL_lst, ↓k_eLenSet, ↓k_parC3, ↓pr3_3, if_true, if_false, Bool.not_true, Bool.not_false, Bool.false_eq_true, decide_true, decide_false, String.reduceEq, decide_eq_true_eq, Int.toNat_natCast, List.length_map, List.length_cons, List.length_nil, sizeL, Nat.zero_add, Nat.reduceAdd, Nat.reduceLeDiff, ↓ii_non_bool, ↓ii_non_int, ↓ii_non_str, ↓ii_non_tuple, ↓ii_non_list, ↓ii_bl_bool, ↓ii_bl_int, ↓ii_bl_str, ↓ii_bl_tuple, ↓ii_bl_list, ↓ii_int_bool, ↓ii_int_int, ↓ii_int_str, ↓ii_int_tuple, ↓ii_int_list, ↓ii_str_bool, ↓ii_str_int, ↓ii_str_str, ↓ii_str_tuple, ↓ii_str_list, ↓ii_tup_bool, ↓ii_tup_int, ↓ii_tup_str, ↓ii_tup_tuple, ↓ii_tup_list, ↓ii_lst_bool, ↓ii_lst_int, ↓ii_lst_str, ↓ii_lst_tuple, ↓ii_lst_list, ↓o_eqB, ↓o_neB]
    | tup xs =>
      simp only [W.sm, Bool.and_eq_true, decide_eq_true_eq] at h
      have hl := h.1
      simp only [↓un4_tup, ↓asS_str, ↓k_iChars, ↓k_put2C, ↓k_Fld, ↓k_setFC, ↓k_nmFC, ↓k_ffC, ↓k_Meth, ↓k_Meth0, ↓k_MethM, ↓k_MethM0, ↓k_Make, ↓k_Make0, ↓k_MakeM, ↓k_MakeM0, ↓k_Own, ↓k_EqO, ↓k_IsO, ↓k_InM, ↓k_GetM, ↓k_putMC, ↓k_putME, ↓k_delME, ↓k_DispK, ↓k_lLive, ↓k_lLvE, ↓k_lFix, ↓k_forLC, ↓k_LcL, ↓k_Lc2, ↓k_lc2b, ↓k_Fmt, ↓k_Joined, ↓k_jsNil, ↓k_jsCons, ↓k_LmV, ↓k_DcX, ↓k_ePrm, ↓src_lst, ↓src_tup, ↓k_V, ↓k_C, ↓k_Op2, ↓k_Fz, ↓k_wNil, ↓k_wCons, ↓k_Tup, ↓k_Lst, ↓k_oNo, ↓k_oPart, ↓k_Sl, ↓k_sNil, ↓k_sCons, ↓k_CB, ↓k_tYes, ↓k_tTst, ↓k_tAnd, ↓k_tOr, ↓k_tNot, ↓k_If, ↓k_And, ↓k_Or, ↓k_Not, ↓k_Neg, ↓k_Chn, ↓k_Call, ↓k_Call0, ↓k_wPerm, ↓k_iItems, ↓k_iRng1, ↓k_iRng2, ↓k_iZip, ↓k_iEnum, ↓k_iEnz, ↓k_ifC, ↓k_Lrg1, ↓k_parC, ↓k_starC, ↓k_setC, ↓k_setC2, ↓k_augC, ↓k_lcb, ↓k_Lc, ↓k_forC, ↓str_lit, ↓fz_val, ↓fz_seq, ↓rr_val, ↓rr_own, ↓sv_val, ↓sv_own, ↓asI_int, ↓asB_bl, ↓items_tup, ↓items_lst, ↓un2_tup, ↓un3_tup, ↓un5_tup, ↓uq2_tup, ↓uq3_tup, ↓uq2_lst, ↓uq3_lst, ↓uq4_tup, ↓uq5_tup, ↓star_tup, ↓star_lst, ↓pr2_2, ↓zip2_tup, ↓zip2_lst, ↓enz_2, ↓rng1_int, ↓rng2_int, ↓lrg1_int, ↓req_T, ↓ret_at, ↓raise_at, ↓call_ret, ↓call0_ret, ↓call_raise, ↓pm_0, ↓pm_01, ↓pm_10, ↓pm_012, ↓pm_021, ↓pm_102, ↓pm_120, ↓pm_201, ↓pm_210, ↓pm_0123, ↓pm_0132, ↓pm_0213, ↓pm_0231, ↓pm_0312, ↓pm_0321, ↓pm_1023, ↓pm_1032, ↓pm_1203, ↓pm_1230, ↓pm_1302, ↓pm_1320, ↓pm_2013, ↓pm_2031, ↓pm_2103, ↓pm_2130, ↓pm_2301, ↓pm_2310, ↓pm_3012, ↓pm_3021, ↓pm_3102, ↓pm_3120, ↓pm_3201, ↓pm_3210, ↓o_sub, ↓o_lt, ↓o_le, ↓o_gt, ↓o_ge, ↓o_mod, ↓o_fdiv, ↓o_pow, ↓o_mul, ↓o_rep, ↓o_repT, ↓o_add, ↓o_addS, ↓o_addT, ↓o_addLL, ↓o_addLO, ↓o_addOL, ↓o_addOO, ↓o_ixT, ↓o_ixL, ↓o_ixO, ↓atS_0, ↓atS_1, ↓atS_2, ↓atS_3, ↓atS_4, ↓slc_T, ↓slc_L, ↓slc_O, ↓ext_own, ↓ext_OO, ↓lm_own, ↓append_own, ↓b_lenT, ↓b_lenL, ↓b_lenO, ↓b_lenS, ↓k_Disp, ↓k_GetD, ↓k_Prm, ↓k_lmE, ↓b_back, ↓b_tupT, ↓b_tupL, ↓b_tupO, ↓b_lstT, ↓b_lstL, ↓b_lstO, ↓b_min2, ↓b_max2, ↓b_abs, ↓b_sorted, ↓b_sortedL, ↓b_sumO, ↓b_sumL, ↓b_sumT, ↓b_anyO, ↓b_allO, ↓o_eqI, ↓o_neI, ↓o_eqSt, ↓o_neSt, ↓o_eqT, ↓o_neT, ↓isN_non, ↓isN_int, ↓isN_str, ↓isN_tup, ↓isN_lst, ↓nIsN_non, ↓nIsN_int, ↓nIsN_str, ↓nIsN_tup, ↓nIsN_lst, ↓k_LamCall, ↓k_lCons, ↓lam0_nil, ↓lam1_one, ↓k_raiseC, ↓o_powW, ↓k_Idx, ↓idxq_own, ↓idxq_lst, ↓k_wMx, ↓o_isB, ↓o_notB, ↓mix_32, ↓mix_32s, ↓mix_05, ↓mix_31, ↓mix_42, ↓mix_051, ↓k_RevL, ↓revL_own, ↓revL_lst, ↓k_eLenSet, ↓k_parC3, ↓pr3_3, if_true, if_false, Bool.not_true, Bool.not_false, Bool.false_eq_true, decide_true, decide_false, String.reduceEq, decide_eq_true_eq, Int.toNat_natCast, List.length_map, List.length_cons, List.length_nil, sizeL, Nat.zero_add, Nat.reduceAdd, Nat.reduceLeDiff, ↓ii_non_bool, ↓ii_non_int, ↓ii_non_str, ↓ii_non_tuple, ↓ii_non_list, ↓ii_bl_bool, ↓ii_bl_int, ↓ii_bl_str, ↓ii_bl_tuple, ↓ii_bl_list, ↓ii_int_bool, ↓ii_int_int, ↓ii_int_str, ↓ii_int_tuple, ↓ii_int_list, ↓ii_str_bool, ↓ii_str_int, ↓ii_str_str, ↓ii_str_tuple, ↓ii_str_list, ↓ii_tup_bool, ↓ii_tup_int, ↓ii_tup_str, ↓ii_tup_tuple, ↓ii_tup_list, ↓ii_lst_bool, ↓ii_lst_int, ↓ii_lst_str, ↓ii_lst_tuple, ↓ii_lst_list, ↓o_neB]
      rw [req_of (by omega)]
      refine (seq xs h.1 (W.sms_mem h.2) (.tup xs) (fun i k _ => o_ixT) (fun z => cb oAll [z] ret)).trans ?_
      rw [b_allO]
      simp
    | lst xs =>
      simp only [W.sm, Bool.and_eq_true, decide_eq_true_eq] at h
      have hl := h.1
      simp only [↓un4_tup, ↓asS_str, ↓k_iChars, ↓k_put2C, ↓k_Fld, ↓k_setFC, ↓k_nmFC, ↓k_ffC, ↓k_Meth, ↓k_Meth0, ↓k_MethM, ↓k_MethM0, ↓k_Make, ↓k_Make0, ↓k_MakeM, ↓k_MakeM0, ↓k_Own, ↓k_EqO, ↓k_IsO, ↓k_InM, ↓k_GetM, ↓k_putMC, ↓k_putME, ↓k_delME, ↓k_DispK, ↓k_lLive, ↓k_lLvE, ↓k_lFix, ↓k_forLC, ↓k_LcL, ↓k_Lc2, ↓k_lc2b, ↓k_Fmt, ↓k_Joined, ↓k_jsNil, ↓k_jsCons, ↓k_LmV, ↓k_DcX, ↓k_ePrm, ↓src_lst, ↓src_tup, ↓k_V, ↓k_C, ↓k_Op2, ↓k_Fz, ↓k_wNil, ↓k_wCons, ↓k_Tup, ↓k_Lst, ↓k_oNo, ↓k_oPart, ↓k_Sl, ↓k_sNil, ↓k_sCons, ↓k_CB, ↓k_tYes, ↓k_tTst, ↓k_tAnd, ↓k_tOr, ↓k_tNot, ↓k_If, ↓k_And, ↓k_Or, ↓k_Not, ↓k_Neg, ↓k_Chn, ↓k_Call, ↓k_Call0, ↓k_wPerm, ↓k_iItems, ↓k_iRng1, ↓k_iRng2, ↓k_iZip, ↓k_iEnum, ↓k_iEnz, ↓k_ifC, ↓k_Lrg1, ↓k_parC, ↓k_starC, ↓k_setC, ↓k_setC2, ↓k_augC, ↓k_lcb, ↓k_Lc, ↓k_forC, ↓str_lit, ↓fz_val, ↓fz_seq, ↓rr_val, ↓rr_own, ↓sv_val, ↓sv_own, ↓asI_int, ↓asB_bl, ↓items_tup, ↓items_lst, ↓un2_tup, ↓un3_tup, ↓un5_tup, ↓uq2_tup, ↓uq3_tup, ↓uq2_lst, ↓uq3_lst, ↓uq4_tup, ↓uq5_tup, ↓star_tup, ↓star_lst, ↓pr2_2, ↓zip2_tup, ↓zip2_lst, ↓enz_2, ↓rng1_int, ↓rng2_int, ↓lrg1_int, ↓req_T, ↓ret_at, ↓raise_at, ↓call_ret, ↓call0_ret, ↓call_raise, ↓pm_0, ↓pm_01, ↓pm_10, ↓pm_012, ↓pm_021, ↓pm_102, ↓pm_120, ↓pm_201, ↓pm_210, ↓pm_0123, ↓pm_0132, ↓pm_0213, ↓pm_0231, ↓pm_0312, ↓pm_0321, ↓pm_1023, ↓pm_1032, ↓pm_1203, ↓pm_1230, ↓pm_1302, ↓pm_1320, ↓pm_2013, ↓pm_2031, ↓pm_2103, ↓pm_2130, ↓pm_2301, ↓pm_2310, ↓pm_3012, ↓pm_3021, ↓pm_3102, ↓pm_3120, ↓pm_3201, ↓pm_3210, ↓o_sub, ↓o_lt, ↓o_le, ↓o_gt, ↓o_ge, ↓o_mod, ↓o_fdiv, ↓o_pow, ↓o_mul, ↓o_rep, ↓o_repT, ↓o_add, ↓o_addS, ↓o_addT, ↓o_addLL, ↓o_addLO, ↓o_addOL, ↓o_addOO, ↓o_ixT, ↓o_ixL, ↓o_ixO, ↓atS_0, ↓atS_1, ↓atS_2, ↓atS_3, ↓atS_4, ↓slc_T, ↓slc_L, ↓slc_O, ↓ext_own, ↓ext_OO, ↓lm_own, ↓append_own, ↓b_lenT, ↓b_lenL, ↓b_lenO, ↓b_lenS, ↓k_Disp, ↓k_GetD, ↓k_Prm, ↓k_lmE, ↓b_back, ↓b_tupT, ↓b_tupL, ↓b_tupO, ↓b_lstT, ↓b_lstL, ↓b_lstO, ↓b_min2, ↓b_max2, ↓b_abs, ↓b_sorted, ↓b_sortedL, ↓b_sumO, ↓b_sumL, ↓b_sumT, ↓b_anyO, ↓b_allO, ↓o_eqI, ↓o_neI, ↓o_eqSt, ↓o_neSt, ↓o_eqT, ↓o_neT, ↓isN_non, ↓isN_int, ↓isN_str, ↓isN_tup, ↓isN_lst, ↓nIsN_non, ↓nIsN_int, ↓nIsN_str, ↓nIsN_tup, ↓nIsN_lst, ↓k_LamCall, ↓k_lCons, ↓lam0_nil, ↓lam1_one, ↓k_raiseC, ↓o_powW, ↓k_Idx, ↓idxq_own, ↓idxq_lst, ↓k_wMx, ↓o_isB, ↓o_notB, ↓mix_32, ↓mix_32s, ↓mix_05, ↓mix_31, ↓mix_42, ↓mix_051, ↓k_RevL, ↓revL_own, ↓revL_lst, ↓k_eLenSet, ↓k_parC3, ↓pr3_3, if_true, if_false, Bool.not_true, Bool.not_false, Bool.false_eq_true, decide_true, decide_false, String.reduceEq, decide_eq_true_eq, Int.toNat_natCast, List.length_map, List.length_cons, List.length_nil, sizeL, Nat.zero_add, Nat.reduceAdd, Nat.reduceLeDiff, ↓ii_non_bool, ↓ii_non_int, ↓ii_non_str, ↓ii_non_tuple, ↓ii_non_list, ↓ii_bl_bool, ↓ii_bl_int, ↓ii_bl_str, ↓ii_bl_tuple, ↓ii_bl_list, ↓ii_int_bool, ↓ii_int_int, ↓ii_int_str, ↓ii_int_tuple, ↓ii_int_list, ↓ii_str_bool, ↓ii_str_int, ↓ii_str_str, ↓ii_str_tuple, ↓ii_str_list, ↓ii_tup_bool, ↓ii_tup_int, ↓ii_tup_str, ↓ii_tup_tuple, ↓ii_tup_list, ↓ii_lst_bool, ↓ii_lst_int, ↓ii_lst_str, ↓ii_lst_tuple, ↓ii_lst_list, ↓o_neB]
      rw [req_of (by omega)]
      refine (seq xs h.1 (W.sms_mem h.2) (.lst xs) (fun i k _ => o_ixL) (fun z => cb oAll [z] ret)).trans ?_
      rw [b_allO]
      simp
    | dct _ _ => simp [W.sm] at h
    | ref _ => simp [W.sm] at h
    | ty _ => simp [W.sm] at h
end Ab
namespace Ab
open PySem PySem.Spec PyProof.Rows L2 RZ
def mf_look_stand (x_sizes x_stand : W) : MC :=
  ((eCall m_look_sizes (wCons (eFz (eV (.val x_sizes))) wNil)) fun _ => (ifC (tTst (eOp2 oGt (eCB oLen (sCons (eV (.val x_stand)) sNil)) (eC (.int 60)))) bad ((eOp2 oMulT (eLst (wCons (eFz (eC (.int 0))) wNil)) (eCB oLen (sCons (eV (.val x_sizes)) sNil))) fun x_held => (forC (iEnum (eFz (eV (.val x_stand)))) x_held (fun w6 (s1 : SV) kn3 kb4 => un2 w6 fun x_rank x_place => (ifC (tNot (tTst (eChn (fun i j => decide (i ≤ j)) (fun i j => decide (i < j)) (eC (.int (-1))) (eV (.val x_place)) (eCB oLen (sCons (eV (.val x_sizes)) sNil))))) bad (ifC (tTst (eOp2 (oEq true) (eV (.val x_place)) (eC (.int (-1))))) (augC (fun i j => i + j) s1 (eV (.val x_place)) (eC (.int 1)) fun x_held => (ifC (tTst (eOp2 oGt (eOp2 oIx (eV x_held) (eV (.val x_place))) (eOp2 oIx (eV (.val x_sizes)) (eV (.val x_place))))) bad (kn3 x_held))) (kn3 s1)))) fun (s1 : SV) => (ret (.val .non))))))
def m_look_stand : List W → MC
  | [x_sizes, x_stand] => mf_look_stand x_sizes x_stand
  | _ => bad
def mf_counted (x_many x_stand : W) : MC :=
  ((eOp2 oMulT (eLst (wCons (eFz (eC (.int 0))) wNil)) (eV (.val x_many))) fun x_held => (forC (iItems (eFz (eV (.val x_stand)))) x_held (fun x_place (s1 : SV) kn3 kb4 => (ifC (tTst (eOp2 (oEq true) (eV (.val x_place)) (eC (.int (-1))))) (augC (fun i j => i + j) s1 (eV (.val x_place)) (eC (.int 1)) fun x_held => (kn3 x_held)) (kn3 s1))) fun (s1 : SV) => ((eCB oTupC (sCons (eV s1) sNil)) ret)))
def m_counted : List W → MC
  | [x_many, x_stand] => mf_counted x_many x_stand
  | _ => bad
def mf_counts_of (x_sizes x_stand : W) : MC :=
  ((eCall m_look_stand (wCons (eFz (eV (.val x_sizes))) (wCons (eFz (eV (.val x_stand))) wNil))) fun _ => ((eCall m_counted (wCons (eFz (eCB oLen (sCons (eV (.val x_sizes)) sNil))) (wCons (eFz (eV (.val x_stand))) wNil))) ret))
def m_counts_of : List W → MC
  | [x_sizes, x_stand] => mf_counts_of x_sizes x_stand
  | _ => bad
def mf__law_stand (x_bag x_msizes x_mmany x_gone : W) : MC :=
  ((eFz (eTup wNil)) fun x_found => ((eOp2 oMulT (eLst (wCons (eFz (eC (.int 0))) wNil)) (eCB oLen (sCons (eV (.val x_msizes)) sNil))) fun x_held => (forC (iRng1 (sCons (eCall m__law_take (wCons (eFz (eV (.val x_bag))) (wCons (eFz (eOp2 oAdd (eV (.val x_mmany)) (eC (.int 1)))) wNil))) sNil)) (x_found, x_held) (fun x_k (s1 : W × SV) kn3 kb4 => ((eFz (eOp2 oSub (eCall m__law_take (wCons (eFz (eV (.val x_bag))) (wCons (eFz (eOp2 oAdd (eCB oLen (sCons (eV (.val x_msizes)) sNil)) (eV (.val x_gone)))) wNil))) (eV (.val x_gone)))) fun x_place => (ifC (tTst (eOp2 oLt (eV (.val x_place)) (eC (.int 0)))) ((eFz (eOp2 oAdd (eV (.val s1.1)) (eTup (wCons (eFz (eNeg (eC (.int 1)))) wNil)))) fun x_found => (kn3 (x_found, s1.2))) (ifC (tTst (eOp2 oLt (eOp2 oIx (eV s1.2) (eV (.val x_place))) (eOp2 oIx (eV (.val x_msizes)) (eV (.val x_place))))) (setC (eFz (eOp2 oAdd (eOp2 oIx (eV s1.2) (eV (.val x_place))) (eC (.int 1)))) s1.2 (eV (.val x_place)) fun x_held => ((eFz (eOp2 oAdd (eV (.val s1.1)) (eTup (wCons (eFz (eV (.val x_place))) wNil)))) fun x_found => (kn3 (x_found, x_held)))) (kn3 (s1.1, s1.2)))))) fun (s1 : W × SV) => ((eV (.val s1.1)) ret))))
def m__law_stand : List W → MC
  | [x_bag, x_msizes, x_mmany, x_gone] => mf__law_stand x_bag x_msizes x_mmany x_gone
  | _ => bad
/-! ### stands; deeds by ranks (all is well) -/
def cnt (n : Nat) (st : List Int) : List Int := (List.range n).map fun (c : Nat) => (st.count (c : Int) : Int)
theorem cnt_len {n : Nat} {st : List Int} : (cnt n st).length = n := by simp [cnt]
theorem cnt_get {n c : Nat} {st : List Int} (h : c < n) : (cnt n st).getD c 0 = st.count (c : Int) := by
  simp [cnt, List.getD_eq_getElem?_getD, h]
theorem cnt_nil {n : Nat} : cnt n [] = List.replicate n 0 := by
  simp [cnt, List.map_const']
theorem cnt_snoc {n c : Nat} {st : List Int} (h : c < n) : (cnt n st).set c ((cnt n st).getD c 0 + 1) = cnt n (st ++ [(c : Int)]) := by
  have z := cnt_get (st := st) h
  generalize (cnt n st).getD c 0 = v at z
  subst z
  refine List.ext_getElem (by simp [cnt]) fun i h1 h2 => ?_
  have hi : i < n := by simpa [cnt] using h2
  rw [List.getElem_set]
  simp only [cnt, List.getElem_map, List.getElem_range, List.count_append, List.count_singleton]
  by_cases e : c = i
  · subst e; simp
  · have e2 : ¬ (c : Int) = (i : Int) := by omega
    simp [e, e2]
theorem cnt_gone {n : Nat} {st : List Int} {p : Int} (h : p < 0) : cnt n (st ++ [p]) = cnt n st := by
  refine List.ext_getElem (by simp [cnt]) fun i h1 h2 => ?_
  simp only [cnt, List.getElem_map, List.getElem_range, List.count_append, List.count_singleton]
  have e2 : ¬ p = (i : Int) := by omega
  simp [e2]
/-- a stand -/
structure StOk (ss st : List Int) : Prop where
  len : st.length ≤ 60
  at_ : ∀ p ∈ st, -1 ≤ p ∧ p < ss.length
  cap : ∀ c, c < ss.length → (st.count (c : Int) : Int) ≤ ss.getD c 0
theorem rep0 (n : Nat) : (List.replicate n [W.int 0]).flatten = (List.replicate n (0 : Int)).map W.int := by
  induction n with
  | zero => rfl
  | succ n ih => rw [List.replicate_succ, List.flatten_cons, ih, List.replicate_succ]; rfl
theorem count_take_le {st : List Int} {j : Nat} {x : Int} : (st.take j).count x ≤ st.count x := (List.take_sublist j st).count_le x
theorem foldl_snoc {α : Type} (l : List α) : l.foldl (fun (pre : List α) p => pre ++ [p]) [] = l := by
  have z : ∀ (l acc : List α), l.foldl (fun (pre : List α) p => pre ++ [p]) acc = acc ++ l := by
    intro l
    induction l with
    | nil => intro acc; simp
    | cons a l ih => intro acc; rw [List.foldl_cons, ih]; simp
  simpa using z l []
theorem cnt_aug {n c : Nat} {st : List Int} {k : SV → MC} (h : c < n) (hn : n ≤ 100) : augIx (fun i j => i + j) (.own (.seq ((cnt n st).map .int))) (.val (.int (c : Int))) (eC (.int 1)) k = k (.own (.seq ((cnt n (st ++ [(c : Int)])).map .int))) := by
  have e : ((cnt n st).map W.int)[c]? = some (.int ((cnt n st).getD c 0)) := by
    have h2 : c < (cnt n st).length := by rw [cnt_len]; exact h
    rw [List.getElem?_map, List.getD_eq_getElem?_getD, List.getElem?_eq_getElem h2]
    rfl
  rw [aug_own e (by omega)]
  show k (.own (.seq (((cnt n st).map W.int).set c (W.int ((cnt n st).getD c 0 + 1))))) = _
  rw [set_map, cnt_snoc h]
theorem look_stand_ok {ss st : List Int} (hs : SzOk ss) (h : StOk ss st) : m_look_stand [.tup (ss.map .int), .tup (st.map .int)] = ret (.val .non) := by
  show mf_look_stand _ _ = _
  unfold mf_look_stand
  obtain ⟨l1, l2, s3⟩ := id hs
  have hl := h.len
  simp only [↓un4_tup, ↓asS_str, ↓k_iChars, ↓k_put2C, ↓k_Fld, ↓k_setFC, ↓k_nmFC, ↓k_ffC, ↓k_Meth, ↓k_Meth0, ↓k_MethM, ↓k_MethM0, ↓k_Make, ↓k_Make0, ↓k_MakeM, ↓k_MakeM0, ↓k_Own, ↓k_EqO, ↓k_IsO, ↓k_InM, ↓k_GetM, ↓k_putMC, ↓k_putME, ↓k_delME, ↓k_DispK, ↓k_lLive, ↓k_lLvE, ↓k_lFix, ↓k_forLC, ↓k_LcL, ↓k_Lc2, ↓k_lc2b, ↓k_Fmt, ↓k_Joined, ↓k_jsNil, ↓k_jsCons, ↓k_LmV, ↓k_DcX, ↓k_ePrm, ↓src_lst, ↓src_tup, ↓k_V, ↓k_C, ↓k_Op2, ↓k_Fz, ↓k_wNil, ↓k_wCons, ↓k_Tup, ↓k_Lst, ↓k_oNo, ↓k_oPart, ↓k_Sl, ↓k_sNil, ↓k_sCons, ↓k_CB, ↓k_tYes, ↓k_tTst, ↓k_tAnd, ↓k_tOr, ↓k_tNot, ↓k_If, ↓k_And, ↓k_Or, ↓k_Not, ↓k_Neg, ↓k_Chn, ↓k_Call, ↓k_Call0, ↓k_wPerm, ↓k_iItems, ↓k_iRng1, ↓k_iRng2, ↓k_iZip, ↓k_iEnum, ↓k_iEnz, ↓k_ifC, ↓k_Lrg1, ↓k_parC, ↓k_starC, ↓k_setC, ↓k_setC2, ↓k_augC, ↓k_lcb, ↓k_Lc, ↓k_forC, ↓str_lit, ↓fz_val, ↓fz_seq, ↓rr_val, ↓rr_own, ↓sv_val, ↓sv_own, ↓asI_int, ↓asB_bl, ↓items_tup, ↓items_lst, ↓un2_tup, ↓un3_tup, ↓un5_tup, ↓uq2_tup, ↓uq3_tup, ↓uq2_lst, ↓uq3_lst, ↓uq4_tup, ↓uq5_tup, ↓star_tup, ↓star_lst, ↓pr2_2, ↓zip2_tup, ↓zip2_lst, ↓enz_2, ↓rng1_int, ↓rng2_int, ↓lrg1_int, ↓req_T, ↓ret_at, ↓raise_at, ↓call_ret, ↓call0_ret, ↓call_raise, ↓pm_0, ↓pm_01, ↓pm_10, ↓pm_012, ↓pm_021, ↓pm_102, ↓pm_120, ↓pm_201, ↓pm_210, ↓pm_0123, ↓pm_0132, ↓pm_0213, ↓pm_0231, ↓pm_0312, ↓pm_0321, ↓pm_1023, ↓pm_1032, ↓pm_1203, ↓pm_1230, ↓pm_1302, ↓pm_1320, ↓pm_2013, ↓pm_2031, ↓pm_2103, ↓pm_2130, ↓pm_2301, ↓pm_2310, ↓pm_3012, ↓pm_3021, ↓pm_3102, ↓pm_3120, ↓pm_3201, ↓pm_3210, ↓o_sub, ↓o_lt, ↓o_le, ↓o_gt, ↓o_ge, ↓o_mod, ↓o_fdiv, ↓o_pow, ↓o_mul, ↓o_rep, ↓o_repT, ↓o_add, ↓o_addS, ↓o_addT, ↓o_addLL, ↓o_addLO, ↓o_addOL, ↓o_addOO, ↓o_ixT, ↓o_ixL, ↓o_ixO, ↓atS_0, ↓atS_1, ↓atS_2, ↓atS_3, ↓atS_4, ↓slc_T, ↓slc_L, ↓slc_O, ↓ext_own, ↓ext_OO, ↓lm_own, ↓append_own, ↓b_lenT, ↓b_lenL, ↓b_lenO, ↓b_lenS, ↓k_Disp, ↓k_GetD, ↓k_Prm, ↓k_lmE, ↓b_back, ↓b_tupT, ↓b_tupL, ↓b_tupO, ↓b_lstT, ↓b_lstL, ↓b_lstO, ↓b_min2, ↓b_max2, ↓b_abs, ↓b_sorted, ↓b_sortedL, ↓b_sumO, ↓b_sumL, ↓b_sumT, ↓b_anyO, ↓b_allO, ↓o_eqI, ↓o_neI, ↓o_eqSt, ↓o_neSt, ↓o_eqT, ↓o_neT, ↓isN_non, ↓isN_int, ↓isN_str, ↓isN_tup, ↓isN_lst, ↓nIsN_non, ↓nIsN_int, ↓nIsN_str, ↓nIsN_tup, ↓nIsN_lst, ↓k_LamCall, ↓k_lCons, ↓lam0_nil, ↓lam1_one, ↓k_raiseC, ↓o_powW, ↓k_Idx, ↓idxq_own, ↓idxq_lst, ↓k_wMx, ↓o_isB, ↓o_notB, ↓mix_32, ↓mix_32s, ↓mix_05, ↓mix_31, ↓mix_42, ↓mix_051, ↓k_RevL, ↓revL_own, ↓revL_lst, ↓k_eLenSet, ↓k_parC3, ↓pr3_3, if_true, if_false, Bool.not_true, Bool.not_false, Bool.false_eq_true, decide_true, decide_false, String.reduceEq, decide_eq_true_eq, Int.toNat_natCast, List.length_map, List.length_cons, List.length_nil, sizeL, Nat.zero_add, Nat.reduceAdd, Nat.reduceLeDiff, look_sizes_ok hs]
  rw [if_neg (by omega), req_of (by omega), rep0, ← cnt_nil (n := ss.length), en_map,
    for_enc (fun p : Int × Nat => W.tup [.int (p.2 : Int), .int p.1]) (fun pre : List Int => SV.own (.seq ((cnt ss.length pre).map W.int))) (fun pre p => pre ++ [p.1]) (fun j pre => pre = st.take j) st.zipIdx [] 0 (by simp) fun j p hj pre e => ?_]
  obtain ⟨hj, e2⟩ : st[j]? = some p.1 ∧ p.2 = j := by
    rw [List.getElem?_zipIdx] at hj
    cases q : st[j]? with
    | none => rw [q] at hj; cases hj
    | some x => rw [q] at hj; cases hj; exact ⟨rfl, by simp⟩
  subst e
  rw [Nat.zero_add]
  have tk : st.take j ++ [p.1] = st.take (j + 1) := by rw [List.take_succ, hj]; rfl
  refine ⟨tk, fun kn => ?_⟩
  obtain ⟨a0, a1⟩ := h.at_ p.1 (List.mem_of_getElem? hj)
  simp only [↓un4_tup, ↓asS_str, ↓k_iChars, ↓k_put2C, ↓k_Fld, ↓k_setFC, ↓k_nmFC, ↓k_ffC, ↓k_Meth, ↓k_Meth0, ↓k_MethM, ↓k_MethM0, ↓k_Make, ↓k_Make0, ↓k_MakeM, ↓k_MakeM0, ↓k_Own, ↓k_EqO, ↓k_IsO, ↓k_InM, ↓k_GetM, ↓k_putMC, ↓k_putME, ↓k_delME, ↓k_DispK, ↓k_lLive, ↓k_lLvE, ↓k_lFix, ↓k_forLC, ↓k_LcL, ↓k_Lc2, ↓k_lc2b, ↓k_Fmt, ↓k_Joined, ↓k_jsNil, ↓k_jsCons, ↓k_LmV, ↓k_DcX, ↓k_ePrm, ↓src_lst, ↓src_tup, ↓k_V, ↓k_C, ↓k_Op2, ↓k_Fz, ↓k_wNil, ↓k_wCons, ↓k_Tup, ↓k_Lst, ↓k_oNo, ↓k_oPart, ↓k_Sl, ↓k_sNil, ↓k_sCons, ↓k_CB, ↓k_tYes, ↓k_tTst, ↓k_tAnd, ↓k_tOr, ↓k_tNot, ↓k_If, ↓k_And, ↓k_Or, ↓k_Not, ↓k_Neg, ↓k_Chn, ↓k_Call, ↓k_Call0, ↓k_wPerm, ↓k_iItems, ↓k_iRng1, ↓k_iRng2, ↓k_iZip, ↓k_iEnum, ↓k_iEnz, ↓k_ifC, ↓k_Lrg1, ↓k_parC, ↓k_starC, ↓k_setC, ↓k_setC2, ↓k_augC, ↓k_lcb, ↓k_Lc, ↓k_forC, ↓str_lit, ↓fz_val, ↓fz_seq, ↓rr_val, ↓rr_own, ↓sv_val, ↓sv_own, ↓asI_int, ↓asB_bl, ↓items_tup, ↓items_lst, ↓un2_tup, ↓un3_tup, ↓un5_tup, ↓uq2_tup, ↓uq3_tup, ↓uq2_lst, ↓uq3_lst, ↓uq4_tup, ↓uq5_tup, ↓star_tup, ↓star_lst, ↓pr2_2, ↓zip2_tup, ↓zip2_lst, ↓enz_2, ↓rng1_int, ↓rng2_int, ↓lrg1_int, ↓req_T, ↓ret_at, ↓raise_at, ↓call_ret, ↓call0_ret, ↓call_raise, ↓pm_0, ↓pm_01, ↓pm_10, ↓pm_012, ↓pm_021, ↓pm_102, ↓pm_120, ↓pm_201, ↓pm_210, ↓pm_0123, ↓pm_0132, ↓pm_0213, ↓pm_0231, ↓pm_0312, ↓pm_0321, ↓pm_1023, ↓pm_1032, ↓pm_1203, ↓pm_1230, ↓pm_1302, ↓pm_1320, ↓pm_2013, ↓pm_2031, ↓pm_2103, ↓pm_2130, ↓pm_2301, ↓pm_2310, ↓pm_3012, ↓pm_3021, ↓pm_3102, ↓pm_3120, ↓pm_3201, ↓pm_3210, ↓o_sub, ↓o_lt, ↓o_le, ↓o_gt, ↓o_ge, ↓o_mod, ↓o_fdiv, ↓o_pow, ↓o_mul, ↓o_rep, ↓o_repT, ↓o_add, ↓o_addS, ↓o_addT, ↓o_addLL, ↓o_addLO, ↓o_addOL, ↓o_addOO, ↓o_ixT, ↓o_ixL, ↓o_ixO, ↓atS_0, ↓atS_1, ↓atS_2, ↓atS_3, ↓atS_4, ↓slc_T, ↓slc_L, ↓slc_O, ↓ext_own, ↓ext_OO, ↓lm_own, ↓append_own, ↓b_lenT, ↓b_lenL, ↓b_lenO, ↓b_lenS, ↓k_Disp, ↓k_GetD, ↓k_Prm, ↓k_lmE, ↓b_back, ↓b_tupT, ↓b_tupL, ↓b_tupO, ↓b_lstT, ↓b_lstL, ↓b_lstO, ↓b_min2, ↓b_max2, ↓b_abs, ↓b_sorted, ↓b_sortedL, ↓b_sumO, ↓b_sumL, ↓b_sumT, ↓b_anyO, ↓b_allO, ↓o_eqI, ↓o_neI, ↓o_eqSt, ↓o_neSt, ↓o_eqT, ↓o_neT, ↓isN_non, ↓isN_int, ↓isN_str, ↓isN_tup, ↓isN_lst, ↓nIsN_non, ↓nIsN_int, ↓nIsN_str, ↓nIsN_tup, ↓nIsN_lst, ↓k_LamCall, ↓k_lCons, ↓lam0_nil, ↓lam1_one, ↓k_raiseC, ↓o_powW, ↓k_Idx, ↓idxq_own, ↓idxq_lst, ↓k_wMx, ↓o_isB, ↓o_notB, ↓mix_32, ↓mix_32s, ↓mix_05, ↓mix_31, ↓mix_42, ↓mix_051, ↓k_RevL, ↓revL_own, ↓revL_lst, ↓k_eLenSet, ↓k_parC3, ↓pr3_3, if_true, if_false, Bool.not_true, Bool.not_false, Bool.false_eq_true, decide_true, decide_false, String.reduceEq, decide_eq_true_eq, Int.toNat_natCast, List.length_map, List.length_cons, List.length_nil, sizeL, Nat.zero_add, Nat.reduceAdd, Nat.reduceLeDiff]
  rw [if_pos a0, decide_eq_true a1]
  simp only [↓un4_tup, ↓asS_str, ↓k_iChars, ↓k_put2C, ↓k_Fld, ↓k_setFC, ↓k_nmFC, ↓k_ffC, ↓k_Meth, ↓k_Meth0, ↓k_MethM, ↓k_MethM0, ↓k_Make, ↓k_Make0, ↓k_MakeM, ↓k_MakeM0, ↓k_Own, ↓k_EqO, ↓k_IsO, ↓k_InM, ↓k_GetM, ↓k_putMC, ↓k_putME, ↓k_delME, ↓k_DispK, ↓k_lLive, ↓k_lLvE, ↓k_lFix, ↓k_forLC, ↓k_LcL, ↓k_Lc2, ↓k_lc2b, ↓k_Fmt, ↓k_Joined, ↓k_jsNil, ↓k_jsCons, ↓k_LmV, ↓k_DcX, ↓k_ePrm, ↓src_lst, ↓src_tup, ↓k_V, ↓k_C, ↓k_Op2, ↓k_Fz, ↓k_wNil, ↓k_wCons, ↓k_Tup, ↓k_Lst, ↓k_oNo, ↓k_oPart, ↓k_Sl, ↓k_sNil, ↓k_sCons, ↓k_CB, ↓k_tYes, ↓k_tTst, ↓k_tAnd, ↓k_tOr, ↓k_tNot, ↓k_If, ↓k_And, ↓k_Or, ↓k_Not, ↓k_Neg, ↓k_Chn, ↓k_Call, ↓k_Call0, ↓k_wPerm, ↓k_iItems, ↓k_iRng1, ↓k_iRng2, ↓k_iZip, ↓k_iEnum, ↓k_iEnz, ↓k_ifC, ↓k_Lrg1, ↓k_parC, ↓k_starC, ↓k_setC, ↓k_setC2, ↓k_augC, ↓k_lcb, ↓k_Lc, ↓k_forC, ↓str_lit, ↓fz_val, ↓fz_seq, ↓rr_val, ↓rr_own, ↓sv_val, ↓sv_own, ↓asI_int, ↓asB_bl, ↓items_tup, ↓items_lst, ↓un2_tup, ↓un3_tup, ↓un5_tup, ↓uq2_tup, ↓uq3_tup, ↓uq2_lst, ↓uq3_lst, ↓uq4_tup, ↓uq5_tup, ↓star_tup, ↓star_lst, ↓pr2_2, ↓zip2_tup, ↓zip2_lst, ↓enz_2, ↓rng1_int, ↓rng2_int, ↓lrg1_int, ↓req_T, ↓ret_at, ↓raise_at, ↓call_ret, ↓call0_ret, ↓call_raise, ↓pm_0, ↓pm_01, ↓pm_10, ↓pm_012, ↓pm_021, ↓pm_102, ↓pm_120, ↓pm_201, ↓pm_210, ↓pm_0123, ↓pm_0132, ↓pm_0213, ↓pm_0231, ↓pm_0312, ↓pm_0321, ↓pm_1023, ↓pm_1032, ↓pm_1203, ↓pm_1230, ↓pm_1302, ↓pm_1320, ↓pm_2013, ↓pm_2031, ↓pm_2103, ↓pm_2130, ↓pm_2301, ↓pm_2310, ↓pm_3012, ↓pm_3021, ↓pm_3102, ↓pm_3120, ↓pm_3201, ↓pm_3210, ↓o_sub, ↓o_lt, ↓o_le, ↓o_gt, ↓o_ge, ↓o_mod, ↓o_fdiv, ↓o_pow, ↓o_mul, ↓o_rep, ↓o_repT, ↓o_add, ↓o_addS, ↓o_addT, ↓o_addLL, ↓o_addLO, ↓o_addOL, ↓o_addOO, ↓o_ixT, ↓o_ixL, ↓o_ixO, ↓atS_0, ↓atS_1, ↓atS_2, ↓atS_3, ↓atS_4, ↓slc_T, ↓slc_L, ↓slc_O, ↓ext_own, ↓ext_OO, ↓lm_own, ↓append_own, ↓b_lenT, ↓b_lenL, ↓b_lenO, ↓b_lenS, ↓k_Disp, ↓k_GetD, ↓k_Prm, ↓k_lmE, ↓b_back, ↓b_tupT, ↓b_tupL, ↓b_tupO, ↓b_lstT, ↓b_lstL, ↓b_lstO, ↓b_min2, ↓b_max2, ↓b_abs, ↓b_sorted, ↓b_sortedL, ↓b_sumO, ↓b_sumL, ↓b_sumT, ↓b_anyO, ↓b_allO, ↓o_eqI, ↓o_neI, ↓o_eqSt, ↓o_neSt, ↓o_eqT, ↓o_neT, ↓isN_non, ↓isN_int, ↓isN_str, ↓isN_tup, ↓isN_lst, ↓nIsN_non, ↓nIsN_int, ↓nIsN_str, ↓nIsN_tup, ↓nIsN_lst, ↓k_LamCall, ↓k_lCons, ↓lam0_nil, ↓lam1_one, ↓k_raiseC, ↓o_powW, ↓k_Idx, ↓idxq_own, ↓idxq_lst, ↓k_wMx, ↓o_isB, ↓o_notB, ↓mix_32, ↓mix_32s, ↓mix_05, ↓mix_31, ↓mix_42, ↓mix_051, ↓k_RevL, ↓revL_own, ↓revL_lst, ↓k_eLenSet, ↓k_parC3, ↓pr3_3, if_true, if_false, Bool.not_true, Bool.not_false, Bool.false_eq_true, decide_true, decide_false, String.reduceEq, decide_eq_true_eq, Int.toNat_natCast, List.length_map, List.length_cons, List.length_nil, sizeL, Nat.zero_add, Nat.reduceAdd, Nat.reduceLeDiff]
  by_cases g : p.1 = -1
  · rw [g, cnt_gone (by omega)]
    simp only [↓un4_tup, ↓asS_str, ↓k_iChars, ↓k_put2C, ↓k_Fld, ↓k_setFC, ↓k_nmFC, ↓k_ffC, ↓k_Meth, ↓k_Meth0, ↓k_MethM, ↓k_MethM0, ↓k_Make, ↓k_Make0, ↓k_MakeM, ↓k_MakeM0, ↓k_Own, ↓k_EqO, ↓k_IsO, ↓k_InM, ↓k_GetM, ↓k_putMC, ↓k_putME, ↓k_delME, ↓k_DispK, ↓k_lLive, ↓k_lLvE, ↓k_lFix, ↓k_forLC, ↓k_LcL, ↓k_Lc2, ↓k_lc2b, ↓k_Fmt, ↓k_Joined, ↓k_jsNil, ↓k_jsCons, ↓k_LmV, ↓k_DcX, ↓k_ePrm, ↓src_lst, ↓src_tup, ↓k_V, ↓k_C, ↓k_Op2, ↓k_Fz, ↓k_wNil, ↓k_wCons, ↓k_Tup, ↓k_Lst, ↓k_oNo, ↓k_oPart, ↓k_Sl, ↓k_sNil, ↓k_sCons, ↓k_CB, ↓k_tYes, ↓k_tTst, ↓k_tAnd, ↓k_tOr, ↓k_tNot, ↓k_If, ↓k_And, ↓k_Or, ↓k_Not, ↓k_Neg, ↓k_Chn, ↓k_Call, ↓k_Call0, ↓k_wPerm, ↓k_iItems, ↓k_iRng1, ↓k_iRng2, ↓k_iZip, ↓k_iEnum, ↓k_iEnz, ↓k_ifC, ↓k_Lrg1, ↓k_parC, ↓k_starC, ↓k_setC, ↓k_setC2, ↓k_augC, ↓k_lcb, ↓k_Lc, ↓k_forC, ↓str_lit, ↓fz_val, ↓fz_seq, ↓rr_val, ↓rr_own, ↓sv_val, ↓sv_own, ↓asI_int, ↓asB_bl, ↓items_tup, ↓items_lst, ↓un2_tup, ↓un3_tup, ↓un5_tup, ↓uq2_tup, ↓uq3_tup, ↓uq2_lst, ↓uq3_lst, ↓uq4_tup, ↓uq5_tup, ↓star_tup, ↓star_lst, ↓pr2_2, ↓zip2_tup, ↓zip2_lst, ↓enz_2, ↓rng1_int, ↓rng2_int, ↓lrg1_int, ↓req_T, ↓ret_at, ↓raise_at, ↓call_ret, ↓call0_ret, ↓call_raise, ↓pm_0, ↓pm_01, ↓pm_10, ↓pm_012, ↓pm_021, ↓pm_102, ↓pm_120, ↓pm_201, ↓pm_210, ↓pm_0123, ↓pm_0132, ↓pm_0213, ↓pm_0231, ↓pm_0312, ↓pm_0321, ↓pm_1023, ↓pm_1032, ↓pm_1203, ↓pm_1230, ↓pm_1302, ↓pm_1320, ↓pm_2013, ↓pm_2031, ↓pm_2103, ↓pm_2130, ↓pm_2301, ↓pm_2310, ↓pm_3012, ↓pm_3021, ↓pm_3102, ↓pm_3120, ↓pm_3201, ↓pm_3210, ↓o_sub, ↓o_lt, ↓o_le, ↓o_gt, ↓o_ge, ↓o_mod, ↓o_fdiv, ↓o_pow, ↓o_mul, ↓o_rep, ↓o_repT, ↓o_add, ↓o_addS, ↓o_addT, ↓o_addLL, ↓o_addLO, ↓o_addOL, ↓o_addOO, ↓o_ixT, ↓o_ixL, ↓o_ixO, ↓atS_0, ↓atS_1, ↓atS_2, ↓atS_3, ↓atS_4, ↓slc_T, ↓slc_L, ↓slc_O, ↓ext_own, ↓ext_OO, ↓lm_own, ↓append_own, ↓b_lenT, ↓b_lenL, ↓b_lenO, ↓b_lenS, ↓k_Disp, ↓k_GetD, ↓k_Prm, ↓k_lmE, ↓b_back, ↓b_tupT, ↓b_tupL, ↓b_tupO, ↓b_lstT, ↓b_lstL, ↓b_lstO, ↓b_min2, ↓b_max2, ↓b_abs, ↓b_sorted, ↓b_sortedL, ↓b_sumO, ↓b_sumL, ↓b_sumT, ↓b_anyO, ↓b_allO, ↓o_eqI, ↓o_neI, ↓o_eqSt, ↓o_neSt, ↓o_eqT, ↓o_neT, ↓isN_non, ↓isN_int, ↓isN_str, ↓isN_tup, ↓isN_lst, ↓nIsN_non, ↓nIsN_int, ↓nIsN_str, ↓nIsN_tup, ↓nIsN_lst, ↓k_LamCall, ↓k_lCons, ↓lam0_nil, ↓lam1_one, ↓k_raiseC, ↓o_powW, ↓k_Idx, ↓idxq_own, ↓idxq_lst, ↓k_wMx, ↓o_isB, ↓o_notB, ↓mix_32, ↓mix_32s, ↓mix_05, ↓mix_31, ↓mix_42, ↓mix_051, ↓k_RevL, ↓revL_own, ↓revL_lst, ↓k_eLenSet, ↓k_parC3, ↓pr3_3, if_true, if_false, Bool.not_true, Bool.not_false, Bool.false_eq_true, decide_true, decide_false, String.reduceEq, decide_eq_true_eq, Int.toNat_natCast, List.length_map, List.length_cons, List.length_nil, sizeL, Nat.zero_add, Nat.reduceAdd, Nat.reduceLeDiff]
  · obtain ⟨c, hc⟩ : ∃ c : Nat, p.1 = c := ⟨p.1.toNat, by omega⟩
    have c1 : c < ss.length := by omega
    have le : (st.count (c : Int) : Int) ≤ ss.getD c 0 := h.cap c c1
    have le2 := count_take_le (st := st) (j := j + 1) (x := (c : Int))
    have g2 : ¬ (c : Int) = -1 := by omega
    have c2 : c < (cnt ss.length (st.take j ++ [(c : Int)])).length := by rw [cnt_len]; exact c1
    simp only [↓un4_tup, ↓asS_str, ↓k_iChars, ↓k_put2C, ↓k_Fld, ↓k_setFC, ↓k_nmFC, ↓k_ffC, ↓k_Meth, ↓k_Meth0, ↓k_MethM, ↓k_MethM0, ↓k_Make, ↓k_Make0, ↓k_MakeM, ↓k_MakeM0, ↓k_Own, ↓k_EqO, ↓k_IsO, ↓k_InM, ↓k_GetM, ↓k_putMC, ↓k_putME, ↓k_delME, ↓k_DispK, ↓k_lLive, ↓k_lLvE, ↓k_lFix, ↓k_forLC, ↓k_LcL, ↓k_Lc2, ↓k_lc2b, ↓k_Fmt, ↓k_Joined, ↓k_jsNil, ↓k_jsCons, ↓k_LmV, ↓k_DcX, ↓k_ePrm, ↓src_lst, ↓src_tup, ↓k_V, ↓k_C, ↓k_Op2, ↓k_Fz, ↓k_wNil, ↓k_wCons, ↓k_Tup, ↓k_Lst, ↓k_oNo, ↓k_oPart, ↓k_Sl, ↓k_sNil, ↓k_sCons, ↓k_CB, ↓k_tYes, ↓k_tTst, ↓k_tAnd, ↓k_tOr, ↓k_tNot, ↓k_If, ↓k_And, ↓k_Or, ↓k_Not, ↓k_Neg, ↓k_Chn, ↓k_Call, ↓k_Call0, ↓k_wPerm, ↓k_iItems, ↓k_iRng1, ↓k_iRng2, ↓k_iZip, ↓k_iEnum, ↓k_iEnz, ↓k_ifC, ↓k_Lrg1, ↓k_parC, ↓k_starC, ↓k_setC, ↓k_setC2, ↓k_augC, ↓k_lcb, ↓k_Lc, ↓k_forC, ↓str_lit, ↓fz_val, ↓fz_seq, ↓rr_val, ↓rr_own, ↓sv_val, ↓sv_own, ↓asI_int, ↓asB_bl, ↓items_tup, ↓items_lst, ↓un2_tup, ↓un3_tup, ↓un5_tup, ↓uq2_tup, ↓uq3_tup, ↓uq2_lst, ↓uq3_lst, ↓uq4_tup, ↓uq5_tup, ↓star_tup, ↓star_lst, ↓pr2_2, ↓zip2_tup, ↓zip2_lst, ↓enz_2, ↓rng1_int, ↓rng2_int, ↓lrg1_int, ↓req_T, ↓ret_at, ↓raise_at, ↓call_ret, ↓call0_ret, ↓call_raise, ↓pm_0, ↓pm_01, ↓pm_10, ↓pm_012, ↓pm_021, ↓pm_102, ↓pm_120, ↓pm_201, ↓pm_210, ↓pm_0123, ↓pm_0132, ↓pm_0213, ↓pm_0231, ↓pm_0312, ↓pm_0321, ↓pm_1023, ↓pm_1032, ↓pm_1203, ↓pm_1230, ↓pm_1302, ↓pm_1320, ↓pm_2013, ↓pm_2031, ↓pm_2103, ↓pm_2130, ↓pm_2301, ↓pm_2310, ↓pm_3012, ↓pm_3021, ↓pm_3102, ↓pm_3120, ↓pm_3201, ↓pm_3210, ↓o_sub, ↓o_lt, ↓o_le, ↓o_gt, ↓o_ge, ↓o_mod, ↓o_fdiv, ↓o_pow, ↓o_mul, ↓o_rep, ↓o_repT, ↓o_add, ↓o_addS, ↓o_addT, ↓o_addLL, ↓o_addLO, ↓o_addOL, ↓o_addOO, ↓o_ixT, ↓o_ixL, ↓o_ixO, ↓atS_0, ↓atS_1, ↓atS_2, ↓atS_3, ↓atS_4, ↓slc_T, ↓slc_L, ↓slc_O, ↓ext_own, ↓ext_OO, ↓lm_own, ↓append_own, ↓b_lenT, ↓b_lenL, ↓b_lenO, ↓b_lenS, ↓k_Disp, ↓k_GetD, ↓k_Prm, ↓k_lmE, ↓b_back, ↓b_tupT, ↓b_tupL, ↓b_tupO, ↓b_lstT, ↓b_lstL, ↓b_lstO, ↓b_min2, ↓b_max2, ↓b_abs, ↓b_sorted, ↓b_sortedL, ↓b_sumO, ↓b_sumL, ↓b_sumT, ↓b_anyO, ↓b_allO, ↓o_eqI, ↓o_neI, ↓o_eqSt, ↓o_neSt, ↓o_eqT, ↓o_neT, ↓isN_non, ↓isN_int, ↓isN_str, ↓isN_tup, ↓isN_lst, ↓nIsN_non, ↓nIsN_int, ↓nIsN_str, ↓nIsN_tup, ↓nIsN_lst, ↓k_LamCall, ↓k_lCons, ↓lam0_nil, ↓lam1_one, ↓k_raiseC, ↓o_powW, ↓k_Idx, ↓idxq_own, ↓idxq_lst, ↓k_wMx, ↓o_isB, ↓o_notB, ↓mix_32, ↓mix_32s, ↓mix_05, ↓mix_31, ↓mix_42, ↓mix_051, ↓k_RevL, ↓revL_own, ↓revL_lst, ↓k_eLenSet, ↓k_parC3, ↓pr3_3, if_true, if_false, Bool.not_true, Bool.not_false, Bool.false_eq_true, decide_true, decide_false, String.reduceEq, decide_eq_true_eq, Int.toNat_natCast, List.length_map, List.length_cons, List.length_nil, sizeL, Nat.zero_add, Nat.reduceAdd, Nat.reduceLeDiff, hc, decide_eq_false g2, cnt_aug c1 (show ss.length ≤ 100 by omega), ↓atS_ints c1, ↓atS_ints c2, cnt_get c1]
    rw [← hc, tk, hc, if_neg (by omega)]
theorem counted_ok {n : Nat} {st : List Int} (hn : n ≤ 100) (h : ∀ p ∈ st, -1 ≤ p ∧ p < n) : m_counted [.int n, .tup (st.map .int)] = ret (.val (.tup ((cnt n st).map .int))) := by
  show mf_counted _ _ = _
  unfold mf_counted
  simp only [↓un4_tup, ↓asS_str, ↓k_iChars, ↓k_put2C, ↓k_Fld, ↓k_setFC, ↓k_nmFC, ↓k_ffC, ↓k_Meth, ↓k_Meth0, ↓k_MethM, ↓k_MethM0, ↓k_Make, ↓k_Make0, ↓k_MakeM, ↓k_MakeM0, ↓k_Own, ↓k_EqO, ↓k_IsO, ↓k_InM, ↓k_GetM, ↓k_putMC, ↓k_putME, ↓k_delME, ↓k_DispK, ↓k_lLive, ↓k_lLvE, ↓k_lFix, ↓k_forLC, ↓k_LcL, ↓k_Lc2, ↓k_lc2b, ↓k_Fmt, ↓k_Joined, ↓k_jsNil, ↓k_jsCons, ↓k_LmV, ↓k_DcX, ↓k_ePrm, ↓src_lst, ↓src_tup, ↓k_V, ↓k_C, ↓k_Op2, ↓k_Fz, ↓k_wNil, ↓k_wCons, ↓k_Tup, ↓k_Lst, ↓k_oNo, ↓k_oPart, ↓k_Sl, ↓k_sNil, ↓k_sCons, ↓k_CB, ↓k_tYes, ↓k_tTst, ↓k_tAnd, ↓k_tOr, ↓k_tNot, ↓k_If, ↓k_And, ↓k_Or, ↓k_Not, ↓k_Neg, ↓k_Chn, ↓k_Call, ↓k_Call0, ↓k_wPerm, ↓k_iItems, ↓k_iRng1, ↓k_iRng2, ↓k_iZip, ↓k_iEnum, ↓k_iEnz, ↓k_ifC, ↓k_Lrg1, ↓k_parC, ↓k_starC, ↓k_setC, ↓k_setC2, ↓k_augC, ↓k_lcb, ↓k_Lc, ↓k_forC, ↓str_lit, ↓fz_val, ↓fz_seq, ↓rr_val, ↓rr_own, ↓sv_val, ↓sv_own, ↓asI_int, ↓asB_bl, ↓items_tup, ↓items_lst, ↓un2_tup, ↓un3_tup, ↓un5_tup, ↓uq2_tup, ↓uq3_tup, ↓uq2_lst, ↓uq3_lst, ↓uq4_tup, ↓uq5_tup, ↓star_tup, ↓star_lst, ↓pr2_2, ↓zip2_tup, ↓zip2_lst, ↓enz_2, ↓rng1_int, ↓rng2_int, ↓lrg1_int, ↓req_T, ↓ret_at, ↓raise_at, ↓call_ret, ↓call0_ret, ↓call_raise, ↓pm_0, ↓pm_01, ↓pm_10, ↓pm_012, ↓pm_021, ↓pm_102, ↓pm_120, ↓pm_201, ↓pm_210, ↓pm_0123, ↓pm_0132, ↓pm_0213, ↓pm_0231, ↓pm_0312, ↓pm_0321, ↓pm_1023, ↓pm_1032, ↓pm_1203, ↓pm_1230, ↓pm_1302, ↓pm_1320, ↓pm_2013, ↓pm_2031, ↓pm_2103, ↓pm_2130, ↓pm_2301, ↓pm_2310, ↓pm_3012, ↓pm_3021, ↓pm_3102, ↓pm_3120, ↓pm_3201, ↓pm_3210, ↓o_sub, ↓o_lt, ↓o_le, ↓o_gt, ↓o_ge, ↓o_mod, ↓o_fdiv, ↓o_pow, ↓o_mul, ↓o_rep, ↓o_repT, ↓o_add, ↓o_addS, ↓o_addT, ↓o_addLL, ↓o_addLO, ↓o_addOL, ↓o_addOO, ↓o_ixT, ↓o_ixL, ↓o_ixO, ↓atS_0, ↓atS_1, ↓atS_2, ↓atS_3, ↓atS_4, ↓slc_T, ↓slc_L, ↓slc_O, ↓ext_own, ↓ext_OO, ↓lm_own, ↓append_own, ↓b_lenT, ↓b_lenL, ↓b_lenO, ↓b_lenS, ↓k_Disp, ↓k_GetD, ↓k_Prm, ↓k_lmE, ↓b_back, ↓b_tupT, ↓b_tupL, ↓b_tupO, ↓b_lstT, ↓b_lstL, ↓b_lstO, ↓b_min2, ↓b_max2, ↓b_abs, ↓b_sorted, ↓b_sortedL, ↓b_sumO, ↓b_sumL, ↓b_sumT, ↓b_anyO, ↓b_allO, ↓o_eqI, ↓o_neI, ↓o_eqSt, ↓o_neSt, ↓o_eqT, ↓o_neT, ↓isN_non, ↓isN_int, ↓isN_str, ↓isN_tup, ↓isN_lst, ↓nIsN_non, ↓nIsN_int, ↓nIsN_str, ↓nIsN_tup, ↓nIsN_lst, ↓k_LamCall, ↓k_lCons, ↓lam0_nil, ↓lam1_one, ↓k_raiseC, ↓o_powW, ↓k_Idx, ↓idxq_own, ↓idxq_lst, ↓k_wMx, ↓o_isB, ↓o_notB, ↓mix_32, ↓mix_32s, ↓mix_05, ↓mix_31, ↓mix_42, ↓mix_051, ↓k_RevL, ↓revL_own, ↓revL_lst, ↓k_eLenSet, ↓k_parC3, ↓pr3_3, if_true, if_false, Bool.not_true, Bool.not_false, Bool.false_eq_true, decide_true, decide_false, String.reduceEq, decide_eq_true_eq, Int.toNat_natCast, List.length_map, List.length_cons, List.length_nil, sizeL, Nat.zero_add, Nat.reduceAdd, Nat.reduceLeDiff]
  rw [req_of (by omega), rep0, ← cnt_nil (n := n),
    for_enc W.int (fun pre : List Int => SV.own (.seq ((cnt n pre).map W.int))) (fun pre p => pre ++ [p]) (fun j pre => pre = st.take j) st [] 0 (by simp) fun j p hj pre e => ?_]
  · have e : st.foldl (fun pre p => pre ++ [p]) [] = st := foldl_snoc st
    rw [e]
    exact b_tupO
  subst e
  rw [Nat.zero_add]
  have tk : st.take j ++ [p] = st.take (j + 1) := by rw [List.take_succ, hj]; rfl
  refine ⟨tk, fun kn => ?_⟩
  obtain ⟨a0, a1⟩ := h p (List.mem_of_getElem? hj)
  by_cases g : p = -1
  · rw [g, cnt_gone (by omega)]
    simp only [↓un4_tup, ↓asS_str, ↓k_iChars, ↓k_put2C, ↓k_Fld, ↓k_setFC, ↓k_nmFC, ↓k_ffC, ↓k_Meth, ↓k_Meth0, ↓k_MethM, ↓k_MethM0, ↓k_Make, ↓k_Make0, ↓k_MakeM, ↓k_MakeM0, ↓k_Own, ↓k_EqO, ↓k_IsO, ↓k_InM, ↓k_GetM, ↓k_putMC, ↓k_putME, ↓k_delME, ↓k_DispK, ↓k_lLive, ↓k_lLvE, ↓k_lFix, ↓k_forLC, ↓k_LcL, ↓k_Lc2, ↓k_lc2b, ↓k_Fmt, ↓k_Joined, ↓k_jsNil, ↓k_jsCons, ↓k_LmV, ↓k_DcX, ↓k_ePrm, ↓src_lst, ↓src_tup, ↓k_V, ↓k_C, ↓k_Op2, ↓k_Fz, ↓k_wNil, ↓k_wCons, ↓k_Tup, ↓k_Lst, ↓k_oNo, ↓k_oPart, ↓k_Sl, ↓k_sNil, ↓k_sCons, ↓k_CB, ↓k_tYes, ↓k_tTst, ↓k_tAnd, ↓k_tOr, ↓k_tNot, ↓k_If, ↓k_And, ↓k_Or, ↓k_Not, ↓k_Neg, ↓k_Chn, ↓k_Call, ↓k_Call0, ↓k_wPerm, ↓k_iItems, ↓k_iRng1, ↓k_iRng2, ↓k_iZip, ↓k_iEnum, ↓k_iEnz, ↓k_ifC, ↓k_Lrg1, ↓k_parC, ↓k_starC, ↓k_setC, ↓k_setC2, ↓k_augC, ↓k_lcb, ↓k_Lc, ↓k_forC, ↓str_lit, ↓fz_val, ↓fz_seq, ↓rr_val, ↓rr_own, ↓sv_val, ↓sv_own, ↓asI_int, ↓asB_bl, ↓items_tup, ↓items_lst, ↓un2_tup, ↓un3_tup, ↓un5_tup, ↓uq2_tup, ↓uq3_tup, ↓uq2_lst, ↓uq3_lst, ↓uq4_tup, ↓uq5_tup, ↓star_tup, ↓star_lst, ↓pr2_2, ↓zip2_tup, ↓zip2_lst, ↓enz_2, ↓rng1_int, ↓rng2_int, ↓lrg1_int, ↓req_T, ↓ret_at, ↓raise_at, ↓call_ret, ↓call0_ret, ↓call_raise, ↓pm_0, ↓pm_01, ↓pm_10, ↓pm_012, ↓pm_021, ↓pm_102, ↓pm_120, ↓pm_201, ↓pm_210, ↓pm_0123, ↓pm_0132, ↓pm_0213, ↓pm_0231, ↓pm_0312, ↓pm_0321, ↓pm_1023, ↓pm_1032, ↓pm_1203, ↓pm_1230, ↓pm_1302, ↓pm_1320, ↓pm_2013, ↓pm_2031, ↓pm_2103, ↓pm_2130, ↓pm_2301, ↓pm_2310, ↓pm_3012, ↓pm_3021, ↓pm_3102, ↓pm_3120, ↓pm_3201, ↓pm_3210, ↓o_sub, ↓o_lt, ↓o_le, ↓o_gt, ↓o_ge, ↓o_mod, ↓o_fdiv, ↓o_pow, ↓o_mul, ↓o_rep, ↓o_repT, ↓o_add, ↓o_addS, ↓o_addT, ↓o_addLL, ↓o_addLO, ↓o_addOL, ↓o_addOO, ↓o_ixT, ↓o_ixL, ↓o_ixO, ↓atS_0, ↓atS_1, ↓atS_2, ↓atS_3, ↓atS_4, ↓slc_T, ↓slc_L, ↓slc_O, ↓ext_own, ↓ext_OO, ↓lm_own, ↓append_own, ↓b_lenT, ↓b_lenL, ↓b_lenO, ↓b_lenS, ↓k_Disp, ↓k_GetD, ↓k_Prm, ↓k_lmE, ↓b_back, ↓b_tupT, ↓b_tupL, ↓b_tupO, ↓b_lstT, ↓b_lstL, ↓b_lstO, ↓b_min2, ↓b_max2, ↓b_abs, ↓b_sorted, ↓b_sortedL, ↓b_sumO, ↓b_sumL, ↓b_sumT, ↓b_anyO, ↓b_allO, ↓o_eqI, ↓o_neI, ↓o_eqSt, ↓o_neSt, ↓o_eqT, ↓o_neT, ↓isN_non, ↓isN_int, ↓isN_str, ↓isN_tup, ↓isN_lst, ↓nIsN_non, ↓nIsN_int, ↓nIsN_str, ↓nIsN_tup, ↓nIsN_lst, ↓k_LamCall, ↓k_lCons, ↓lam0_nil, ↓lam1_one, ↓k_raiseC, ↓o_powW, ↓k_Idx, ↓idxq_own, ↓idxq_lst, ↓k_wMx, ↓o_isB, ↓o_notB, ↓mix_32, ↓mix_32s, ↓mix_05, ↓mix_31, ↓mix_42, ↓mix_051, ↓k_RevL, ↓revL_own, ↓revL_lst, ↓k_eLenSet, ↓k_parC3, ↓pr3_3, if_true, if_false, Bool.not_true, Bool.not_false, Bool.false_eq_true, decide_true, decide_false, String.reduceEq, decide_eq_true_eq, Int.toNat_natCast, List.length_map, List.length_cons, List.length_nil, sizeL, Nat.zero_add, Nat.reduceAdd, Nat.reduceLeDiff]
  · obtain ⟨c, hc⟩ : ∃ c : Nat, p = c := ⟨p.toNat, by omega⟩
    have c1 : c < n := by omega
    have g2 : ¬ (c : Int) = -1 := by omega
    simp only [↓un4_tup, ↓asS_str, ↓k_iChars, ↓k_put2C, ↓k_Fld, ↓k_setFC, ↓k_nmFC, ↓k_ffC, ↓k_Meth, ↓k_Meth0, ↓k_MethM, ↓k_MethM0, ↓k_Make, ↓k_Make0, ↓k_MakeM, ↓k_MakeM0, ↓k_Own, ↓k_EqO, ↓k_IsO, ↓k_InM, ↓k_GetM, ↓k_putMC, ↓k_putME, ↓k_delME, ↓k_DispK, ↓k_lLive, ↓k_lLvE, ↓k_lFix, ↓k_forLC, ↓k_LcL, ↓k_Lc2, ↓k_lc2b, ↓k_Fmt, ↓k_Joined, ↓k_jsNil, ↓k_jsCons, ↓k_LmV, ↓k_DcX, ↓k_ePrm, ↓src_lst, ↓src_tup, ↓k_V, ↓k_C, ↓k_Op2, ↓k_Fz, ↓k_wNil, ↓k_wCons, ↓k_Tup, ↓k_Lst, ↓k_oNo, ↓k_oPart, ↓k_Sl, ↓k_sNil, ↓k_sCons, ↓k_CB, ↓k_tYes, ↓k_tTst, ↓k_tAnd, ↓k_tOr, ↓k_tNot, ↓k_If, ↓k_And, ↓k_Or, ↓k_Not, ↓k_Neg, ↓k_Chn, ↓k_Call, ↓k_Call0, ↓k_wPerm, ↓k_iItems, ↓k_iRng1, ↓k_iRng2, ↓k_iZip, ↓k_iEnum, ↓k_iEnz, ↓k_ifC, ↓k_Lrg1, ↓k_parC, ↓k_starC, ↓k_setC, ↓k_setC2, ↓k_augC, ↓k_lcb, ↓k_Lc, ↓k_forC, ↓str_lit, ↓fz_val, ↓fz_seq, ↓rr_val, ↓rr_own, ↓sv_val, ↓sv_own, ↓asI_int, ↓asB_bl, ↓items_tup, ↓items_lst, ↓un2_tup, ↓un3_tup, ↓un5_tup, ↓uq2_tup, ↓uq3_tup, ↓uq2_lst, ↓uq3_lst, ↓uq4_tup, ↓uq5_tup, ↓star_tup, ↓star_lst, ↓pr2_2, ↓zip2_tup, ↓zip2_lst, ↓enz_2, ↓rng1_int, ↓rng2_int, ↓lrg1_int, ↓req_T, ↓ret_at, ↓raise_at, ↓call_ret, ↓call0_ret, ↓call_raise, ↓pm_0, ↓pm_01, ↓pm_10, ↓pm_012, ↓pm_021, ↓pm_102, ↓pm_120, ↓pm_201, ↓pm_210, ↓pm_0123, ↓pm_0132, ↓pm_0213, ↓pm_0231, ↓pm_0312, ↓pm_0321, ↓pm_1023, ↓pm_1032, ↓pm_1203, ↓pm_1230, ↓pm_1302, ↓pm_1320, ↓pm_2013, ↓pm_2031, ↓pm_2103, ↓pm_2130, ↓pm_2301, ↓pm_2310, ↓pm_3012, ↓pm_3021, ↓pm_3102, ↓pm_3120, ↓pm_3201, ↓pm_3210, ↓o_sub, ↓o_lt, ↓o_le, ↓o_gt, ↓o_ge, ↓o_mod, ↓o_fdiv, ↓o_pow, ↓o_mul, ↓o_rep, ↓o_repT, ↓o_add, ↓o_addS, ↓o_addT, ↓o_addLL, ↓o_addLO, ↓o_addOL, ↓o_addOO, ↓o_ixT, ↓o_ixL, ↓o_ixO, ↓atS_0, ↓atS_1, ↓atS_2, ↓atS_3, ↓atS_4, ↓slc_T, ↓slc_L, ↓slc_O, ↓ext_own, ↓ext_OO, ↓lm_own, ↓append_own, ↓b_lenT, ↓b_lenL, ↓b_lenO, ↓b_lenS, ↓k_Disp, ↓k_GetD, ↓k_Prm, ↓k_lmE, ↓b_back, ↓b_tupT, ↓b_tupL, ↓b_tupO, ↓b_lstT, ↓b_lstL, ↓b_lstO, ↓b_min2, ↓b_max2, ↓b_abs, ↓b_sorted, ↓b_sortedL, ↓b_sumO, ↓b_sumL, ↓b_sumT, ↓b_anyO, ↓b_allO, ↓o_eqI, ↓o_neI, ↓o_eqSt, ↓o_neSt, ↓o_eqT, ↓o_neT, ↓isN_non, ↓isN_int, ↓isN_str, ↓isN_tup, ↓isN_lst, ↓nIsN_non, ↓nIsN_int, ↓nIsN_str, ↓nIsN_tup, ↓nIsN_lst, ↓k_LamCall, ↓k_lCons, ↓lam0_nil, ↓lam1_one, ↓k_raiseC, ↓o_powW, ↓k_Idx, ↓idxq_own, ↓idxq_lst, ↓k_wMx, ↓o_isB, ↓o_notB, ↓mix_32, ↓mix_32s, ↓mix_05, ↓mix_31, ↓mix_42, ↓mix_051, ↓k_RevL, ↓revL_own, ↓revL_lst, ↓k_eLenSet, ↓k_parC3, ↓pr3_3, if_true, if_false, Bool.not_true, Bool.not_false, Bool.false_eq_true, decide_true, decide_false, String.reduceEq, decide_eq_true_eq, Int.toNat_natCast, List.length_map, List.length_cons, List.length_nil, sizeL, Nat.zero_add, Nat.reduceAdd, Nat.reduceLeDiff, hc, decide_eq_false g2, cnt_aug c1 hn]
theorem counts_of_ok {ss st : List Int} (hs : SzOk ss) (h : StOk ss st) : m_counts_of [.tup (ss.map .int), .tup (st.map .int)] = ret (.val (.tup ((cnt ss.length st).map .int))) := by
  show mf_counts_of _ _ = _
  unfold mf_counts_of
  obtain ⟨l1, l2, s3⟩ := id hs
  simp only [↓un4_tup, ↓asS_str, ↓k_iChars, ↓k_put2C, ↓k_Fld, ↓k_setFC, ↓k_nmFC, ↓k_ffC, ↓k_Meth, ↓k_Meth0, ↓k_MethM, ↓k_MethM0, ↓k_Make, ↓k_Make0, ↓k_MakeM, ↓k_MakeM0, ↓k_Own, ↓k_EqO, ↓k_IsO, ↓k_InM, ↓k_GetM, ↓k_putMC, ↓k_putME, ↓k_delME, ↓k_DispK, ↓k_lLive, ↓k_lLvE, ↓k_lFix, ↓k_forLC, ↓k_LcL, ↓k_Lc2, ↓k_lc2b, ↓k_Fmt, ↓k_Joined, ↓k_jsNil, ↓k_jsCons, ↓k_LmV, ↓k_DcX, ↓k_ePrm, ↓src_lst, ↓src_tup, ↓k_V, ↓k_C, ↓k_Op2, ↓k_Fz, ↓k_wNil, ↓k_wCons, ↓k_Tup, ↓k_Lst, ↓k_oNo, ↓k_oPart, ↓k_Sl, ↓k_sNil, ↓k_sCons, ↓k_CB, ↓k_tYes, ↓k_tTst, ↓k_tAnd, ↓k_tOr, ↓k_tNot, ↓k_If, ↓k_And, ↓k_Or, ↓k_Not, ↓k_Neg, ↓k_Chn, ↓k_Call, ↓k_Call0, ↓k_wPerm, ↓k_iItems, ↓k_iRng1, ↓k_iRng2, ↓k_iZip, ↓k_iEnum, ↓k_iEnz, ↓k_ifC, ↓k_Lrg1, ↓k_parC, ↓k_starC, ↓k_setC, ↓k_setC2, ↓k_augC, ↓k_lcb, ↓k_Lc, ↓k_forC, ↓str_lit, ↓fz_val, ↓fz_seq, ↓rr_val, ↓rr_own, ↓sv_val, ↓sv_own, ↓asI_int, ↓asB_bl, ↓items_tup, ↓items_lst, ↓un2_tup, ↓un3_tup, ↓un5_tup, ↓uq2_tup, ↓uq3_tup, ↓uq2_lst, ↓uq3_lst, ↓uq4_tup, ↓uq5_tup, ↓star_tup, ↓star_lst, ↓pr2_2, ↓zip2_tup, ↓zip2_lst, ↓enz_2, ↓rng1_int, ↓rng2_int, ↓lrg1_int, ↓req_T, ↓ret_at, ↓raise_at, ↓call_ret, ↓call0_ret, ↓call_raise, ↓pm_0, ↓pm_01, ↓pm_10, ↓pm_012, ↓pm_021, ↓pm_102, ↓pm_120, ↓pm_201, ↓pm_210, ↓pm_0123, ↓pm_0132, ↓pm_0213, ↓pm_0231, ↓pm_0312, ↓pm_0321, ↓pm_1023, ↓pm_1032, ↓pm_1203, ↓pm_1230, ↓pm_1302, ↓pm_1320, ↓pm_2013, ↓pm_2031, ↓pm_2103, ↓pm_2130, ↓pm_2301, ↓pm_2310, ↓pm_3012, ↓pm_3021, ↓pm_3102, ↓pm_3120, ↓pm_3201, ↓pm_3210, ↓o_sub, ↓o_lt, ↓o_le, ↓o_gt, ↓o_ge, ↓o_mod, ↓o_fdiv, ↓o_pow, ↓o_mul, ↓o_rep, ↓o_repT, ↓o_add, ↓o_addS, ↓o_addT, ↓o_addLL, ↓o_addLO, ↓o_addOL, ↓o_addOO, ↓o_ixT, ↓o_ixL, ↓o_ixO, ↓atS_0, ↓atS_1, ↓atS_2, ↓atS_3, ↓atS_4, ↓slc_T, ↓slc_L, ↓slc_O, ↓ext_own, ↓ext_OO, ↓lm_own, ↓append_own, ↓b_lenT, ↓b_lenL, ↓b_lenO, ↓b_lenS, ↓k_Disp, ↓k_GetD, ↓k_Prm, ↓k_lmE, ↓b_back, ↓b_tupT, ↓b_tupL, ↓b_tupO, ↓b_lstT, ↓b_lstL, ↓b_lstO, ↓b_min2, ↓b_max2, ↓b_abs, ↓b_sorted, ↓b_sortedL, ↓b_sumO, ↓b_sumL, ↓b_sumT, ↓b_anyO, ↓b_allO, ↓o_eqI, ↓o_neI, ↓o_eqSt, ↓o_neSt, ↓o_eqT, ↓o_neT, ↓isN_non, ↓isN_int, ↓isN_str, ↓isN_tup, ↓isN_lst, ↓nIsN_non, ↓nIsN_int, ↓nIsN_str, ↓nIsN_tup, ↓nIsN_lst, ↓k_LamCall, ↓k_lCons, ↓lam0_nil, ↓lam1_one, ↓k_raiseC, ↓o_powW, ↓k_Idx, ↓idxq_own, ↓idxq_lst, ↓k_wMx, ↓o_isB, ↓o_notB, ↓mix_32, ↓mix_32s, ↓mix_05, ↓mix_31, ↓mix_42, ↓mix_051, ↓k_RevL, ↓revL_own, ↓revL_lst, ↓k_eLenSet, ↓k_parC3, ↓pr3_3, if_true, if_false, Bool.not_true, Bool.not_false, Bool.false_eq_true, decide_true, decide_false, String.reduceEq, decide_eq_true_eq, Int.toNat_natCast, List.length_map, List.length_cons, List.length_nil, sizeL, Nat.zero_add, Nat.reduceAdd, Nat.reduceLeDiff, look_stand_ok hs h, counted_ok (show ss.length ≤ 100 by omega) h.at_]
theorem getD_ok {ss : List Int} {c : Nat} (sz : ∀ s ∈ ss, 1 ≤ s ∧ s ≤ 40) (h : c < ss.length) : 1 ≤ ss.getD c 0 ∧ ss.getD c 0 ≤ 40 := by
  rw [List.getD_eq_getElem?_getD, List.getElem?_eq_getElem h]
  exact sz _ (List.getElem_mem h)
theorem flat_rep (n : Nat) (w : W) : (List.replicate n [w]).flatten = List.replicate n w := by
  induction n with
  | zero => rfl
  | succ n ih => rw [List.replicate_succ, List.flatten_cons, ih, List.replicate_succ]; rfl
/-! ### what stands before is not moved by what stands behind -/
/-! ### stands drawn -/
theorem st_gone {ss st : List Int} (h : StOk ss st) (l : st.length < 60) : StOk ss (st ++ [-1]) :=
  ⟨by rw [List.length_append]; exact l, fun p hp => by
    rcases List.mem_append.mp hp with hp | hp
    · exact h.at_ p hp
    · rw [List.mem_singleton.mp hp]; omega, fun c hc => by
    rw [List.count_append, List.count_singleton, if_neg (by simp)]
    exact h.cap c hc⟩
theorem st_snoc {ss st : List Int} {c : Nat} (h : StOk ss st) (l : st.length < 60) (hc : c < ss.length) (hk : (st.count (c : Int) : Int) < ss.getD c 0) : StOk ss (st ++ [(c : Int)]) :=
  ⟨by rw [List.length_append]; exact l, fun p hp => by
    rcases List.mem_append.mp hp with hp | hp
    · exact h.at_ p hp
    · rw [List.mem_singleton.mp hp]; omega, fun i hi => by
    rw [List.count_append, List.count_singleton]
    by_cases e : (c : Int) = (i : Int)
    · have e2 : c = i := by omega
      subst e2
      simp only [BEq.rfl, if_true]
      omega
    · rw [if_neg (by simpa using e)]
      exact h.cap i hi⟩
theorem st_nil {ss : List Int} (sz : ∀ s ∈ ss, 1 ≤ s ∧ s ≤ 40) : StOk ss [] := ⟨by simp, fun p hp => (by cases hp), fun c hc => (by have z := getD_ok sz hc; rw [List.count_nil]; omega)⟩
theorem law_stand_dr {ss : List Int} {mm g : Int} (hs : SzOk ss) (m0 : 0 ≤ mm) (m1 : mm ≤ 60) (g0 : 0 ≤ g) (g1 : g ≤ 1) : Dr 100 (fun p => m__law_stand [.ref p, .tup (ss.map .int), .int mm, .int g]) fun r => ∃ st : List Int, r = .val (.tup (st.map .int)) ∧ StOk ss st ∧ (st.length : Int) ≤ mm ∧ (g = 0 → ∀ x ∈ st, 0 ≤ x) := by
  intro p n h Q E b hn q
  obtain ⟨l1, l2, s3⟩ := id hs
  show mf__law_stand (.ref p) (.tup (ss.map .int)) (.int mm) (.int g) h Q E
  unfold mf__law_stand
  simp only [↓un4_tup, ↓asS_str, ↓k_iChars, ↓k_put2C, ↓k_Fld, ↓k_setFC, ↓k_nmFC, ↓k_ffC, ↓k_Meth, ↓k_Meth0, ↓k_MethM, ↓k_MethM0, ↓k_Make, ↓k_Make0, ↓k_MakeM, ↓k_MakeM0, ↓k_Own, ↓k_EqO, ↓k_IsO, ↓k_InM, ↓k_GetM, ↓k_putMC, ↓k_putME, ↓k_delME, ↓k_DispK, ↓k_lLive, ↓k_lLvE, ↓k_lFix, ↓k_forLC, ↓k_LcL, ↓k_Lc2, ↓k_lc2b, ↓k_Fmt, ↓k_Joined, ↓k_jsNil, ↓k_jsCons, ↓k_LmV, ↓k_DcX, ↓k_ePrm, ↓src_lst, ↓src_tup, ↓k_V, ↓k_C, ↓k_Op2, ↓k_Fz, ↓k_wNil, ↓k_wCons, ↓k_Tup, ↓k_Lst, ↓k_oNo, ↓k_oPart, ↓k_Sl, ↓k_sNil, ↓k_sCons, ↓k_CB, ↓k_tYes, ↓k_tTst, ↓k_tAnd, ↓k_tOr, ↓k_tNot, ↓k_If, ↓k_And, ↓k_Or, ↓k_Not, ↓k_Neg, ↓k_Chn, ↓k_Call, ↓k_Call0, ↓k_wPerm, ↓k_iItems, ↓k_iRng1, ↓k_iRng2, ↓k_iZip, ↓k_iEnum, ↓k_iEnz, ↓k_ifC, ↓k_Lrg1, ↓k_parC, ↓k_starC, ↓k_setC, ↓k_setC2, ↓k_augC, ↓k_lcb, ↓k_Lc, ↓k_forC, ↓str_lit, ↓fz_val, ↓fz_seq, ↓rr_val, ↓rr_own, ↓sv_val, ↓sv_own, ↓asI_int, ↓asB_bl, ↓items_tup, ↓items_lst, ↓un2_tup, ↓un3_tup, ↓un5_tup, ↓uq2_tup, ↓uq3_tup, ↓uq2_lst, ↓uq3_lst, ↓uq4_tup, ↓uq5_tup, ↓star_tup, ↓star_lst, ↓pr2_2, ↓zip2_tup, ↓zip2_lst, ↓enz_2, ↓rng1_int, ↓rng2_int, ↓lrg1_int, ↓req_T, ↓ret_at, ↓raise_at, ↓call_ret, ↓call0_ret, ↓call_raise, ↓pm_0, ↓pm_01, ↓pm_10, ↓pm_012, ↓pm_021, ↓pm_102, ↓pm_120, ↓pm_201, ↓pm_210, ↓pm_0123, ↓pm_0132, ↓pm_0213, ↓pm_0231, ↓pm_0312, ↓pm_0321, ↓pm_1023, ↓pm_1032, ↓pm_1203, ↓pm_1230, ↓pm_1302, ↓pm_1320, ↓pm_2013, ↓pm_2031, ↓pm_2103, ↓pm_2130, ↓pm_2301, ↓pm_2310, ↓pm_3012, ↓pm_3021, ↓pm_3102, ↓pm_3120, ↓pm_3201, ↓pm_3210, ↓o_sub, ↓o_lt, ↓o_le, ↓o_gt, ↓o_ge, ↓o_mod, ↓o_fdiv, ↓o_pow, ↓o_mul, ↓o_rep, ↓o_repT, ↓o_add, ↓o_addS, ↓o_addT, ↓o_addLL, ↓o_addLO, ↓o_addOL, ↓o_addOO, ↓o_ixT, ↓o_ixL, ↓o_ixO, ↓atS_0, ↓atS_1, ↓atS_2, ↓atS_3, ↓atS_4, ↓slc_T, ↓slc_L, ↓slc_O, ↓ext_own, ↓ext_OO, ↓lm_own, ↓append_own, ↓b_lenT, ↓b_lenL, ↓b_lenO, ↓b_lenS, ↓k_Disp, ↓k_GetD, ↓k_Prm, ↓k_lmE, ↓b_back, ↓b_tupT, ↓b_tupL, ↓b_tupO, ↓b_lstT, ↓b_lstL, ↓b_lstO, ↓b_min2, ↓b_max2, ↓b_abs, ↓b_sorted, ↓b_sortedL, ↓b_sumO, ↓b_sumL, ↓b_sumT, ↓b_anyO, ↓b_allO, ↓o_eqI, ↓o_neI, ↓o_eqSt, ↓o_neSt, ↓o_eqT, ↓o_neT, ↓isN_non, ↓isN_int, ↓isN_str, ↓isN_tup, ↓isN_lst, ↓nIsN_non, ↓nIsN_int, ↓nIsN_str, ↓nIsN_tup, ↓nIsN_lst, ↓k_LamCall, ↓k_lCons, ↓lam0_nil, ↓lam1_one, ↓k_raiseC, ↓o_powW, ↓k_Idx, ↓idxq_own, ↓idxq_lst, ↓k_wMx, ↓o_isB, ↓o_notB, ↓mix_32, ↓mix_32s, ↓mix_05, ↓mix_31, ↓mix_42, ↓mix_051, ↓k_RevL, ↓revL_own, ↓revL_lst, ↓k_eLenSet, ↓k_parC3, ↓pr3_3, if_true, if_false, Bool.not_true, Bool.not_false, Bool.false_eq_true, decide_true, decide_false, String.reduceEq, decide_eq_true_eq, Int.toNat_natCast, List.length_map, List.length_cons, List.length_nil, sizeL, Nat.zero_add, Nat.reduceAdd, Nat.reduceLeDiff]
  rw [req_of (by omega)]
  refine (take_dr (by omega) (by omega)).call b (by omega) fun r h1 ⟨k, e, k0, k1⟩ b1 t1 => ?_
  subst e
  rw [rep0, ← cnt_nil (n := ss.length)]
  simp only [↓un4_tup, ↓asS_str, ↓k_iChars, ↓k_put2C, ↓k_Fld, ↓k_setFC, ↓k_nmFC, ↓k_ffC, ↓k_Meth, ↓k_Meth0, ↓k_MethM, ↓k_MethM0, ↓k_Make, ↓k_Make0, ↓k_MakeM, ↓k_MakeM0, ↓k_Own, ↓k_EqO, ↓k_IsO, ↓k_InM, ↓k_GetM, ↓k_putMC, ↓k_putME, ↓k_delME, ↓k_DispK, ↓k_lLive, ↓k_lLvE, ↓k_lFix, ↓k_forLC, ↓k_LcL, ↓k_Lc2, ↓k_lc2b, ↓k_Fmt, ↓k_Joined, ↓k_jsNil, ↓k_jsCons, ↓k_LmV, ↓k_DcX, ↓k_ePrm, ↓src_lst, ↓src_tup, ↓k_V, ↓k_C, ↓k_Op2, ↓k_Fz, ↓k_wNil, ↓k_wCons, ↓k_Tup, ↓k_Lst, ↓k_oNo, ↓k_oPart, ↓k_Sl, ↓k_sNil, ↓k_sCons, ↓k_CB, ↓k_tYes, ↓k_tTst, ↓k_tAnd, ↓k_tOr, ↓k_tNot, ↓k_If, ↓k_And, ↓k_Or, ↓k_Not, ↓k_Neg, ↓k_Chn, ↓k_Call, ↓k_Call0, ↓k_wPerm, ↓k_iItems, ↓k_iRng1, ↓k_iRng2, ↓k_iZip, ↓k_iEnum, ↓k_iEnz, ↓k_ifC, ↓k_Lrg1, ↓k_parC, ↓k_starC, ↓k_setC, ↓k_setC2, ↓k_augC, ↓k_lcb, ↓k_Lc, ↓k_forC, ↓str_lit, ↓fz_val, ↓fz_seq, ↓rr_val, ↓rr_own, ↓sv_val, ↓sv_own, ↓asI_int, ↓asB_bl, ↓items_tup, ↓items_lst, ↓un2_tup, ↓un3_tup, ↓un5_tup, ↓uq2_tup, ↓uq3_tup, ↓uq2_lst, ↓uq3_lst, ↓uq4_tup, ↓uq5_tup, ↓star_tup, ↓star_lst, ↓pr2_2, ↓zip2_tup, ↓zip2_lst, ↓enz_2, ↓rng1_int, ↓rng2_int, ↓lrg1_int, ↓req_T, ↓ret_at, ↓raise_at, ↓call_ret, ↓call0_ret, ↓call_raise, ↓pm_0, ↓pm_01, ↓pm_10, ↓pm_012, ↓pm_021, ↓pm_102, ↓pm_120, ↓pm_201, ↓pm_210, ↓pm_0123, ↓pm_0132, ↓pm_0213, ↓pm_0231, ↓pm_0312, ↓pm_0321, ↓pm_1023, ↓pm_1032, ↓pm_1203, ↓pm_1230, ↓pm_1302, ↓pm_1320, ↓pm_2013, ↓pm_2031, ↓pm_2103, ↓pm_2130, ↓pm_2301, ↓pm_2310, ↓pm_3012, ↓pm_3021, ↓pm_3102, ↓pm_3120, ↓pm_3201, ↓pm_3210, ↓o_sub, ↓o_lt, ↓o_le, ↓o_gt, ↓o_ge, ↓o_mod, ↓o_fdiv, ↓o_pow, ↓o_mul, ↓o_rep, ↓o_repT, ↓o_add, ↓o_addS, ↓o_addT, ↓o_addLL, ↓o_addLO, ↓o_addOL, ↓o_addOO, ↓o_ixT, ↓o_ixL, ↓o_ixO, ↓atS_0, ↓atS_1, ↓atS_2, ↓atS_3, ↓atS_4, ↓slc_T, ↓slc_L, ↓slc_O, ↓ext_own, ↓ext_OO, ↓lm_own, ↓append_own, ↓b_lenT, ↓b_lenL, ↓b_lenO, ↓b_lenS, ↓k_Disp, ↓k_GetD, ↓k_Prm, ↓k_lmE, ↓b_back, ↓b_tupT, ↓b_tupL, ↓b_tupO, ↓b_lstT, ↓b_lstL, ↓b_lstO, ↓b_min2, ↓b_max2, ↓b_abs, ↓b_sorted, ↓b_sortedL, ↓b_sumO, ↓b_sumL, ↓b_sumT, ↓b_anyO, ↓b_allO, ↓o_eqI, ↓o_neI, ↓o_eqSt, ↓o_neSt, ↓o_eqT, ↓o_neT, ↓isN_non, ↓isN_int, ↓isN_str, ↓isN_tup, ↓isN_lst, ↓nIsN_non, ↓nIsN_int, ↓nIsN_str, ↓nIsN_tup, ↓nIsN_lst, ↓k_LamCall, ↓k_lCons, ↓lam0_nil, ↓lam1_one, ↓k_raiseC, ↓o_powW, ↓k_Idx, ↓idxq_own, ↓idxq_lst, ↓k_wMx, ↓o_isB, ↓o_notB, ↓mix_32, ↓mix_32s, ↓mix_05, ↓mix_31, ↓mix_42, ↓mix_051, ↓k_RevL, ↓revL_own, ↓revL_lst, ↓k_eLenSet, ↓k_parC3, ↓pr3_3, if_true, if_false, Bool.not_true, Bool.not_false, Bool.false_eq_true, decide_true, decide_false, String.reduceEq, decide_eq_true_eq, Int.toNat_natCast, List.length_map, List.length_cons, List.length_nil, sizeL, Nat.zero_add, Nat.reduceAdd, Nat.reduceLeDiff]
  refine ⟨by omega, for_wp (fun ws s h' => ∃ st : List Int, s = (W.tup (st.map .int), SV.own (.seq ((cnt ss.length st).map .int))) ∧ StOk ss st ∧ st.length + ws.length ≤ mm.toNat ∧ (g = 0 → ∀ x ∈ st, 0 ≤ x) ∧ Bag (n + 100 - ws.length) h' p ∧ Bt p h h') (fun s h' ⟨st, e, o, l, gg, b2, t2⟩ => ?_) (fun w ws s h' kn ⟨st, e, o, l, gg, b2, t2⟩ hk => ?_) _ _ _ ⟨[], rfl, st_nil s3, by rw [rngW_len]; show 0 + _ ≤ _; omega, fun _ x hx => (by cases hx), b1.le (by rw [rngW_len]; omega), t1⟩⟩
  · subst e
    exact q _ _ ⟨st, rfl, o, by rw [List.length_nil] at l; omega, gg⟩ b2 t2
  · subst e
    rw [List.length_cons] at l b2
    have fin : ∀ st' : List Int, StOk ss st' → st'.length ≤ st.length + 1 → (g = 0 → ∀ x ∈ st', 0 ≤ x) → ∀ h2, Bag (n + 100 - ws.length) h2 p → Bt p h h2 → kn (W.tup (st'.map .int), SV.own (.seq ((cnt ss.length st').map .int))) h2 Q E := fun st' o' l' g' h2 b3 t3 => hk _ _ ⟨st', rfl, o', by omega, g', b3, t3⟩
    refine (take_dr (by omega) (by omega)).call b2 (by omega) fun r h3 ⟨k, e, k0, k1⟩ b3 t3 => ?_
    subst e
    have b3 := b3.le (show n + 100 - (ws.length + 1) + 1 ≤ n + 100 - ws.length by omega)
    simp only [↓un4_tup, ↓asS_str, ↓k_iChars, ↓k_put2C, ↓k_Fld, ↓k_setFC, ↓k_nmFC, ↓k_ffC, ↓k_Meth, ↓k_Meth0, ↓k_MethM, ↓k_MethM0, ↓k_Make, ↓k_Make0, ↓k_MakeM, ↓k_MakeM0, ↓k_Own, ↓k_EqO, ↓k_IsO, ↓k_InM, ↓k_GetM, ↓k_putMC, ↓k_putME, ↓k_delME, ↓k_DispK, ↓k_lLive, ↓k_lLvE, ↓k_lFix, ↓k_forLC, ↓k_LcL, ↓k_Lc2, ↓k_lc2b, ↓k_Fmt, ↓k_Joined, ↓k_jsNil, ↓k_jsCons, ↓k_LmV, ↓k_DcX, ↓k_ePrm, ↓src_lst, ↓src_tup, ↓k_V, ↓k_C, ↓k_Op2, ↓k_Fz, ↓k_wNil, ↓k_wCons, ↓k_Tup, ↓k_Lst, ↓k_oNo, ↓k_oPart, ↓k_Sl, ↓k_sNil, ↓k_sCons, ↓k_CB, ↓k_tYes, ↓k_tTst, ↓k_tAnd, ↓k_tOr, ↓k_tNot, ↓k_If, ↓k_And, ↓k_Or, ↓k_Not, ↓k_Neg, ↓k_Chn, ↓k_Call, ↓k_Call0, ↓k_wPerm, ↓k_iItems, ↓k_iRng1, ↓k_iRng2, ↓k_iZip, ↓k_iEnum, ↓k_iEnz, ↓k_ifC, ↓k_Lrg1, ↓k_parC, ↓k_starC, ↓k_setC, ↓k_setC2, ↓k_augC, ↓k_lcb, ↓k_Lc, ↓k_forC, ↓str_lit, ↓fz_val, ↓fz_seq, ↓rr_val, ↓rr_own, ↓sv_val, ↓sv_own, ↓asI_int, ↓asB_bl, ↓items_tup, ↓items_lst, ↓un2_tup, ↓un3_tup, ↓un5_tup, ↓uq2_tup, ↓uq3_tup, ↓uq2_lst, ↓uq3_lst, ↓uq4_tup, ↓uq5_tup, ↓star_tup, ↓star_lst, ↓pr2_2, ↓zip2_tup, ↓zip2_lst, ↓enz_2, ↓rng1_int, ↓rng2_int, ↓lrg1_int, ↓req_T, ↓ret_at, ↓raise_at, ↓call_ret, ↓call0_ret, ↓call_raise, ↓pm_0, ↓pm_01, ↓pm_10, ↓pm_012, ↓pm_021, ↓pm_102, ↓pm_120, ↓pm_201, ↓pm_210, ↓pm_0123, ↓pm_0132, ↓pm_0213, ↓pm_0231, ↓pm_0312, ↓pm_0321, ↓pm_1023, ↓pm_1032, ↓pm_1203, ↓pm_1230, ↓pm_1302, ↓pm_1320, ↓pm_2013, ↓pm_2031, ↓pm_2103, ↓pm_2130, ↓pm_2301, ↓pm_2310, ↓pm_3012, ↓pm_3021, ↓pm_3102, ↓pm_3120, ↓pm_3201, ↓pm_3210, ↓o_sub, ↓o_lt, ↓o_le, ↓o_gt, ↓o_ge, ↓o_mod, ↓o_fdiv, ↓o_pow, ↓o_mul, ↓o_rep, ↓o_repT, ↓o_add, ↓o_addS, ↓o_addT, ↓o_addLL, ↓o_addLO, ↓o_addOL, ↓o_addOO, ↓o_ixT, ↓o_ixL, ↓o_ixO, ↓atS_0, ↓atS_1, ↓atS_2, ↓atS_3, ↓atS_4, ↓slc_T, ↓slc_L, ↓slc_O, ↓ext_own, ↓ext_OO, ↓lm_own, ↓append_own, ↓b_lenT, ↓b_lenL, ↓b_lenO, ↓b_lenS, ↓k_Disp, ↓k_GetD, ↓k_Prm, ↓k_lmE, ↓b_back, ↓b_tupT, ↓b_tupL, ↓b_tupO, ↓b_lstT, ↓b_lstL, ↓b_lstO, ↓b_min2, ↓b_max2, ↓b_abs, ↓b_sorted, ↓b_sortedL, ↓b_sumO, ↓b_sumL, ↓b_sumT, ↓b_anyO, ↓b_allO, ↓o_eqI, ↓o_neI, ↓o_eqSt, ↓o_neSt, ↓o_eqT, ↓o_neT, ↓isN_non, ↓isN_int, ↓isN_str, ↓isN_tup, ↓isN_lst, ↓nIsN_non, ↓nIsN_int, ↓nIsN_str, ↓nIsN_tup, ↓nIsN_lst, ↓k_LamCall, ↓k_lCons, ↓lam0_nil, ↓lam1_one, ↓k_raiseC, ↓o_powW, ↓k_Idx, ↓idxq_own, ↓idxq_lst, ↓k_wMx, ↓o_isB, ↓o_notB, ↓mix_32, ↓mix_32s, ↓mix_05, ↓mix_31, ↓mix_42, ↓mix_051, ↓k_RevL, ↓revL_own, ↓revL_lst, ↓k_eLenSet, ↓k_parC3, ↓pr3_3, if_true, if_false, Bool.not_true, Bool.not_false, Bool.false_eq_true, decide_true, decide_false, String.reduceEq, decide_eq_true_eq, Int.toNat_natCast, List.length_map, List.length_cons, List.length_nil, sizeL, Nat.zero_add, Nat.reduceAdd, Nat.reduceLeDiff]
    by_cases z : k - g < 0
    · rw [if_pos z, req_of (by omega)]
      have z2 : k - g = -1 := by omega
      have o2 := fin (st ++ [-1]) (st_gone o (by omega)) (by rw [List.length_append]; exact Nat.le_refl _) (fun g' => by omega) h3 b3 (t2.trans t3)
      rw [cnt_gone (by omega), List.map_append] at o2
      exact o2
    · rw [if_neg z]
      obtain ⟨c, hc⟩ : ∃ c : Nat, k - g = c := ⟨(k - g).toNat, by omega⟩
      have c1 : c < ss.length := by omega
      have c2 : c < (cnt ss.length st).length := by rw [cnt_len]; exact c1
      rw [hc]
      simp only [↓un4_tup, ↓asS_str, ↓k_iChars, ↓k_put2C, ↓k_Fld, ↓k_setFC, ↓k_nmFC, ↓k_ffC, ↓k_Meth, ↓k_Meth0, ↓k_MethM, ↓k_MethM0, ↓k_Make, ↓k_Make0, ↓k_MakeM, ↓k_MakeM0, ↓k_Own, ↓k_EqO, ↓k_IsO, ↓k_InM, ↓k_GetM, ↓k_putMC, ↓k_putME, ↓k_delME, ↓k_DispK, ↓k_lLive, ↓k_lLvE, ↓k_lFix, ↓k_forLC, ↓k_LcL, ↓k_Lc2, ↓k_lc2b, ↓k_Fmt, ↓k_Joined, ↓k_jsNil, ↓k_jsCons, ↓k_LmV, ↓k_DcX, ↓k_ePrm, ↓src_lst, ↓src_tup, ↓k_V, ↓k_C, ↓k_Op2, ↓k_Fz, ↓k_wNil, ↓k_wCons, ↓k_Tup, ↓k_Lst, ↓k_oNo, ↓k_oPart, ↓k_Sl, ↓k_sNil, ↓k_sCons, ↓k_CB, ↓k_tYes, ↓k_tTst, ↓k_tAnd, ↓k_tOr, ↓k_tNot, ↓k_If, ↓k_And, ↓k_Or, ↓k_Not, ↓k_Neg, ↓k_Chn, ↓k_Call, ↓k_Call0, ↓k_wPerm, ↓k_iItems, ↓k_iRng1, ↓k_iRng2, ↓k_iZip, ↓k_iEnum, ↓k_iEnz, ↓k_ifC, ↓k_Lrg1, ↓k_parC, ↓k_starC, ↓k_setC, ↓k_setC2, ↓k_augC, ↓k_lcb, ↓k_Lc, ↓k_forC, ↓str_lit, ↓fz_val, ↓fz_seq, ↓rr_val, ↓rr_own, ↓sv_val, ↓sv_own, ↓asI_int, ↓asB_bl, ↓items_tup, ↓items_lst, ↓un2_tup, ↓un3_tup, ↓un5_tup, ↓uq2_tup, ↓uq3_tup, ↓uq2_lst, ↓uq3_lst, ↓uq4_tup, ↓uq5_tup, ↓star_tup, ↓star_lst, ↓pr2_2, ↓zip2_tup, ↓zip2_lst, ↓enz_2, ↓rng1_int, ↓rng2_int, ↓lrg1_int, ↓req_T, ↓ret_at, ↓raise_at, ↓call_ret, ↓call0_ret, ↓call_raise, ↓pm_0, ↓pm_01, ↓pm_10, ↓pm_012, ↓pm_021, ↓pm_102, ↓pm_120, ↓pm_201, ↓pm_210, ↓pm_0123, ↓pm_0132, ↓pm_0213, ↓pm_0231, ↓pm_0312, ↓pm_0321, ↓pm_1023, ↓pm_1032, ↓pm_1203, ↓pm_1230, ↓pm_1302, ↓pm_1320, ↓pm_2013, ↓pm_2031, ↓pm_2103, ↓pm_2130, ↓pm_2301, ↓pm_2310, ↓pm_3012, ↓pm_3021, ↓pm_3102, ↓pm_3120, ↓pm_3201, ↓pm_3210, ↓o_sub, ↓o_lt, ↓o_le, ↓o_gt, ↓o_ge, ↓o_mod, ↓o_fdiv, ↓o_pow, ↓o_mul, ↓o_rep, ↓o_repT, ↓o_add, ↓o_addS, ↓o_addT, ↓o_addLL, ↓o_addLO, ↓o_addOL, ↓o_addOO, ↓o_ixT, ↓o_ixL, ↓o_ixO, ↓atS_0, ↓atS_1, ↓atS_2, ↓atS_3, ↓atS_4, ↓slc_T, ↓slc_L, ↓slc_O, ↓ext_own, ↓ext_OO, ↓lm_own, ↓append_own, ↓b_lenT, ↓b_lenL, ↓b_lenO, ↓b_lenS, ↓k_Disp, ↓k_GetD, ↓k_Prm, ↓k_lmE, ↓b_back, ↓b_tupT, ↓b_tupL, ↓b_tupO, ↓b_lstT, ↓b_lstL, ↓b_lstO, ↓b_min2, ↓b_max2, ↓b_abs, ↓b_sorted, ↓b_sortedL, ↓b_sumO, ↓b_sumL, ↓b_sumT, ↓b_anyO, ↓b_allO, ↓o_eqI, ↓o_neI, ↓o_eqSt, ↓o_neSt, ↓o_eqT, ↓o_neT, ↓isN_non, ↓isN_int, ↓isN_str, ↓isN_tup, ↓isN_lst, ↓nIsN_non, ↓nIsN_int, ↓nIsN_str, ↓nIsN_tup, ↓nIsN_lst, ↓k_LamCall, ↓k_lCons, ↓lam0_nil, ↓lam1_one, ↓k_raiseC, ↓o_powW, ↓k_Idx, ↓idxq_own, ↓idxq_lst, ↓k_wMx, ↓o_isB, ↓o_notB, ↓mix_32, ↓mix_32s, ↓mix_05, ↓mix_31, ↓mix_42, ↓mix_051, ↓k_RevL, ↓revL_own, ↓revL_lst, ↓k_eLenSet, ↓k_parC3, ↓pr3_3, if_true, if_false, Bool.not_true, Bool.not_false, Bool.false_eq_true, decide_true, decide_false, String.reduceEq, decide_eq_true_eq, Int.toNat_natCast, List.length_map, List.length_cons, List.length_nil, sizeL, Nat.zero_add, Nat.reduceAdd, Nat.reduceLeDiff, ↓atS_ints c1, ↓atS_ints c2, cnt_get c1]
      by_cases y : (st.count (c : Int) : Int) < ss.getD c 0
      · rw [if_pos y, set_own (by rw [List.length_map]; exact c2), set_map, req_of (by omega)]
        have o2 := fin (st ++ [(c : Int)]) (st_snoc o (by omega) c1 y) (by rw [List.length_append]; exact Nat.le_refl _) (fun g' x hx => by
          rcases List.mem_append.mp hx with hx | hx
          · exact gg g' x hx
          · rw [List.mem_singleton.mp hx]; omega) h3 b3 (t2.trans t3)
        rw [← cnt_snoc c1, cnt_get c1, List.map_append] at o2
        exact o2
      · rw [if_neg y]
        exact fin st o (by omega) gg h3 b3 (t2.trans t3)
end Ab
namespace Ab
open PySem PySem.Spec PyProof.Rows L2 RZ
/-! ### how many stand in each cask -/
end Ab
namespace Ab
open PySem PySem.Spec PyProof.Rows L2 RZ
def mf_stand_of (x_sizes x_counts : W) : MC :=
  ((eCall m_look_counts (wCons (eFz (eV (.val x_sizes))) (wCons (eFz (eV (.val x_counts))) wNil))) fun _ => (ifC (tTst (eOp2 oGt (eCB oSumA (sCons (eV (.val x_counts)) sNil)) (eC (.int 60)))) (raiseC "TooMany" "too many" ["most"] (wCons (eFz (eC (.int 60))) wNil)) ((eCB oTupC (sCons (eLc2 (lFix (iEnum (eFz (eV (.val x_counts))))) fun w1 acc kk => un2 w1 fun x_cask x_many => lc2b tYes (lFix (iRng1 (sCons (eV (.val x_many)) sNil))) (fun x_drop kk => lcb tYes (eFz (eV (.val x_cask))) kk) acc kk) sNil)) ret)))
def m_stand_of : List W → MC
  | [x_sizes, x_counts] => mf_stand_of x_sizes x_counts
  | _ => bad
def mf_room (x_sizes x_counts : W) : MC :=
  ((eCall m_look_counts (wCons (eFz (eV (.val x_sizes))) (wCons (eFz (eV (.val x_counts))) wNil))) fun _ => ((eCB oTupC (sCons (eLc (iZip (wCons (eFz (eV (.val x_sizes))) (wCons (eFz (eV (.val x_counts))) wNil))) fun w1 kk => un2 w1 fun x_size x_many => lcb tYes (eFz (eOp2 oSub (eV (.val x_size)) (eV (.val x_many)))) kk) sNil)) ret))
def m_room : List W → MC
  | [x_sizes, x_counts] => mf_room x_sizes x_counts
  | _ => bad
def mf_hidden_v1 (x_stand x_many : W) : MC :=
  (ifC (tNot (tTst (eChn (fun i j => decide (i ≤ j)) (fun i j => decide (i ≤ j)) (eC (.int 0)) (eV (.val x_many)) (eCB oLen (sCons (eV (.val x_stand)) sNil))))) (raiseC "NoDrop" "no drop" ["rank"] (wCons (eFz (eV (.val x_many))) wNil)) ((eSl (eV (.val x_stand)) oNo (oPart (eV (.val x_many)))) ret))
def m_hidden_v1 : List W → MC
  | [x_stand, x_many] => mf_hidden_v1 x_stand x_many
  | _ => bad
def mf__law_told_v2 (fl : Addr) (ML : List W → MC) (x_ask : W) : MC :=
  ((eFz (eTup (wCons (eFz (eC (.str ("told" : Str)))) (wCons (eFz (eC .non)) wNil)))) fun x_found => (tryC (fun kk2 => ((eFz (eTup (wCons (eFz (eC (.str ("told" : Str)))) (wCons (eFz (eCall ML wNil)) wNil)))) fun x_found => (kk2 x_found))) (fun s1 => ((eV (.val s1)) ret)) (handsM ["NoDrop", "TooMany"] [("NoDrop", (xTup (xCons (xCon (.str ("no drop" : Str))) (xCons (xFld "rank") xNil)))), ("TooMany", (xTup (xCons (xCon (.str ("too many" : Str))) (xCons (xFld "most") xNil))))])))
def m__law_told_v2 (ML : List W → MC) (fl : Addr) : List W → MC
  | [x_ask] => req (x_ask = .ref fl) (mf__law_told_v2 fl ML x_ask)
  | _ => bad
def mf_law (x_script : W) : MC :=
  ((eCall m__law_open (wCons (eFz (eV (.val x_script))) wNil)) fun x_bag => (prom x_bag fun x_bag => (forC (iRng1 (sCons (eC (.int 5)) sNil)) () (fun x_turn (s12 : Unit) kn14 kb15 => ((eFz (eCall m__law_any_sizes (wCons (eFz (eV (.val x_bag))) wNil))) fun x_msizes => ((eFz (eCall m__law_full_load (wCons (eFz (eV (.val x_bag))) (wCons (eFz (eV (.val x_msizes))) wNil)))) fun x_mload => (ifC (tNot (tTst (eCall (m__law_same 8) (wCons (eFz (eCall m_room (wPerm [1, 0] (wCons (eFz (eV (.val x_mload))) (wCons (eFz (eV (.val x_msizes))) wNil))))) (wCons (eFz (eCB oTupC (sCons (eLc (iRng1 (sCons (eCB oLen (sCons (eV (.val x_mload)) sNil)) sNil)) fun x_at kk => lcb tYes (eFz (eOp2 oSub (eOp2 oIx (eV (.val x_msizes)) (eV (.val x_at))) (eOp2 oIx (eV (.val x_mload)) (eV (.val x_at))))) kk) sNil))) wNil))))) ((eC (.bl false)) ret) ((eFz (eTup wNil)) fun x_due => (forC (iRng1 (sCons (eCB oLen (sCons (eV (.val x_mload)) sNil)) sNil)) x_due (fun x_mcask (s18 : W) kn20 kb21 => ((eFz (eOp2 oAdd (eV (.val s18)) (eOp2 oMulT (eTup (wCons (eFz (eV (.val x_mcask))) wNil)) (eOp2 oIx (eV (.val x_mload)) (eV (.val x_mcask)))))) fun x_due => (kn20 x_due))) fun (s18 : W) => ((eFz (eIf (tTst (eOp2 oLe (eCB oLen (sCons (eV (.val s18)) sNil)) (eC (.int 60)))) (eTup (wCons (eFz (eC (.str ("told" : Str)))) (wCons (eFz (eV (.val s18))) wNil))) (eTup (wCons (eFz (eC (.str ("too many" : Str)))) (wCons (eFz (eC (.int 60))) wNil))))) fun x_want => (ifC (tNot (tTst (eCall (m__law_same 8) (wCons (eFz (eLamCall (m__law_told_v2 (lam0 (eCall m_stand_of (wCons (eFz (eV (.val x_msizes))) (wCons (eFz (eV (.val x_mload))) wNil))))) (lHere wNil))) (wCons (eFz (eV (.val x_want))) wNil))))) ((eC (.bl false)) ret) (ifC (tAnd (tTst (eOp2 oLe (eCB oLen (sCons (eV (.val s18)) sNil)) (eC (.int 60)))) (tNot (tTst (eCall (m__law_same 8) (wCons (eFz (eCall m_counts_of (wCons (eFz (eV (.val x_msizes))) (wCons (eFz (eCall m_stand_of (wPerm [1, 0] (wCons (eFz (eV (.val x_mload))) (wCons (eFz (eV (.val x_msizes))) wNil))))) wNil)))) (wCons (eFz (eV (.val x_mload))) wNil)))))) ((eC (.bl false)) ret) ((eFz (eCall m__law_stand (wCons (eFz (eV (.val x_bag))) (wCons (eFz (eV (.val x_msizes))) (wCons (eFz (eC (.int 60))) (wCons (eFz (eC (.int 1))) wNil)))))) fun x_mstand => ((eFz (eCall m__law_take (wCons (eFz (eV (.val x_bag))) (wCons (eFz (eOp2 oAdd (eCB oLen (sCons (eV (.val x_mstand)) sNil)) (eC (.int 1)))) wNil)))) fun x_mmany => (ifC (tOr (tNot (tTst (eCall (m__law_same 8) (wCons (eFz (eCall m_hidden_v1 (wCons (eFz (eV (.val x_mstand))) (wCons (eFz (eV (.val x_mmany))) wNil)))) (wCons (eFz (eSl (eV (.val x_mstand)) oNo (oPart (eV (.val x_mmany))))) wNil))))) (tTst (eOp2 (oEq true) (eCall m_hidden_v1 (wPerm [1, 0] (wCons (eFz (eCB oLen (sCons (eV (.val x_mstand)) sNil))) (wCons (eFz (eV (.val x_mstand))) wNil)))) (eV (.val x_mstand))))) ((eC (.bl false)) ret) ((eFz (eCall m__law_pick (wCons (eFz (eV (.val x_bag))) (wCons (eFz (eLst (wCons (eFz (eNeg (eC (.int 1)))) (wCons (eFz (eOp2 oAdd (eCB oLen (sCons (eV (.val x_mstand)) sNil)) (eC (.int 1)))) (wCons (eFz (eOp2 oSub (eNeg (eC (.int 1))) (eCall m__law_take (wCons (eFz (eV (.val x_bag))) (wCons (eFz (eC (.int 99))) wNil))))) (wCons (eFz (eOp2 oAdd (eC (.int 61)) (eCall m__law_take (wCons (eFz (eV (.val x_bag))) (wCons (eFz (eOp2 oPow (eC (.int 10)) (eC (.int 20)))) wNil))))) wNil)))))) wNil)))) fun x_far => (ifC (tNot (tTst (eCall (m__law_same 8) (wCons (eFz (eLamCall (m__law_told_v2 (lam0 (eCall m_hidden_v1 (wCons (eFz (eV (.val x_mstand))) (wCons (eFz (eV (.val x_far))) wNil))))) (lHere wNil))) (wCons (eFz (eTup (wCons (eFz (eC (.str ("no drop" : Str)))) (wCons (eFz (eV (.val x_far))) wNil)))) wNil))))) ((eC (.bl false)) ret) (kn14 ()))))))))))))))) fun (s12 : Unit) => ((eFz (eOp2 oMulT (eTup (wCons (eFz (eC (.int 10))) wNil)) (eC (.int 6)))) fun x_tens => ((eFz (eLst (wCons (eFz (eCall m_stand_of (wCons (eFz (eV (.val x_tens))) (wCons (eFz (eV (.val x_tens))) wNil)))) (wCons (eFz (eLamCall (m__law_told_v2 (lam0 (eCall m_stand_of (wCons (eFz (eOp2 oAdd (eOp2 oMulT (eTup (wCons (eFz (eC (.int 10))) wNil)) (eC (.int 5))) (eTup (wCons (eFz (eC (.int 11))) wNil)))) (wCons (eFz (eOp2 oAdd (eOp2 oMulT (eTup (wCons (eFz (eC (.int 10))) wNil)) (eC (.int 5))) (eTup (wCons (eFz (eC (.int 11))) wNil)))) wNil))))) (lHere wNil))) wNil)))) fun x_found => ((eAnd (eOp2 (oEq false) (eCB oLen (sCons (eOp2 oIx (eV (.val x_found)) (eC (.int 0))) sNil)) (eC (.int 60))) (eOp2 (oEq false) (eOp2 oIx (eV (.val x_found)) (eC (.int 1))) (eTup (wCons (eFz (eC (.str ("too many" : Str)))) (wCons (eFz (eC (.int 60))) wNil))))) ret))))))
def m_law : List W → MC
  | [x_script] => mf_law x_script
  | _ => bad
end Ab
namespace Ab
open PySem PySem.Spec PyProof.Rows L2 RZ
/-! ### counts and rooms -/
def soN (cs : List Int) (n : Nat) : List Int := (List.range n).flatMap fun i => List.replicate (cs.getD i 0).toNat (i : Int)
theorem soN_succ {cs : List Int} {n : Nat} : soN cs (n + 1) = soN cs n ++ List.replicate (cs.getD n 0).toNat (n : Int) := by
  unfold soN
  rw [List.range_succ, List.flatMap_append, List.flatMap_singleton]
theorem soN_le {cs : List Int} (h : ∀ i, cs.getD i 0 ≤ 40) : ∀ n, (soN cs n).length ≤ 40 * n
  | 0 => by simp [soN]
  | n + 1 => by
    rw [soN_succ, List.length_append, List.length_replicate]
    have a := soN_le h n
    have b := h n
    omega
theorem soN_mem {cs : List Int} {n : Nat} {x : Int} (h : x ∈ soN cs n) : 0 ≤ x ∧ x < n := by
  unfold soN at h
  obtain ⟨i, hi, hx⟩ := List.mem_flatMap.mp h
  rw [List.mem_range] at hi
  rw [(List.mem_replicate.mp hx).2]
  omega
theorem soN_count {cs : List Int} {c : Nat} : ∀ {n : Nat}, (soN cs n).count (c : Int) = if c < n then (cs.getD c 0).toNat else 0
  | 0 => by simp [soN]
  | n + 1 => by
    rw [soN_succ, List.count_append, soN_count, List.count_replicate]
    by_cases e : n = c
    · subst e
      simp
    · have e2 : ¬ ((n : Int) == (c : Int)) = true := by simpa using fun z : (n : Int) = c => e (by omega)
      rw [if_neg e2]
      by_cases l : c < n
      · rw [if_pos l, if_pos (by omega)]
        rfl
      · rw [if_neg l, if_neg (by omega)]
theorem soN_sum {cs : List Int} (h : ∀ c ∈ cs, 0 ≤ c) : ∀ n, n ≤ cs.length → ((soN cs n).length : Int) = (cs.take n).sum
  | 0, _ => by simp [soN]
  | n + 1, hn => by
    have hn' : n < cs.length := by omega
    rw [soN_succ, List.length_append, List.length_replicate, List.take_succ_eq_append_getElem hn', List.sum_append]
    have a := soN_sum h n (by omega)
    have b := h _ (List.getElem_mem hn')
    have c : cs.getD n 0 = cs[n] := by rw [List.getD_eq_getElem?_getD, List.getElem?_eq_getElem hn']; rfl
    rw [c]
    simp only [List.sum_cons, List.sum_nil]
    omega
def soA (cs : List Int) : List Int := soN cs cs.length
theorem ct_bd {ss cs : List Int} (hs : SzOk ss) (hc : CtOk ss cs) (i : Nat) : 0 ≤ cs.getD i 0 ∧ cs.getD i 0 ≤ 40 := by
  by_cases l : i < cs.length
  · have l2 : i < ss.length := by rw [← hc.1]; exact l
    have z := hc.2 i _ _ (List.getElem?_eq_getElem l) (List.getElem?_eq_getElem l2)
    have y := hs.2.2 _ (List.getElem_mem l2)
    rw [List.getD_eq_getElem?_getD, List.getElem?_eq_getElem l]
    show 0 ≤ cs[i] ∧ cs[i] ≤ 40
    omega
  · rw [List.getD_eq_getElem?_getD, List.getElem?_eq_none (by omega)]
    exact ⟨by decide, by decide⟩
theorem ct_nn {ss cs : List Int} (hs : SzOk ss) (hc : CtOk ss cs) : ∀ c ∈ cs, 0 ≤ c := fun c hm => by
  obtain ⟨i, hi, rfl⟩ := List.getElem_of_mem hm
  have z := (ct_bd hs hc i).1
  rw [List.getD_eq_getElem?_getD, List.getElem?_eq_getElem hi] at z
  exact z
theorem soA_sum {ss cs : List Int} (hs : SzOk ss) (hc : CtOk ss cs) : ((soA cs).length : Int) = cs.sum := by
  have z := soN_sum (ct_nn hs hc) cs.length (Nat.le_refl _)
  rw [List.take_length] at z
  exact z
theorem soA_le {ss cs : List Int} (hs : SzOk ss) (hc : CtOk ss cs) : (soA cs).length ≤ 240 := by
  have z := soN_le (fun i => (ct_bd hs hc i).2) cs.length
  have l := hc.1
  have l6 := hs.2.1
  unfold soA
  omega
theorem soA_st {ss cs : List Int} (hs : SzOk ss) (hc : CtOk ss cs) (l : (soA cs).length ≤ 60) : StOk ss (soA cs) := by
  refine ⟨l, fun p hp => ?_, fun c hk => ?_⟩
  · have z := soN_mem hp
    have e := hc.1
    omega
  · unfold soA
    rw [soN_count, if_pos (by rw [hc.1]; exact hk)]
    have l1 : c < cs.length := by rw [hc.1]; exact hk
    have z := hc.2 c _ _ (List.getElem?_eq_getElem l1) (List.getElem?_eq_getElem hk)
    rw [List.getD_eq_getElem?_getD, List.getElem?_eq_getElem l1, List.getD_eq_getElem?_getD, List.getElem?_eq_getElem hk]
    show ((cs[c].toNat : Nat) : Int) ≤ ss[c]
    omega
theorem soA_cnt {ss cs : List Int} (hs : SzOk ss) (hc : CtOk ss cs) : cnt ss.length (soA cs) = cs := by
  refine List.ext_getElem (by rw [cnt_len, hc.1]) fun i h1 h2 => ?_
  rw [cnt_len] at h1
  have z := cnt_get (st := soA cs) h1
  rw [List.getD_eq_getElem?_getD, List.getElem?_eq_getElem (by rw [cnt_len]; exact h1)] at z
  have z : (cnt ss.length (soA cs))[i] = ((soA cs).count (i : Int) : Int) := z
  rw [z]
  unfold soA
  rw [soN_count, if_pos h2]
  have b := (ct_bd hs hc i).1
  rw [List.getD_eq_getElem?_getD, List.getElem?_eq_getElem h2] at b ⊢
  show ((cs[i].toNat : Nat) : Int) = cs[i]
  have b : 0 ≤ cs[i] := b
  omega
def tmE : AExc := ⟨"TooMany", initF (W.str "too many") ["most"] [.int 60]⟩
def ndE (i : Int) : AExc := ⟨"NoDrop", initF (W.str "no drop") ["rank"] [.int i]⟩
theorem so_zip (cs : List Int) : (cs.zipIdx.flatMap fun p => List.replicate p.1.toNat (W.int (p.2 : Int))) = (soA cs).map .int := by
  unfold soA soN
  rw [List.map_flatMap]
  have e : cs.zipIdx = (List.range cs.length).map fun i => (cs.getD i 0, i) := by
    refine List.ext_getElem (by simp) fun i h1 h2 => ?_
    have hi : i < cs.length := by simpa using h1
    simp [List.getD_eq_getElem?_getD, List.getElem?_eq_getElem hi]
  rw [e, List.flatMap_map]
  congr 1
  funext i
  simp
theorem stand_of_ok {ss cs : List Int} (hs : SzOk ss) (hc : CtOk ss cs) : m_stand_of [.tup (ss.map .int), .tup (cs.map .int)] = if 60 < (soA cs).length then raise tmE else ret (.val (.tup ((soA cs).map .int))) := by
  show mf_stand_of _ _ = _
  unfold mf_stand_of
  have sm := soA_sum hs hc
  have le := soA_le hs hc
  simp only [↓un4_tup, ↓asS_str, ↓k_iChars, ↓k_put2C, ↓k_Fld, ↓k_setFC, ↓k_nmFC, ↓k_ffC, ↓k_Meth, ↓k_Meth0, ↓k_MethM, ↓k_MethM0, ↓k_Make, ↓k_Make0, ↓k_MakeM, ↓k_MakeM0, ↓k_Own, ↓k_EqO, ↓k_IsO, ↓k_InM, ↓k_GetM, ↓k_putMC, ↓k_putME, ↓k_delME, ↓k_DispK, ↓k_lLive, ↓k_lLvE, ↓k_lFix, ↓k_forLC, ↓k_LcL, ↓k_Lc2, ↓k_lc2b, ↓k_Fmt, ↓k_Joined, ↓k_jsNil, ↓k_jsCons, ↓k_LmV, ↓k_DcX, ↓k_ePrm, ↓src_lst, ↓src_tup, ↓k_V, ↓k_C, ↓k_Op2, ↓k_Fz, ↓k_wNil, ↓k_wCons, ↓k_Tup, ↓k_Lst, ↓k_oNo, ↓k_oPart, ↓k_Sl, ↓k_sNil, ↓k_sCons, ↓k_CB, ↓k_tYes, ↓k_tTst, ↓k_tAnd, ↓k_tOr, ↓k_tNot, ↓k_If, ↓k_And, ↓k_Or, ↓k_Not, ↓k_Neg, ↓k_Chn, ↓k_Call, ↓k_Call0, ↓k_wPerm, ↓k_iItems, ↓k_iRng1, ↓k_iRng2, ↓k_iZip, ↓k_iEnum, ↓k_iEnz, ↓k_ifC, ↓k_Lrg1, ↓k_parC, ↓k_starC, ↓k_setC, ↓k_setC2, ↓k_augC, ↓k_lcb, ↓k_Lc, ↓k_forC, ↓str_lit, ↓fz_val, ↓fz_seq, ↓rr_val, ↓rr_own, ↓sv_val, ↓sv_own, ↓asI_int, ↓asB_bl, ↓items_tup, ↓items_lst, ↓un2_tup, ↓un3_tup, ↓un5_tup, ↓uq2_tup, ↓uq3_tup, ↓uq2_lst, ↓uq3_lst, ↓uq4_tup, ↓uq5_tup, ↓star_tup, ↓star_lst, ↓pr2_2, ↓zip2_tup, ↓zip2_lst, ↓enz_2, ↓rng1_int, ↓rng2_int, ↓lrg1_int, ↓req_T, ↓ret_at, ↓raise_at, ↓call_ret, ↓call0_ret, ↓call_raise, ↓pm_0, ↓pm_01, ↓pm_10, ↓pm_012, ↓pm_021, ↓pm_102, ↓pm_120, ↓pm_201, ↓pm_210, ↓pm_0123, ↓pm_0132, ↓pm_0213, ↓pm_0231, ↓pm_0312, ↓pm_0321, ↓pm_1023, ↓pm_1032, ↓pm_1203, ↓pm_1230, ↓pm_1302, ↓pm_1320, ↓pm_2013, ↓pm_2031, ↓pm_2103, ↓pm_2130, ↓pm_2301, ↓pm_2310, ↓pm_3012, ↓pm_3021, ↓pm_3102, ↓pm_3120, ↓pm_3201, ↓pm_3210, ↓o_sub, ↓o_lt, ↓o_le, ↓o_gt, ↓o_ge, ↓o_mod, ↓o_fdiv, ↓o_pow, ↓o_mul, ↓o_rep, ↓o_repT, ↓o_add, ↓o_addS, ↓o_addT, ↓o_addLL, ↓o_addLO, ↓o_addOL, ↓o_addOO, ↓o_ixT, ↓o_ixL, ↓o_ixO, ↓atS_0, ↓atS_1, ↓atS_2, ↓atS_3, ↓atS_4, ↓slc_T, ↓slc_L, ↓slc_O, ↓ext_own, ↓ext_OO, ↓lm_own, ↓append_own, ↓b_lenT, ↓b_lenL, ↓b_lenO, ↓b_lenS, ↓k_Disp, ↓k_GetD, ↓k_Prm, ↓k_lmE, ↓b_back, ↓b_tupT, ↓b_tupL, ↓b_tupO, ↓b_lstT, ↓b_lstL, ↓b_lstO, ↓b_min2, ↓b_max2, ↓b_abs, ↓b_sorted, ↓b_sortedL, ↓b_sumO, ↓b_sumL, ↓b_sumT, ↓b_anyO, ↓b_allO, ↓o_eqI, ↓o_neI, ↓o_eqSt, ↓o_neSt, ↓o_eqT, ↓o_neT, ↓isN_non, ↓isN_int, ↓isN_str, ↓isN_tup, ↓isN_lst, ↓nIsN_non, ↓nIsN_int, ↓nIsN_str, ↓nIsN_tup, ↓nIsN_lst, ↓k_LamCall, ↓k_lCons, ↓lam0_nil, ↓lam1_one, ↓k_raiseC, ↓o_powW, ↓k_Idx, ↓idxq_own, ↓idxq_lst, ↓k_wMx, ↓o_isB, ↓o_notB, ↓mix_32, ↓mix_32s, ↓mix_05, ↓mix_31, ↓mix_42, ↓mix_051, ↓k_RevL, ↓revL_own, ↓revL_lst, ↓k_eLenSet, ↓k_parC3, ↓pr3_3, if_true, if_false, Bool.not_true, Bool.not_false, Bool.false_eq_true, decide_true, decide_false, String.reduceEq, decide_eq_true_eq, Int.toNat_natCast, List.length_map, List.length_cons, List.length_nil, sizeL, Nat.zero_add, Nat.reduceAdd, Nat.reduceLeDiff, look_counts_ok hs hc]
  by_cases l : 60 < (soA cs).length
  · rw [if_pos (show (60 : Int) < cs.sum by omega), if_pos l]
    rfl
  · rw [if_neg (show ¬ (60 : Int) < cs.sum by omega), if_neg l]
    have zl : (cs.zipIdx.flatMap fun p : Int × Nat => List.replicate p.1.toNat (W.int (p.2 : Int))).length ≤ 240 := by rw [so_zip, List.length_map]; exact le
    rw [en_map, lc2_fold (fun p : Int × Nat => W.tup [.int (p.2 : Int), .int p.1]) (fun p => List.replicate p.1.toNat (W.int (p.2 : Int))) cs.zipIdx [] (fun i p acc kk hi ha => ?_) (by rw [sizeL, List.length_nil]; omega), List.nil_append, so_zip]
    · have hp : p.1 = cs.getD i 0 ∧ p.2 = i := by
        rw [List.getElem?_zipIdx] at hi
        cases q : cs[i]? with
        | none => rw [q] at hi; cases hi
        | some c =>
          rw [q] at hi
          cases hi
          exact ⟨by rw [List.getD_eq_getElem?_getD, q]; rfl, by simp⟩
      have bd := ct_bd hs hc i
      rw [← hp.1] at bd
      simp only [↓un4_tup, ↓asS_str, ↓k_iChars, ↓k_put2C, ↓k_Fld, ↓k_setFC, ↓k_nmFC, ↓k_ffC, ↓k_Meth, ↓k_Meth0, ↓k_MethM, ↓k_MethM0, ↓k_Make, ↓k_Make0, ↓k_MakeM, ↓k_MakeM0, ↓k_Own, ↓k_EqO, ↓k_IsO, ↓k_InM, ↓k_GetM, ↓k_putMC, ↓k_putME, ↓k_delME, ↓k_DispK, ↓k_lLive, ↓k_lLvE, ↓k_lFix, ↓k_forLC, ↓k_LcL, ↓k_Lc2, ↓k_lc2b, ↓k_Fmt, ↓k_Joined, ↓k_jsNil, ↓k_jsCons, ↓k_LmV, ↓k_DcX, ↓k_ePrm, ↓src_lst, ↓src_tup, ↓k_V, ↓k_C, ↓k_Op2, ↓k_Fz, ↓k_wNil, ↓k_wCons, ↓k_Tup, ↓k_Lst, ↓k_oNo, ↓k_oPart, ↓k_Sl, ↓k_sNil, ↓k_sCons, ↓k_CB, ↓k_tYes, ↓k_tTst, ↓k_tAnd, ↓k_tOr, ↓k_tNot, ↓k_If, ↓k_And, ↓k_Or, ↓k_Not, ↓k_Neg, ↓k_Chn, ↓k_Call, ↓k_Call0, ↓k_wPerm, ↓k_iItems, ↓k_iRng1, ↓k_iRng2, ↓k_iZip, ↓k_iEnum, ↓k_iEnz, ↓k_ifC, ↓k_Lrg1, ↓k_parC, ↓k_starC, ↓k_setC, ↓k_setC2, ↓k_augC, ↓k_lcb, ↓k_Lc, ↓k_forC, ↓str_lit, ↓fz_val, ↓fz_seq, ↓rr_val, ↓rr_own, ↓sv_val, ↓sv_own, ↓asI_int, ↓asB_bl, ↓items_tup, ↓items_lst, ↓un2_tup, ↓un3_tup, ↓un5_tup, ↓uq2_tup, ↓uq3_tup, ↓uq2_lst, ↓uq3_lst, ↓uq4_tup, ↓uq5_tup, ↓star_tup, ↓star_lst, ↓pr2_2, ↓zip2_tup, ↓zip2_lst, ↓enz_2, ↓rng1_int, ↓rng2_int, ↓lrg1_int, ↓req_T, ↓ret_at, ↓raise_at, ↓call_ret, ↓call0_ret, ↓call_raise, ↓pm_0, ↓pm_01, ↓pm_10, ↓pm_012, ↓pm_021, ↓pm_102, ↓pm_120, ↓pm_201, ↓pm_210, ↓pm_0123, ↓pm_0132, ↓pm_0213, ↓pm_0231, ↓pm_0312, ↓pm_0321, ↓pm_1023, ↓pm_1032, ↓pm_1203, ↓pm_1230, ↓pm_1302, ↓pm_1320, ↓pm_2013, ↓pm_2031, ↓pm_2103, ↓pm_2130, ↓pm_2301, ↓pm_2310, ↓pm_3012, ↓pm_3021, ↓pm_3102, ↓pm_3120, ↓pm_3201, ↓pm_3210, ↓o_sub, ↓o_lt, ↓o_le, ↓o_gt, ↓o_ge, ↓o_mod, ↓o_fdiv, ↓o_pow, ↓o_mul, ↓o_rep, ↓o_repT, ↓o_add, ↓o_addS, ↓o_addT, ↓o_addLL, ↓o_addLO, ↓o_addOL, ↓o_addOO, ↓o_ixT, ↓o_ixL, ↓o_ixO, ↓atS_0, ↓atS_1, ↓atS_2, ↓atS_3, ↓atS_4, ↓slc_T, ↓slc_L, ↓slc_O, ↓ext_own, ↓ext_OO, ↓lm_own, ↓append_own, ↓b_lenT, ↓b_lenL, ↓b_lenO, ↓b_lenS, ↓k_Disp, ↓k_GetD, ↓k_Prm, ↓k_lmE, ↓b_back, ↓b_tupT, ↓b_tupL, ↓b_tupO, ↓b_lstT, ↓b_lstL, ↓b_lstO, ↓b_min2, ↓b_max2, ↓b_abs, ↓b_sorted, ↓b_sortedL, ↓b_sumO, ↓b_sumL, ↓b_sumT, ↓b_anyO, ↓b_allO, ↓o_eqI, ↓o_neI, ↓o_eqSt, ↓o_neSt, ↓o_eqT, ↓o_neT, ↓isN_non, ↓isN_int, ↓isN_str, ↓isN_tup, ↓isN_lst, ↓nIsN_non, ↓nIsN_int, ↓nIsN_str, ↓nIsN_tup, ↓nIsN_lst, ↓k_LamCall, ↓k_lCons, ↓lam0_nil, ↓lam1_one, ↓k_raiseC, ↓o_powW, ↓k_Idx, ↓idxq_own, ↓idxq_lst, ↓k_wMx, ↓o_isB, ↓o_notB, ↓mix_32, ↓mix_32s, ↓mix_05, ↓mix_31, ↓mix_42, ↓mix_051, ↓k_RevL, ↓revL_own, ↓revL_lst, ↓k_eLenSet, ↓k_parC3, ↓pr3_3, if_true, if_false, Bool.not_true, Bool.not_false, Bool.false_eq_true, decide_true, decide_false, String.reduceEq, decide_eq_true_eq, Int.toNat_natCast, List.length_map, List.length_cons, List.length_nil, sizeL, Nat.zero_add, Nat.reduceAdd, Nat.reduceLeDiff]
      rw [req_of (by omega)]
      rw [lcLL_T]
      rw [show rngW 0 p.1.toNat = (List.range p.1.toNat).map natW from range_nat _]
      rw [lc_opt natW (fun _ => some (W.int (p.2 : Int))) _ _ (fun a _ kk => rfl) (by simpa using ha)]
      congr 2
      rw [List.filterMap_eq_map', List.map_const', List.length_range]
theorem room_ok {ss cs : List Int} (hs : SzOk ss) (hc : CtOk ss cs) : m_room [.tup (ss.map .int), .tup (cs.map .int)] = ret (.val (.tup ((List.range cs.length).map fun i => .int (ss.getD i 0 - cs.getD i 0)))) := by
  show mf_room _ _ = _
  unfold mf_room
  have l := hc.1
  have l6 := hs.2.1
  simp only [↓un4_tup, ↓asS_str, ↓k_iChars, ↓k_put2C, ↓k_Fld, ↓k_setFC, ↓k_nmFC, ↓k_ffC, ↓k_Meth, ↓k_Meth0, ↓k_MethM, ↓k_MethM0, ↓k_Make, ↓k_Make0, ↓k_MakeM, ↓k_MakeM0, ↓k_Own, ↓k_EqO, ↓k_IsO, ↓k_InM, ↓k_GetM, ↓k_putMC, ↓k_putME, ↓k_delME, ↓k_DispK, ↓k_lLive, ↓k_lLvE, ↓k_lFix, ↓k_forLC, ↓k_LcL, ↓k_Lc2, ↓k_lc2b, ↓k_Fmt, ↓k_Joined, ↓k_jsNil, ↓k_jsCons, ↓k_LmV, ↓k_DcX, ↓k_ePrm, ↓src_lst, ↓src_tup, ↓k_V, ↓k_C, ↓k_Op2, ↓k_Fz, ↓k_wNil, ↓k_wCons, ↓k_Tup, ↓k_Lst, ↓k_oNo, ↓k_oPart, ↓k_Sl, ↓k_sNil, ↓k_sCons, ↓k_CB, ↓k_tYes, ↓k_tTst, ↓k_tAnd, ↓k_tOr, ↓k_tNot, ↓k_If, ↓k_And, ↓k_Or, ↓k_Not, ↓k_Neg, ↓k_Chn, ↓k_Call, ↓k_Call0, ↓k_wPerm, ↓k_iItems, ↓k_iRng1, ↓k_iRng2, ↓k_iZip, ↓k_iEnum, ↓k_iEnz, ↓k_ifC, ↓k_Lrg1, ↓k_parC, ↓k_starC, ↓k_setC, ↓k_setC2, ↓k_augC, ↓k_lcb, ↓k_Lc, ↓k_forC, ↓str_lit, ↓fz_val, ↓fz_seq, ↓rr_val, ↓rr_own, ↓sv_val, ↓sv_own, ↓asI_int, ↓asB_bl, ↓items_tup, ↓items_lst, ↓un2_tup, ↓un3_tup, ↓un5_tup, ↓uq2_tup, ↓uq3_tup, ↓uq2_lst, ↓uq3_lst, ↓uq4_tup, ↓uq5_tup, ↓star_tup, ↓star_lst, ↓pr2_2, ↓zip2_tup, ↓zip2_lst, ↓enz_2, ↓rng1_int, ↓rng2_int, ↓lrg1_int, ↓req_T, ↓ret_at, ↓raise_at, ↓call_ret, ↓call0_ret, ↓call_raise, ↓pm_0, ↓pm_01, ↓pm_10, ↓pm_012, ↓pm_021, ↓pm_102, ↓pm_120, ↓pm_201, ↓pm_210, ↓pm_0123, ↓pm_0132, ↓pm_0213, ↓pm_0231, ↓pm_0312, ↓pm_0321, ↓pm_1023, ↓pm_1032, ↓pm_1203, ↓pm_1230, ↓pm_1302, ↓pm_1320, ↓pm_2013, ↓pm_2031, ↓pm_2103, ↓pm_2130, ↓pm_2301, ↓pm_2310, ↓pm_3012, ↓pm_3021, ↓pm_3102, ↓pm_3120, ↓pm_3201, ↓pm_3210, ↓o_sub, ↓o_lt, ↓o_le, ↓o_gt, ↓o_ge, ↓o_mod, ↓o_fdiv, ↓o_pow, ↓o_mul, ↓o_rep, ↓o_repT, ↓o_add, ↓o_addS, ↓o_addT, ↓o_addLL, ↓o_addLO, ↓o_addOL, ↓o_addOO, ↓o_ixT, ↓o_ixL, ↓o_ixO, ↓atS_0, ↓atS_1, ↓atS_2, ↓atS_3, ↓atS_4, ↓slc_T, ↓slc_L, ↓slc_O, ↓ext_own, ↓ext_OO, ↓lm_own, ↓append_own, ↓b_lenT, ↓b_lenL, ↓b_lenO, ↓b_lenS, ↓k_Disp, ↓k_GetD, ↓k_Prm, ↓k_lmE, ↓b_back, ↓b_tupT, ↓b_tupL, ↓b_tupO, ↓b_lstT, ↓b_lstL, ↓b_lstO, ↓b_min2, ↓b_max2, ↓b_abs, ↓b_sorted, ↓b_sortedL, ↓b_sumO, ↓b_sumL, ↓b_sumT, ↓b_anyO, ↓b_allO, ↓o_eqI, ↓o_neI, ↓o_eqSt, ↓o_neSt, ↓o_eqT, ↓o_neT, ↓isN_non, ↓isN_int, ↓isN_str, ↓isN_tup, ↓isN_lst, ↓nIsN_non, ↓nIsN_int, ↓nIsN_str, ↓nIsN_tup, ↓nIsN_lst, ↓k_LamCall, ↓k_lCons, ↓lam0_nil, ↓lam1_one, ↓k_raiseC, ↓o_powW, ↓k_Idx, ↓idxq_own, ↓idxq_lst, ↓k_wMx, ↓o_isB, ↓o_notB, ↓mix_32, ↓mix_32s, ↓mix_05, ↓mix_31, ↓mix_42, ↓mix_051, ↓k_RevL, ↓revL_own, ↓revL_lst, ↓k_eLenSet, ↓k_parC3, ↓pr3_3, if_true, if_false, Bool.not_true, Bool.not_false, Bool.false_eq_true, decide_true, decide_false, String.reduceEq, decide_eq_true_eq, Int.toNat_natCast, List.length_map, List.length_cons, List.length_nil, sizeL, Nat.zero_add, Nat.reduceAdd, Nat.reduceLeDiff, look_counts_ok hs hc]
  rw [zip_map, lc_all (fun p : Int × Int => W.tup [.int p.1, .int p.2]) (fun p => .int (p.1 - p.2)) (ss.zip cs) (fun p _ kk => by simp only [↓un4_tup, ↓asS_str, ↓k_iChars, ↓k_put2C, ↓k_Fld, ↓k_setFC, ↓k_nmFC, ↓k_ffC, ↓k_Meth, ↓k_Meth0, ↓k_MethM, ↓k_MethM0, ↓k_Make, ↓k_Make0, ↓k_MakeM, ↓k_MakeM0, ↓k_Own, ↓k_EqO, ↓k_IsO, ↓k_InM, ↓k_GetM, ↓k_putMC, ↓k_putME, ↓k_delME, ↓k_DispK, ↓k_lLive, ↓k_lLvE, ↓k_lFix, ↓k_forLC, ↓k_LcL, ↓k_Lc2, ↓k_lc2b, ↓k_Fmt, ↓k_Joined, ↓k_jsNil, ↓k_jsCons, ↓k_LmV, ↓k_DcX, ↓k_ePrm, ↓src_lst, ↓src_tup, ↓k_V, ↓k_C, ↓k_Op2, ↓k_Fz, ↓k_wNil, ↓k_wCons, ↓k_Tup, ↓k_Lst, ↓k_oNo, ↓k_oPart, ↓k_Sl, ↓k_sNil, ↓k_sCons, ↓k_CB, ↓k_tYes, ↓k_tTst, ↓k_tAnd, ↓k_tOr, ↓k_tNot, ↓k_If, ↓k_And, ↓k_Or, ↓k_Not, ↓k_Neg, ↓k_Chn, ↓k_Call, ↓k_Call0, ↓k_wPerm, ↓k_iItems, ↓k_iRng1, ↓k_iRng2, ↓k_iZip, ↓k_iEnum, ↓k_iEnz, ↓k_ifC, ↓k_Lrg1, ↓k_parC, ↓k_starC, ↓k_setC, ↓k_setC2, ↓k_augC, ↓k_lcb, ↓k_Lc, ↓k_forC, ↓str_lit, ↓fz_val, ↓fz_seq, ↓rr_val, ↓rr_own, ↓sv_val, ↓sv_own, ↓asI_int, ↓asB_bl, ↓items_tup, ↓items_lst, ↓un2_tup, ↓un3_tup, ↓un5_tup, ↓uq2_tup, ↓uq3_tup, ↓uq2_lst, ↓uq3_lst, ↓uq4_tup, ↓uq5_tup, ↓star_tup, ↓star_lst, ↓pr2_2, ↓zip2_tup, ↓zip2_lst, ↓enz_2, ↓rng1_int, ↓rng2_int, ↓lrg1_int, ↓req_T, ↓ret_at, ↓raise_at, ↓call_ret, ↓call0_ret, ↓call_raise, ↓pm_0, ↓pm_01, ↓pm_10, ↓pm_012, ↓pm_021, ↓pm_102, ↓pm_120, ↓pm_201, ↓pm_210, ↓pm_0123, ↓pm_0132, ↓pm_0213, ↓pm_0231, ↓pm_0312, ↓pm_0321, ↓pm_1023, ↓pm_1032, ↓pm_1203, ↓pm_1230, ↓pm_1302, ↓pm_1320, ↓pm_2013, ↓pm_2031, ↓pm_2103, ↓pm_2130, ↓pm_2301, ↓pm_2310, ↓pm_3012, ↓pm_3021, ↓pm_3102, ↓pm_3120, ↓pm_3201, ↓pm_3210, ↓o_sub, ↓o_lt, ↓o_le, ↓o_gt, ↓o_ge, ↓o_mod, ↓o_fdiv, ↓o_pow, ↓o_mul, ↓o_rep, ↓o_repT, ↓o_add, ↓o_addS, ↓o_addT, ↓o_addLL, ↓o_addLO, ↓o_addOL, ↓o_addOO, ↓o_ixT, ↓o_ixL, ↓o_ixO, ↓atS_0, ↓atS_1, ↓atS_2, ↓atS_3, ↓atS_4, ↓slc_T, ↓slc_L, ↓slc_O, ↓ext_own, ↓ext_OO, ↓lm_own, ↓append_own, ↓b_lenT, ↓b_lenL, ↓b_lenO, ↓b_lenS, ↓k_Disp, ↓k_GetD, ↓k_Prm, ↓k_lmE, ↓b_back, ↓b_tupT, ↓b_tupL, ↓b_tupO, ↓b_lstT, ↓b_lstL, ↓b_lstO, ↓b_min2, ↓b_max2, ↓b_abs, ↓b_sorted, ↓b_sortedL, ↓b_sumO, ↓b_sumL, ↓b_sumT, ↓b_anyO, ↓b_allO, ↓o_eqI, ↓o_neI, ↓o_eqSt, ↓o_neSt, ↓o_eqT, ↓o_neT, ↓isN_non, ↓isN_int, ↓isN_str, ↓isN_tup, ↓isN_lst, ↓nIsN_non, ↓nIsN_int, ↓nIsN_str, ↓nIsN_tup, ↓nIsN_lst, ↓k_LamCall, ↓k_lCons, ↓lam0_nil, ↓lam1_one, ↓k_raiseC, ↓o_powW, ↓k_Idx, ↓idxq_own, ↓idxq_lst, ↓k_wMx, ↓o_isB, ↓o_notB, ↓mix_32, ↓mix_32s, ↓mix_05, ↓mix_31, ↓mix_42, ↓mix_051, ↓k_RevL, ↓revL_own, ↓revL_lst, ↓k_eLenSet, ↓k_parC3, ↓pr3_3, if_true, if_false, Bool.not_true, Bool.not_false, Bool.false_eq_true, decide_true, decide_false, String.reduceEq, decide_eq_true_eq, Int.toNat_natCast, List.length_map, List.length_cons, List.length_nil, sizeL, Nat.zero_add, Nat.reduceAdd, Nat.reduceLeDiff]) (by simp [sizeL]; omega)]
  congr 2
  refine congrArg W.tup (List.ext_getElem (by simp; omega) fun i h1 h2 => ?_)
  have h3 : i < cs.length := by simpa using h2
  have h4 : i < ss.length := by omega
  simp [List.getD_eq_getElem?_getD, List.getElem?_eq_getElem h3, List.getElem?_eq_getElem h4]
theorem hid_ok {st : List Int} {n : Int} : m_hidden_v1 [.tup (st.map .int), .int n] = if 0 ≤ n ∧ n ≤ st.length then ret (.val (.tup ((st.take n.toNat).map .int))) else raise (ndE n) := by
  show mf_hidden_v1 _ _ = _
  unfold mf_hidden_v1
  simp only [↓un4_tup, ↓asS_str, ↓k_iChars, ↓k_put2C, ↓k_Fld, ↓k_setFC, ↓k_nmFC, ↓k_ffC, ↓k_Meth, ↓k_Meth0, ↓k_MethM, ↓k_MethM0, ↓k_Make, ↓k_Make0, ↓k_MakeM, ↓k_MakeM0, ↓k_Own, ↓k_EqO, ↓k_IsO, ↓k_InM, ↓k_GetM, ↓k_putMC, ↓k_putME, ↓k_delME, ↓k_DispK, ↓k_lLive, ↓k_lLvE, ↓k_lFix, ↓k_forLC, ↓k_LcL, ↓k_Lc2, ↓k_lc2b, ↓k_Fmt, ↓k_Joined, ↓k_jsNil, ↓k_jsCons, ↓k_LmV, ↓k_DcX, ↓k_ePrm, ↓src_lst, ↓src_tup, ↓k_V, ↓k_C, ↓k_Op2, ↓k_Fz, ↓k_wNil, ↓k_wCons, ↓k_Tup, ↓k_Lst, ↓k_oNo, ↓k_oPart, ↓k_Sl, ↓k_sNil, ↓k_sCons, ↓k_CB, ↓k_tYes, ↓k_tTst, ↓k_tAnd, ↓k_tOr, ↓k_tNot, ↓k_If, ↓k_And, ↓k_Or, ↓k_Not, ↓k_Neg, ↓k_Chn, ↓k_Call, ↓k_Call0, ↓k_wPerm, ↓k_iItems, ↓k_iRng1, ↓k_iRng2, ↓k_iZip, ↓k_iEnum, ↓k_iEnz, ↓k_ifC, ↓k_Lrg1, ↓k_parC, ↓k_starC, ↓k_setC, ↓k_setC2, ↓k_augC, ↓k_lcb, ↓k_Lc, ↓k_forC, ↓str_lit, ↓fz_val, ↓fz_seq, ↓rr_val, ↓rr_own, ↓sv_val, ↓sv_own, ↓asI_int, ↓asB_bl, ↓items_tup, ↓items_lst, ↓un2_tup, ↓un3_tup, ↓un5_tup, ↓uq2_tup, ↓uq3_tup, ↓uq2_lst, ↓uq3_lst, ↓uq4_tup, ↓uq5_tup, ↓star_tup, ↓star_lst, ↓pr2_2, ↓zip2_tup, ↓zip2_lst, ↓enz_2, ↓rng1_int, ↓rng2_int, ↓lrg1_int, ↓req_T, ↓ret_at, ↓raise_at, ↓call_ret, ↓call0_ret, ↓call_raise, ↓pm_0, ↓pm_01, ↓pm_10, ↓pm_012, ↓pm_021, ↓pm_102, ↓pm_120, ↓pm_201, ↓pm_210, ↓pm_0123, ↓pm_0132, ↓pm_0213, ↓pm_0231, ↓pm_0312, ↓pm_0321, ↓pm_1023, ↓pm_1032, ↓pm_1203, ↓pm_1230, ↓pm_1302, ↓pm_1320, ↓pm_2013, ↓pm_2031, ↓pm_2103, ↓pm_2130, ↓pm_2301, ↓pm_2310, ↓pm_3012, ↓pm_3021, ↓pm_3102, ↓pm_3120, ↓pm_3201, ↓pm_3210, ↓o_sub, ↓o_lt, ↓o_le, ↓o_gt, ↓o_ge, ↓o_mod, ↓o_fdiv, ↓o_pow, ↓o_mul, ↓o_rep, ↓o_repT, ↓o_add, ↓o_addS, ↓o_addT, ↓o_addLL, ↓o_addLO, ↓o_addOL, ↓o_addOO, ↓o_ixT, ↓o_ixL, ↓o_ixO, ↓atS_0, ↓atS_1, ↓atS_2, ↓atS_3, ↓atS_4, ↓slc_T, ↓slc_L, ↓slc_O, ↓ext_own, ↓ext_OO, ↓lm_own, ↓append_own, ↓b_lenT, ↓b_lenL, ↓b_lenO, ↓b_lenS, ↓k_Disp, ↓k_GetD, ↓k_Prm, ↓k_lmE, ↓b_back, ↓b_tupT, ↓b_tupL, ↓b_tupO, ↓b_lstT, ↓b_lstL, ↓b_lstO, ↓b_min2, ↓b_max2, ↓b_abs, ↓b_sorted, ↓b_sortedL, ↓b_sumO, ↓b_sumL, ↓b_sumT, ↓b_anyO, ↓b_allO, ↓o_eqI, ↓o_neI, ↓o_eqSt, ↓o_neSt, ↓o_eqT, ↓o_neT, ↓isN_non, ↓isN_int, ↓isN_str, ↓isN_tup, ↓isN_lst, ↓nIsN_non, ↓nIsN_int, ↓nIsN_str, ↓nIsN_tup, ↓nIsN_lst, ↓k_LamCall, ↓k_lCons, ↓lam0_nil, ↓lam1_one, ↓k_raiseC, ↓o_powW, ↓k_Idx, ↓idxq_own, ↓idxq_lst, ↓k_wMx, ↓o_isB, ↓o_notB, ↓mix_32, ↓mix_32s, ↓mix_05, ↓mix_31, ↓mix_42, ↓mix_051, ↓k_RevL, ↓revL_own, ↓revL_lst, ↓k_eLenSet, ↓k_parC3, ↓pr3_3, if_true, if_false, Bool.not_true, Bool.not_false, Bool.false_eq_true, decide_true, decide_false, String.reduceEq, decide_eq_true_eq, Int.toNat_natCast, List.length_map, List.length_cons, List.length_nil, sizeL, Nat.zero_add, Nat.reduceAdd, Nat.reduceLeDiff]
  by_cases a : 0 ≤ n
  · by_cases b : n ≤ st.length
    · have e := cut_to (xs := st.map W.int) (k := n.toNat)
      rw [show ((n.toNat : Nat) : Int) = n by omega] at e
      simp only [a, b, if_true, if_false, decide_true, Bool.not_true, true_and, Bool.false_eq_true, e, List.map_take]
    · simp only [a, b, if_true, if_false, decide_false, Bool.not_false, and_false]
      rfl
  · simp only [a, if_true, if_false, Bool.not_false, false_and]
    rfl
theorem told2_val {ML : List W → MC} {f : Addr} {w : W} (e : ML [] = ret (.val w)) : m__law_told_v2 ML f [.ref f] = ret (.val (.tup [.str "told", w])) := by
  show req _ (mf__law_told_v2 _ _ _) = _
  rw [req_of rfl]
  unfold mf__law_told_v2
  simp only [↓un4_tup, ↓asS_str, ↓k_iChars, ↓k_put2C, ↓k_Fld, ↓k_setFC, ↓k_nmFC, ↓k_ffC, ↓k_Meth, ↓k_Meth0, ↓k_MethM, ↓k_MethM0, ↓k_Make, ↓k_Make0, ↓k_MakeM, ↓k_MakeM0, ↓k_Own, ↓k_EqO, ↓k_IsO, ↓k_InM, ↓k_GetM, ↓k_putMC, ↓k_putME, ↓k_delME, ↓k_DispK, ↓k_lLive, ↓k_lLvE, ↓k_lFix, ↓k_forLC, ↓k_LcL, ↓k_Lc2, ↓k_lc2b, ↓k_Fmt, ↓k_Joined, ↓k_jsNil, ↓k_jsCons, ↓k_LmV, ↓k_DcX, ↓k_ePrm, ↓src_lst, ↓src_tup, ↓k_V, ↓k_C, ↓k_Op2, ↓k_Fz, ↓k_wNil, ↓k_wCons, ↓k_Tup, ↓k_Lst, ↓k_oNo, ↓k_oPart, ↓k_Sl, ↓k_sNil, ↓k_sCons, ↓k_CB, ↓k_tYes, ↓k_tTst, ↓k_tAnd, ↓k_tOr, ↓k_tNot, ↓k_If, ↓k_And, ↓k_Or, ↓k_Not, ↓k_Neg, ↓k_Chn, ↓k_Call, ↓k_Call0, ↓k_wPerm, ↓k_iItems, ↓k_iRng1, ↓k_iRng2, ↓k_iZip, ↓k_iEnum, ↓k_iEnz, ↓k_ifC, ↓k_Lrg1, ↓k_parC, ↓k_starC, ↓k_setC, ↓k_setC2, ↓k_augC, ↓k_lcb, ↓k_Lc, ↓k_forC, ↓str_lit, ↓fz_val, ↓fz_seq, ↓rr_val, ↓rr_own, ↓sv_val, ↓sv_own, ↓asI_int, ↓asB_bl, ↓items_tup, ↓items_lst, ↓un2_tup, ↓un3_tup, ↓un5_tup, ↓uq2_tup, ↓uq3_tup, ↓uq2_lst, ↓uq3_lst, ↓uq4_tup, ↓uq5_tup, ↓star_tup, ↓star_lst, ↓pr2_2, ↓zip2_tup, ↓zip2_lst, ↓enz_2, ↓rng1_int, ↓rng2_int, ↓lrg1_int, ↓req_T, ↓ret_at, ↓raise_at, ↓call_ret, ↓call0_ret, ↓call_raise, ↓pm_0, ↓pm_01, ↓pm_10, ↓pm_012, ↓pm_021, ↓pm_102, ↓pm_120, ↓pm_201, ↓pm_210, ↓pm_0123, ↓pm_0132, ↓pm_0213, ↓pm_0231, ↓pm_0312, ↓pm_0321, ↓pm_1023, ↓pm_1032, ↓pm_1203, ↓pm_1230, ↓pm_1302, ↓pm_1320, ↓pm_2013, ↓pm_2031, ↓pm_2103, ↓pm_2130, ↓pm_2301, ↓pm_2310, ↓pm_3012, ↓pm_3021, ↓pm_3102, ↓pm_3120, ↓pm_3201, ↓pm_3210, ↓o_sub, ↓o_lt, ↓o_le, ↓o_gt, ↓o_ge, ↓o_mod, ↓o_fdiv, ↓o_pow, ↓o_mul, ↓o_rep, ↓o_repT, ↓o_add, ↓o_addS, ↓o_addT, ↓o_addLL, ↓o_addLO, ↓o_addOL, ↓o_addOO, ↓o_ixT, ↓o_ixL, ↓o_ixO, ↓atS_0, ↓atS_1, ↓atS_2, ↓atS_3, ↓atS_4, ↓slc_T, ↓slc_L, ↓slc_O, ↓ext_own, ↓ext_OO, ↓lm_own, ↓append_own, ↓b_lenT, ↓b_lenL, ↓b_lenO, ↓b_lenS, ↓k_Disp, ↓k_GetD, ↓k_Prm, ↓k_lmE, ↓b_back, ↓b_tupT, ↓b_tupL, ↓b_tupO, ↓b_lstT, ↓b_lstL, ↓b_lstO, ↓b_min2, ↓b_max2, ↓b_abs, ↓b_sorted, ↓b_sortedL, ↓b_sumO, ↓b_sumL, ↓b_sumT, ↓b_anyO, ↓b_allO, ↓o_eqI, ↓o_neI, ↓o_eqSt, ↓o_neSt, ↓o_eqT, ↓o_neT, ↓isN_non, ↓isN_int, ↓isN_str, ↓isN_tup, ↓isN_lst, ↓nIsN_non, ↓nIsN_int, ↓nIsN_str, ↓nIsN_tup, ↓nIsN_lst, ↓k_LamCall, ↓k_lCons, ↓lam0_nil, ↓lam1_one, ↓k_raiseC, ↓o_powW, ↓k_Idx, ↓idxq_own, ↓idxq_lst, ↓k_wMx, ↓o_isB, ↓o_notB, ↓mix_32, ↓mix_32s, ↓mix_05, ↓mix_31, ↓mix_42, ↓mix_051, ↓k_RevL, ↓revL_own, ↓revL_lst, ↓k_eLenSet, ↓k_parC3, ↓pr3_3, if_true, if_false, Bool.not_true, Bool.not_false, Bool.false_eq_true, decide_true, decide_false, String.reduceEq, decide_eq_true_eq, Int.toNat_natCast, List.length_map, List.length_cons, List.length_nil, sizeL, Nat.zero_add, Nat.reduceAdd, Nat.reduceLeDiff]
  rw [tryC_val (w := .tup [.str "told", w]) fun kk => ?_]
  simp only [↓un4_tup, ↓asS_str, ↓k_iChars, ↓k_put2C, ↓k_Fld, ↓k_setFC, ↓k_nmFC, ↓k_ffC, ↓k_Meth, ↓k_Meth0, ↓k_MethM, ↓k_MethM0, ↓k_Make, ↓k_Make0, ↓k_MakeM, ↓k_MakeM0, ↓k_Own, ↓k_EqO, ↓k_IsO, ↓k_InM, ↓k_GetM, ↓k_putMC, ↓k_putME, ↓k_delME, ↓k_DispK, ↓k_lLive, ↓k_lLvE, ↓k_lFix, ↓k_forLC, ↓k_LcL, ↓k_Lc2, ↓k_lc2b, ↓k_Fmt, ↓k_Joined, ↓k_jsNil, ↓k_jsCons, ↓k_LmV, ↓k_DcX, ↓k_ePrm, ↓src_lst, ↓src_tup, ↓k_V, ↓k_C, ↓k_Op2, ↓k_Fz, ↓k_wNil, ↓k_wCons, ↓k_Tup, ↓k_Lst, ↓k_oNo, ↓k_oPart, ↓k_Sl, ↓k_sNil, ↓k_sCons, ↓k_CB, ↓k_tYes, ↓k_tTst, ↓k_tAnd, ↓k_tOr, ↓k_tNot, ↓k_If, ↓k_And, ↓k_Or, ↓k_Not, ↓k_Neg, ↓k_Chn, ↓k_Call, ↓k_Call0, ↓k_wPerm, ↓k_iItems, ↓k_iRng1, ↓k_iRng2, ↓k_iZip, ↓k_iEnum, ↓k_iEnz, ↓k_ifC, ↓k_Lrg1, ↓k_parC, ↓k_starC, ↓k_setC, ↓k_setC2, ↓k_augC, ↓k_lcb, ↓k_Lc, ↓k_forC, ↓str_lit, ↓fz_val, ↓fz_seq, ↓rr_val, ↓rr_own, ↓sv_val, ↓sv_own, ↓asI_int, ↓asB_bl, ↓items_tup, ↓items_lst, ↓un2_tup, ↓un3_tup, ↓un5_tup, ↓uq2_tup, ↓uq3_tup, ↓uq2_lst, ↓uq3_lst, ↓uq4_tup, ↓uq5_tup, ↓star_tup, ↓star_lst, ↓pr2_2, ↓zip2_tup, ↓zip2_lst, ↓enz_2, ↓rng1_int, ↓rng2_int, ↓lrg1_int, ↓req_T, ↓ret_at, ↓raise_at, ↓call_ret, ↓call0_ret, ↓call_raise, ↓pm_0, ↓pm_01, ↓pm_10, ↓pm_012, ↓pm_021, ↓pm_102, ↓pm_120, ↓pm_201, ↓pm_210, ↓pm_0123, ↓pm_0132, ↓pm_0213, ↓pm_0231, ↓pm_0312, ↓pm_0321, ↓pm_1023, ↓pm_1032, ↓pm_1203, ↓pm_1230, ↓pm_1302, ↓pm_1320, ↓pm_2013, ↓pm_2031, ↓pm_2103, ↓pm_2130, ↓pm_2301, ↓pm_2310, ↓pm_3012, ↓pm_3021, ↓pm_3102, ↓pm_3120, ↓pm_3201, ↓pm_3210, ↓o_sub, ↓o_lt, ↓o_le, ↓o_gt, ↓o_ge, ↓o_mod, ↓o_fdiv, ↓o_pow, ↓o_mul, ↓o_rep, ↓o_repT, ↓o_add, ↓o_addS, ↓o_addT, ↓o_addLL, ↓o_addLO, ↓o_addOL, ↓o_addOO, ↓o_ixT, ↓o_ixL, ↓o_ixO, ↓atS_0, ↓atS_1, ↓atS_2, ↓atS_3, ↓atS_4, ↓slc_T, ↓slc_L, ↓slc_O, ↓ext_own, ↓ext_OO, ↓lm_own, ↓append_own, ↓b_lenT, ↓b_lenL, ↓b_lenO, ↓b_lenS, ↓k_Disp, ↓k_GetD, ↓k_Prm, ↓k_lmE, ↓b_back, ↓b_tupT, ↓b_tupL, ↓b_tupO, ↓b_lstT, ↓b_lstL, ↓b_lstO, ↓b_min2, ↓b_max2, ↓b_abs, ↓b_sorted, ↓b_sortedL, ↓b_sumO, ↓b_sumL, ↓b_sumT, ↓b_anyO, ↓b_allO, ↓o_eqI, ↓o_neI, ↓o_eqSt, ↓o_neSt, ↓o_eqT, ↓o_neT, ↓isN_non, ↓isN_int, ↓isN_str, ↓isN_tup, ↓isN_lst, ↓nIsN_non, ↓nIsN_int, ↓nIsN_str, ↓nIsN_tup, ↓nIsN_lst, ↓k_LamCall, ↓k_lCons, ↓lam0_nil, ↓lam1_one, ↓k_raiseC, ↓o_powW, ↓k_Idx, ↓idxq_own, ↓idxq_lst, ↓k_wMx, ↓o_isB, ↓o_notB, ↓mix_32, ↓mix_32s, ↓mix_05, ↓mix_31, ↓mix_42, ↓mix_051, ↓k_RevL, ↓revL_own, ↓revL_lst, ↓k_eLenSet, ↓k_parC3, ↓pr3_3, if_true, if_false, Bool.not_true, Bool.not_false, Bool.false_eq_true, decide_true, decide_false, String.reduceEq, decide_eq_true_eq, Int.toNat_natCast, List.length_map, List.length_cons, List.length_nil, sizeL, Nat.zero_add, Nat.reduceAdd, Nat.reduceLeDiff, e]
theorem told2_nd {ML : List W → MC} {f : Addr} {i : Int} (e : ML [] = raise (ndE i)) : m__law_told_v2 ML f [.ref f] = ret (.val (.tup [.str "no drop", .int i])) := by
  show req _ (mf__law_told_v2 _ _ _) = _
  rw [req_of rfl]
  unfold mf__law_told_v2
  simp only [↓un4_tup, ↓asS_str, ↓k_iChars, ↓k_put2C, ↓k_Fld, ↓k_setFC, ↓k_nmFC, ↓k_ffC, ↓k_Meth, ↓k_Meth0, ↓k_MethM, ↓k_MethM0, ↓k_Make, ↓k_Make0, ↓k_MakeM, ↓k_MakeM0, ↓k_Own, ↓k_EqO, ↓k_IsO, ↓k_InM, ↓k_GetM, ↓k_putMC, ↓k_putME, ↓k_delME, ↓k_DispK, ↓k_lLive, ↓k_lLvE, ↓k_lFix, ↓k_forLC, ↓k_LcL, ↓k_Lc2, ↓k_lc2b, ↓k_Fmt, ↓k_Joined, ↓k_jsNil, ↓k_jsCons, ↓k_LmV, ↓k_DcX, ↓k_ePrm, ↓src_lst, ↓src_tup, ↓k_V, ↓k_C, ↓k_Op2, ↓k_Fz, ↓k_wNil, ↓k_wCons, ↓k_Tup, ↓k_Lst, ↓k_oNo, ↓k_oPart, ↓k_Sl, ↓k_sNil, ↓k_sCons, ↓k_CB, ↓k_tYes, ↓k_tTst, ↓k_tAnd, ↓k_tOr, ↓k_tNot, ↓k_If, ↓k_And, ↓k_Or, ↓k_Not, ↓k_Neg, ↓k_Chn, ↓k_Call, ↓k_Call0, ↓k_wPerm, ↓k_iItems, ↓k_iRng1, ↓k_iRng2, ↓k_iZip, ↓k_iEnum, ↓k_iEnz, ↓k_ifC, ↓k_Lrg1, ↓k_parC, ↓k_starC, ↓k_setC, ↓k_setC2, ↓k_augC, ↓k_lcb, ↓k_Lc, ↓k_forC, ↓str_lit, ↓fz_val, ↓fz_seq, ↓rr_val, ↓rr_own, ↓sv_val, ↓sv_own, ↓asI_int, ↓asB_bl, ↓items_tup, ↓items_lst, ↓un2_tup, ↓un3_tup, ↓un5_tup, ↓uq2_tup, ↓uq3_tup, ↓uq2_lst, ↓uq3_lst, ↓uq4_tup, ↓uq5_tup, ↓star_tup, ↓star_lst, ↓pr2_2, ↓zip2_tup, ↓zip2_lst, ↓enz_2, ↓rng1_int, ↓rng2_int, ↓lrg1_int, ↓req_T, ↓ret_at, ↓raise_at, ↓call_ret, ↓call0_ret, ↓call_raise, ↓pm_0, ↓pm_01, ↓pm_10, ↓pm_012, ↓pm_021, ↓pm_102, ↓pm_120, ↓pm_201, ↓pm_210, ↓pm_0123, ↓pm_0132, ↓pm_0213, ↓pm_0231, ↓pm_0312, ↓pm_0321, ↓pm_1023, ↓pm_1032, ↓pm_1203, ↓pm_1230, ↓pm_1302, ↓pm_1320, ↓pm_2013, ↓pm_2031, ↓pm_2103, ↓pm_2130, ↓pm_2301, ↓pm_2310, ↓pm_3012, ↓pm_3021, ↓pm_3102, ↓pm_3120, ↓pm_3201, ↓pm_3210, ↓o_sub, ↓o_lt, ↓o_le, ↓o_gt, ↓o_ge, ↓o_mod, ↓o_fdiv, ↓o_pow, ↓o_mul, ↓o_rep, ↓o_repT, ↓o_add, ↓o_addS, ↓o_addT, ↓o_addLL, ↓o_addLO, ↓o_addOL, ↓o_addOO, ↓o_ixT, ↓o_ixL, ↓o_ixO, ↓atS_0, ↓atS_1, ↓atS_2, ↓atS_3, ↓atS_4, ↓slc_T, ↓slc_L, ↓slc_O, ↓ext_own, ↓ext_OO, ↓lm_own, ↓append_own, ↓b_lenT, ↓b_lenL, ↓b_lenO, ↓b_lenS, ↓k_Disp, ↓k_GetD, ↓k_Prm, ↓k_lmE, ↓b_back, ↓b_tupT, ↓b_tupL, ↓b_tupO, ↓b_lstT, ↓b_lstL, ↓b_lstO, ↓b_min2, ↓b_max2, ↓b_abs, ↓b_sorted, ↓b_sortedL, ↓b_sumO, ↓b_sumL, ↓b_sumT, ↓b_anyO, ↓b_allO, ↓o_eqI, ↓o_neI, ↓o_eqSt, ↓o_neSt, ↓o_eqT, ↓o_neT, ↓isN_non, ↓isN_int, ↓isN_str, ↓isN_tup, ↓isN_lst, ↓nIsN_non, ↓nIsN_int, ↓nIsN_str, ↓nIsN_tup, ↓nIsN_lst, ↓k_LamCall, ↓k_lCons, ↓lam0_nil, ↓lam1_one, ↓k_raiseC, ↓o_powW, ↓k_Idx, ↓idxq_own, ↓idxq_lst, ↓k_wMx, ↓o_isB, ↓o_notB, ↓mix_32, ↓mix_32s, ↓mix_05, ↓mix_31, ↓mix_42, ↓mix_051, ↓k_RevL, ↓revL_own, ↓revL_lst, ↓k_eLenSet, ↓k_parC3, ↓pr3_3, if_true, if_false, Bool.not_true, Bool.not_false, Bool.false_eq_true, decide_true, decide_false, String.reduceEq, decide_eq_true_eq, Int.toNat_natCast, List.length_map, List.length_cons, List.length_nil, sizeL, Nat.zero_add, Nat.reduceAdd, Nat.reduceLeDiff]
  rw [tryC_exc (x := ndE i) fun kk => ?_]
  · funext h Q E
    refine propext ⟨fun z => ?_, fun z => ?_⟩
    · obtain ⟨_, z⟩ := z
      rw [if_pos (by show subX "NoDrop" _ = _; decide)] at z
      obtain ⟨w, e, _, z⟩ := z
      cases e
      exact z
    · refine ⟨by show ("NoDrop" : Str) ∈ _; decide, ?_⟩
      rw [if_pos (by show subX "NoDrop" _ = _; decide)]
      exact ⟨_, rfl, Nat.le_of_ble_eq_true rfl, z⟩
  · simp only [↓un4_tup, ↓asS_str, ↓k_iChars, ↓k_put2C, ↓k_Fld, ↓k_setFC, ↓k_nmFC, ↓k_ffC, ↓k_Meth, ↓k_Meth0, ↓k_MethM, ↓k_MethM0, ↓k_Make, ↓k_Make0, ↓k_MakeM, ↓k_MakeM0, ↓k_Own, ↓k_EqO, ↓k_IsO, ↓k_InM, ↓k_GetM, ↓k_putMC, ↓k_putME, ↓k_delME, ↓k_DispK, ↓k_lLive, ↓k_lLvE, ↓k_lFix, ↓k_forLC, ↓k_LcL, ↓k_Lc2, ↓k_lc2b, ↓k_Fmt, ↓k_Joined, ↓k_jsNil, ↓k_jsCons, ↓k_LmV, ↓k_DcX, ↓k_ePrm, ↓src_lst, ↓src_tup, ↓k_V, ↓k_C, ↓k_Op2, ↓k_Fz, ↓k_wNil, ↓k_wCons, ↓k_Tup, ↓k_Lst, ↓k_oNo, ↓k_oPart, ↓k_Sl, ↓k_sNil, ↓k_sCons, ↓k_CB, ↓k_tYes, ↓k_tTst, ↓k_tAnd, ↓k_tOr, ↓k_tNot, ↓k_If, ↓k_And, ↓k_Or, ↓k_Not, ↓k_Neg, ↓k_Chn, ↓k_Call, ↓k_Call0, ↓k_wPerm, ↓k_iItems, ↓k_iRng1, ↓k_iRng2, ↓k_iZip, ↓k_iEnum, ↓k_iEnz, ↓k_ifC, ↓k_Lrg1, ↓k_parC, ↓k_starC, ↓k_setC, ↓k_setC2, ↓k_augC, ↓k_lcb, ↓k_Lc, ↓k_forC, ↓str_lit, ↓fz_val, ↓fz_seq, ↓rr_val, ↓rr_own, ↓sv_val, ↓sv_own, ↓asI_int, ↓asB_bl, ↓items_tup, ↓items_lst, ↓un2_tup, ↓un3_tup, ↓un5_tup, ↓uq2_tup, ↓uq3_tup, ↓uq2_lst, ↓uq3_lst, ↓uq4_tup, ↓uq5_tup, ↓star_tup, ↓star_lst, ↓pr2_2, ↓zip2_tup, ↓zip2_lst, ↓enz_2, ↓rng1_int, ↓rng2_int, ↓lrg1_int, ↓req_T, ↓ret_at, ↓raise_at, ↓call_ret, ↓call0_ret, ↓call_raise, ↓pm_0, ↓pm_01, ↓pm_10, ↓pm_012, ↓pm_021, ↓pm_102, ↓pm_120, ↓pm_201, ↓pm_210, ↓pm_0123, ↓pm_0132, ↓pm_0213, ↓pm_0231, ↓pm_0312, ↓pm_0321, ↓pm_1023, ↓pm_1032, ↓pm_1203, ↓pm_1230, ↓pm_1302, ↓pm_1320, ↓pm_2013, ↓pm_2031, ↓pm_2103, ↓pm_2130, ↓pm_2301, ↓pm_2310, ↓pm_3012, ↓pm_3021, ↓pm_3102, ↓pm_3120, ↓pm_3201, ↓pm_3210, ↓o_sub, ↓o_lt, ↓o_le, ↓o_gt, ↓o_ge, ↓o_mod, ↓o_fdiv, ↓o_pow, ↓o_mul, ↓o_rep, ↓o_repT, ↓o_add, ↓o_addS, ↓o_addT, ↓o_addLL, ↓o_addLO, ↓o_addOL, ↓o_addOO, ↓o_ixT, ↓o_ixL, ↓o_ixO, ↓atS_0, ↓atS_1, ↓atS_2, ↓atS_3, ↓atS_4, ↓slc_T, ↓slc_L, ↓slc_O, ↓ext_own, ↓ext_OO, ↓lm_own, ↓append_own, ↓b_lenT, ↓b_lenL, ↓b_lenO, ↓b_lenS, ↓k_Disp, ↓k_GetD, ↓k_Prm, ↓k_lmE, ↓b_back, ↓b_tupT, ↓b_tupL, ↓b_tupO, ↓b_lstT, ↓b_lstL, ↓b_lstO, ↓b_min2, ↓b_max2, ↓b_abs, ↓b_sorted, ↓b_sortedL, ↓b_sumO, ↓b_sumL, ↓b_sumT, ↓b_anyO, ↓b_allO, ↓o_eqI, ↓o_neI, ↓o_eqSt, ↓o_neSt, ↓o_eqT, ↓o_neT, ↓isN_non, ↓isN_int, ↓isN_str, ↓isN_tup, ↓isN_lst, ↓nIsN_non, ↓nIsN_int, ↓nIsN_str, ↓nIsN_tup, ↓nIsN_lst, ↓k_LamCall, ↓k_lCons, ↓lam0_nil, ↓lam1_one, ↓k_raiseC, ↓o_powW, ↓k_Idx, ↓idxq_own, ↓idxq_lst, ↓k_wMx, ↓o_isB, ↓o_notB, ↓mix_32, ↓mix_32s, ↓mix_05, ↓mix_31, ↓mix_42, ↓mix_051, ↓k_RevL, ↓revL_own, ↓revL_lst, ↓k_eLenSet, ↓k_parC3, ↓pr3_3, if_true, if_false, Bool.not_true, Bool.not_false, Bool.false_eq_true, decide_true, decide_false, String.reduceEq, decide_eq_true_eq, Int.toNat_natCast, List.length_map, List.length_cons, List.length_nil, sizeL, Nat.zero_add, Nat.reduceAdd, Nat.reduceLeDiff, e]
theorem told2_tm {ML : List W → MC} {f : Addr} (e : ML [] = raise tmE) : m__law_told_v2 ML f [.ref f] = ret (.val (.tup [.str "too many", .int 60])) := by
  show req _ (mf__law_told_v2 _ _ _) = _
  rw [req_of rfl]
  unfold mf__law_told_v2
  simp only [↓un4_tup, ↓asS_str, ↓k_iChars, ↓k_put2C, ↓k_Fld, ↓k_setFC, ↓k_nmFC, ↓k_ffC, ↓k_Meth, ↓k_Meth0, ↓k_MethM, ↓k_MethM0, ↓k_Make, ↓k_Make0, ↓k_MakeM, ↓k_MakeM0, ↓k_Own, ↓k_EqO, ↓k_IsO, ↓k_InM, ↓k_GetM, ↓k_putMC, ↓k_putME, ↓k_delME, ↓k_DispK, ↓k_lLive, ↓k_lLvE, ↓k_lFix, ↓k_forLC, ↓k_LcL, ↓k_Lc2, ↓k_lc2b, ↓k_Fmt, ↓k_Joined, ↓k_jsNil, ↓k_jsCons, ↓k_LmV, ↓k_DcX, ↓k_ePrm, ↓src_lst, ↓src_tup, ↓k_V, ↓k_C, ↓k_Op2, ↓k_Fz, ↓k_wNil, ↓k_wCons, ↓k_Tup, ↓k_Lst, ↓k_oNo, ↓k_oPart, ↓k_Sl, ↓k_sNil, ↓k_sCons, ↓k_CB, ↓k_tYes, ↓k_tTst, ↓k_tAnd, ↓k_tOr, ↓k_tNot, ↓k_If, ↓k_And, ↓k_Or, ↓k_Not, ↓k_Neg, ↓k_Chn, ↓k_Call, ↓k_Call0, ↓k_wPerm, ↓k_iItems, ↓k_iRng1, ↓k_iRng2, ↓k_iZip, ↓k_iEnum, ↓k_iEnz, ↓k_ifC, ↓k_Lrg1, ↓k_parC, ↓k_starC, ↓k_setC, ↓k_setC2, ↓k_augC, ↓k_lcb, ↓k_Lc, ↓k_forC, ↓str_lit, ↓fz_val, ↓fz_seq, ↓rr_val, ↓rr_own, ↓sv_val, ↓sv_own, ↓asI_int, ↓asB_bl, ↓items_tup, ↓items_lst, ↓un2_tup, ↓un3_tup, ↓un5_tup, ↓uq2_tup, ↓uq3_tup, ↓uq2_lst, ↓uq3_lst, ↓uq4_tup, ↓uq5_tup, ↓star_tup, ↓star_lst, ↓pr2_2, ↓zip2_tup, ↓zip2_lst, ↓enz_2, ↓rng1_int, ↓rng2_int, ↓lrg1_int, ↓req_T, ↓ret_at, ↓raise_at, ↓call_ret, ↓call0_ret, ↓call_raise, ↓pm_0, ↓pm_01, ↓pm_10, ↓pm_012, ↓pm_021, ↓pm_102, ↓pm_120, ↓pm_201, ↓pm_210, ↓pm_0123, ↓pm_0132, ↓pm_0213, ↓pm_0231, ↓pm_0312, ↓pm_0321, ↓pm_1023, ↓pm_1032, ↓pm_1203, ↓pm_1230, ↓pm_1302, ↓pm_1320, ↓pm_2013, ↓pm_2031, ↓pm_2103, ↓pm_2130, ↓pm_2301, ↓pm_2310, ↓pm_3012, ↓pm_3021, ↓pm_3102, ↓pm_3120, ↓pm_3201, ↓pm_3210, ↓o_sub, ↓o_lt, ↓o_le, ↓o_gt, ↓o_ge, ↓o_mod, ↓o_fdiv, ↓o_pow, ↓o_mul, ↓o_rep, ↓o_repT, ↓o_add, ↓o_addS, ↓o_addT, ↓o_addLL, ↓o_addLO, ↓o_addOL, ↓o_addOO, ↓o_ixT, ↓o_ixL, ↓o_ixO, ↓atS_0, ↓atS_1, ↓atS_2, ↓atS_3, ↓atS_4, ↓slc_T, ↓slc_L, ↓slc_O, ↓ext_own, ↓ext_OO, ↓lm_own, ↓append_own, ↓b_lenT, ↓b_lenL, ↓b_lenO, ↓b_lenS, ↓k_Disp, ↓k_GetD, ↓k_Prm, ↓k_lmE, ↓b_back, ↓b_tupT, ↓b_tupL, ↓b_tupO, ↓b_lstT, ↓b_lstL, ↓b_lstO, ↓b_min2, ↓b_max2, ↓b_abs, ↓b_sorted, ↓b_sortedL, ↓b_sumO, ↓b_sumL, ↓b_sumT, ↓b_anyO, ↓b_allO, ↓o_eqI, ↓o_neI, ↓o_eqSt, ↓o_neSt, ↓o_eqT, ↓o_neT, ↓isN_non, ↓isN_int, ↓isN_str, ↓isN_tup, ↓isN_lst, ↓nIsN_non, ↓nIsN_int, ↓nIsN_str, ↓nIsN_tup, ↓nIsN_lst, ↓k_LamCall, ↓k_lCons, ↓lam0_nil, ↓lam1_one, ↓k_raiseC, ↓o_powW, ↓k_Idx, ↓idxq_own, ↓idxq_lst, ↓k_wMx, ↓o_isB, ↓o_notB, ↓mix_32, ↓mix_32s, ↓mix_05, ↓mix_31, ↓mix_42, ↓mix_051, ↓k_RevL, ↓revL_own, ↓revL_lst, ↓k_eLenSet, ↓k_parC3, ↓pr3_3, if_true, if_false, Bool.not_true, Bool.not_false, Bool.false_eq_true, decide_true, decide_false, String.reduceEq, decide_eq_true_eq, Int.toNat_natCast, List.length_map, List.length_cons, List.length_nil, sizeL, Nat.zero_add, Nat.reduceAdd, Nat.reduceLeDiff]
  rw [tryC_exc (x := tmE) fun kk => ?_]
  · funext h Q E
    refine propext ⟨fun z => ?_, fun z => ?_⟩
    · obtain ⟨_, z⟩ := z
      rw [if_neg (by show ¬ subX "TooMany" _ = _; decide)] at z
      obtain ⟨_, z⟩ := z
      rw [if_pos (by show subX "TooMany" _ = _; decide)] at z
      obtain ⟨w, e, _, z⟩ := z
      cases e
      exact z
    · refine ⟨by show ("TooMany" : Str) ∈ _; decide, ?_⟩
      rw [if_neg (by show ¬ subX "TooMany" _ = _; decide)]
      refine ⟨by show ("TooMany" : Str) ∈ _; decide, ?_⟩
      rw [if_pos (by show subX "TooMany" _ = _; decide)]
      exact ⟨_, rfl, Nat.le_of_ble_eq_true rfl, z⟩
  · simp only [↓un4_tup, ↓asS_str, ↓k_iChars, ↓k_put2C, ↓k_Fld, ↓k_setFC, ↓k_nmFC, ↓k_ffC, ↓k_Meth, ↓k_Meth0, ↓k_MethM, ↓k_MethM0, ↓k_Make, ↓k_Make0, ↓k_MakeM, ↓k_MakeM0, ↓k_Own, ↓k_EqO, ↓k_IsO, ↓k_InM, ↓k_GetM, ↓k_putMC, ↓k_putME, ↓k_delME, ↓k_DispK, ↓k_lLive, ↓k_lLvE, ↓k_lFix, ↓k_forLC, ↓k_LcL, ↓k_Lc2, ↓k_lc2b, ↓k_Fmt, ↓k_Joined, ↓k_jsNil, ↓k_jsCons, ↓k_LmV, ↓k_DcX, ↓k_ePrm, ↓src_lst, ↓src_tup, ↓k_V, ↓k_C, ↓k_Op2, ↓k_Fz, ↓k_wNil, ↓k_wCons, ↓k_Tup, ↓k_Lst, ↓k_oNo, ↓k_oPart, ↓k_Sl, ↓k_sNil, ↓k_sCons, ↓k_CB, ↓k_tYes, ↓k_tTst, ↓k_tAnd, ↓k_tOr, ↓k_tNot, ↓k_If, ↓k_And, ↓k_Or, ↓k_Not, ↓k_Neg, ↓k_Chn, ↓k_Call, ↓k_Call0, ↓k_wPerm, ↓k_iItems, ↓k_iRng1, ↓k_iRng2, ↓k_iZip, ↓k_iEnum, ↓k_iEnz, ↓k_ifC, ↓k_Lrg1, ↓k_parC, ↓k_starC, ↓k_setC, ↓k_setC2, ↓k_augC, ↓k_lcb, ↓k_Lc, ↓k_forC, ↓str_lit, ↓fz_val, ↓fz_seq, ↓rr_val, ↓rr_own, ↓sv_val, ↓sv_own, ↓asI_int, ↓asB_bl, ↓items_tup, ↓items_lst, ↓un2_tup, ↓un3_tup, ↓un5_tup, ↓uq2_tup, ↓uq3_tup, ↓uq2_lst, ↓uq3_lst, ↓uq4_tup, ↓uq5_tup, ↓star_tup, ↓star_lst, ↓pr2_2, ↓zip2_tup, ↓zip2_lst, ↓enz_2, ↓rng1_int, ↓rng2_int, ↓lrg1_int, ↓req_T, ↓ret_at, ↓raise_at, ↓call_ret, ↓call0_ret, ↓call_raise, ↓pm_0, ↓pm_01, ↓pm_10, ↓pm_012, ↓pm_021, ↓pm_102, ↓pm_120, ↓pm_201, ↓pm_210, ↓pm_0123, ↓pm_0132, ↓pm_0213, ↓pm_0231, ↓pm_0312, ↓pm_0321, ↓pm_1023, ↓pm_1032, ↓pm_1203, ↓pm_1230, ↓pm_1302, ↓pm_1320, ↓pm_2013, ↓pm_2031, ↓pm_2103, ↓pm_2130, ↓pm_2301, ↓pm_2310, ↓pm_3012, ↓pm_3021, ↓pm_3102, ↓pm_3120, ↓pm_3201, ↓pm_3210, ↓o_sub, ↓o_lt, ↓o_le, ↓o_gt, ↓o_ge, ↓o_mod, ↓o_fdiv, ↓o_pow, ↓o_mul, ↓o_rep, ↓o_repT, ↓o_add, ↓o_addS, ↓o_addT, ↓o_addLL, ↓o_addLO, ↓o_addOL, ↓o_addOO, ↓o_ixT, ↓o_ixL, ↓o_ixO, ↓atS_0, ↓atS_1, ↓atS_2, ↓atS_3, ↓atS_4, ↓slc_T, ↓slc_L, ↓slc_O, ↓ext_own, ↓ext_OO, ↓lm_own, ↓append_own, ↓b_lenT, ↓b_lenL, ↓b_lenO, ↓b_lenS, ↓k_Disp, ↓k_GetD, ↓k_Prm, ↓k_lmE, ↓b_back, ↓b_tupT, ↓b_tupL, ↓b_tupO, ↓b_lstT, ↓b_lstL, ↓b_lstO, ↓b_min2, ↓b_max2, ↓b_abs, ↓b_sorted, ↓b_sortedL, ↓b_sumO, ↓b_sumL, ↓b_sumT, ↓b_anyO, ↓b_allO, ↓o_eqI, ↓o_neI, ↓o_eqSt, ↓o_neSt, ↓o_eqT, ↓o_neT, ↓isN_non, ↓isN_int, ↓isN_str, ↓isN_tup, ↓isN_lst, ↓nIsN_non, ↓nIsN_int, ↓nIsN_str, ↓nIsN_tup, ↓nIsN_lst, ↓k_LamCall, ↓k_lCons, ↓lam0_nil, ↓lam1_one, ↓k_raiseC, ↓o_powW, ↓k_Idx, ↓idxq_own, ↓idxq_lst, ↓k_wMx, ↓o_isB, ↓o_notB, ↓mix_32, ↓mix_32s, ↓mix_05, ↓mix_31, ↓mix_42, ↓mix_051, ↓k_RevL, ↓revL_own, ↓revL_lst, ↓k_eLenSet, ↓k_parC3, ↓pr3_3, if_true, if_false, Bool.not_true, Bool.not_false, Bool.false_eq_true, decide_true, decide_false, String.reduceEq, decide_eq_true_eq, Int.toNat_natCast, List.length_map, List.length_cons, List.length_nil, sizeL, Nat.zero_add, Nat.reduceAdd, Nat.reduceLeDiff, e]
theorem hereT {ML : List W → MC} {w : W} {K : SV → MC} (e : ∀ f, m__law_told_v2 ML f [.ref f] = ret (.val w)) : lHere wNil (fun f ws => call (m__law_told_v2 ML f ws) K) = K (.val w) := lHere_const fun f => by
  show call (m__law_told_v2 ML f [.ref f]) K = _
  rw [e, call_ret]
theorem foldl_len {α : Type} : ∀ (l : List α) (n : Nat), l.foldl (fun n _ => n + 1) n = n + l.length
  | [], n => rfl
  | a :: l, n => by rw [List.foldl_cons, foldl_len l, List.length_cons]; omega
theorem pow20 : CPow 10 20 := by
  unfold CPow
  decide
theorem tens_ok : SzOk [10, 10, 10, 10, 10, 10] ∧ CtOk [10, 10, 10, 10, 10, 10] [10, 10, 10, 10, 10, 10] := ⟨⟨by decide, by decide, by simp⟩, rfl, fun i c s h1 h2 => by
  rw [h1] at h2
  cases h2
  have z := List.mem_of_getElem? h1
  simp at z
  omega⟩
theorem tens1_ok : SzOk [10, 10, 10, 10, 10, 11] ∧ CtOk [10, 10, 10, 10, 10, 11] [10, 10, 10, 10, 10, 11] := ⟨⟨by decide, by decide, by simp⟩, rfl, fun i c s h1 h2 => by
  rw [h1] at h2
  cases h2
  have z := List.mem_of_getElem? h1
  simp at z
  omega⟩
theorem same_tw {a : String} {w : W} {n : Nat} (h : w.sm (n + 1) = true) : (W.tup [.str a, w]).sm (n + 2) = true := sm_tup (by simp) fun x hx => by
  simp only [List.mem_cons, List.not_mem_nil, or_false] at hx
  rcases hx with rfl | rfl
  · rfl
  · exact h
theorem pl_tw {a : String} {i : Int} : (W.tup [.str a, .int i]).plain := ⟨1, by omega, rfl⟩
theorem law_ok {ns : List Int} (hn : ns.length ≤ 63) (h : AH) (Q : RR → AH → Prop) (E : AExc → AH → Prop) (q : ∀ h', Q (.val (.bl true)) h') : m_law [.lst (ns.map .int)] h Q E := by
  show mf_law _ h Q E
  unfold mf_law
  conv => fun; fun; fun; simp only [↓un4_tup, ↓asS_str, ↓k_iChars, ↓k_put2C, ↓k_Fld, ↓k_setFC, ↓k_nmFC, ↓k_ffC, ↓k_Meth, ↓k_Meth0, ↓k_MethM, ↓k_MethM0, ↓k_Make, ↓k_Make0, ↓k_MakeM, ↓k_MakeM0, ↓k_Own, ↓k_EqO, ↓k_IsO, ↓k_InM, ↓k_GetM, ↓k_putMC, ↓k_putME, ↓k_delME, ↓k_DispK, ↓k_lLive, ↓k_lLvE, ↓k_lFix, ↓k_forLC, ↓k_LcL, ↓k_Lc2, ↓k_lc2b, ↓k_Fmt, ↓k_Joined, ↓k_jsNil, ↓k_jsCons, ↓k_LmV, ↓k_DcX, ↓k_ePrm, ↓src_lst, ↓src_tup, ↓k_V, ↓k_C, ↓k_Op2, ↓k_Fz, ↓k_wNil, ↓k_wCons, ↓k_Tup, ↓k_Lst, ↓k_oNo, ↓k_oPart, ↓k_Sl, ↓k_sNil, ↓k_sCons, ↓k_CB, ↓k_tYes, ↓k_tTst, ↓k_tAnd, ↓k_tOr, ↓k_tNot, ↓k_If, ↓k_And, ↓k_Or, ↓k_Not, ↓k_Neg, ↓k_Chn, ↓k_Call, ↓k_Call0, ↓k_wPerm, ↓k_iItems, ↓k_iRng1, ↓k_iRng2, ↓k_iZip, ↓k_iEnum, ↓k_iEnz, ↓k_ifC, ↓k_Lrg1, ↓k_parC, ↓k_starC, ↓k_setC, ↓k_setC2, ↓k_augC, ↓k_lcb, ↓k_Lc, ↓k_forC, ↓str_lit, ↓fz_val, ↓fz_seq, ↓rr_val, ↓rr_own, ↓sv_val, ↓sv_own, ↓asI_int, ↓asB_bl, ↓items_tup, ↓items_lst, ↓un2_tup, ↓un3_tup, ↓un5_tup, ↓uq2_tup, ↓uq3_tup, ↓uq2_lst, ↓uq3_lst, ↓uq4_tup, ↓uq5_tup, ↓star_tup, ↓star_lst, ↓pr2_2, ↓zip2_tup, ↓zip2_lst, ↓enz_2, ↓rng1_int, ↓rng2_int, ↓lrg1_int, ↓req_T, ↓ret_at, ↓raise_at, ↓call_ret, ↓call0_ret, ↓call_raise, ↓pm_0, ↓pm_01, ↓pm_10, ↓pm_012, ↓pm_021, ↓pm_102, ↓pm_120, ↓pm_201, ↓pm_210, ↓pm_0123, ↓pm_0132, ↓pm_0213, ↓pm_0231, ↓pm_0312, ↓pm_0321, ↓pm_1023, ↓pm_1032, ↓pm_1203, ↓pm_1230, ↓pm_1302, ↓pm_1320, ↓pm_2013, ↓pm_2031, ↓pm_2103, ↓pm_2130, ↓pm_2301, ↓pm_2310, ↓pm_3012, ↓pm_3021, ↓pm_3102, ↓pm_3120, ↓pm_3201, ↓pm_3210, ↓o_sub, ↓o_lt, ↓o_le, ↓o_gt, ↓o_ge, ↓o_mod, ↓o_fdiv, ↓o_pow, ↓o_mul, ↓o_rep, ↓o_repT, ↓o_add, ↓o_addS, ↓o_addT, ↓o_addLL, ↓o_addLO, ↓o_addOL, ↓o_addOO, ↓o_ixT, ↓o_ixL, ↓o_ixO, ↓atS_0, ↓atS_1, ↓atS_2, ↓atS_3, ↓atS_4, ↓slc_T, ↓slc_L, ↓slc_O, ↓ext_own, ↓ext_OO, ↓lm_own, ↓append_own, ↓b_lenT, ↓b_lenL, ↓b_lenO, ↓b_lenS, ↓k_Disp, ↓k_GetD, ↓k_Prm, ↓k_lmE, ↓b_back, ↓b_tupT, ↓b_tupL, ↓b_tupO, ↓b_lstT, ↓b_lstL, ↓b_lstO, ↓b_min2, ↓b_max2, ↓b_abs, ↓b_sorted, ↓b_sortedL, ↓b_sumO, ↓b_sumL, ↓b_sumT, ↓b_anyO, ↓b_allO, ↓o_eqI, ↓o_neI, ↓o_eqSt, ↓o_neSt, ↓o_eqT, ↓o_neT, ↓isN_non, ↓isN_int, ↓isN_str, ↓isN_tup, ↓isN_lst, ↓nIsN_non, ↓nIsN_int, ↓nIsN_str, ↓nIsN_tup, ↓nIsN_lst, ↓k_LamCall, ↓k_lCons, ↓lam0_nil, ↓lam1_one, ↓k_raiseC, ↓o_powW, ↓k_Idx, ↓idxq_own, ↓idxq_lst, ↓k_wMx, ↓o_isB, ↓o_notB, ↓mix_32, ↓mix_32s, ↓mix_05, ↓mix_31, ↓mix_42, ↓mix_051, ↓k_RevL, ↓revL_own, ↓revL_lst, ↓k_eLenSet, ↓k_parC3, ↓pr3_3, if_true, if_false, Bool.not_true, Bool.not_false, Bool.false_eq_true, decide_true, decide_false, String.reduceEq, decide_eq_true_eq, Int.toNat_natCast, List.length_map, List.length_cons, List.length_nil, sizeL, Nat.zero_add, Nat.reduceAdd, Nat.reduceLeDiff, ↓open_ok hn]
  intro p hp
  show req _ (forL _ _ _ _) _ _ _
  refine ⟨by decide, ?_⟩
  refine for_wp (fun ws _ h' => ws.length ≤ 5 ∧ Bag ((5 - ws.length) * 1000000) h' p) (fun s h' _ => ?_) (fun w ws s h' kn ⟨l, b⟩ hk => ?_) _ _ _ ⟨by rw [rngW_len]; decide, bag_new.le (by omega)⟩
  · have a := stand_of_ok tens_ok.1 tens_ok.2
    have b := stand_of_ok tens1_ok.1 tens1_ok.2
    rw [if_neg (by decide)] at a
    rw [if_pos (by decide)] at b
    simp only [List.map_cons, List.map_nil] at a b
    conv => fun; fun; fun; simp only [↓un4_tup, ↓asS_str, ↓k_iChars, ↓k_put2C, ↓k_Fld, ↓k_setFC, ↓k_nmFC, ↓k_ffC, ↓k_Meth, ↓k_Meth0, ↓k_MethM, ↓k_MethM0, ↓k_Make, ↓k_Make0, ↓k_MakeM, ↓k_MakeM0, ↓k_Own, ↓k_EqO, ↓k_IsO, ↓k_InM, ↓k_GetM, ↓k_putMC, ↓k_putME, ↓k_delME, ↓k_DispK, ↓k_lLive, ↓k_lLvE, ↓k_lFix, ↓k_forLC, ↓k_LcL, ↓k_Lc2, ↓k_lc2b, ↓k_Fmt, ↓k_Joined, ↓k_jsNil, ↓k_jsCons, ↓k_LmV, ↓k_DcX, ↓k_ePrm, ↓src_lst, ↓src_tup, ↓k_V, ↓k_C, ↓k_Op2, ↓k_Fz, ↓k_wNil, ↓k_wCons, ↓k_Tup, ↓k_Lst, ↓k_oNo, ↓k_oPart, ↓k_Sl, ↓k_sNil, ↓k_sCons, ↓k_CB, ↓k_tYes, ↓k_tTst, ↓k_tAnd, ↓k_tOr, ↓k_tNot, ↓k_If, ↓k_And, ↓k_Or, ↓k_Not, ↓k_Neg, ↓k_Chn, ↓k_Call, ↓k_Call0, ↓k_wPerm, ↓k_iItems, ↓k_iRng1, ↓k_iRng2, ↓k_iZip, ↓k_iEnum, ↓k_iEnz, ↓k_ifC, ↓k_Lrg1, ↓k_parC, ↓k_starC, ↓k_setC, ↓k_setC2, ↓k_augC, ↓k_lcb, ↓k_Lc, ↓k_forC, ↓str_lit, ↓fz_val, ↓fz_seq, ↓rr_val, ↓rr_own, ↓sv_val, ↓sv_own, ↓asI_int, ↓asB_bl, ↓items_tup, ↓items_lst, ↓un2_tup, ↓un3_tup, ↓un5_tup, ↓uq2_tup, ↓uq3_tup, ↓uq2_lst, ↓uq3_lst, ↓uq4_tup, ↓uq5_tup, ↓star_tup, ↓star_lst, ↓pr2_2, ↓zip2_tup, ↓zip2_lst, ↓enz_2, ↓rng1_int, ↓rng2_int, ↓lrg1_int, ↓req_T, ↓ret_at, ↓raise_at, ↓call_ret, ↓call0_ret, ↓call_raise, ↓pm_0, ↓pm_01, ↓pm_10, ↓pm_012, ↓pm_021, ↓pm_102, ↓pm_120, ↓pm_201, ↓pm_210, ↓pm_0123, ↓pm_0132, ↓pm_0213, ↓pm_0231, ↓pm_0312, ↓pm_0321, ↓pm_1023, ↓pm_1032, ↓pm_1203, ↓pm_1230, ↓pm_1302, ↓pm_1320, ↓pm_2013, ↓pm_2031, ↓pm_2103, ↓pm_2130, ↓pm_2301, ↓pm_2310, ↓pm_3012, ↓pm_3021, ↓pm_3102, ↓pm_3120, ↓pm_3201, ↓pm_3210, ↓o_sub, ↓o_lt, ↓o_le, ↓o_gt, ↓o_ge, ↓o_mod, ↓o_fdiv, ↓o_pow, ↓o_mul, ↓o_rep, ↓o_repT, ↓o_add, ↓o_addS, ↓o_addT, ↓o_addLL, ↓o_addLO, ↓o_addOL, ↓o_addOO, ↓o_ixT, ↓o_ixL, ↓o_ixO, ↓atS_0, ↓atS_1, ↓atS_2, ↓atS_3, ↓atS_4, ↓slc_T, ↓slc_L, ↓slc_O, ↓ext_own, ↓ext_OO, ↓lm_own, ↓append_own, ↓b_lenT, ↓b_lenL, ↓b_lenO, ↓b_lenS, ↓k_Disp, ↓k_GetD, ↓k_Prm, ↓k_lmE, ↓b_back, ↓b_tupT, ↓b_tupL, ↓b_tupO, ↓b_lstT, ↓b_lstL, ↓b_lstO, ↓b_min2, ↓b_max2, ↓b_abs, ↓b_sorted, ↓b_sortedL, ↓b_sumO, ↓b_sumL, ↓b_sumT, ↓b_anyO, ↓b_allO, ↓o_eqI, ↓o_neI, ↓o_eqSt, ↓o_neSt, ↓o_eqT, ↓o_neT, ↓isN_non, ↓isN_int, ↓isN_str, ↓isN_tup, ↓isN_lst, ↓nIsN_non, ↓nIsN_int, ↓nIsN_str, ↓nIsN_tup, ↓nIsN_lst, ↓k_LamCall, ↓k_lCons, ↓lam0_nil, ↓lam1_one, ↓k_raiseC, ↓o_powW, ↓k_Idx, ↓idxq_own, ↓idxq_lst, ↓k_wMx, ↓o_isB, ↓o_notB, ↓mix_32, ↓mix_32s, ↓mix_05, ↓mix_31, ↓mix_42, ↓mix_051, ↓k_RevL, ↓revL_own, ↓revL_lst, ↓k_eLenSet, ↓k_parC3, ↓pr3_3, if_true, if_false, Bool.not_true, Bool.not_false, Bool.false_eq_true, decide_true, decide_false, String.reduceEq, decide_eq_true_eq, Int.toNat_natCast, List.length_map, List.length_cons, List.length_nil, sizeL, Nat.zero_add, Nat.reduceAdd, Nat.reduceLeDiff]
    refine ⟨⟨by decide, by decide, trivial, trivial⟩, ?_⟩
    rw [show (List.replicate (Int.toNat 6) [W.int 10]).flatten = [.int 10, .int 10, .int 10, .int 10, .int 10, .int 10] from rfl, a, call_ret]
    rw [hereT (w := .tup [.str "too many", .int 60]) (fun f => told2_tm ?_)]
    · simp only [↓un4_tup, ↓asS_str, ↓k_iChars, ↓k_put2C, ↓k_Fld, ↓k_setFC, ↓k_nmFC, ↓k_ffC, ↓k_Meth, ↓k_Meth0, ↓k_MethM, ↓k_MethM0, ↓k_Make, ↓k_Make0, ↓k_MakeM, ↓k_MakeM0, ↓k_Own, ↓k_EqO, ↓k_IsO, ↓k_InM, ↓k_GetM, ↓k_putMC, ↓k_putME, ↓k_delME, ↓k_DispK, ↓k_lLive, ↓k_lLvE, ↓k_lFix, ↓k_forLC, ↓k_LcL, ↓k_Lc2, ↓k_lc2b, ↓k_Fmt, ↓k_Joined, ↓k_jsNil, ↓k_jsCons, ↓k_LmV, ↓k_DcX, ↓k_ePrm, ↓src_lst, ↓src_tup, ↓k_V, ↓k_C, ↓k_Op2, ↓k_Fz, ↓k_wNil, ↓k_wCons, ↓k_Tup, ↓k_Lst, ↓k_oNo, ↓k_oPart, ↓k_Sl, ↓k_sNil, ↓k_sCons, ↓k_CB, ↓k_tYes, ↓k_tTst, ↓k_tAnd, ↓k_tOr, ↓k_tNot, ↓k_If, ↓k_And, ↓k_Or, ↓k_Not, ↓k_Neg, ↓k_Chn, ↓k_Call, ↓k_Call0, ↓k_wPerm, ↓k_iItems, ↓k_iRng1, ↓k_iRng2, ↓k_iZip, ↓k_iEnum, ↓k_iEnz, ↓k_ifC, ↓k_Lrg1, ↓k_parC, ↓k_starC, ↓k_setC, ↓k_setC2, ↓k_augC, ↓k_lcb, ↓k_Lc, ↓k_forC, ↓str_lit, ↓fz_val, ↓fz_seq, ↓rr_val, ↓rr_own, ↓sv_val, ↓sv_own, ↓asI_int, ↓asB_bl, ↓items_tup, ↓items_lst, ↓un2_tup, ↓un3_tup, ↓un5_tup, ↓uq2_tup, ↓uq3_tup, ↓uq2_lst, ↓uq3_lst, ↓uq4_tup, ↓uq5_tup, ↓star_tup, ↓star_lst, ↓pr2_2, ↓zip2_tup, ↓zip2_lst, ↓enz_2, ↓rng1_int, ↓rng2_int, ↓lrg1_int, ↓req_T, ↓ret_at, ↓raise_at, ↓call_ret, ↓call0_ret, ↓call_raise, ↓pm_0, ↓pm_01, ↓pm_10, ↓pm_012, ↓pm_021, ↓pm_102, ↓pm_120, ↓pm_201, ↓pm_210, ↓pm_0123, ↓pm_0132, ↓pm_0213, ↓pm_0231, ↓pm_0312, ↓pm_0321, ↓pm_1023, ↓pm_1032, ↓pm_1203, ↓pm_1230, ↓pm_1302, ↓pm_1320, ↓pm_2013, ↓pm_2031, ↓pm_2103, ↓pm_2130, ↓pm_2301, ↓pm_2310, ↓pm_3012, ↓pm_3021, ↓pm_3102, ↓pm_3120, ↓pm_3201, ↓pm_3210, ↓o_sub, ↓o_lt, ↓o_le, ↓o_gt, ↓o_ge, ↓o_mod, ↓o_fdiv, ↓o_pow, ↓o_mul, ↓o_rep, ↓o_repT, ↓o_add, ↓o_addS, ↓o_addT, ↓o_addLL, ↓o_addLO, ↓o_addOL, ↓o_addOO, ↓o_ixT, ↓o_ixL, ↓o_ixO, ↓atS_0, ↓atS_1, ↓atS_2, ↓atS_3, ↓atS_4, ↓slc_T, ↓slc_L, ↓slc_O, ↓ext_own, ↓ext_OO, ↓lm_own, ↓append_own, ↓b_lenT, ↓b_lenL, ↓b_lenO, ↓b_lenS, ↓k_Disp, ↓k_GetD, ↓k_Prm, ↓k_lmE, ↓b_back, ↓b_tupT, ↓b_tupL, ↓b_tupO, ↓b_lstT, ↓b_lstL, ↓b_lstO, ↓b_min2, ↓b_max2, ↓b_abs, ↓b_sorted, ↓b_sortedL, ↓b_sumO, ↓b_sumL, ↓b_sumT, ↓b_anyO, ↓b_allO, ↓o_eqI, ↓o_neI, ↓o_eqSt, ↓o_neSt, ↓o_eqT, ↓o_neT, ↓isN_non, ↓isN_int, ↓isN_str, ↓isN_tup, ↓isN_lst, ↓nIsN_non, ↓nIsN_int, ↓nIsN_str, ↓nIsN_tup, ↓nIsN_lst, ↓k_LamCall, ↓k_lCons, ↓lam0_nil, ↓lam1_one, ↓k_raiseC, ↓o_powW, ↓k_Idx, ↓idxq_own, ↓idxq_lst, ↓k_wMx, ↓o_isB, ↓o_notB, ↓mix_32, ↓mix_32s, ↓mix_05, ↓mix_31, ↓mix_42, ↓mix_051, ↓k_RevL, ↓revL_own, ↓revL_lst, ↓k_eLenSet, ↓k_parC3, ↓pr3_3, if_true, if_false, Bool.not_true, Bool.not_false, Bool.false_eq_true, decide_true, decide_false, String.reduceEq, decide_eq_true_eq, Int.toNat_natCast, List.length_map, List.length_cons, List.length_nil, sizeL, Nat.zero_add, Nat.reduceAdd, Nat.reduceLeDiff]
      rw [if_pos (by decide), o_eqP (sp pl_tw) (sp pl_tw), decide_eq_true rfl]
      exact q _
    · simp only [↓un4_tup, ↓asS_str, ↓k_iChars, ↓k_put2C, ↓k_Fld, ↓k_setFC, ↓k_nmFC, ↓k_ffC, ↓k_Meth, ↓k_Meth0, ↓k_MethM, ↓k_MethM0, ↓k_Make, ↓k_Make0, ↓k_MakeM, ↓k_MakeM0, ↓k_Own, ↓k_EqO, ↓k_IsO, ↓k_InM, ↓k_GetM, ↓k_putMC, ↓k_putME, ↓k_delME, ↓k_DispK, ↓k_lLive, ↓k_lLvE, ↓k_lFix, ↓k_forLC, ↓k_LcL, ↓k_Lc2, ↓k_lc2b, ↓k_Fmt, ↓k_Joined, ↓k_jsNil, ↓k_jsCons, ↓k_LmV, ↓k_DcX, ↓k_ePrm, ↓src_lst, ↓src_tup, ↓k_V, ↓k_C, ↓k_Op2, ↓k_Fz, ↓k_wNil, ↓k_wCons, ↓k_Tup, ↓k_Lst, ↓k_oNo, ↓k_oPart, ↓k_Sl, ↓k_sNil, ↓k_sCons, ↓k_CB, ↓k_tYes, ↓k_tTst, ↓k_tAnd, ↓k_tOr, ↓k_tNot, ↓k_If, ↓k_And, ↓k_Or, ↓k_Not, ↓k_Neg, ↓k_Chn, ↓k_Call, ↓k_Call0, ↓k_wPerm, ↓k_iItems, ↓k_iRng1, ↓k_iRng2, ↓k_iZip, ↓k_iEnum, ↓k_iEnz, ↓k_ifC, ↓k_Lrg1, ↓k_parC, ↓k_starC, ↓k_setC, ↓k_setC2, ↓k_augC, ↓k_lcb, ↓k_Lc, ↓k_forC, ↓str_lit, ↓fz_val, ↓fz_seq, ↓rr_val, ↓rr_own, ↓sv_val, ↓sv_own, ↓asI_int, ↓asB_bl, ↓items_tup, ↓items_lst, ↓un2_tup, ↓un3_tup, ↓un5_tup, ↓uq2_tup, ↓uq3_tup, ↓uq2_lst, ↓uq3_lst, ↓uq4_tup, ↓uq5_tup, ↓star_tup, ↓star_lst, ↓pr2_2, ↓zip2_tup, ↓zip2_lst, ↓enz_2, ↓rng1_int, ↓rng2_int, ↓lrg1_int, ↓req_T, ↓ret_at, ↓raise_at, ↓call_ret, ↓call0_ret, ↓call_raise, ↓pm_0, ↓pm_01, ↓pm_10, ↓pm_012, ↓pm_021, ↓pm_102, ↓pm_120, ↓pm_201, ↓pm_210, ↓pm_0123, ↓pm_0132, ↓pm_0213, ↓pm_0231, ↓pm_0312, ↓pm_0321, ↓pm_1023, ↓pm_1032, ↓pm_1203, ↓pm_1230, ↓pm_1302, ↓pm_1320, ↓pm_2013, ↓pm_2031, ↓pm_2103, ↓pm_2130, ↓pm_2301, ↓pm_2310, ↓pm_3012, ↓pm_3021, ↓pm_3102, ↓pm_3120, ↓pm_3201, ↓pm_3210, ↓o_sub, ↓o_lt, ↓o_le, ↓o_gt, ↓o_ge, ↓o_mod, ↓o_fdiv, ↓o_pow, ↓o_mul, ↓o_rep, ↓o_repT, ↓o_add, ↓o_addS, ↓o_addT, ↓o_addLL, ↓o_addLO, ↓o_addOL, ↓o_addOO, ↓o_ixT, ↓o_ixL, ↓o_ixO, ↓atS_0, ↓atS_1, ↓atS_2, ↓atS_3, ↓atS_4, ↓slc_T, ↓slc_L, ↓slc_O, ↓ext_own, ↓ext_OO, ↓lm_own, ↓append_own, ↓b_lenT, ↓b_lenL, ↓b_lenO, ↓b_lenS, ↓k_Disp, ↓k_GetD, ↓k_Prm, ↓k_lmE, ↓b_back, ↓b_tupT, ↓b_tupL, ↓b_tupO, ↓b_lstT, ↓b_lstL, ↓b_lstO, ↓b_min2, ↓b_max2, ↓b_abs, ↓b_sorted, ↓b_sortedL, ↓b_sumO, ↓b_sumL, ↓b_sumT, ↓b_anyO, ↓b_allO, ↓o_eqI, ↓o_neI, ↓o_eqSt, ↓o_neSt, ↓o_eqT, ↓o_neT, ↓isN_non, ↓isN_int, ↓isN_str, ↓isN_tup, ↓isN_lst, ↓nIsN_non, ↓nIsN_int, ↓nIsN_str, ↓nIsN_tup, ↓nIsN_lst, ↓k_LamCall, ↓k_lCons, ↓lam0_nil, ↓lam1_one, ↓k_raiseC, ↓o_powW, ↓k_Idx, ↓idxq_own, ↓idxq_lst, ↓k_wMx, ↓o_isB, ↓o_notB, ↓mix_32, ↓mix_32s, ↓mix_05, ↓mix_31, ↓mix_42, ↓mix_051, ↓k_RevL, ↓revL_own, ↓revL_lst, ↓k_eLenSet, ↓k_parC3, ↓pr3_3, if_true, if_false, Bool.not_true, Bool.not_false, Bool.false_eq_true, decide_true, decide_false, String.reduceEq, decide_eq_true_eq, Int.toNat_natCast, List.length_map, List.length_cons, List.length_nil, sizeL, Nat.zero_add, Nat.reduceAdd, Nat.reduceLeDiff]
      rw [show (List.replicate (Int.toNat 5) [W.int 10]).flatten ++ [W.int 11] = [.int 10, .int 10, .int 10, .int 10, .int 10, .int 11] from rfl, b, call_raise]
      rw [req_of (p := -2 ^ 63 ≤ (5 : Int) ∧ (5 : Int) ≤ 1000 ∧ True ∧ True) ⟨by decide, by decide, trivial, trivial⟩]
      rw [req_of (p := (List.replicate (Int.toNat 5) [W.int 10]).flatten.length ≤ 16777215) (by decide), req_of (p := -2 ^ 63 ≤ (5 : Int) ∧ (5 : Int) ≤ 1000 ∧ True ∧ True) ⟨by decide, by decide, trivial, trivial⟩]
      exact req_of (p := (List.replicate (Int.toNat 5) [W.int 10]).flatten.length ≤ 16777215) (by decide)
  rw [List.length_cons] at l b
  generalize hm : (5 - (ws.length + 1)) * 1000000 = m at b
  have hm2 : m + 1000000 = (5 - ws.length) * 1000000 := by omega
  refine any_sizes_dr.call b (by omega) fun r h1 hr b1 _ => ?_
  obtain ⟨ss, rfl, sz⟩ := hr
  have l1 := sz.1
  have l6 := sz.2.1
  conv => fun; fun; fun; simp only [↓un4_tup, ↓asS_str, ↓k_iChars, ↓k_put2C, ↓k_Fld, ↓k_setFC, ↓k_nmFC, ↓k_ffC, ↓k_Meth, ↓k_Meth0, ↓k_MethM, ↓k_MethM0, ↓k_Make, ↓k_Make0, ↓k_MakeM, ↓k_MakeM0, ↓k_Own, ↓k_EqO, ↓k_IsO, ↓k_InM, ↓k_GetM, ↓k_putMC, ↓k_putME, ↓k_delME, ↓k_DispK, ↓k_lLive, ↓k_lLvE, ↓k_lFix, ↓k_forLC, ↓k_LcL, ↓k_Lc2, ↓k_lc2b, ↓k_Fmt, ↓k_Joined, ↓k_jsNil, ↓k_jsCons, ↓k_LmV, ↓k_DcX, ↓k_ePrm, ↓src_lst, ↓src_tup, ↓k_V, ↓k_C, ↓k_Op2, ↓k_Fz, ↓k_wNil, ↓k_wCons, ↓k_Tup, ↓k_Lst, ↓k_oNo, ↓k_oPart, ↓k_Sl, ↓k_sNil, ↓k_sCons, ↓k_CB, ↓k_tYes, ↓k_tTst, ↓k_tAnd, ↓k_tOr, ↓k_tNot, ↓k_If, ↓k_And, ↓k_Or, ↓k_Not, ↓k_Neg, ↓k_Chn, ↓k_Call, ↓k_Call0, ↓k_wPerm, ↓k_iItems, ↓k_iRng1, ↓k_iRng2, ↓k_iZip, ↓k_iEnum, ↓k_iEnz, ↓k_ifC, ↓k_Lrg1, ↓k_parC, ↓k_starC, ↓k_setC, ↓k_setC2, ↓k_augC, ↓k_lcb, ↓k_Lc, ↓k_forC, ↓str_lit, ↓fz_val, ↓fz_seq, ↓rr_val, ↓rr_own, ↓sv_val, ↓sv_own, ↓asI_int, ↓asB_bl, ↓items_tup, ↓items_lst, ↓un2_tup, ↓un3_tup, ↓un5_tup, ↓uq2_tup, ↓uq3_tup, ↓uq2_lst, ↓uq3_lst, ↓uq4_tup, ↓uq5_tup, ↓star_tup, ↓star_lst, ↓pr2_2, ↓zip2_tup, ↓zip2_lst, ↓enz_2, ↓rng1_int, ↓rng2_int, ↓lrg1_int, ↓req_T, ↓ret_at, ↓raise_at, ↓call_ret, ↓call0_ret, ↓call_raise, ↓pm_0, ↓pm_01, ↓pm_10, ↓pm_012, ↓pm_021, ↓pm_102, ↓pm_120, ↓pm_201, ↓pm_210, ↓pm_0123, ↓pm_0132, ↓pm_0213, ↓pm_0231, ↓pm_0312, ↓pm_0321, ↓pm_1023, ↓pm_1032, ↓pm_1203, ↓pm_1230, ↓pm_1302, ↓pm_1320, ↓pm_2013, ↓pm_2031, ↓pm_2103, ↓pm_2130, ↓pm_2301, ↓pm_2310, ↓pm_3012, ↓pm_3021, ↓pm_3102, ↓pm_3120, ↓pm_3201, ↓pm_3210, ↓o_sub, ↓o_lt, ↓o_le, ↓o_gt, ↓o_ge, ↓o_mod, ↓o_fdiv, ↓o_pow, ↓o_mul, ↓o_rep, ↓o_repT, ↓o_add, ↓o_addS, ↓o_addT, ↓o_addLL, ↓o_addLO, ↓o_addOL, ↓o_addOO, ↓o_ixT, ↓o_ixL, ↓o_ixO, ↓atS_0, ↓atS_1, ↓atS_2, ↓atS_3, ↓atS_4, ↓slc_T, ↓slc_L, ↓slc_O, ↓ext_own, ↓ext_OO, ↓lm_own, ↓append_own, ↓b_lenT, ↓b_lenL, ↓b_lenO, ↓b_lenS, ↓k_Disp, ↓k_GetD, ↓k_Prm, ↓k_lmE, ↓b_back, ↓b_tupT, ↓b_tupL, ↓b_tupO, ↓b_lstT, ↓b_lstL, ↓b_lstO, ↓b_min2, ↓b_max2, ↓b_abs, ↓b_sorted, ↓b_sortedL, ↓b_sumO, ↓b_sumL, ↓b_sumT, ↓b_anyO, ↓b_allO, ↓o_eqI, ↓o_neI, ↓o_eqSt, ↓o_neSt, ↓o_eqT, ↓o_neT, ↓isN_non, ↓isN_int, ↓isN_str, ↓isN_tup, ↓isN_lst, ↓nIsN_non, ↓nIsN_int, ↓nIsN_str, ↓nIsN_tup, ↓nIsN_lst, ↓k_LamCall, ↓k_lCons, ↓lam0_nil, ↓lam1_one, ↓k_raiseC, ↓o_powW, ↓k_Idx, ↓idxq_own, ↓idxq_lst, ↓k_wMx, ↓o_isB, ↓o_notB, ↓mix_32, ↓mix_32s, ↓mix_05, ↓mix_31, ↓mix_42, ↓mix_051, ↓k_RevL, ↓revL_own, ↓revL_lst, ↓k_eLenSet, ↓k_parC3, ↓pr3_3, if_true, if_false, Bool.not_true, Bool.not_false, Bool.false_eq_true, decide_true, decide_false, String.reduceEq, decide_eq_true_eq, Int.toNat_natCast, List.length_map, List.length_cons, List.length_nil, sizeL, Nat.zero_add, Nat.reduceAdd, Nat.reduceLeDiff]
  refine (full_load_dr sz).call b1 (by omega) fun r h2 hr b2 _ => ?_
  obtain ⟨cs, rfl, ct⟩ := hr
  have cl := ct.1
  have le := soA_le sz ct
  conv => fun; fun; fun; simp only [↓un4_tup, ↓asS_str, ↓k_iChars, ↓k_put2C, ↓k_Fld, ↓k_setFC, ↓k_nmFC, ↓k_ffC, ↓k_Meth, ↓k_Meth0, ↓k_MethM, ↓k_MethM0, ↓k_Make, ↓k_Make0, ↓k_MakeM, ↓k_MakeM0, ↓k_Own, ↓k_EqO, ↓k_IsO, ↓k_InM, ↓k_GetM, ↓k_putMC, ↓k_putME, ↓k_delME, ↓k_DispK, ↓k_lLive, ↓k_lLvE, ↓k_lFix, ↓k_forLC, ↓k_LcL, ↓k_Lc2, ↓k_lc2b, ↓k_Fmt, ↓k_Joined, ↓k_jsNil, ↓k_jsCons, ↓k_LmV, ↓k_DcX, ↓k_ePrm, ↓src_lst, ↓src_tup, ↓k_V, ↓k_C, ↓k_Op2, ↓k_Fz, ↓k_wNil, ↓k_wCons, ↓k_Tup, ↓k_Lst, ↓k_oNo, ↓k_oPart, ↓k_Sl, ↓k_sNil, ↓k_sCons, ↓k_CB, ↓k_tYes, ↓k_tTst, ↓k_tAnd, ↓k_tOr, ↓k_tNot, ↓k_If, ↓k_And, ↓k_Or, ↓k_Not, ↓k_Neg, ↓k_Chn, ↓k_Call, ↓k_Call0, ↓k_wPerm, ↓k_iItems, ↓k_iRng1, ↓k_iRng2, ↓k_iZip, ↓k_iEnum, ↓k_iEnz, ↓k_ifC, ↓k_Lrg1, ↓k_parC, ↓k_starC, ↓k_setC, ↓k_setC2, ↓k_augC, ↓k_lcb, ↓k_Lc, ↓k_forC, ↓str_lit, ↓fz_val, ↓fz_seq, ↓rr_val, ↓rr_own, ↓sv_val, ↓sv_own, ↓asI_int, ↓asB_bl, ↓items_tup, ↓items_lst, ↓un2_tup, ↓un3_tup, ↓un5_tup, ↓uq2_tup, ↓uq3_tup, ↓uq2_lst, ↓uq3_lst, ↓uq4_tup, ↓uq5_tup, ↓star_tup, ↓star_lst, ↓pr2_2, ↓zip2_tup, ↓zip2_lst, ↓enz_2, ↓rng1_int, ↓rng2_int, ↓lrg1_int, ↓req_T, ↓ret_at, ↓raise_at, ↓call_ret, ↓call0_ret, ↓call_raise, ↓pm_0, ↓pm_01, ↓pm_10, ↓pm_012, ↓pm_021, ↓pm_102, ↓pm_120, ↓pm_201, ↓pm_210, ↓pm_0123, ↓pm_0132, ↓pm_0213, ↓pm_0231, ↓pm_0312, ↓pm_0321, ↓pm_1023, ↓pm_1032, ↓pm_1203, ↓pm_1230, ↓pm_1302, ↓pm_1320, ↓pm_2013, ↓pm_2031, ↓pm_2103, ↓pm_2130, ↓pm_2301, ↓pm_2310, ↓pm_3012, ↓pm_3021, ↓pm_3102, ↓pm_3120, ↓pm_3201, ↓pm_3210, ↓o_sub, ↓o_lt, ↓o_le, ↓o_gt, ↓o_ge, ↓o_mod, ↓o_fdiv, ↓o_pow, ↓o_mul, ↓o_rep, ↓o_repT, ↓o_add, ↓o_addS, ↓o_addT, ↓o_addLL, ↓o_addLO, ↓o_addOL, ↓o_addOO, ↓o_ixT, ↓o_ixL, ↓o_ixO, ↓atS_0, ↓atS_1, ↓atS_2, ↓atS_3, ↓atS_4, ↓slc_T, ↓slc_L, ↓slc_O, ↓ext_own, ↓ext_OO, ↓lm_own, ↓append_own, ↓b_lenT, ↓b_lenL, ↓b_lenO, ↓b_lenS, ↓k_Disp, ↓k_GetD, ↓k_Prm, ↓k_lmE, ↓b_back, ↓b_tupT, ↓b_tupL, ↓b_tupO, ↓b_lstT, ↓b_lstL, ↓b_lstO, ↓b_min2, ↓b_max2, ↓b_abs, ↓b_sorted, ↓b_sortedL, ↓b_sumO, ↓b_sumL, ↓b_sumT, ↓b_anyO, ↓b_allO, ↓o_eqI, ↓o_neI, ↓o_eqSt, ↓o_neSt, ↓o_eqT, ↓o_neT, ↓isN_non, ↓isN_int, ↓isN_str, ↓isN_tup, ↓isN_lst, ↓nIsN_non, ↓nIsN_int, ↓nIsN_str, ↓nIsN_tup, ↓nIsN_lst, ↓k_LamCall, ↓k_lCons, ↓lam0_nil, ↓lam1_one, ↓k_raiseC, ↓o_powW, ↓k_Idx, ↓idxq_own, ↓idxq_lst, ↓k_wMx, ↓o_isB, ↓o_notB, ↓mix_32, ↓mix_32s, ↓mix_05, ↓mix_31, ↓mix_42, ↓mix_051, ↓k_RevL, ↓revL_own, ↓revL_lst, ↓k_eLenSet, ↓k_parC3, ↓pr3_3, if_true, if_false, Bool.not_true, Bool.not_false, Bool.false_eq_true, decide_true, decide_false, String.reduceEq, decide_eq_true_eq, Int.toNat_natCast, List.length_map, List.length_cons, List.length_nil, sizeL, Nat.zero_add, Nat.reduceAdd, Nat.reduceLeDiff, room_ok sz ct]
  refine ⟨by omega, ?_⟩
  rw [range_nat, lc_all natW (fun i => .int (ss.getD i 0 - cs.getD i 0)) (List.range cs.length) (fun i hi kk => by
    rw [List.mem_range] at hi
    simp only [↓un4_tup, ↓asS_str, ↓k_iChars, ↓k_put2C, ↓k_Fld, ↓k_setFC, ↓k_nmFC, ↓k_ffC, ↓k_Meth, ↓k_Meth0, ↓k_MethM, ↓k_MethM0, ↓k_Make, ↓k_Make0, ↓k_MakeM, ↓k_MakeM0, ↓k_Own, ↓k_EqO, ↓k_IsO, ↓k_InM, ↓k_GetM, ↓k_putMC, ↓k_putME, ↓k_delME, ↓k_DispK, ↓k_lLive, ↓k_lLvE, ↓k_lFix, ↓k_forLC, ↓k_LcL, ↓k_Lc2, ↓k_lc2b, ↓k_Fmt, ↓k_Joined, ↓k_jsNil, ↓k_jsCons, ↓k_LmV, ↓k_DcX, ↓k_ePrm, ↓src_lst, ↓src_tup, ↓k_V, ↓k_C, ↓k_Op2, ↓k_Fz, ↓k_wNil, ↓k_wCons, ↓k_Tup, ↓k_Lst, ↓k_oNo, ↓k_oPart, ↓k_Sl, ↓k_sNil, ↓k_sCons, ↓k_CB, ↓k_tYes, ↓k_tTst, ↓k_tAnd, ↓k_tOr, ↓k_tNot, ↓k_If, ↓k_And, ↓k_Or, ↓k_Not, ↓k_Neg, ↓k_Chn, ↓k_Call, ↓k_Call0, ↓k_wPerm, ↓k_iItems, ↓k_iRng1, ↓k_iRng2, ↓k_iZip, ↓k_iEnum, ↓k_iEnz, ↓k_ifC, ↓k_Lrg1, ↓k_parC, ↓k_starC, ↓k_setC, ↓k_setC2, ↓k_augC, ↓k_lcb, ↓k_Lc, ↓k_forC, ↓str_lit, ↓fz_val, ↓fz_seq, ↓rr_val, ↓rr_own, ↓sv_val, ↓sv_own, ↓asI_int, ↓asB_bl, ↓items_tup, ↓items_lst, ↓un2_tup, ↓un3_tup, ↓un5_tup, ↓uq2_tup, ↓uq3_tup, ↓uq2_lst, ↓uq3_lst, ↓uq4_tup, ↓uq5_tup, ↓star_tup, ↓star_lst, ↓pr2_2, ↓zip2_tup, ↓zip2_lst, ↓enz_2, ↓rng1_int, ↓rng2_int, ↓lrg1_int, ↓req_T, ↓ret_at, ↓raise_at, ↓call_ret, ↓call0_ret, ↓call_raise, ↓pm_0, ↓pm_01, ↓pm_10, ↓pm_012, ↓pm_021, ↓pm_102, ↓pm_120, ↓pm_201, ↓pm_210, ↓pm_0123, ↓pm_0132, ↓pm_0213, ↓pm_0231, ↓pm_0312, ↓pm_0321, ↓pm_1023, ↓pm_1032, ↓pm_1203, ↓pm_1230, ↓pm_1302, ↓pm_1320, ↓pm_2013, ↓pm_2031, ↓pm_2103, ↓pm_2130, ↓pm_2301, ↓pm_2310, ↓pm_3012, ↓pm_3021, ↓pm_3102, ↓pm_3120, ↓pm_3201, ↓pm_3210, ↓o_sub, ↓o_lt, ↓o_le, ↓o_gt, ↓o_ge, ↓o_mod, ↓o_fdiv, ↓o_pow, ↓o_mul, ↓o_rep, ↓o_repT, ↓o_add, ↓o_addS, ↓o_addT, ↓o_addLL, ↓o_addLO, ↓o_addOL, ↓o_addOO, ↓o_ixT, ↓o_ixL, ↓o_ixO, ↓atS_0, ↓atS_1, ↓atS_2, ↓atS_3, ↓atS_4, ↓slc_T, ↓slc_L, ↓slc_O, ↓ext_own, ↓ext_OO, ↓lm_own, ↓append_own, ↓b_lenT, ↓b_lenL, ↓b_lenO, ↓b_lenS, ↓k_Disp, ↓k_GetD, ↓k_Prm, ↓k_lmE, ↓b_back, ↓b_tupT, ↓b_tupL, ↓b_tupO, ↓b_lstT, ↓b_lstL, ↓b_lstO, ↓b_min2, ↓b_max2, ↓b_abs, ↓b_sorted, ↓b_sortedL, ↓b_sumO, ↓b_sumL, ↓b_sumT, ↓b_anyO, ↓b_allO, ↓o_eqI, ↓o_neI, ↓o_eqSt, ↓o_neSt, ↓o_eqT, ↓o_neT, ↓isN_non, ↓isN_int, ↓isN_str, ↓isN_tup, ↓isN_lst, ↓nIsN_non, ↓nIsN_int, ↓nIsN_str, ↓nIsN_tup, ↓nIsN_lst, ↓k_LamCall, ↓k_lCons, ↓lam0_nil, ↓lam1_one, ↓k_raiseC, ↓o_powW, ↓k_Idx, ↓idxq_own, ↓idxq_lst, ↓k_wMx, ↓o_isB, ↓o_notB, ↓mix_32, ↓mix_32s, ↓mix_05, ↓mix_31, ↓mix_42, ↓mix_051, ↓k_RevL, ↓revL_own, ↓revL_lst, ↓k_eLenSet, ↓k_parC3, ↓pr3_3, if_true, if_false, Bool.not_true, Bool.not_false, Bool.false_eq_true, decide_true, decide_false, String.reduceEq, decide_eq_true_eq, Int.toNat_natCast, List.length_map, List.length_cons, List.length_nil, sizeL, Nat.zero_add, Nat.reduceAdd, Nat.reduceLeDiff, atS_ints (show i < ss.length by omega), atS_ints hi]) (by simp [sizeL]; omega)]
  have srm : m__law_same 8 [.tup ((List.range cs.length).map fun i => W.int (ss.getD i 0 - cs.getD i 0)), .tup ((List.range cs.length).map fun i => W.int (ss.getD i 0 - cs.getD i 0))] = ret (.val (.bl true)) := same_ok 7 _ (by
    have z := sm_ints (n := 6) (as := (List.range cs.length).map fun i => ss.getD i 0 - cs.getD i 0) (by simp; omega)
    rw [List.map_map] at z
    exact z)
  simp only [srm, call_ret, asB_bl, Bool.not_true, Bool.false_eq_true, if_false]
  refine ⟨by omega, ?_⟩
  show forL _ _ _ ((fun n => W.tup ((soN cs n).map .int)) 0) _ _ _
  rw [for_enc natW (fun n => W.tup ((soN cs n).map .int)) (fun n _ => n + 1) (fun j n => n = j) (List.range cs.length) 0 0 rfl (fun j a hj n hn => by
    have ha : a = j ∧ j < cs.length := by
      obtain ⟨hl, e⟩ := List.getElem?_eq_some_iff.mp hj
      rw [List.length_range] at hl
      rw [List.getElem_range] at e
      exact ⟨e.symm, hl⟩
    obtain ⟨rfl, hj⟩ := ha
    refine ⟨by omega, fun kn => ?_⟩
    have bd := ct_bd sz ct a
    have e0 : n = a := by omega
    subst e0
    have sl := soN_le (fun i => (ct_bd sz ct i).2) n
    simp only [↓un4_tup, ↓asS_str, ↓k_iChars, ↓k_put2C, ↓k_Fld, ↓k_setFC, ↓k_nmFC, ↓k_ffC, ↓k_Meth, ↓k_Meth0, ↓k_MethM, ↓k_MethM0, ↓k_Make, ↓k_Make0, ↓k_MakeM, ↓k_MakeM0, ↓k_Own, ↓k_EqO, ↓k_IsO, ↓k_InM, ↓k_GetM, ↓k_putMC, ↓k_putME, ↓k_delME, ↓k_DispK, ↓k_lLive, ↓k_lLvE, ↓k_lFix, ↓k_forLC, ↓k_LcL, ↓k_Lc2, ↓k_lc2b, ↓k_Fmt, ↓k_Joined, ↓k_jsNil, ↓k_jsCons, ↓k_LmV, ↓k_DcX, ↓k_ePrm, ↓src_lst, ↓src_tup, ↓k_V, ↓k_C, ↓k_Op2, ↓k_Fz, ↓k_wNil, ↓k_wCons, ↓k_Tup, ↓k_Lst, ↓k_oNo, ↓k_oPart, ↓k_Sl, ↓k_sNil, ↓k_sCons, ↓k_CB, ↓k_tYes, ↓k_tTst, ↓k_tAnd, ↓k_tOr, ↓k_tNot, ↓k_If, ↓k_And, ↓k_Or, ↓k_Not, ↓k_Neg, ↓k_Chn, ↓k_Call, ↓k_Call0, ↓k_wPerm, ↓k_iItems, ↓k_iRng1, ↓k_iRng2, ↓k_iZip, ↓k_iEnum, ↓k_iEnz, ↓k_ifC, ↓k_Lrg1, ↓k_parC, ↓k_starC, ↓k_setC, ↓k_setC2, ↓k_augC, ↓k_lcb, ↓k_Lc, ↓k_forC, ↓str_lit, ↓fz_val, ↓fz_seq, ↓rr_val, ↓rr_own, ↓sv_val, ↓sv_own, ↓asI_int, ↓asB_bl, ↓items_tup, ↓items_lst, ↓un2_tup, ↓un3_tup, ↓un5_tup, ↓uq2_tup, ↓uq3_tup, ↓uq2_lst, ↓uq3_lst, ↓uq4_tup, ↓uq5_tup, ↓star_tup, ↓star_lst, ↓pr2_2, ↓zip2_tup, ↓zip2_lst, ↓enz_2, ↓rng1_int, ↓rng2_int, ↓lrg1_int, ↓req_T, ↓ret_at, ↓raise_at, ↓call_ret, ↓call0_ret, ↓call_raise, ↓pm_0, ↓pm_01, ↓pm_10, ↓pm_012, ↓pm_021, ↓pm_102, ↓pm_120, ↓pm_201, ↓pm_210, ↓pm_0123, ↓pm_0132, ↓pm_0213, ↓pm_0231, ↓pm_0312, ↓pm_0321, ↓pm_1023, ↓pm_1032, ↓pm_1203, ↓pm_1230, ↓pm_1302, ↓pm_1320, ↓pm_2013, ↓pm_2031, ↓pm_2103, ↓pm_2130, ↓pm_2301, ↓pm_2310, ↓pm_3012, ↓pm_3021, ↓pm_3102, ↓pm_3120, ↓pm_3201, ↓pm_3210, ↓o_sub, ↓o_lt, ↓o_le, ↓o_gt, ↓o_ge, ↓o_mod, ↓o_fdiv, ↓o_pow, ↓o_mul, ↓o_rep, ↓o_repT, ↓o_add, ↓o_addS, ↓o_addT, ↓o_addLL, ↓o_addLO, ↓o_addOL, ↓o_addOO, ↓o_ixT, ↓o_ixL, ↓o_ixO, ↓atS_0, ↓atS_1, ↓atS_2, ↓atS_3, ↓atS_4, ↓slc_T, ↓slc_L, ↓slc_O, ↓ext_own, ↓ext_OO, ↓lm_own, ↓append_own, ↓b_lenT, ↓b_lenL, ↓b_lenO, ↓b_lenS, ↓k_Disp, ↓k_GetD, ↓k_Prm, ↓k_lmE, ↓b_back, ↓b_tupT, ↓b_tupL, ↓b_tupO, ↓b_lstT, ↓b_lstL, ↓b_lstO, ↓b_min2, ↓b_max2, ↓b_abs, ↓b_sorted, ↓b_sortedL, ↓b_sumO, ↓b_sumL, ↓b_sumT, ↓b_anyO, ↓b_allO, ↓o_eqI, ↓o_neI, ↓o_eqSt, ↓o_neSt, ↓o_eqT, ↓o_neT, ↓isN_non, ↓isN_int, ↓isN_str, ↓isN_tup, ↓isN_lst, ↓nIsN_non, ↓nIsN_int, ↓nIsN_str, ↓nIsN_tup, ↓nIsN_lst, ↓k_LamCall, ↓k_lCons, ↓lam0_nil, ↓lam1_one, ↓k_raiseC, ↓o_powW, ↓k_Idx, ↓idxq_own, ↓idxq_lst, ↓k_wMx, ↓o_isB, ↓o_notB, ↓mix_32, ↓mix_32s, ↓mix_05, ↓mix_31, ↓mix_42, ↓mix_051, ↓k_RevL, ↓revL_own, ↓revL_lst, ↓k_eLenSet, ↓k_parC3, ↓pr3_3, if_true, if_false, Bool.not_true, Bool.not_false, Bool.false_eq_true, decide_true, decide_false, String.reduceEq, decide_eq_true_eq, Int.toNat_natCast, List.length_map, List.length_cons, List.length_nil, sizeL, Nat.zero_add, Nat.reduceAdd, Nat.reduceLeDiff, atS_ints hj, flat_rep, List.length_replicate]
    rw [req_of ⟨by omega, by omega, trivial, trivial⟩, req_of (by omega), soN_succ, List.map_append, List.map_replicate])]
  rw [foldl_len, List.length_range, Nat.zero_add, show soN cs cs.length = soA cs from rfl]
  have so := stand_of_ok sz ct
  rcases Nat.lt_or_ge 60 (soA cs).length with l60 | l60
  focus
    rw [if_pos l60] at so
    have ls : lam0 (eCall m_stand_of (wCons (eFz (eV (.val (.tup (ss.map .int))))) (wCons (eFz (eV (.val (.tup (cs.map .int))))) wNil))) [] = raise tmE := by
      simp only [↓un4_tup, ↓asS_str, ↓k_iChars, ↓k_put2C, ↓k_Fld, ↓k_setFC, ↓k_nmFC, ↓k_ffC, ↓k_Meth, ↓k_Meth0, ↓k_MethM, ↓k_MethM0, ↓k_Make, ↓k_Make0, ↓k_MakeM, ↓k_MakeM0, ↓k_Own, ↓k_EqO, ↓k_IsO, ↓k_InM, ↓k_GetM, ↓k_putMC, ↓k_putME, ↓k_delME, ↓k_DispK, ↓k_lLive, ↓k_lLvE, ↓k_lFix, ↓k_forLC, ↓k_LcL, ↓k_Lc2, ↓k_lc2b, ↓k_Fmt, ↓k_Joined, ↓k_jsNil, ↓k_jsCons, ↓k_LmV, ↓k_DcX, ↓k_ePrm, ↓src_lst, ↓src_tup, ↓k_V, ↓k_C, ↓k_Op2, ↓k_Fz, ↓k_wNil, ↓k_wCons, ↓k_Tup, ↓k_Lst, ↓k_oNo, ↓k_oPart, ↓k_Sl, ↓k_sNil, ↓k_sCons, ↓k_CB, ↓k_tYes, ↓k_tTst, ↓k_tAnd, ↓k_tOr, ↓k_tNot, ↓k_If, ↓k_And, ↓k_Or, ↓k_Not, ↓k_Neg, ↓k_Chn, ↓k_Call, ↓k_Call0, ↓k_wPerm, ↓k_iItems, ↓k_iRng1, ↓k_iRng2, ↓k_iZip, ↓k_iEnum, ↓k_iEnz, ↓k_ifC, ↓k_Lrg1, ↓k_parC, ↓k_starC, ↓k_setC, ↓k_setC2, ↓k_augC, ↓k_lcb, ↓k_Lc, ↓k_forC, ↓str_lit, ↓fz_val, ↓fz_seq, ↓rr_val, ↓rr_own, ↓sv_val, ↓sv_own, ↓asI_int, ↓asB_bl, ↓items_tup, ↓items_lst, ↓un2_tup, ↓un3_tup, ↓un5_tup, ↓uq2_tup, ↓uq3_tup, ↓uq2_lst, ↓uq3_lst, ↓uq4_tup, ↓uq5_tup, ↓star_tup, ↓star_lst, ↓pr2_2, ↓zip2_tup, ↓zip2_lst, ↓enz_2, ↓rng1_int, ↓rng2_int, ↓lrg1_int, ↓req_T, ↓ret_at, ↓raise_at, ↓call_ret, ↓call0_ret, ↓call_raise, ↓pm_0, ↓pm_01, ↓pm_10, ↓pm_012, ↓pm_021, ↓pm_102, ↓pm_120, ↓pm_201, ↓pm_210, ↓pm_0123, ↓pm_0132, ↓pm_0213, ↓pm_0231, ↓pm_0312, ↓pm_0321, ↓pm_1023, ↓pm_1032, ↓pm_1203, ↓pm_1230, ↓pm_1302, ↓pm_1320, ↓pm_2013, ↓pm_2031, ↓pm_2103, ↓pm_2130, ↓pm_2301, ↓pm_2310, ↓pm_3012, ↓pm_3021, ↓pm_3102, ↓pm_3120, ↓pm_3201, ↓pm_3210, ↓o_sub, ↓o_lt, ↓o_le, ↓o_gt, ↓o_ge, ↓o_mod, ↓o_fdiv, ↓o_pow, ↓o_mul, ↓o_rep, ↓o_repT, ↓o_add, ↓o_addS, ↓o_addT, ↓o_addLL, ↓o_addLO, ↓o_addOL, ↓o_addOO, ↓o_ixT, ↓o_ixL, ↓o_ixO, ↓atS_0, ↓atS_1, ↓atS_2, ↓atS_3, ↓atS_4, ↓slc_T, ↓slc_L, ↓slc_O, ↓ext_own, ↓ext_OO, ↓lm_own, ↓append_own, ↓b_lenT, ↓b_lenL, ↓b_lenO, ↓b_lenS, ↓k_Disp, ↓k_GetD, ↓k_Prm, ↓k_lmE, ↓b_back, ↓b_tupT, ↓b_tupL, ↓b_tupO, ↓b_lstT, ↓b_lstL, ↓b_lstO, ↓b_min2, ↓b_max2, ↓b_abs, ↓b_sorted, ↓b_sortedL, ↓b_sumO, ↓b_sumL, ↓b_sumT, ↓b_anyO, ↓b_allO, ↓o_eqI, ↓o_neI, ↓o_eqSt, ↓o_neSt, ↓o_eqT, ↓o_neT, ↓isN_non, ↓isN_int, ↓isN_str, ↓isN_tup, ↓isN_lst, ↓nIsN_non, ↓nIsN_int, ↓nIsN_str, ↓nIsN_tup, ↓nIsN_lst, ↓k_LamCall, ↓k_lCons, ↓lam0_nil, ↓lam1_one, ↓k_raiseC, ↓o_powW, ↓k_Idx, ↓idxq_own, ↓idxq_lst, ↓k_wMx, ↓o_isB, ↓o_notB, ↓mix_32, ↓mix_32s, ↓mix_05, ↓mix_31, ↓mix_42, ↓mix_051, ↓k_RevL, ↓revL_own, ↓revL_lst, ↓k_eLenSet, ↓k_parC3, ↓pr3_3, if_true, if_false, Bool.not_true, Bool.not_false, Bool.false_eq_true, decide_true, decide_false, String.reduceEq, decide_eq_true_eq, Int.toNat_natCast, List.length_map, List.length_cons, List.length_nil, sizeL, Nat.zero_add, Nat.reduceAdd, Nat.reduceLeDiff, so]
    have sm : m__law_same 8 [.tup [.str "too many", .int 60], .tup [.str "too many", .int 60]] = ret (.val (.bl true)) := same_ok 7 _ (same_tw (n := 5) rfl)
    simp only [↓un4_tup, ↓asS_str, ↓k_iChars, ↓k_put2C, ↓k_Fld, ↓k_setFC, ↓k_nmFC, ↓k_ffC, ↓k_Meth, ↓k_Meth0, ↓k_MethM, ↓k_MethM0, ↓k_Make, ↓k_Make0, ↓k_MakeM, ↓k_MakeM0, ↓k_Own, ↓k_EqO, ↓k_IsO, ↓k_InM, ↓k_GetM, ↓k_putMC, ↓k_putME, ↓k_delME, ↓k_DispK, ↓k_lLive, ↓k_lLvE, ↓k_lFix, ↓k_forLC, ↓k_LcL, ↓k_Lc2, ↓k_lc2b, ↓k_Fmt, ↓k_Joined, ↓k_jsNil, ↓k_jsCons, ↓k_LmV, ↓k_DcX, ↓k_ePrm, ↓src_lst, ↓src_tup, ↓k_V, ↓k_C, ↓k_Op2, ↓k_Fz, ↓k_wNil, ↓k_wCons, ↓k_Tup, ↓k_Lst, ↓k_oNo, ↓k_oPart, ↓k_Sl, ↓k_sNil, ↓k_sCons, ↓k_CB, ↓k_tYes, ↓k_tTst, ↓k_tAnd, ↓k_tOr, ↓k_tNot, ↓k_If, ↓k_And, ↓k_Or, ↓k_Not, ↓k_Neg, ↓k_Chn, ↓k_Call, ↓k_Call0, ↓k_wPerm, ↓k_iItems, ↓k_iRng1, ↓k_iRng2, ↓k_iZip, ↓k_iEnum, ↓k_iEnz, ↓k_ifC, ↓k_Lrg1, ↓k_parC, ↓k_starC, ↓k_setC, ↓k_setC2, ↓k_augC, ↓k_lcb, ↓k_Lc, ↓k_forC, ↓str_lit, ↓fz_val, ↓fz_seq, ↓rr_val, ↓rr_own, ↓sv_val, ↓sv_own, ↓asI_int, ↓asB_bl, ↓items_tup, ↓items_lst, ↓un2_tup, ↓un3_tup, ↓un5_tup, ↓uq2_tup, ↓uq3_tup, ↓uq2_lst, ↓uq3_lst, ↓uq4_tup, ↓uq5_tup, ↓star_tup, ↓star_lst, ↓pr2_2, ↓zip2_tup, ↓zip2_lst, ↓enz_2, ↓rng1_int, ↓rng2_int, ↓lrg1_int, ↓req_T, ↓ret_at, ↓raise_at, ↓call_ret, ↓call0_ret, ↓call_raise, ↓pm_0, ↓pm_01, ↓pm_10, ↓pm_012, ↓pm_021, ↓pm_102, ↓pm_120, ↓pm_201, ↓pm_210, ↓pm_0123, ↓pm_0132, ↓pm_0213, ↓pm_0231, ↓pm_0312, ↓pm_0321, ↓pm_1023, ↓pm_1032, ↓pm_1203, ↓pm_1230, ↓pm_1302, ↓pm_1320, ↓pm_2013, ↓pm_2031, ↓pm_2103, ↓pm_2130, ↓pm_2301, ↓pm_2310, ↓pm_3012, ↓pm_3021, ↓pm_3102, ↓pm_3120, ↓pm_3201, ↓pm_3210, ↓o_sub, ↓o_lt, ↓o_le, ↓o_gt, ↓o_ge, ↓o_mod, ↓o_fdiv, ↓o_pow, ↓o_mul, ↓o_rep, ↓o_repT, ↓o_add, ↓o_addS, ↓o_addT, ↓o_addLL, ↓o_addLO, ↓o_addOL, ↓o_addOO, ↓o_ixT, ↓o_ixL, ↓o_ixO, ↓atS_0, ↓atS_1, ↓atS_2, ↓atS_3, ↓atS_4, ↓slc_T, ↓slc_L, ↓slc_O, ↓ext_own, ↓ext_OO, ↓lm_own, ↓append_own, ↓b_lenT, ↓b_lenL, ↓b_lenO, ↓b_lenS, ↓k_Disp, ↓k_GetD, ↓k_Prm, ↓k_lmE, ↓b_back, ↓b_tupT, ↓b_tupL, ↓b_tupO, ↓b_lstT, ↓b_lstL, ↓b_lstO, ↓b_min2, ↓b_max2, ↓b_abs, ↓b_sorted, ↓b_sortedL, ↓b_sumO, ↓b_sumL, ↓b_sumT, ↓b_anyO, ↓b_allO, ↓o_eqI, ↓o_neI, ↓o_eqSt, ↓o_neSt, ↓o_eqT, ↓o_neT, ↓isN_non, ↓isN_int, ↓isN_str, ↓isN_tup, ↓isN_lst, ↓nIsN_non, ↓nIsN_int, ↓nIsN_str, ↓nIsN_tup, ↓nIsN_lst, ↓k_LamCall, ↓k_lCons, ↓lam0_nil, ↓lam1_one, ↓k_raiseC, ↓o_powW, ↓k_Idx, ↓idxq_own, ↓idxq_lst, ↓k_wMx, ↓o_isB, ↓o_notB, ↓mix_32, ↓mix_32s, ↓mix_05, ↓mix_31, ↓mix_42, ↓mix_051, ↓k_RevL, ↓revL_own, ↓revL_lst, ↓k_eLenSet, ↓k_parC3, ↓pr3_3, if_true, if_false, Bool.not_true, Bool.not_false, Bool.false_eq_true, decide_true, decide_false, String.reduceEq, decide_eq_true_eq, Int.toNat_natCast, List.length_map, List.length_cons, List.length_nil, sizeL, Nat.zero_add, Nat.reduceAdd, Nat.reduceLeDiff, decide_eq_false (show ¬ ((soA cs).length : Int) ≤ 60 by omega), hereT (fun f => told2_tm (f := f) ls), sm]
  rotate_left
  focus
    have st := soA_st sz ct l60
    have cc := counts_of_ok sz st
    rw [soA_cnt sz ct] at cc
    rw [if_neg (by omega)] at so
    have ls : lam0 (eCall m_stand_of (wCons (eFz (eV (.val (.tup (ss.map .int))))) (wCons (eFz (eV (.val (.tup (cs.map .int))))) wNil))) [] = ret (.val (.tup ((soA cs).map .int))) := by
      simp only [↓un4_tup, ↓asS_str, ↓k_iChars, ↓k_put2C, ↓k_Fld, ↓k_setFC, ↓k_nmFC, ↓k_ffC, ↓k_Meth, ↓k_Meth0, ↓k_MethM, ↓k_MethM0, ↓k_Make, ↓k_Make0, ↓k_MakeM, ↓k_MakeM0, ↓k_Own, ↓k_EqO, ↓k_IsO, ↓k_InM, ↓k_GetM, ↓k_putMC, ↓k_putME, ↓k_delME, ↓k_DispK, ↓k_lLive, ↓k_lLvE, ↓k_lFix, ↓k_forLC, ↓k_LcL, ↓k_Lc2, ↓k_lc2b, ↓k_Fmt, ↓k_Joined, ↓k_jsNil, ↓k_jsCons, ↓k_LmV, ↓k_DcX, ↓k_ePrm, ↓src_lst, ↓src_tup, ↓k_V, ↓k_C, ↓k_Op2, ↓k_Fz, ↓k_wNil, ↓k_wCons, ↓k_Tup, ↓k_Lst, ↓k_oNo, ↓k_oPart, ↓k_Sl, ↓k_sNil, ↓k_sCons, ↓k_CB, ↓k_tYes, ↓k_tTst, ↓k_tAnd, ↓k_tOr, ↓k_tNot, ↓k_If, ↓k_And, ↓k_Or, ↓k_Not, ↓k_Neg, ↓k_Chn, ↓k_Call, ↓k_Call0, ↓k_wPerm, ↓k_iItems, ↓k_iRng1, ↓k_iRng2, ↓k_iZip, ↓k_iEnum, ↓k_iEnz, ↓k_ifC, ↓k_Lrg1, ↓k_parC, ↓k_starC, ↓k_setC, ↓k_setC2, ↓k_augC, ↓k_lcb, ↓k_Lc, ↓k_forC, ↓str_lit, ↓fz_val, ↓fz_seq, ↓rr_val, ↓rr_own, ↓sv_val, ↓sv_own, ↓asI_int, ↓asB_bl, ↓items_tup, ↓items_lst, ↓un2_tup, ↓un3_tup, ↓un5_tup, ↓uq2_tup, ↓uq3_tup, ↓uq2_lst, ↓uq3_lst, ↓uq4_tup, ↓uq5_tup, ↓star_tup, ↓star_lst, ↓pr2_2, ↓zip2_tup, ↓zip2_lst, ↓enz_2, ↓rng1_int, ↓rng2_int, ↓lrg1_int, ↓req_T, ↓ret_at, ↓raise_at, ↓call_ret, ↓call0_ret, ↓call_raise, ↓pm_0, ↓pm_01, ↓pm_10, ↓pm_012, ↓pm_021, ↓pm_102, ↓pm_120, ↓pm_201, ↓pm_210, ↓pm_0123, ↓pm_0132, ↓pm_0213, ↓pm_0231, ↓pm_0312, ↓pm_0321, ↓pm_1023, ↓pm_1032, ↓pm_1203, ↓pm_1230, ↓pm_1302, ↓pm_1320, ↓pm_2013, ↓pm_2031, ↓pm_2103, ↓pm_2130, ↓pm_2301, ↓pm_2310, ↓pm_3012, ↓pm_3021, ↓pm_3102, ↓pm_3120, ↓pm_3201, ↓pm_3210, ↓o_sub, ↓o_lt, ↓o_le, ↓o_gt, ↓o_ge, ↓o_mod, ↓o_fdiv, ↓o_pow, ↓o_mul, ↓o_rep, ↓o_repT, ↓o_add, ↓o_addS, ↓o_addT, ↓o_addLL, ↓o_addLO, ↓o_addOL, ↓o_addOO, ↓o_ixT, ↓o_ixL, ↓o_ixO, ↓atS_0, ↓atS_1, ↓atS_2, ↓atS_3, ↓atS_4, ↓slc_T, ↓slc_L, ↓slc_O, ↓ext_own, ↓ext_OO, ↓lm_own, ↓append_own, ↓b_lenT, ↓b_lenL, ↓b_lenO, ↓b_lenS, ↓k_Disp, ↓k_GetD, ↓k_Prm, ↓k_lmE, ↓b_back, ↓b_tupT, ↓b_tupL, ↓b_tupO, ↓b_lstT, ↓b_lstL, ↓b_lstO, ↓b_min2, ↓b_max2, ↓b_abs, ↓b_sorted, ↓b_sortedL, ↓b_sumO, ↓b_sumL, ↓b_sumT, ↓b_anyO, ↓b_allO, ↓o_eqI, ↓o_neI, ↓o_eqSt, ↓o_neSt, ↓o_eqT, ↓o_neT, ↓isN_non, ↓isN_int, ↓isN_str, ↓isN_tup, ↓isN_lst, ↓nIsN_non, ↓nIsN_int, ↓nIsN_str, ↓nIsN_tup, ↓nIsN_lst, ↓k_LamCall, ↓k_lCons, ↓lam0_nil, ↓lam1_one, ↓k_raiseC, ↓o_powW, ↓k_Idx, ↓idxq_own, ↓idxq_lst, ↓k_wMx, ↓o_isB, ↓o_notB, ↓mix_32, ↓mix_32s, ↓mix_05, ↓mix_31, ↓mix_42, ↓mix_051, ↓k_RevL, ↓revL_own, ↓revL_lst, ↓k_eLenSet, ↓k_parC3, ↓pr3_3, if_true, if_false, Bool.not_true, Bool.not_false, Bool.false_eq_true, decide_true, decide_false, String.reduceEq, decide_eq_true_eq, Int.toNat_natCast, List.length_map, List.length_cons, List.length_nil, sizeL, Nat.zero_add, Nat.reduceAdd, Nat.reduceLeDiff, so]
    have sm : m__law_same 8 [.tup [.str "told", .tup ((soA cs).map .int)], .tup [.str "told", .tup ((soA cs).map .int)]] = ret (.val (.bl true)) := same_ok 7 _ (same_tw (n := 5) (sm_ints (n := 5) (by omega)))
    simp only [↓un4_tup, ↓asS_str, ↓k_iChars, ↓k_put2C, ↓k_Fld, ↓k_setFC, ↓k_nmFC, ↓k_ffC, ↓k_Meth, ↓k_Meth0, ↓k_MethM, ↓k_MethM0, ↓k_Make, ↓k_Make0, ↓k_MakeM, ↓k_MakeM0, ↓k_Own, ↓k_EqO, ↓k_IsO, ↓k_InM, ↓k_GetM, ↓k_putMC, ↓k_putME, ↓k_delME, ↓k_DispK, ↓k_lLive, ↓k_lLvE, ↓k_lFix, ↓k_forLC, ↓k_LcL, ↓k_Lc2, ↓k_lc2b, ↓k_Fmt, ↓k_Joined, ↓k_jsNil, ↓k_jsCons, ↓k_LmV, ↓k_DcX, ↓k_ePrm, ↓src_lst, ↓src_tup, ↓k_V, ↓k_C, ↓k_Op2, ↓k_Fz, ↓k_wNil, ↓k_wCons, ↓k_Tup, ↓k_Lst, ↓k_oNo, ↓k_oPart, ↓k_Sl, ↓k_sNil, ↓k_sCons, ↓k_CB, ↓k_tYes, ↓k_tTst, ↓k_tAnd, ↓k_tOr, ↓k_tNot, ↓k_If, ↓k_And, ↓k_Or, ↓k_Not, ↓k_Neg, ↓k_Chn, ↓k_Call, ↓k_Call0, ↓k_wPerm, ↓k_iItems, ↓k_iRng1, ↓k_iRng2, ↓k_iZip, ↓k_iEnum, ↓k_iEnz, ↓k_ifC, ↓k_Lrg1, ↓k_parC, ↓k_starC, ↓k_setC, ↓k_setC2, ↓k_augC, ↓k_lcb, ↓k_Lc, ↓k_forC, ↓str_lit, ↓fz_val, ↓fz_seq, ↓rr_val, ↓rr_own, ↓sv_val, ↓sv_own, ↓asI_int, ↓asB_bl, ↓items_tup, ↓items_lst, ↓un2_tup, ↓un3_tup, ↓un5_tup, ↓uq2_tup, ↓uq3_tup, ↓uq2_lst, ↓uq3_lst, ↓uq4_tup, ↓uq5_tup, ↓star_tup, ↓star_lst, ↓pr2_2, ↓zip2_tup, ↓zip2_lst, ↓enz_2, ↓rng1_int, ↓rng2_int, ↓lrg1_int, ↓req_T, ↓ret_at, ↓raise_at, ↓call_ret, ↓call0_ret, ↓call_raise, ↓pm_0, ↓pm_01, ↓pm_10, ↓pm_012, ↓pm_021, ↓pm_102, ↓pm_120, ↓pm_201, ↓pm_210, ↓pm_0123, ↓pm_0132, ↓pm_0213, ↓pm_0231, ↓pm_0312, ↓pm_0321, ↓pm_1023, ↓pm_1032, ↓pm_1203, ↓pm_1230, ↓pm_1302, ↓pm_1320, ↓pm_2013, ↓pm_2031, ↓pm_2103, ↓pm_2130, ↓pm_2301, ↓pm_2310, ↓pm_3012, ↓pm_3021, ↓pm_3102, ↓pm_3120, ↓pm_3201, ↓pm_3210, ↓o_sub, ↓o_lt, ↓o_le, ↓o_gt, ↓o_ge, ↓o_mod, ↓o_fdiv, ↓o_pow, ↓o_mul, ↓o_rep, ↓o_repT, ↓o_add, ↓o_addS, ↓o_addT, ↓o_addLL, ↓o_addLO, ↓o_addOL, ↓o_addOO, ↓o_ixT, ↓o_ixL, ↓o_ixO, ↓atS_0, ↓atS_1, ↓atS_2, ↓atS_3, ↓atS_4, ↓slc_T, ↓slc_L, ↓slc_O, ↓ext_own, ↓ext_OO, ↓lm_own, ↓append_own, ↓b_lenT, ↓b_lenL, ↓b_lenO, ↓b_lenS, ↓k_Disp, ↓k_GetD, ↓k_Prm, ↓k_lmE, ↓b_back, ↓b_tupT, ↓b_tupL, ↓b_tupO, ↓b_lstT, ↓b_lstL, ↓b_lstO, ↓b_min2, ↓b_max2, ↓b_abs, ↓b_sorted, ↓b_sortedL, ↓b_sumO, ↓b_sumL, ↓b_sumT, ↓b_anyO, ↓b_allO, ↓o_eqI, ↓o_neI, ↓o_eqSt, ↓o_neSt, ↓o_eqT, ↓o_neT, ↓isN_non, ↓isN_int, ↓isN_str, ↓isN_tup, ↓isN_lst, ↓nIsN_non, ↓nIsN_int, ↓nIsN_str, ↓nIsN_tup, ↓nIsN_lst, ↓k_LamCall, ↓k_lCons, ↓lam0_nil, ↓lam1_one, ↓k_raiseC, ↓o_powW, ↓k_Idx, ↓idxq_own, ↓idxq_lst, ↓k_wMx, ↓o_isB, ↓o_notB, ↓mix_32, ↓mix_32s, ↓mix_05, ↓mix_31, ↓mix_42, ↓mix_051, ↓k_RevL, ↓revL_own, ↓revL_lst, ↓k_eLenSet, ↓k_parC3, ↓pr3_3, if_true, if_false, Bool.not_true, Bool.not_false, Bool.false_eq_true, decide_true, decide_false, String.reduceEq, decide_eq_true_eq, Int.toNat_natCast, List.length_map, List.length_cons, List.length_nil, sizeL, Nat.zero_add, Nat.reduceAdd, Nat.reduceLeDiff, decide_eq_true (show ((soA cs).length : Int) ≤ 60 by omega), hereT (fun f => told2_val (f := f) ls), sm, so, cc, same_ok 7 _ (sm_ints (n := 6) (as := cs) (by omega))]
  all_goals
    refine (law_stand_dr sz (by omega) (by omega) (by omega) (by omega)).call b2 (by omega) fun r h6 hr b6 _ => ?_
    obtain ⟨st, rfl, so, sl, _⟩ := hr
    have sl := so.len
    conv => fun; fun; fun; simp only [↓un4_tup, ↓asS_str, ↓k_iChars, ↓k_put2C, ↓k_Fld, ↓k_setFC, ↓k_nmFC, ↓k_ffC, ↓k_Meth, ↓k_Meth0, ↓k_MethM, ↓k_MethM0, ↓k_Make, ↓k_Make0, ↓k_MakeM, ↓k_MakeM0, ↓k_Own, ↓k_EqO, ↓k_IsO, ↓k_InM, ↓k_GetM, ↓k_putMC, ↓k_putME, ↓k_delME, ↓k_DispK, ↓k_lLive, ↓k_lLvE, ↓k_lFix, ↓k_forLC, ↓k_LcL, ↓k_Lc2, ↓k_lc2b, ↓k_Fmt, ↓k_Joined, ↓k_jsNil, ↓k_jsCons, ↓k_LmV, ↓k_DcX, ↓k_ePrm, ↓src_lst, ↓src_tup, ↓k_V, ↓k_C, ↓k_Op2, ↓k_Fz, ↓k_wNil, ↓k_wCons, ↓k_Tup, ↓k_Lst, ↓k_oNo, ↓k_oPart, ↓k_Sl, ↓k_sNil, ↓k_sCons, ↓k_CB, ↓k_tYes, ↓k_tTst, ↓k_tAnd, ↓k_tOr, ↓k_tNot, ↓k_If, ↓k_And, ↓k_Or, ↓k_Not, ↓k_Neg, ↓k_Chn, ↓k_Call, ↓k_Call0, ↓k_wPerm, ↓k_iItems, ↓k_iRng1, ↓k_iRng2, ↓k_iZip, ↓k_iEnum, ↓k_iEnz, ↓k_ifC, ↓k_Lrg1, ↓k_parC, ↓k_starC, ↓k_setC, ↓k_setC2, ↓k_augC, ↓k_lcb, ↓k_Lc, ↓k_forC, ↓str_lit, ↓fz_val, ↓fz_seq, ↓rr_val, ↓rr_own, ↓sv_val, ↓sv_own, ↓asI_int, ↓asB_bl, ↓items_tup, ↓items_lst, ↓un2_tup, ↓un3_tup, ↓un5_tup, ↓uq2_tup, ↓uq3_tup, ↓uq2_lst, ↓uq3_lst, ↓uq4_tup, ↓uq5_tup, ↓star_tup, ↓star_lst, ↓pr2_2, ↓zip2_tup, ↓zip2_lst, ↓enz_2, ↓rng1_int, ↓rng2_int, ↓lrg1_int, ↓req_T, ↓ret_at, ↓raise_at, ↓call_ret, ↓call0_ret, ↓call_raise, ↓pm_0, ↓pm_01, ↓pm_10, ↓pm_012, ↓pm_021, ↓pm_102, ↓pm_120, ↓pm_201, ↓pm_210, ↓pm_0123, ↓pm_0132, ↓pm_0213, ↓pm_0231, ↓pm_0312, ↓pm_0321, ↓pm_1023, ↓pm_1032, ↓pm_1203, ↓pm_1230, ↓pm_1302, ↓pm_1320, ↓pm_2013, ↓pm_2031, ↓pm_2103, ↓pm_2130, ↓pm_2301, ↓pm_2310, ↓pm_3012, ↓pm_3021, ↓pm_3102, ↓pm_3120, ↓pm_3201, ↓pm_3210, ↓o_sub, ↓o_lt, ↓o_le, ↓o_gt, ↓o_ge, ↓o_mod, ↓o_fdiv, ↓o_pow, ↓o_mul, ↓o_rep, ↓o_repT, ↓o_add, ↓o_addS, ↓o_addT, ↓o_addLL, ↓o_addLO, ↓o_addOL, ↓o_addOO, ↓o_ixT, ↓o_ixL, ↓o_ixO, ↓atS_0, ↓atS_1, ↓atS_2, ↓atS_3, ↓atS_4, ↓slc_T, ↓slc_L, ↓slc_O, ↓ext_own, ↓ext_OO, ↓lm_own, ↓append_own, ↓b_lenT, ↓b_lenL, ↓b_lenO, ↓b_lenS, ↓k_Disp, ↓k_GetD, ↓k_Prm, ↓k_lmE, ↓b_back, ↓b_tupT, ↓b_tupL, ↓b_tupO, ↓b_lstT, ↓b_lstL, ↓b_lstO, ↓b_min2, ↓b_max2, ↓b_abs, ↓b_sorted, ↓b_sortedL, ↓b_sumO, ↓b_sumL, ↓b_sumT, ↓b_anyO, ↓b_allO, ↓o_eqI, ↓o_neI, ↓o_eqSt, ↓o_neSt, ↓o_eqT, ↓o_neT, ↓isN_non, ↓isN_int, ↓isN_str, ↓isN_tup, ↓isN_lst, ↓nIsN_non, ↓nIsN_int, ↓nIsN_str, ↓nIsN_tup, ↓nIsN_lst, ↓k_LamCall, ↓k_lCons, ↓lam0_nil, ↓lam1_one, ↓k_raiseC, ↓o_powW, ↓k_Idx, ↓idxq_own, ↓idxq_lst, ↓k_wMx, ↓o_isB, ↓o_notB, ↓mix_32, ↓mix_32s, ↓mix_05, ↓mix_31, ↓mix_42, ↓mix_051, ↓k_RevL, ↓revL_own, ↓revL_lst, ↓k_eLenSet, ↓k_parC3, ↓pr3_3, if_true, if_false, Bool.not_true, Bool.not_false, Bool.false_eq_true, decide_true, decide_false, String.reduceEq, decide_eq_true_eq, Int.toNat_natCast, List.length_map, List.length_cons, List.length_nil, sizeL, Nat.zero_add, Nat.reduceAdd, Nat.reduceLeDiff]
    refine (take_dr (s := (st.length : Int) + 1) (by omega) (by omega)).call b6 (by omega) fun r h7 hr b7 _ => ?_
    obtain ⟨at2, rfl, e0, e1⟩ := hr
    obtain ⟨k, rfl⟩ : ∃ k : Nat, at2 = k := ⟨at2.toNat, by omega⟩
    have hd := hid_ok (st := st) (n := (k : Int))
    rw [if_pos ⟨by omega, by omega⟩, Int.toNat_natCast] at hd
    have hd2 := hid_ok (st := st) (n := (st.length : Int))
    rw [if_pos ⟨by omega, by omega⟩, Int.toNat_natCast, List.take_length] at hd2
    have sk : m__law_same 8 [.tup ((st.take k).map .int), .tup ((st.take k).map .int)] = ret (.val (.bl true)) := same_ok 7 _ (sm_ints (n := 6) (by rw [List.length_take]; omega))
    conv => fun; fun; fun; simp only [↓un4_tup, ↓asS_str, ↓k_iChars, ↓k_put2C, ↓k_Fld, ↓k_setFC, ↓k_nmFC, ↓k_ffC, ↓k_Meth, ↓k_Meth0, ↓k_MethM, ↓k_MethM0, ↓k_Make, ↓k_Make0, ↓k_MakeM, ↓k_MakeM0, ↓k_Own, ↓k_EqO, ↓k_IsO, ↓k_InM, ↓k_GetM, ↓k_putMC, ↓k_putME, ↓k_delME, ↓k_DispK, ↓k_lLive, ↓k_lLvE, ↓k_lFix, ↓k_forLC, ↓k_LcL, ↓k_Lc2, ↓k_lc2b, ↓k_Fmt, ↓k_Joined, ↓k_jsNil, ↓k_jsCons, ↓k_LmV, ↓k_DcX, ↓k_ePrm, ↓src_lst, ↓src_tup, ↓k_V, ↓k_C, ↓k_Op2, ↓k_Fz, ↓k_wNil, ↓k_wCons, ↓k_Tup, ↓k_Lst, ↓k_oNo, ↓k_oPart, ↓k_Sl, ↓k_sNil, ↓k_sCons, ↓k_CB, ↓k_tYes, ↓k_tTst, ↓k_tAnd, ↓k_tOr, ↓k_tNot, ↓k_If, ↓k_And, ↓k_Or, ↓k_Not, ↓k_Neg, ↓k_Chn, ↓k_Call, ↓k_Call0, ↓k_wPerm, ↓k_iItems, ↓k_iRng1, ↓k_iRng2, ↓k_iZip, ↓k_iEnum, ↓k_iEnz, ↓k_ifC, ↓k_Lrg1, ↓k_parC, ↓k_starC, ↓k_setC, ↓k_setC2, ↓k_augC, ↓k_lcb, ↓k_Lc, ↓k_forC, ↓str_lit, ↓fz_val, ↓fz_seq, ↓rr_val, ↓rr_own, ↓sv_val, ↓sv_own, ↓asI_int, ↓asB_bl, ↓items_tup, ↓items_lst, ↓un2_tup, ↓un3_tup, ↓un5_tup, ↓uq2_tup, ↓uq3_tup, ↓uq2_lst, ↓uq3_lst, ↓uq4_tup, ↓uq5_tup, ↓star_tup, ↓star_lst, ↓pr2_2, ↓zip2_tup, ↓zip2_lst, ↓enz_2, ↓rng1_int, ↓rng2_int, ↓lrg1_int, ↓req_T, ↓ret_at, ↓raise_at, ↓call_ret, ↓call0_ret, ↓call_raise, ↓pm_0, ↓pm_01, ↓pm_10, ↓pm_012, ↓pm_021, ↓pm_102, ↓pm_120, ↓pm_201, ↓pm_210, ↓pm_0123, ↓pm_0132, ↓pm_0213, ↓pm_0231, ↓pm_0312, ↓pm_0321, ↓pm_1023, ↓pm_1032, ↓pm_1203, ↓pm_1230, ↓pm_1302, ↓pm_1320, ↓pm_2013, ↓pm_2031, ↓pm_2103, ↓pm_2130, ↓pm_2301, ↓pm_2310, ↓pm_3012, ↓pm_3021, ↓pm_3102, ↓pm_3120, ↓pm_3201, ↓pm_3210, ↓o_sub, ↓o_lt, ↓o_le, ↓o_gt, ↓o_ge, ↓o_mod, ↓o_fdiv, ↓o_pow, ↓o_mul, ↓o_rep, ↓o_repT, ↓o_add, ↓o_addS, ↓o_addT, ↓o_addLL, ↓o_addLO, ↓o_addOL, ↓o_addOO, ↓o_ixT, ↓o_ixL, ↓o_ixO, ↓atS_0, ↓atS_1, ↓atS_2, ↓atS_3, ↓atS_4, ↓slc_T, ↓slc_L, ↓slc_O, ↓ext_own, ↓ext_OO, ↓lm_own, ↓append_own, ↓b_lenT, ↓b_lenL, ↓b_lenO, ↓b_lenS, ↓k_Disp, ↓k_GetD, ↓k_Prm, ↓k_lmE, ↓b_back, ↓b_tupT, ↓b_tupL, ↓b_tupO, ↓b_lstT, ↓b_lstL, ↓b_lstO, ↓b_min2, ↓b_max2, ↓b_abs, ↓b_sorted, ↓b_sortedL, ↓b_sumO, ↓b_sumL, ↓b_sumT, ↓b_anyO, ↓b_allO, ↓o_eqI, ↓o_neI, ↓o_eqSt, ↓o_neSt, ↓o_eqT, ↓o_neT, ↓isN_non, ↓isN_int, ↓isN_str, ↓isN_tup, ↓isN_lst, ↓nIsN_non, ↓nIsN_int, ↓nIsN_str, ↓nIsN_tup, ↓nIsN_lst, ↓k_LamCall, ↓k_lCons, ↓lam0_nil, ↓lam1_one, ↓k_raiseC, ↓o_powW, ↓k_Idx, ↓idxq_own, ↓idxq_lst, ↓k_wMx, ↓o_isB, ↓o_notB, ↓mix_32, ↓mix_32s, ↓mix_05, ↓mix_31, ↓mix_42, ↓mix_051, ↓k_RevL, ↓revL_own, ↓revL_lst, ↓k_eLenSet, ↓k_parC3, ↓pr3_3, if_true, if_false, Bool.not_true, Bool.not_false, Bool.false_eq_true, decide_true, decide_false, String.reduceEq, decide_eq_true_eq, Int.toNat_natCast, List.length_map, List.length_cons, List.length_nil, sizeL, Nat.zero_add, Nat.reduceAdd, Nat.reduceLeDiff, hd, hd2, cut_to, ← List.map_take, sk]
    refine (take_dr (s := 99) (by omega) (by omega)).call b7 (by omega) fun r h8 hr b8 _ => ?_
    obtain ⟨u, rfl, u0, u1⟩ := hr
    conv => fun; fun; fun; simp only [↓un4_tup, ↓asS_str, ↓k_iChars, ↓k_put2C, ↓k_Fld, ↓k_setFC, ↓k_nmFC, ↓k_ffC, ↓k_Meth, ↓k_Meth0, ↓k_MethM, ↓k_MethM0, ↓k_Make, ↓k_Make0, ↓k_MakeM, ↓k_MakeM0, ↓k_Own, ↓k_EqO, ↓k_IsO, ↓k_InM, ↓k_GetM, ↓k_putMC, ↓k_putME, ↓k_delME, ↓k_DispK, ↓k_lLive, ↓k_lLvE, ↓k_lFix, ↓k_forLC, ↓k_LcL, ↓k_Lc2, ↓k_lc2b, ↓k_Fmt, ↓k_Joined, ↓k_jsNil, ↓k_jsCons, ↓k_LmV, ↓k_DcX, ↓k_ePrm, ↓src_lst, ↓src_tup, ↓k_V, ↓k_C, ↓k_Op2, ↓k_Fz, ↓k_wNil, ↓k_wCons, ↓k_Tup, ↓k_Lst, ↓k_oNo, ↓k_oPart, ↓k_Sl, ↓k_sNil, ↓k_sCons, ↓k_CB, ↓k_tYes, ↓k_tTst, ↓k_tAnd, ↓k_tOr, ↓k_tNot, ↓k_If, ↓k_And, ↓k_Or, ↓k_Not, ↓k_Neg, ↓k_Chn, ↓k_Call, ↓k_Call0, ↓k_wPerm, ↓k_iItems, ↓k_iRng1, ↓k_iRng2, ↓k_iZip, ↓k_iEnum, ↓k_iEnz, ↓k_ifC, ↓k_Lrg1, ↓k_parC, ↓k_starC, ↓k_setC, ↓k_setC2, ↓k_augC, ↓k_lcb, ↓k_Lc, ↓k_forC, ↓str_lit, ↓fz_val, ↓fz_seq, ↓rr_val, ↓rr_own, ↓sv_val, ↓sv_own, ↓asI_int, ↓asB_bl, ↓items_tup, ↓items_lst, ↓un2_tup, ↓un3_tup, ↓un5_tup, ↓uq2_tup, ↓uq3_tup, ↓uq2_lst, ↓uq3_lst, ↓uq4_tup, ↓uq5_tup, ↓star_tup, ↓star_lst, ↓pr2_2, ↓zip2_tup, ↓zip2_lst, ↓enz_2, ↓rng1_int, ↓rng2_int, ↓lrg1_int, ↓req_T, ↓ret_at, ↓raise_at, ↓call_ret, ↓call0_ret, ↓call_raise, ↓pm_0, ↓pm_01, ↓pm_10, ↓pm_012, ↓pm_021, ↓pm_102, ↓pm_120, ↓pm_201, ↓pm_210, ↓pm_0123, ↓pm_0132, ↓pm_0213, ↓pm_0231, ↓pm_0312, ↓pm_0321, ↓pm_1023, ↓pm_1032, ↓pm_1203, ↓pm_1230, ↓pm_1302, ↓pm_1320, ↓pm_2013, ↓pm_2031, ↓pm_2103, ↓pm_2130, ↓pm_2301, ↓pm_2310, ↓pm_3012, ↓pm_3021, ↓pm_3102, ↓pm_3120, ↓pm_3201, ↓pm_3210, ↓o_sub, ↓o_lt, ↓o_le, ↓o_gt, ↓o_ge, ↓o_mod, ↓o_fdiv, ↓o_pow, ↓o_mul, ↓o_rep, ↓o_repT, ↓o_add, ↓o_addS, ↓o_addT, ↓o_addLL, ↓o_addLO, ↓o_addOL, ↓o_addOO, ↓o_ixT, ↓o_ixL, ↓o_ixO, ↓atS_0, ↓atS_1, ↓atS_2, ↓atS_3, ↓atS_4, ↓slc_T, ↓slc_L, ↓slc_O, ↓ext_own, ↓ext_OO, ↓lm_own, ↓append_own, ↓b_lenT, ↓b_lenL, ↓b_lenO, ↓b_lenS, ↓k_Disp, ↓k_GetD, ↓k_Prm, ↓k_lmE, ↓b_back, ↓b_tupT, ↓b_tupL, ↓b_tupO, ↓b_lstT, ↓b_lstL, ↓b_lstO, ↓b_min2, ↓b_max2, ↓b_abs, ↓b_sorted, ↓b_sortedL, ↓b_sumO, ↓b_sumL, ↓b_sumT, ↓b_anyO, ↓b_allO, ↓o_eqI, ↓o_neI, ↓o_eqSt, ↓o_neSt, ↓o_eqT, ↓o_neT, ↓isN_non, ↓isN_int, ↓isN_str, ↓isN_tup, ↓isN_lst, ↓nIsN_non, ↓nIsN_int, ↓nIsN_str, ↓nIsN_tup, ↓nIsN_lst, ↓k_LamCall, ↓k_lCons, ↓lam0_nil, ↓lam1_one, ↓k_raiseC, ↓o_powW, ↓k_Idx, ↓idxq_own, ↓idxq_lst, ↓k_wMx, ↓o_isB, ↓o_notB, ↓mix_32, ↓mix_32s, ↓mix_05, ↓mix_31, ↓mix_42, ↓mix_051, ↓k_RevL, ↓revL_own, ↓revL_lst, ↓k_eLenSet, ↓k_parC3, ↓pr3_3, if_true, if_false, Bool.not_true, Bool.not_false, Bool.false_eq_true, decide_true, decide_false, String.reduceEq, decide_eq_true_eq, Int.toNat_natCast, List.length_map, List.length_cons, List.length_nil, sizeL, Nat.zero_add, Nat.reduceAdd, Nat.reduceLeDiff]
    refine ⟨pow20, ?_⟩
    refine (take_dr (s := 10 ^ Int.toNat 20) (by decide) (by decide)).call b8 (by omega) fun r h9 hr b9 _ => ?_
    obtain ⟨v, rfl, v0, v1⟩ := hr
    conv => fun; fun; fun; simp only [↓un4_tup, ↓asS_str, ↓k_iChars, ↓k_put2C, ↓k_Fld, ↓k_setFC, ↓k_nmFC, ↓k_ffC, ↓k_Meth, ↓k_Meth0, ↓k_MethM, ↓k_MethM0, ↓k_Make, ↓k_Make0, ↓k_MakeM, ↓k_MakeM0, ↓k_Own, ↓k_EqO, ↓k_IsO, ↓k_InM, ↓k_GetM, ↓k_putMC, ↓k_putME, ↓k_delME, ↓k_DispK, ↓k_lLive, ↓k_lLvE, ↓k_lFix, ↓k_forLC, ↓k_LcL, ↓k_Lc2, ↓k_lc2b, ↓k_Fmt, ↓k_Joined, ↓k_jsNil, ↓k_jsCons, ↓k_LmV, ↓k_DcX, ↓k_ePrm, ↓src_lst, ↓src_tup, ↓k_V, ↓k_C, ↓k_Op2, ↓k_Fz, ↓k_wNil, ↓k_wCons, ↓k_Tup, ↓k_Lst, ↓k_oNo, ↓k_oPart, ↓k_Sl, ↓k_sNil, ↓k_sCons, ↓k_CB, ↓k_tYes, ↓k_tTst, ↓k_tAnd, ↓k_tOr, ↓k_tNot, ↓k_If, ↓k_And, ↓k_Or, ↓k_Not, ↓k_Neg, ↓k_Chn, ↓k_Call, ↓k_Call0, ↓k_wPerm, ↓k_iItems, ↓k_iRng1, ↓k_iRng2, ↓k_iZip, ↓k_iEnum, ↓k_iEnz, ↓k_ifC, ↓k_Lrg1, ↓k_parC, ↓k_starC, ↓k_setC, ↓k_setC2, ↓k_augC, ↓k_lcb, ↓k_Lc, ↓k_forC, ↓str_lit, ↓fz_val, ↓fz_seq, ↓rr_val, ↓rr_own, ↓sv_val, ↓sv_own, ↓asI_int, ↓asB_bl, ↓items_tup, ↓items_lst, ↓un2_tup, ↓un3_tup, ↓un5_tup, ↓uq2_tup, ↓uq3_tup, ↓uq2_lst, ↓uq3_lst, ↓uq4_tup, ↓uq5_tup, ↓star_tup, ↓star_lst, ↓pr2_2, ↓zip2_tup, ↓zip2_lst, ↓enz_2, ↓rng1_int, ↓rng2_int, ↓lrg1_int, ↓req_T, ↓ret_at, ↓raise_at, ↓call_ret, ↓call0_ret, ↓call_raise, ↓pm_0, ↓pm_01, ↓pm_10, ↓pm_012, ↓pm_021, ↓pm_102, ↓pm_120, ↓pm_201, ↓pm_210, ↓pm_0123, ↓pm_0132, ↓pm_0213, ↓pm_0231, ↓pm_0312, ↓pm_0321, ↓pm_1023, ↓pm_1032, ↓pm_1203, ↓pm_1230, ↓pm_1302, ↓pm_1320, ↓pm_2013, ↓pm_2031, ↓pm_2103, ↓pm_2130, ↓pm_2301, ↓pm_2310, ↓pm_3012, ↓pm_3021, ↓pm_3102, ↓pm_3120, ↓pm_3201, ↓pm_3210, ↓o_sub, ↓o_lt, ↓o_le, ↓o_gt, ↓o_ge, ↓o_mod, ↓o_fdiv, ↓o_pow, ↓o_mul, ↓o_rep, ↓o_repT, ↓o_add, ↓o_addS, ↓o_addT, ↓o_addLL, ↓o_addLO, ↓o_addOL, ↓o_addOO, ↓o_ixT, ↓o_ixL, ↓o_ixO, ↓atS_0, ↓atS_1, ↓atS_2, ↓atS_3, ↓atS_4, ↓slc_T, ↓slc_L, ↓slc_O, ↓ext_own, ↓ext_OO, ↓lm_own, ↓append_own, ↓b_lenT, ↓b_lenL, ↓b_lenO, ↓b_lenS, ↓k_Disp, ↓k_GetD, ↓k_Prm, ↓k_lmE, ↓b_back, ↓b_tupT, ↓b_tupL, ↓b_tupO, ↓b_lstT, ↓b_lstL, ↓b_lstO, ↓b_min2, ↓b_max2, ↓b_abs, ↓b_sorted, ↓b_sortedL, ↓b_sumO, ↓b_sumL, ↓b_sumT, ↓b_anyO, ↓b_allO, ↓o_eqI, ↓o_neI, ↓o_eqSt, ↓o_neSt, ↓o_eqT, ↓o_neT, ↓isN_non, ↓isN_int, ↓isN_str, ↓isN_tup, ↓isN_lst, ↓nIsN_non, ↓nIsN_int, ↓nIsN_str, ↓nIsN_tup, ↓nIsN_lst, ↓k_LamCall, ↓k_lCons, ↓lam0_nil, ↓lam1_one, ↓k_raiseC, ↓o_powW, ↓k_Idx, ↓idxq_own, ↓idxq_lst, ↓k_wMx, ↓o_isB, ↓o_notB, ↓mix_32, ↓mix_32s, ↓mix_05, ↓mix_31, ↓mix_42, ↓mix_051, ↓k_RevL, ↓revL_own, ↓revL_lst, ↓k_eLenSet, ↓k_parC3, ↓pr3_3, if_true, if_false, Bool.not_true, Bool.not_false, Bool.false_eq_true, decide_true, decide_false, String.reduceEq, decide_eq_true_eq, Int.toNat_natCast, List.length_map, List.length_cons, List.length_nil, sizeL, Nat.zero_add, Nat.reduceAdd, Nat.reduceLeDiff]
    refine (pick_dr (xs := [.int (-1), .int ((st.length : Int) + 1), .int (-1 - u), .int (61 + v)]) (.inl rfl) (by simp) (by simp)).call b9 (by omega) fun r h10 hr b10 _ => ?_
    obtain ⟨w0, rfl, hw⟩ := hr
    obtain ⟨far, rfl, hf⟩ : ∃ o : Int, w0 = .int o ∧ ¬ (0 ≤ o ∧ o ≤ st.length) := by
      simp only [List.mem_cons, List.not_mem_nil, or_false] at hw
      rcases hw with rfl | rfl | rfl | rfl <;> exact ⟨_, rfl, by omega⟩
    have hf2 := hid_ok (st := st) (n := far)
    rw [if_neg hf] at hf2
    have lf : lam0 (eCall m_hidden_v1 (wCons (eFz (eV (.val (.tup (st.map .int))))) (wCons (eFz (eV (.val (.int far)))) wNil))) [] = raise (ndE far) := by
      simp only [↓un4_tup, ↓asS_str, ↓k_iChars, ↓k_put2C, ↓k_Fld, ↓k_setFC, ↓k_nmFC, ↓k_ffC, ↓k_Meth, ↓k_Meth0, ↓k_MethM, ↓k_MethM0, ↓k_Make, ↓k_Make0, ↓k_MakeM, ↓k_MakeM0, ↓k_Own, ↓k_EqO, ↓k_IsO, ↓k_InM, ↓k_GetM, ↓k_putMC, ↓k_putME, ↓k_delME, ↓k_DispK, ↓k_lLive, ↓k_lLvE, ↓k_lFix, ↓k_forLC, ↓k_LcL, ↓k_Lc2, ↓k_lc2b, ↓k_Fmt, ↓k_Joined, ↓k_jsNil, ↓k_jsCons, ↓k_LmV, ↓k_DcX, ↓k_ePrm, ↓src_lst, ↓src_tup, ↓k_V, ↓k_C, ↓k_Op2, ↓k_Fz, ↓k_wNil, ↓k_wCons, ↓k_Tup, ↓k_Lst, ↓k_oNo, ↓k_oPart, ↓k_Sl, ↓k_sNil, ↓k_sCons, ↓k_CB, ↓k_tYes, ↓k_tTst, ↓k_tAnd, ↓k_tOr, ↓k_tNot, ↓k_If, ↓k_And, ↓k_Or, ↓k_Not, ↓k_Neg, ↓k_Chn, ↓k_Call, ↓k_Call0, ↓k_wPerm, ↓k_iItems, ↓k_iRng1, ↓k_iRng2, ↓k_iZip, ↓k_iEnum, ↓k_iEnz, ↓k_ifC, ↓k_Lrg1, ↓k_parC, ↓k_starC, ↓k_setC, ↓k_setC2, ↓k_augC, ↓k_lcb, ↓k_Lc, ↓k_forC, ↓str_lit, ↓fz_val, ↓fz_seq, ↓rr_val, ↓rr_own, ↓sv_val, ↓sv_own, ↓asI_int, ↓asB_bl, ↓items_tup, ↓items_lst, ↓un2_tup, ↓un3_tup, ↓un5_tup, ↓uq2_tup, ↓uq3_tup, ↓uq2_lst, ↓uq3_lst, ↓uq4_tup, ↓uq5_tup, ↓star_tup, ↓star_lst, ↓pr2_2, ↓zip2_tup, ↓zip2_lst, ↓enz_2, ↓rng1_int, ↓rng2_int, ↓lrg1_int, ↓req_T, ↓ret_at, ↓raise_at, ↓call_ret, ↓call0_ret, ↓call_raise, ↓pm_0, ↓pm_01, ↓pm_10, ↓pm_012, ↓pm_021, ↓pm_102, ↓pm_120, ↓pm_201, ↓pm_210, ↓pm_0123, ↓pm_0132, ↓pm_0213, ↓pm_0231, ↓pm_0312, ↓pm_0321, ↓pm_1023, ↓pm_1032, ↓pm_1203, ↓pm_1230, ↓pm_1302, ↓pm_1320, ↓pm_2013, ↓pm_2031, ↓pm_2103, ↓pm_2130, ↓pm_2301, ↓pm_2310, ↓pm_3012, ↓pm_3021, ↓pm_3102, ↓pm_3120, ↓pm_3201, ↓pm_3210, ↓o_sub, ↓o_lt, ↓o_le, ↓o_gt, ↓o_ge, ↓o_mod, ↓o_fdiv, ↓o_pow, ↓o_mul, ↓o_rep, ↓o_repT, ↓o_add, ↓o_addS, ↓o_addT, ↓o_addLL, ↓o_addLO, ↓o_addOL, ↓o_addOO, ↓o_ixT, ↓o_ixL, ↓o_ixO, ↓atS_0, ↓atS_1, ↓atS_2, ↓atS_3, ↓atS_4, ↓slc_T, ↓slc_L, ↓slc_O, ↓ext_own, ↓ext_OO, ↓lm_own, ↓append_own, ↓b_lenT, ↓b_lenL, ↓b_lenO, ↓b_lenS, ↓k_Disp, ↓k_GetD, ↓k_Prm, ↓k_lmE, ↓b_back, ↓b_tupT, ↓b_tupL, ↓b_tupO, ↓b_lstT, ↓b_lstL, ↓b_lstO, ↓b_min2, ↓b_max2, ↓b_abs, ↓b_sorted, ↓b_sortedL, ↓b_sumO, ↓b_sumL, ↓b_sumT, ↓b_anyO, ↓b_allO, ↓o_eqI, ↓o_neI, ↓o_eqSt, ↓o_neSt, ↓o_eqT, ↓o_neT, ↓isN_non, ↓isN_int, ↓isN_str, ↓isN_tup, ↓isN_lst, ↓nIsN_non, ↓nIsN_int, ↓nIsN_str, ↓nIsN_tup, ↓nIsN_lst, ↓k_LamCall, ↓k_lCons, ↓lam0_nil, ↓lam1_one, ↓k_raiseC, ↓o_powW, ↓k_Idx, ↓idxq_own, ↓idxq_lst, ↓k_wMx, ↓o_isB, ↓o_notB, ↓mix_32, ↓mix_32s, ↓mix_05, ↓mix_31, ↓mix_42, ↓mix_051, ↓k_RevL, ↓revL_own, ↓revL_lst, ↓k_eLenSet, ↓k_parC3, ↓pr3_3, if_true, if_false, Bool.not_true, Bool.not_false, Bool.false_eq_true, decide_true, decide_false, String.reduceEq, decide_eq_true_eq, Int.toNat_natCast, List.length_map, List.length_cons, List.length_nil, sizeL, Nat.zero_add, Nat.reduceAdd, Nat.reduceLeDiff, hf2]
    have sf : m__law_same 8 [.tup [.str "no drop", .int far], .tup [.str "no drop", .int far]] = ret (.val (.bl true)) := same_ok 7 _ (same_tw (n := 5) rfl)
    conv => fun; fun; fun; simp only [↓un4_tup, ↓asS_str, ↓k_iChars, ↓k_put2C, ↓k_Fld, ↓k_setFC, ↓k_nmFC, ↓k_ffC, ↓k_Meth, ↓k_Meth0, ↓k_MethM, ↓k_MethM0, ↓k_Make, ↓k_Make0, ↓k_MakeM, ↓k_MakeM0, ↓k_Own, ↓k_EqO, ↓k_IsO, ↓k_InM, ↓k_GetM, ↓k_putMC, ↓k_putME, ↓k_delME, ↓k_DispK, ↓k_lLive, ↓k_lLvE, ↓k_lFix, ↓k_forLC, ↓k_LcL, ↓k_Lc2, ↓k_lc2b, ↓k_Fmt, ↓k_Joined, ↓k_jsNil, ↓k_jsCons, ↓k_LmV, ↓k_DcX, ↓k_ePrm, ↓src_lst, ↓src_tup, ↓k_V, ↓k_C, ↓k_Op2, ↓k_Fz, ↓k_wNil, ↓k_wCons, ↓k_Tup, ↓k_Lst, ↓k_oNo, ↓k_oPart, ↓k_Sl, ↓k_sNil, ↓k_sCons, ↓k_CB, ↓k_tYes, ↓k_tTst, ↓k_tAnd, ↓k_tOr, ↓k_tNot, ↓k_If, ↓k_And, ↓k_Or, ↓k_Not, ↓k_Neg, ↓k_Chn, ↓k_Call, ↓k_Call0, ↓k_wPerm, ↓k_iItems, ↓k_iRng1, ↓k_iRng2, ↓k_iZip, ↓k_iEnum, ↓k_iEnz, ↓k_ifC, ↓k_Lrg1, ↓k_parC, ↓k_starC, ↓k_setC, ↓k_setC2, ↓k_augC, ↓k_lcb, ↓k_Lc, ↓k_forC, ↓str_lit, ↓fz_val, ↓fz_seq, ↓rr_val, ↓rr_own, ↓sv_val, ↓sv_own, ↓asI_int, ↓asB_bl, ↓items_tup, ↓items_lst, ↓un2_tup, ↓un3_tup, ↓un5_tup, ↓uq2_tup, ↓uq3_tup, ↓uq2_lst, ↓uq3_lst, ↓uq4_tup, ↓uq5_tup, ↓star_tup, ↓star_lst, ↓pr2_2, ↓zip2_tup, ↓zip2_lst, ↓enz_2, ↓rng1_int, ↓rng2_int, ↓lrg1_int, ↓req_T, ↓ret_at, ↓raise_at, ↓call_ret, ↓call0_ret, ↓call_raise, ↓pm_0, ↓pm_01, ↓pm_10, ↓pm_012, ↓pm_021, ↓pm_102, ↓pm_120, ↓pm_201, ↓pm_210, ↓pm_0123, ↓pm_0132, ↓pm_0213, ↓pm_0231, ↓pm_0312, ↓pm_0321, ↓pm_1023, ↓pm_1032, ↓pm_1203, ↓pm_1230, ↓pm_1302, ↓pm_1320, ↓pm_2013, ↓pm_2031, ↓pm_2103, ↓pm_2130, ↓pm_2301, ↓pm_2310, ↓pm_3012, ↓pm_3021, ↓pm_3102, ↓pm_3120, ↓pm_3201, ↓pm_3210, ↓o_sub, ↓o_lt, ↓o_le, ↓o_gt, ↓o_ge, ↓o_mod, ↓o_fdiv, ↓o_pow, ↓o_mul, ↓o_rep, ↓o_repT, ↓o_add, ↓o_addS, ↓o_addT, ↓o_addLL, ↓o_addLO, ↓o_addOL, ↓o_addOO, ↓o_ixT, ↓o_ixL, ↓o_ixO, ↓atS_0, ↓atS_1, ↓atS_2, ↓atS_3, ↓atS_4, ↓slc_T, ↓slc_L, ↓slc_O, ↓ext_own, ↓ext_OO, ↓lm_own, ↓append_own, ↓b_lenT, ↓b_lenL, ↓b_lenO, ↓b_lenS, ↓k_Disp, ↓k_GetD, ↓k_Prm, ↓k_lmE, ↓b_back, ↓b_tupT, ↓b_tupL, ↓b_tupO, ↓b_lstT, ↓b_lstL, ↓b_lstO, ↓b_min2, ↓b_max2, ↓b_abs, ↓b_sorted, ↓b_sortedL, ↓b_sumO, ↓b_sumL, ↓b_sumT, ↓b_anyO, ↓b_allO, ↓o_eqI, ↓o_neI, ↓o_eqSt, ↓o_neSt, ↓o_eqT, ↓o_neT, ↓isN_non, ↓isN_int, ↓isN_str, ↓isN_tup, ↓isN_lst, ↓nIsN_non, ↓nIsN_int, ↓nIsN_str, ↓nIsN_tup, ↓nIsN_lst, ↓k_LamCall, ↓k_lCons, ↓lam0_nil, ↓lam1_one, ↓k_raiseC, ↓o_powW, ↓k_Idx, ↓idxq_own, ↓idxq_lst, ↓k_wMx, ↓o_isB, ↓o_notB, ↓mix_32, ↓mix_32s, ↓mix_05, ↓mix_31, ↓mix_42, ↓mix_051, ↓k_RevL, ↓revL_own, ↓revL_lst, ↓k_eLenSet, ↓k_parC3, ↓pr3_3, if_true, if_false, Bool.not_true, Bool.not_false, Bool.false_eq_true, decide_true, decide_false, String.reduceEq, decide_eq_true_eq, Int.toNat_natCast, List.length_map, List.length_cons, List.length_nil, sizeL, Nat.zero_add, Nat.reduceAdd, Nat.reduceLeDiff, hereT (fun f => told2_nd (f := f) lf), sf]
    exact hk () h10 ⟨by omega, by rw [← hm2]; exact b10.le (by omega)⟩
theorem law_says : ∀ ns : List Int, ns.length ≤ 63 → upc m_law [W.lst (ns.map .int)] (fun _ => none) (fun r _ => r = .val (.bl true)) fun _ _ => False := fun ns h => ⟨_, _, fun _ _ z => z, fun _ _ z => z, law_ok h _ _ _ fun _ => rfl⟩
end Ab
namespace Ab
open PySem PySem.Spec PyProof.Rows L2 RZ
def t_look_sizes (E : AExc → AEnv → AH → Prop) : ATS :=
  (aSeq (aIf (aNotT (aTst (aChn (fun i j => decide (i ≤ j)) (fun i j => decide (i ≤ j)) (aC (.int 1)) (aCB oLen (rCons (aVar 0) rNil)) (aC (.int 6))))) aNever aNext) (aFor (iEn (aFz (aVar 0))) (gTp 2 (gsCons (gNm 1) (gsCons (gNm 2) gsNil))) (aIf (aNotT (aTst (aChn (fun i j => decide (i ≤ j)) (fun i j => decide (i ≤ j)) (aC (.int 1)) (aVar 2) (aC (.int 40))))) aNever aNext)))
def t_look_counts (E : AExc → AEnv → AH → Prop) : ATS :=
  (aSeq (aDrop (aCall E (upc m_look_sizes) (aCons (aFz (aVar 0)) aNil))) (aSeq (aIf (aTst (aOp2 (oEq true) (aCB oLen (rCons (aVar 1) rNil)) (aCB oLen (rCons (aVar 0) rNil)))) aNever aNext) (aFor (iEz (aCons (aFz (aVar 1)) (aCons (aFz (aVar 0)) aNil))) (gTp 2 (gsCons (gNm 2) (gsCons (gTp 2 (gsCons (gNm 3) (gsCons (gNm 4) gsNil))) gsNil))) (aIf (aNotT (aTst (aChn (fun i j => decide (i ≤ j)) (fun i j => decide (i ≤ j)) (aC (.int 0)) (aVar 3) (aVar 4)))) aNever aNext))))
def t_look_stand (E : AExc → AEnv → AH → Prop) : ATS :=
  (aSeq (aDrop (aCall E (upc m_look_sizes) (aCons (aFz (aVar 0)) aNil))) (aSeq (aIf (aTst (aOp2 oGt (aCB oLen (rCons (aVar 1) rNil)) (aC (.int 60)))) aNever aNext) (aSeq (aSet 2 (aOp2 oMulT (aLst (aCons (aFz (aC (.int 0))) aNil)) (aCB oLen (rCons (aVar 0) rNil)))) (aFor (iEn (aFz (aVar 1))) (gTp 2 (gsCons (gNm 3) (gsCons (gNm 4) gsNil))) (aSeq (aIf (aNotT (aTst (aChn (fun i j => decide (i ≤ j)) (fun i j => decide (i < j)) (aC (.int (-1))) (aVar 4) (aCB oLen (rCons (aVar 0) rNil))))) aNever aNext) (aIf (aTst (aOp2 (oEq true) (aVar 4) (aC (.int (-1))))) (aSeq (aAugS (fun i j => i + j) (aVar 2) (aVar 4) (aC (.int 1))) (aIf (aTst (aOp2 oGt (aOp2 oIx (aVar 2) (aVar 4)) (aOp2 oIx (aVar 0) (aVar 4)))) aNever aNext)) aNext))))))
def t_counted (E : AExc → AEnv → AH → Prop) : ATS :=
  (aSeq (aSet 2 (aOp2 oMulT (aLst (aCons (aFz (aC (.int 0))) aNil)) (aVar 0))) (aSeq (aFor (iSq (aFz (aVar 1))) (gNm 3) (aIf (aTst (aOp2 (oEq true) (aVar 3) (aC (.int (-1))))) (aAugS (fun i j => i + j) (aVar 2) (aVar 3) (aC (.int 1))) aNext)) (aRet (aCB oTupC (rCons (aVar 2) rNil)))))
def t_counts_of (E : AExc → AEnv → AH → Prop) : ATS :=
  (aSeq (aDrop (aCall E (upc m_look_stand) (aCons (aFz (aVar 0)) (aCons (aFz (aVar 1)) aNil)))) (aRet (aCall E (upc m_counted) (aCons (aFz (aCB oLen (rCons (aVar 0) rNil))) (aCons (aFz (aVar 1)) aNil)))))
def t_stand_of (E : AExc → AEnv → AH → Prop) : ATS :=
  (aSeq (aDrop (aCall E (upc m_look_counts) (aCons (aFz (aVar 0)) (aCons (aFz (aVar 1)) aNil)))) (aSeq (aIf (aTst (aOp2 oGt (aCB oSumA (rCons (aVar 1) rNil)) (aC (.int 60)))) (aRaise E "TooMany" "too many" ["most"] (aCons (aFz (aC (.int 60))) aNil)) aNext) (aRet (aCB oTupC (rCons (aLc2 [2, 3, 4] (iFix (iEn (aFz (aVar 1)))) (gTp 2 (gsCons (gNm 2) (gsCons (gNm 3) gsNil))) aYes (iFix (iRg1 (rCons (aVar 3) rNil))) [4] (gNm 4) aYes (aFz (aVar 2))) rNil)))))
def t_room (E : AExc → AEnv → AH → Prop) : ATS :=
  (aSeq (aDrop (aCall E (upc m_look_counts) (aCons (aFz (aVar 0)) (aCons (aFz (aVar 1)) aNil)))) (aRet (aCB oTupC (rCons (aLc [2, 3] (iZp (aCons (aFz (aVar 0)) (aCons (aFz (aVar 1)) aNil))) (gTp 2 (gsCons (gNm 2) (gsCons (gNm 3) gsNil))) aYes (aFz (aOp2 oSub (aVar 2) (aVar 3)))) rNil))))
def t_hidden_v1 (E : AExc → AEnv → AH → Prop) : ATS :=
  (aSeq (aIf (aNotT (aTst (aChn (fun i j => decide (i ≤ j)) (fun i j => decide (i ≤ j)) (aC (.int 0)) (aVar 1) (aCB oLen (rCons (aVar 0) rNil))))) (aRaise E "NoDrop" "no drop" ["rank"] (aCons (aFz (aVar 1)) aNil)) aNext) (aRet (aSl (aVar 0) aNoPart (aPart (aVar 1)))))
def t__law_open (E : AExc → AEnv → AH → Prop) : ATS :=
  (aRet (aLst (aCons (aFz (aCB oLstC (rCons (aSl (aVar 0) aNoPart (aPart (aC (.int 63)))) rNil))) (aCons (aFz (aC (.int 0))) (aCons (aFz (aC (.int 0))) (aCons (aFz (aC (.int 9465))) (aCons (aFz (aC (.int 0))) aNil)))))))
def t__law_take (E : AExc → AEnv → AH → Prop) : ATS :=
  (aSeq (aIf (aAndT (aTst (aOp2 oLt (aOp2 oIx (aVar 0) (aC (.int 2))) (aVar 1))) (aTst (aOp2 oLt (aOp2 oIx (aVar 0) (aC (.int 1))) (aCB oLen (rCons (aOp2 oIx (aVar 0) (aC (.int 0))) rNil))))) (aSeq (aAsg (aFz (aOp2 oIx (aOp2 oIx (aVar 0) (aC (.int 0))) (aOp2 oIx (aVar 0) (aC (.int 1))))) (gNm 2)) (aSeq (aAsg (aFz (aOp2 oAdd (aOp2 oIx (aVar 0) (aC (.int 1))) (aC (.int 1)))) (gSet (aVar 0) (aC (.int 1)))) (aSeq (aAsg (aFz (aC (.int 0))) (gSet (aVar 0) (aC (.int 2)))) (aIf (aTst (aOp2 oGe (aVar 2) (aOp2 oPow (aC (.int 10)) (aC (.int 18))))) (aAsg (aFz (aVar 2)) (gSet (aVar 0) (aC (.int 2)))) (aAsg (aFz (aOp2 oMod (aOp2 oAdd (aOp2 oAdd (aOp2 oMulT (aOp2 oIx (aVar 0) (aC (.int 3))) (aC (.int 48271))) (aOp2 oMulT (aOp2 oMod (aVar 2) (aC (.int 2147483629))) (aC (.int 69621)))) (aC (.int 12345))) (aC (.int 2147483647)))) (gSet (aVar 0) (aC (.int 3)))))))) aNext) (aSeq (aIf (aTst (aOp2 oGe (aOp2 oIx (aVar 0) (aC (.int 2))) (aVar 1))) (aSeq (aAsg (aFz (aOp2 oMod (aOp2 oIx (aVar 0) (aC (.int 2))) (aVar 1))) (gNm 3)) (aSeq (aAsg (aFz (aOp2 oFdiv (aOp2 oIx (aVar 0) (aC (.int 2))) (aVar 1))) (gSet (aVar 0) (aC (.int 2)))) (aRet (aVar 3)))) aNext) (aSeq (aAsg (aFz (aOp2 oAdd (aOp2 oIx (aVar 0) (aC (.int 4))) (aC (.int 1)))) (gSet (aVar 0) (aC (.int 4)))) (aSeq (aAsg (aFz (aOp2 oIx (aVar 0) (aC (.int 3)))) (gNm 4)) (aSeq (aAsg (aFz (aOp2 oMod (aOp2 oAdd (aOp2 oAdd (aOp2 oAdd (aOp2 oMulT (aOp2 oMod (aOp2 oMulT (aVar 4) (aVar 4)) (aC (.int 2147483629))) (aC (.int 5))) (aOp2 oMulT (aVar 4) (aC (.int 16811)))) (aOp2 oMulT (aC (.int 7919)) (aOp2 oIx (aVar 0) (aC (.int 4))))) (aC (.int 2531011))) (aC (.int 2147483647)))) (gSet (aVar 0) (aC (.int 3)))) (aRet (aOp2 oMod (aOp2 oAdd (aOp2 oFdiv (aOp2 oIx (aVar 0) (aC (.int 3))) (aC (.int 61))) (aOp2 oMulT (aOp2 oMod (aOp2 oIx (aVar 0) (aC (.int 3))) (aC (.int 8191))) (aC (.int 31)))) (aVar 1))))))))
def t__law_pick (E : AExc → AEnv → AH → Prop) : ATS :=
  (aRet (aOp2 oIx (aVar 1) (aCall E (upc m__law_take) (aCons (aFz (aVar 0)) (aCons (aFz (aCB oLen (rCons (aVar 1) rNil))) aNil)))))
def t__law_same (d : Nat) (E : AExc → AEnv → AH → Prop) : ATS :=
  (aSeq (aIf (aTst (aOp2 (oIsN false) (aVar 1) (aC .non))) (aRet (aOp2 (oIsN false) (aVar 0) (aC .non))) aNext) (aSeq (aIf (aTst (aCB oIsi (rCons (aVar 1) (rCons (aC (.ty "bool")) rNil)))) (aRet (aAndV (aCB oIsi (rCons (aVar 0) (rCons (aC (.ty "bool")) rNil))) (aOp2 (oEq false) (aVar 0) (aVar 1)))) aNext) (aSeq (aIf (aTst (aCB oIsi (rCons (aVar 1) (rCons (aC (.ty "int")) rNil)))) (aRet (aAndV (aCB oIsi (rCons (aVar 0) (rCons (aC (.ty "int")) rNil))) (aAndV (aNotV (aCB oIsi (rCons (aVar 0) (rCons (aC (.ty "bool")) rNil)))) (aOp2 (oEq false) (aVar 0) (aVar 1))))) aNext) (aSeq (aIf (aTst (aCB oIsi (rCons (aVar 1) (rCons (aC (.ty "str")) rNil)))) (aRet (aAndV (aCB oIsi (rCons (aVar 0) (rCons (aC (.ty "str")) rNil))) (aOp2 (oEq false) (aVar 0) (aVar 1)))) aNext) (aSeq (aIf (aOrT (aTst (aOp2 (oEq true) (aCB oIsi (rCons (aVar 1) (rCons (aC (.ty "tuple")) rNil))) (aCB oIsi (rCons (aVar 0) (rCons (aC (.ty "tuple")) rNil))))) (aTst (aOp2 (oEq true) (aCB oIsi (rCons (aVar 1) (rCons (aC (.ty "list")) rNil))) (aCB oIsi (rCons (aVar 0) (rCons (aC (.ty "list")) rNil)))))) (aRet (aC (.bl false))) aNext) (aSeq (aIf (aTst (aOp2 (oEq true) (aCB oLen (rCons (aVar 0) rNil)) (aCB oLen (rCons (aVar 1) rNil)))) (aRet (aC (.bl false))) aNext) (aRet (aCB oAll (rCons (aLc [2] (iRg1 (rCons (aCB oLen (rCons (aVar 1) rNil)) rNil)) (gNm 2) aYes (aFz (aCall E0 (upc (m__law_same d)) (aCons (aFz (aOp2 oIx (aVar 0) (aVar 2))) (aCons (aFz (aOp2 oIx (aVar 1) (aVar 2))) aNil))))) rNil)))))))))
def t__law_sizes (E : AExc → AEnv → AH → Prop) : ATS :=
  (aRet (aCB oTupC (rCons (aLc [3] (iRg1 (rCons (aOp2 oAdd (aC (.int 1)) (aCall E (upc m__law_take) (aCons (aFz (aVar 0)) (aCons (aFz (aVar 1)) aNil)))) rNil)) (gNm 3) aYes (aFz (aOp2 oAdd (aC (.int 1)) (aCall E0 (upc m__law_take) (aCons (aFz (aVar 0)) (aCons (aFz (aVar 2)) aNil)))))) rNil)))
def t__law_any_sizes (E : AExc → AEnv → AH → Prop) : ATS :=
  (aRet (aCall E (upc m__law_sizes) (aCons (aFz (aVar 0)) (aCons (aFz (aC (.int 6))) (aCons (aFz (aCall E (upc m__law_pick) (aCons (aFz (aVar 0)) (aCons (aFz (aLst (aCons (aFz (aC (.int 40))) (aCons (aFz (aC (.int 9))) (aCons (aFz (aC (.int 4))) (aCons (aFz (aC (.int 2))) aNil)))))) aNil)))) aNil)))))
def t__law_stand (E : AExc → AEnv → AH → Prop) : ATS :=
  (aSeq (aAsg (aFz (aTup aNil)) (gNm 4)) (aSeq (aSet 5 (aOp2 oMulT (aLst (aCons (aFz (aC (.int 0))) aNil)) (aCB oLen (rCons (aVar 1) rNil)))) (aSeq (aFor (iRg1 (rCons (aCall E (upc m__law_take) (aCons (aFz (aVar 0)) (aCons (aFz (aOp2 oAdd (aVar 2) (aC (.int 1)))) aNil))) rNil)) (gNm 6) (aSeq (aAsg (aFz (aOp2 oSub (aCall E (upc m__law_take) (aCons (aFz (aVar 0)) (aCons (aFz (aOp2 oAdd (aCB oLen (rCons (aVar 1) rNil)) (aVar 3))) aNil))) (aVar 3))) (gNm 7)) (aIf (aTst (aOp2 oLt (aVar 7) (aC (.int 0)))) (aAsg (aFz (aOp2 oAdd (aVar 4) (aTup (aCons (aFz (aNeg (aC (.int 1)))) aNil)))) (gNm 4)) (aIf (aTst (aOp2 oLt (aOp2 oIx (aVar 5) (aVar 7)) (aOp2 oIx (aVar 1) (aVar 7)))) (aSeq (aAsg (aFz (aOp2 oAdd (aOp2 oIx (aVar 5) (aVar 7)) (aC (.int 1)))) (gSet (aVar 5) (aVar 7))) (aAsg (aFz (aOp2 oAdd (aVar 4) (aTup (aCons (aFz (aVar 7)) aNil)))) (gNm 4))) aNext)))) (aRet (aVar 4)))))
def t__law_load (E : AExc → AEnv → AH → Prop) : ATS :=
  (aRet (aCB oTupC (rCons (aLc [2] (iSq (aFz (aVar 1))) (gNm 2) aYes (aFz (aCall E0 (upc m__law_take) (aCons (aFz (aVar 0)) (aCons (aFz (aOp2 oAdd (aVar 2) (aC (.int 1)))) aNil))))) rNil)))
def t__law_full_load (E : AExc → AEnv → AH → Prop) : ATS :=
  (aSeq (aAsg (aFz (aCall E (upc m__law_take) (aCons (aFz (aVar 0)) (aCons (aFz (aC (.int 3))) aNil)))) (gNm 2)) (aSeq (aIf (aTst (aOp2 (oEq false) (aVar 2) (aC (.int 0)))) (aRet (aCB oTupC (rCons (aLc [3] (iSq (aFz (aVar 1))) (gNm 3) aYes (aFz (aOp2 oSub (aVar 3) (aCall E0 (upc m__law_take) (aCons (aFz (aVar 0)) (aCons (aFz (aC (.int 2))) aNil)))))) rNil))) aNext) (aRet (aCall E (upc m__law_load) (aCons (aFz (aVar 0)) (aCons (aFz (aVar 1)) aNil))))))
def t__law_told_v2 (fl : Addr) (sp : ASp) (E : AExc → AEnv → AH → Prop) : ATS :=
  (aSeq (aAsg (aFz (aTup (aCons (aFz (aC (.str ("told" : Str)))) (aCons (aFz (aC .non)) aNil)))) (gNm 1)) (aSeq (aTry ["NoDrop", "TooMany"] [("NoDrop", 2, 1, (xTup (xCons (xCon (.str ("no drop" : Str))) (xCons (xFld "rank") xNil)))), ("TooMany", 2, 1, (xTup (xCons (xCon (.str ("too many" : Str))) (xCons (xFld "most") xNil))))] E (fun E => (aAsg (aFz (aTup (aCons (aFz (aC (.str ("told" : Str)))) (aCons (aFz (aLam E 0 fl sp aNil)) aNil)))) (gNm 1)))) (aRet (aVar 1))))
def t_law (E : AExc → AEnv → AH → Prop) : ATS :=
  (aSeq (aSet 1 (aCall E (upc m__law_open) (aCons (aFz (aVar 0)) aNil))) (aSeq (aProm 1 (aFor (iRg1 (rCons (aC (.int 5)) rNil)) (gNm 2) (aSeq (aAsg (aFz (aCall E (upc m__law_any_sizes) (aCons (aFz (aVar 1)) aNil))) (gNm 3)) (aSeq (aAsg (aFz (aCall E (upc m__law_full_load) (aCons (aFz (aVar 1)) (aCons (aFz (aVar 3)) aNil)))) (gNm 4)) (aSeq (aIf (aNotT (aTst (aCall E (upc (m__law_same 8)) (aCons (aFz (aCallK E (upc m_room) 2 (gKw [1, 0]) aNil (aCons (aFz (aVar 4)) (aCons (aFz (aVar 3)) aNil)))) (aCons (aFz (aCB oTupC (rCons (aLc [5] (iRg1 (rCons (aCB oLen (rCons (aVar 4) rNil)) rNil)) (gNm 5) aYes (aFz (aOp2 oSub (aOp2 oIx (aVar 3) (aVar 5)) (aOp2 oIx (aVar 4) (aVar 5))))) rNil))) aNil))))) (aRet (aC (.bl false))) aNext) (aSeq (aAsg (aFz (aTup aNil)) (gNm 6)) (aSeq (aFor (iRg1 (rCons (aCB oLen (rCons (aVar 4) rNil)) rNil)) (gNm 7) (aAsg (aFz (aOp2 oAdd (aVar 6) (aOp2 oMulT (aTup (aCons (aFz (aVar 7)) aNil)) (aOp2 oIx (aVar 4) (aVar 7))))) (gNm 6))) (aSeq (aAsg (aFz (aIfE (aTst (aOp2 oLe (aCB oLen (rCons (aVar 6) rNil)) (aC (.int 60)))) (aTup (aCons (aFz (aC (.str ("told" : Str)))) (aCons (aFz (aVar 6)) aNil))) (aTup (aCons (aFz (aC (.str ("too many" : Str)))) (aCons (aFz (aC (.int 60))) aNil))))) (gNm 8)) (aSeq (aIf (aNotT (aTst (aCall E (upc (m__law_same 8)) (aCons (aFz (aLamCall E 1 3 t__law_told_v2 (fun E => (aCall E (upc m_stand_of) (aCons (aFz (aVar 3)) (aCons (aFz (aVar 4)) aNil)))) (aLamHere aNil))) (aCons (aFz (aVar 8)) aNil))))) (aRet (aC (.bl false))) aNext) (aSeq (aIf (aAndT (aTst (aOp2 oLe (aCB oLen (rCons (aVar 6) rNil)) (aC (.int 60)))) (aNotT (aTst (aCall E (upc (m__law_same 8)) (aCons (aFz (aCall E (upc m_counts_of) (aCons (aFz (aVar 3)) (aCons (aFz (aCallK E (upc m_stand_of) 2 (gKw [1, 0]) aNil (aCons (aFz (aVar 4)) (aCons (aFz (aVar 3)) aNil)))) aNil)))) (aCons (aFz (aVar 4)) aNil)))))) (aRet (aC (.bl false))) aNext) (aSeq (aAsg (aFz (aCall E (upc m__law_stand) (aCons (aFz (aVar 1)) (aCons (aFz (aVar 3)) (aCons (aFz (aC (.int 60))) (aCons (aFz (aC (.int 1))) aNil)))))) (gNm 9)) (aSeq (aAsg (aFz (aCall E (upc m__law_take) (aCons (aFz (aVar 1)) (aCons (aFz (aOp2 oAdd (aCB oLen (rCons (aVar 9) rNil)) (aC (.int 1)))) aNil)))) (gNm 10)) (aSeq (aIf (aOrT (aNotT (aTst (aCall E (upc (m__law_same 8)) (aCons (aFz (aCall E (upc m_hidden_v1) (aCons (aFz (aVar 9)) (aCons (aFz (aVar 10)) aNil)))) (aCons (aFz (aSl (aVar 9) aNoPart (aPart (aVar 10)))) aNil))))) (aTst (aOp2 (oEq true) (aCallK E (upc m_hidden_v1) 2 (gKw [1, 0]) aNil (aCons (aFz (aCB oLen (rCons (aVar 9) rNil))) (aCons (aFz (aVar 9)) aNil))) (aVar 9)))) (aRet (aC (.bl false))) aNext) (aSeq (aAsg (aFz (aCall E (upc m__law_pick) (aCons (aFz (aVar 1)) (aCons (aFz (aLst (aCons (aFz (aNeg (aC (.int 1)))) (aCons (aFz (aOp2 oAdd (aCB oLen (rCons (aVar 9) rNil)) (aC (.int 1)))) (aCons (aFz (aOp2 oSub (aNeg (aC (.int 1))) (aCall E (upc m__law_take) (aCons (aFz (aVar 1)) (aCons (aFz (aC (.int 99))) aNil))))) (aCons (aFz (aOp2 oAdd (aC (.int 61)) (aCall E (upc m__law_take) (aCons (aFz (aVar 1)) (aCons (aFz (aOp2 oPow (aC (.int 10)) (aC (.int 20)))) aNil))))) aNil)))))) aNil)))) (gNm 11)) (aIf (aNotT (aTst (aCall E (upc (m__law_same 8)) (aCons (aFz (aLamCall E 1 3 t__law_told_v2 (fun E => (aCall E (upc m_hidden_v1) (aCons (aFz (aVar 9)) (aCons (aFz (aVar 11)) aNil)))) (aLamHere aNil))) (aCons (aFz (aTup (aCons (aFz (aC (.str ("no drop" : Str)))) (aCons (aFz (aVar 11)) aNil)))) aNil))))) (aRet (aC (.bl false))) aNext))))))))))))))) (aSeq (aAsg (aFz (aOp2 oMulT (aTup (aCons (aFz (aC (.int 10))) aNil)) (aC (.int 6)))) (gNm 12)) (aSeq (aAsg (aFz (aLst (aCons (aFz (aCall E (upc m_stand_of) (aCons (aFz (aVar 12)) (aCons (aFz (aVar 12)) aNil)))) (aCons (aFz (aLamCall E 1 3 t__law_told_v2 (fun E => (aCall E (upc m_stand_of) (aCons (aFz (aOp2 oAdd (aOp2 oMulT (aTup (aCons (aFz (aC (.int 10))) aNil)) (aC (.int 5))) (aTup (aCons (aFz (aC (.int 11))) aNil)))) (aCons (aFz (aOp2 oAdd (aOp2 oMulT (aTup (aCons (aFz (aC (.int 10))) aNil)) (aC (.int 5))) (aTup (aCons (aFz (aC (.int 11))) aNil)))) aNil)))) (aLamHere aNil))) aNil)))) (gNm 13)) (aRet (aAndV (aOp2 (oEq false) (aCB oLen (rCons (aOp2 oIx (aVar 13) (aC (.int 0))) rNil)) (aC (.int 60))) (aOp2 (oEq false) (aOp2 oIx (aVar 13) (aC (.int 1))) (aTup (aCons (aFz (aC (.str ("too many" : Str)))) (aCons (aFz (aC (.int 60))) aNil))))))))))
theorem z_look_sizes {Q : RR → AH → Prop} {E : AExc → AH → Prop} {Q' : RR → AH → Prop} {E' : AExc → AH → Prop} (hQ : ∀ r h, Q r h → Q' r h) (hE : ∀ x h, E x h → E' x h) (x_sizes : W) : ∀ h, mf_look_sizes x_sizes h Q E → t_look_sizes (excOf E') (endsOf Q') [some (.val x_sizes), none, none] h := by
  have hr_ := hr_top hQ
  have he := he_top hE
  unfold mf_look_sizes t_look_sizes
  exact (ss_seq (ss_if (st_not (st_tst (SN.se (sn_chn (SN.se sn_c) (SN.se (sn_cb on_len (sr_cons (SN.se (sn_var rfl)) sr_nil))) (SN.se sn_c))))) ss_never (ss_nx (nx_of (ss_for (fun (s19 : Unit) (j20 : Option SV × Option SV) => [some (.val x_sizes), j20.1, j20.2]) () (none, none) rfl (si_enum (sw_fz (sn_var rfl))) (fun s19 j20 => (nx_top hQ _)) (fun R27 w24 s19 j20 kn21 _ N23 h z => by obtain ⟨x_cask, x_size, rfl, z26⟩ := un2_ok z; refine gd_lit [some (.val x_sizes), some (.val x_cask), some (.val x_size)] (gd_2 gd_nm gd_nm) rfl h _ ?_; exact go_at h z26 (ss_if (st_not (st_tst (SN.se (sn_chn (SN.se sn_c) (SN.se (sn_var rfl)) (SN.se sn_c))))) ss_never (ss_nx (fun h z => N23 () (some (.val x_cask), some (.val x_size)) h z)))))))))
theorem q_look_sizes (ws : List W) (h : AH) (Qa : RR → AH → Prop) (Ea : AExc → AH → Prop) (hl : ws.length = 1) (z : upc m_look_sizes ws h Qa Ea) : t_look_sizes (excOf Ea) (endsOf Qa) (startA 3 ws) h := by
  obtain ⟨Q0, E0, hQ, hE, z⟩ := z
  match ws, hl with
  | [x_sizes], _ => exact z_look_sizes hQ hE x_sizes h z
theorem z_look_counts {Q : RR → AH → Prop} {E : AExc → AH → Prop} {Q' : RR → AH → Prop} {E' : AExc → AH → Prop} (hQ : ∀ r h, Q r h → Q' r h) (hE : ∀ x h, E x h → E' x h) (x_sizes x_counts : W) : ∀ h, mf_look_counts x_sizes x_counts h Q E → t_look_counts (excOf E') (endsOf Q') [some (.val x_sizes), some (.val x_counts), none, none, none] h := by
  have hr_ := hr_top hQ
  have he := he_top hE
  unfold mf_look_counts t_look_counts
  exact (ss_seq (ss_drop (SN.se (sn_call (he _) (sws_cons (sw_fz (sn_var rfl)) sws_nil))) (fun _ => (nx_of (ss_seq (ss_if (st_tst (SN.se (sn_op2 om_eq (SN.se (sn_cb on_len (sr_cons (SN.se (sn_var rfl)) sr_nil))) (SN.se (sn_cb on_len (sr_cons (SN.se (sn_var rfl)) sr_nil)))))) ss_never (ss_nx (nx_of (ss_for (fun (s25 : Unit) (j26 : Option SV × Option SV × Option SV) => [some (.val x_sizes), some (.val x_counts), j26.1, j26.2.1, j26.2.2]) () (none, none, none) rfl (si_enz (sws_cons (sw_fz (sn_var rfl)) (sws_cons (sw_fz (sn_var rfl)) sws_nil))) (fun s25 j26 => (nx_top hQ _)) (fun R36 w33 s25 j26 kn27 _ N29 h z => by obtain ⟨x_cask, w30, rfl, z35⟩ := un2_ok z; obtain ⟨x_many, x_size, rfl, z32⟩ := un2_ok z35; refine gd_lit [some (.val x_sizes), some (.val x_counts), some (.val x_cask), some (.val x_many), some (.val x_size)] (gd_2 gd_nm (gd_2 gd_nm gd_nm)) rfl h _ ?_; exact go_at h z32 (ss_if (st_not (st_tst (SN.se (sn_chn (SN.se sn_c) (SN.se (sn_var rfl)) (SN.se (sn_var rfl)))))) ss_never (ss_nx (fun h z => N29 () (some (.val x_cask), some (.val x_many), some (.val x_size)) h z)))))))))))))
theorem q_look_counts (ws : List W) (h : AH) (Qa : RR → AH → Prop) (Ea : AExc → AH → Prop) (hl : ws.length = 2) (z : upc m_look_counts ws h Qa Ea) : t_look_counts (excOf Ea) (endsOf Qa) (startA 5 ws) h := by
  obtain ⟨Q0, E0, hQ, hE, z⟩ := z
  match ws, hl with
  | [x_sizes, x_counts], _ => exact z_look_counts hQ hE x_sizes x_counts h z
theorem z_look_stand {Q : RR → AH → Prop} {E : AExc → AH → Prop} {Q' : RR → AH → Prop} {E' : AExc → AH → Prop} (hQ : ∀ r h, Q r h → Q' r h) (hE : ∀ x h, E x h → E' x h) (x_sizes x_stand : W) : ∀ h, mf_look_stand x_sizes x_stand h Q E → t_look_stand (excOf E') (endsOf Q') [some (.val x_sizes), some (.val x_stand), none, none, none] h := by
  have hr_ := hr_top hQ
  have he := he_top hE
  unfold mf_look_stand t_look_stand
  exact (ss_seq (ss_drop (SN.se (sn_call (he _) (sws_cons (sw_fz (sn_var rfl)) sws_nil))) (fun _ => (nx_of (ss_seq (ss_if (st_tst (SN.se (sn_op2 om_gt (SN.se (sn_cb on_len (sr_cons (SN.se (sn_var rfl)) sr_nil))) (SN.se sn_c)))) ss_never (ss_nx (nx_of (ss_seq (ss_set (fun x_held => [some (.val x_sizes), some (.val x_stand), some x_held, none, none]) (fun _ => rfl) (sn_op2 om_mulT (SN.se (sn_lst (sws_cons (sw_fz sn_c) sws_nil))) (SN.se (sn_cb on_len (sr_cons (SN.se (sn_var rfl)) sr_nil)))) (fun x_held => (nx_of (ss_for (fun (s10 : SV) (j11 : Option SV × Option SV) => [some (.val x_sizes), some (.val x_stand), some s10, j11.1, j11.2]) x_held (none, none) rfl (si_enum (sw_fz (sn_var rfl))) (fun s10 j11 => (nx_top hQ _)) (fun R18 w15 s10 j11 kn12 _ N14 h z => by obtain ⟨x_rank, x_place, rfl, z17⟩ := un2_ok z; refine gd_lit [some (.val x_sizes), some (.val x_stand), some s10, some (.val x_rank), some (.val x_place)] (gd_2 gd_nm gd_nm) rfl h _ ?_; exact go_at h z17 (ss_seq (ss_if (st_not (st_tst (SN.se (sn_chn (SN.se sn_c) (SN.se (sn_var rfl)) (SN.se (sn_cb on_len (sr_cons (SN.se (sn_var rfl)) sr_nil))))))) ss_never (ss_nx (nx_of (ss_if (st_tst (SN.se (sn_op2 om_eq (SN.se (sn_var rfl)) (SN.se sn_c)))) (ss_seq (ss_augIx (fun x_held => [some (.val x_sizes), some (.val x_stand), some x_held, some (.val x_rank), some (.val x_place)]) (fun _ => rfl) rfl (SN.se (sn_var rfl)) (SN.se sn_c) (fun x_held => (nx_of (ss_if (st_tst (SN.se (sn_op2 om_gt (SN.se (sn_op2 om_ix (se_var rfl) (SN.se (sn_var rfl)))) (SN.se (sn_op2 om_ix (SN.se (sn_var rfl)) (SN.se (sn_var rfl))))))) ss_never (ss_nx (fun h z => N14 x_held (some (.val x_rank), some (.val x_place)) h z))))))) (ss_nx (fun h z => N14 s10 (some (.val x_rank), some (.val x_place)) h z)))))))))))))))))))))
theorem q_look_stand (ws : List W) (h : AH) (Qa : RR → AH → Prop) (Ea : AExc → AH → Prop) (hl : ws.length = 2) (z : upc m_look_stand ws h Qa Ea) : t_look_stand (excOf Ea) (endsOf Qa) (startA 5 ws) h := by
  obtain ⟨Q0, E0, hQ, hE, z⟩ := z
  match ws, hl with
  | [x_sizes, x_stand], _ => exact z_look_stand hQ hE x_sizes x_stand h z
theorem z_counted {Q : RR → AH → Prop} {E : AExc → AH → Prop} {Q' : RR → AH → Prop} {E' : AExc → AH → Prop} (hQ : ∀ r h, Q r h → Q' r h) (hE : ∀ x h, E x h → E' x h) (x_many x_stand : W) : ∀ h, mf_counted x_many x_stand h Q E → t_counted (excOf E') (endsOf Q') [some (.val x_many), some (.val x_stand), none, none] h := by
  have hr_ := hr_top hQ
  generalize endsOf Q' = D0 at hr_ ⊢
  obtain ⟨nx0, rt0, bk0, ct0⟩ := D0
  have hr_ : ∀ r s env h, Rl env r s → Q s.rr h → rt0 r env h := hr_
  have he := he_top hE
  unfold mf_counted t_counted
  exact (ss_seq (ss_set (fun x_held => [some (.val x_many), some (.val x_stand), some x_held, none]) (fun _ => rfl) (sn_op2 om_mulT (SN.se (sn_lst (sws_cons (sw_fz sn_c) sws_nil))) (SN.se (sn_var rfl))) (fun x_held => (nx_of (ss_seq (ss_for (fun (s7 : SV) (j8 : Option SV) => [some (.val x_many), some (.val x_stand), some s7, j8]) x_held (none) rfl (si_items (sw_fz (sn_var rfl))) (fun s7 j8 => (nx_of (ss_ret hr_ (SN.se (sn_cb on_tupC (sr_cons (se_var rfl) sr_nil)))))) (fun R12 x_place s7 j8 kn9 _ N11 h z => by refine gd_lit [some (.val x_many), some (.val x_stand), some s7, some (.val x_place)] gd_nm rfl h _ ?_; exact go_at h z (ss_if (st_tst (SN.se (sn_op2 om_eq (SN.se (sn_var rfl)) (SN.se sn_c)))) (ss_augIx (fun x_held => [some (.val x_many), some (.val x_stand), some x_held, some (.val x_place)]) (fun _ => rfl) rfl (SN.se (sn_var rfl)) (SN.se sn_c) (fun x_held => (fun h z => N11 x_held (some (.val x_place)) h z))) (ss_nx (fun h z => N11 s7 (some (.val x_place)) h z))))))))))
theorem q_counted (ws : List W) (h : AH) (Qa : RR → AH → Prop) (Ea : AExc → AH → Prop) (hl : ws.length = 2) (z : upc m_counted ws h Qa Ea) : t_counted (excOf Ea) (endsOf Qa) (startA 4 ws) h := by
  obtain ⟨Q0, E0, hQ, hE, z⟩ := z
  match ws, hl with
  | [x_many, x_stand], _ => exact z_counted hQ hE x_many x_stand h z
theorem z_counts_of {Q : RR → AH → Prop} {E : AExc → AH → Prop} {Q' : RR → AH → Prop} {E' : AExc → AH → Prop} (hQ : ∀ r h, Q r h → Q' r h) (hE : ∀ x h, E x h → E' x h) (x_sizes x_stand : W) : ∀ h, mf_counts_of x_sizes x_stand h Q E → t_counts_of (excOf E') (endsOf Q') [some (.val x_sizes), some (.val x_stand)] h := by
  have hr_ := hr_top hQ
  generalize endsOf Q' = D0 at hr_ ⊢
  obtain ⟨nx0, rt0, bk0, ct0⟩ := D0
  have hr_ : ∀ r s env h, Rl env r s → Q s.rr h → rt0 r env h := hr_
  have he := he_top hE
  unfold mf_counts_of t_counts_of
  exact (ss_seq (ss_drop (SN.se (sn_call (he _) (sws_cons (sw_fz (sn_var rfl)) (sws_cons (sw_fz (sn_var rfl)) sws_nil)))) (fun _ => (nx_of (ss_ret hr_ (SN.se (sn_call (he _) (sws_cons (sw_fz (sn_cb on_len (sr_cons (SN.se (sn_var rfl)) sr_nil))) (sws_cons (sw_fz (sn_var rfl)) sws_nil)))))))))
theorem q_counts_of (ws : List W) (h : AH) (Qa : RR → AH → Prop) (Ea : AExc → AH → Prop) (hl : ws.length = 2) (z : upc m_counts_of ws h Qa Ea) : t_counts_of (excOf Ea) (endsOf Qa) (startA 2 ws) h := by
  obtain ⟨Q0, E0, hQ, hE, z⟩ := z
  match ws, hl with
  | [x_sizes, x_stand], _ => exact z_counts_of hQ hE x_sizes x_stand h z
theorem z_stand_of {Q : RR → AH → Prop} {E : AExc → AH → Prop} {Q' : RR → AH → Prop} {E' : AExc → AH → Prop} (hQ : ∀ r h, Q r h → Q' r h) (hE : ∀ x h, E x h → E' x h) (x_sizes x_counts : W) : ∀ h, mf_stand_of x_sizes x_counts h Q E → t_stand_of (excOf E') (endsOf Q') [some (.val x_sizes), some (.val x_counts), none, none, none] h := by
  have hr_ := hr_top hQ
  generalize endsOf Q' = D0 at hr_ ⊢
  obtain ⟨nx0, rt0, bk0, ct0⟩ := D0
  have hr_ : ∀ r s env h, Rl env r s → Q s.rr h → rt0 r env h := hr_
  have he := he_top hE
  unfold mf_stand_of t_stand_of
  exact (ss_seq (ss_drop (SN.se (sn_call (he _) (sws_cons (sw_fz (sn_var rfl)) (sws_cons (sw_fz (sn_var rfl)) sws_nil)))) (fun _ => (nx_of (ss_seq (ss_if (st_tst (SN.se (sn_op2 om_gt (SN.se (sn_cb on_sumA (sr_cons (SN.se (sn_var rfl)) sr_nil))) (SN.se sn_c)))) (ss_raise (he _) (sws_cons (sw_fz sn_c) sws_nil)) (ss_nx (nx_of (ss_ret hr_ (SN.se (sn_cb on_tupC (sr_cons (SN.se (sn_lc2 (si_fix (si_enum (sw_fz (sn_var rfl)))) (fun w7 acc h kk K hk z => by obtain ⟨x_cask, x_many, rfl, z9⟩ := un2_ok z; exact lc2_body (e1 := [some (.val x_sizes), some (.val x_counts), some (.val x_cask), some (.val x_many), none]) (gd_2 gd_nm gd_nm) st_yes (si_fix (si_rng1 (sr_cons (SN.se (sn_var rfl)) sr_nil))) (fun x_drop h kk K1 K0 h1 h0 z => by exact lc_body (e1 := [some (.val x_sizes), some (.val x_counts), some (.val x_cask), some (.val x_many), some (.val x_drop)]) gd_nm st_yes (sw_fz (sn_var rfl)) rfl h1 h0 z) rfl hk z9))) sr_nil))))))))))))
theorem q_stand_of (ws : List W) (h : AH) (Qa : RR → AH → Prop) (Ea : AExc → AH → Prop) (hl : ws.length = 2) (z : upc m_stand_of ws h Qa Ea) : t_stand_of (excOf Ea) (endsOf Qa) (startA 5 ws) h := by
  obtain ⟨Q0, E0, hQ, hE, z⟩ := z
  match ws, hl with
  | [x_sizes, x_counts], _ => exact z_stand_of hQ hE x_sizes x_counts h z
theorem z_room {Q : RR → AH → Prop} {E : AExc → AH → Prop} {Q' : RR → AH → Prop} {E' : AExc → AH → Prop} (hQ : ∀ r h, Q r h → Q' r h) (hE : ∀ x h, E x h → E' x h) (x_sizes x_counts : W) : ∀ h, mf_room x_sizes x_counts h Q E → t_room (excOf E') (endsOf Q') [some (.val x_sizes), some (.val x_counts), none, none] h := by
  have hr_ := hr_top hQ
  generalize endsOf Q' = D0 at hr_ ⊢
  obtain ⟨nx0, rt0, bk0, ct0⟩ := D0
  have hr_ : ∀ r s env h, Rl env r s → Q s.rr h → rt0 r env h := hr_
  have he := he_top hE
  unfold mf_room t_room
  exact (ss_seq (ss_drop (SN.se (sn_call (he _) (sws_cons (sw_fz (sn_var rfl)) (sws_cons (sw_fz (sn_var rfl)) sws_nil)))) (fun _ => (nx_of (ss_ret hr_ (SN.se (sn_cb on_tupC (sr_cons (SN.se (sn_lc (si_zip (sws_cons (sw_fz (sn_var rfl)) (sws_cons (sw_fz (sn_var rfl)) sws_nil))) (fun w7 h kk K1 K0 h1 h0 z => by obtain ⟨x_size, x_many, rfl, z9⟩ := un2_ok z; exact lc_body (e1 := [some (.val x_sizes), some (.val x_counts), some (.val x_size), some (.val x_many)]) (gd_2 gd_nm gd_nm) st_yes (sw_fz (sn_op2 om_sub (SN.se (sn_var rfl)) (SN.se (sn_var rfl)))) rfl h1 h0 z9))) sr_nil))))))))
theorem q_room (ws : List W) (h : AH) (Qa : RR → AH → Prop) (Ea : AExc → AH → Prop) (hl : ws.length = 2) (z : upc m_room ws h Qa Ea) : t_room (excOf Ea) (endsOf Qa) (startA 4 ws) h := by
  obtain ⟨Q0, E0, hQ, hE, z⟩ := z
  match ws, hl with
  | [x_sizes, x_counts], _ => exact z_room hQ hE x_sizes x_counts h z
theorem z_hidden_v1 {Q : RR → AH → Prop} {E : AExc → AH → Prop} {Q' : RR → AH → Prop} {E' : AExc → AH → Prop} (hQ : ∀ r h, Q r h → Q' r h) (hE : ∀ x h, E x h → E' x h) (x_stand x_many : W) : ∀ h, mf_hidden_v1 x_stand x_many h Q E → t_hidden_v1 (excOf E') (endsOf Q') [some (.val x_stand), some (.val x_many)] h := by
  have hr_ := hr_top hQ
  generalize endsOf Q' = D0 at hr_ ⊢
  obtain ⟨nx0, rt0, bk0, ct0⟩ := D0
  have hr_ : ∀ r s env h, Rl env r s → Q s.rr h → rt0 r env h := hr_
  have he := he_top hE
  unfold mf_hidden_v1 t_hidden_v1
  exact (ss_seq (ss_if (st_not (st_tst (SN.se (sn_chn (SN.se sn_c) (SN.se (sn_var rfl)) (SN.se (sn_cb on_len (sr_cons (SN.se (sn_var rfl)) sr_nil))))))) (ss_raise (he _) (sws_cons (sw_fz (sn_var rfl)) sws_nil)) (ss_nx (nx_of (ss_ret hr_ (SN.se (sn_sl (SN.se (sn_var rfl)) so_no (so_part (SN.se (sn_var rfl))))))))))
theorem q_hidden_v1 (ws : List W) (h : AH) (Qa : RR → AH → Prop) (Ea : AExc → AH → Prop) (hl : ws.length = 2) (z : upc m_hidden_v1 ws h Qa Ea) : t_hidden_v1 (excOf Ea) (endsOf Qa) (startA 2 ws) h := by
  obtain ⟨Q0, E0, hQ, hE, z⟩ := z
  match ws, hl with
  | [x_stand, x_many], _ => exact z_hidden_v1 hQ hE x_stand x_many h z
theorem z__law_open {Q : RR → AH → Prop} {E : AExc → AH → Prop} {Q' : RR → AH → Prop} {E' : AExc → AH → Prop} (hQ : ∀ r h, Q r h → Q' r h) (hE : ∀ x h, E x h → E' x h) (x_script : W) : ∀ h, mf__law_open x_script h Q E → t__law_open (excOf E') (endsOf Q') [some (.val x_script)] h := by
  have hr_ := hr_top hQ
  generalize endsOf Q' = D0 at hr_ ⊢
  obtain ⟨nx0, rt0, bk0, ct0⟩ := D0
  have hr_ : ∀ r s env h, Rl env r s → Q s.rr h → rt0 r env h := hr_
  have he := he_top hE
  unfold mf__law_open t__law_open
  exact (ss_ret hr_ (SN.se (sn_lst (sws_cons (sw_fz (sn_cb on_lstC (sr_cons (SN.se (sn_sl (SN.se (sn_var rfl)) so_no (so_part (SN.se sn_c)))) sr_nil))) (sws_cons (sw_fz sn_c) (sws_cons (sw_fz sn_c) (sws_cons (sw_fz sn_c) (sws_cons (sw_fz sn_c) sws_nil))))))))
theorem q__law_open (ws : List W) (h : AH) (Qa : RR → AH → Prop) (Ea : AExc → AH → Prop) (hl : ws.length = 1) (z : upc m__law_open ws h Qa Ea) : t__law_open (excOf Ea) (endsOf Qa) (startA 1 ws) h := by
  obtain ⟨Q0, E0, hQ, hE, z⟩ := z
  match ws, hl with
  | [x_script], _ => exact z__law_open hQ hE x_script h z
theorem z__law_take {Q : RR → AH → Prop} {E : AExc → AH → Prop} {Q' : RR → AH → Prop} {E' : AExc → AH → Prop} (hQ : ∀ r h, Q r h → Q' r h) (hE : ∀ x h, E x h → E' x h) (x_bag x_sides : W) : ∀ h, mf__law_take x_bag x_sides h Q E → t__law_take (excOf E') (endsOf Q') [some (.val x_bag), some (.val x_sides), none, none, none] h := by
  have hr_ := hr_top hQ
  generalize endsOf Q' = D0 at hr_ ⊢
  obtain ⟨nx0, rt0, bk0, ct0⟩ := D0
  have hr_ : ∀ r s env h, Rl env r s → Q s.rr h → rt0 r env h := hr_
  have he := he_top hE
  unfold mf__law_take t__law_take
  exact (ss_join (fun (s5 : SV) (j6 : Option SV) => [some s5, some (.val x_sides), j6, none, none]) (fun s5 j6 => (ss_seq (ss_if (st_tst (SN.se (sn_op2 om_ge (SN.se (sn_op2 om_ix (se_var rfl) (SN.se sn_c))) (SN.se (sn_var rfl))))) (ss_seq (ss_asg (fun x_side => [some s5, some (.val x_sides), j6, some (.val x_side), none]) (fun _ => rfl) (sw_fz (sn_op2 om_mod (SN.se (sn_op2 om_ix (se_var rfl) (SN.se sn_c))) (SN.se (sn_var rfl)))) (fun x_side => (nx_of (ss_seq (ss_setIx (fun x_bag => [some x_bag, some (.val x_sides), j6, some (.val x_side), none]) (fun _ => rfl) (sw_fz (sn_op2 om_fdiv (SN.se (sn_op2 om_ix (se_var rfl) (SN.se sn_c))) (SN.se (sn_var rfl)))) rfl (SN.se sn_c) (fun x_bag => (nx_of (ss_ret hr_ (SN.se (sn_var rfl))))))))))) (ss_nx (nx_of (ss_seq (ss_setIx (fun x_bag => [some x_bag, some (.val x_sides), j6, none, none]) (fun _ => rfl) (sw_fz (sn_op2 om_add (SN.se (sn_op2 om_ix (se_var rfl) (SN.se sn_c))) (SN.se sn_c))) rfl (SN.se sn_c) (fun x_bag => (nx_of (ss_seq (ss_asg (fun x_mix => [some x_bag, some (.val x_sides), j6, none, some (.val x_mix)]) (fun _ => rfl) (sw_fz (sn_op2 om_ix (se_var rfl) (SN.se sn_c))) (fun x_mix => (nx_of (ss_seq (ss_setIx (fun x_bag => [some x_bag, some (.val x_sides), j6, none, some (.val x_mix)]) (fun _ => rfl) (sw_fz (sn_op2 om_mod (SN.se (sn_op2 om_add (SN.se (sn_op2 om_add (SN.se (sn_op2 om_add (SN.se (sn_op2 om_mulT (SN.se (sn_op2 om_mod (SN.se (sn_op2 om_mulT (SN.se (sn_var rfl)) (SN.se (sn_var rfl)))) (SN.se sn_c))) (SN.se sn_c))) (SN.se (sn_op2 om_mulT (SN.se (sn_var rfl)) (SN.se sn_c))))) (SN.se (sn_op2 om_mulT (SN.se sn_c) (SN.se (sn_op2 om_ix (se_var rfl) (SN.se sn_c))))))) (SN.se sn_c))) (SN.se sn_c))) rfl (SN.se sn_c) (fun x_bag => (nx_of (ss_ret hr_ (SN.se (sn_op2 om_mod (SN.se (sn_op2 om_add (SN.se (sn_op2 om_fdiv (SN.se (sn_op2 om_ix (se_var rfl) (SN.se sn_c))) (SN.se sn_c))) (SN.se (sn_op2 om_mulT (SN.se (sn_op2 om_mod (SN.se (sn_op2 om_ix (se_var rfl) (SN.se sn_c))) (SN.se sn_c))) (SN.se sn_c))))) (SN.se (sn_var rfl)))))))))))))))))))))) (fun N8 => (ss_if (st_and (st_tst (SN.se (sn_op2 om_lt (SN.se (sn_op2 om_ix (SN.se (sn_var rfl)) (SN.se sn_c))) (SN.se (sn_var rfl))))) (st_tst (SN.se (sn_op2 om_lt (SN.se (sn_op2 om_ix (SN.se (sn_var rfl)) (SN.se sn_c))) (SN.se (sn_cb on_len (sr_cons (SN.se (sn_op2 om_ix (SN.se (sn_var rfl)) (SN.se sn_c))) sr_nil))))))) (ss_seq (ss_asg (fun x_cell => [some (.val x_bag), some (.val x_sides), some (.val x_cell), none, none]) (fun _ => rfl) (sw_fz (sn_op2 om_ix (SN.se (sn_op2 om_ix (SN.se (sn_var rfl)) (SN.se sn_c))) (SN.se (sn_op2 om_ix (SN.se (sn_var rfl)) (SN.se sn_c))))) (fun x_cell => (nx_of (ss_seq (ss_setIx (fun x_bag => [some x_bag, some (.val x_sides), some (.val x_cell), none, none]) (fun _ => rfl) (sw_fz (sn_op2 om_add (SN.se (sn_op2 om_ix (SN.se (sn_var rfl)) (SN.se sn_c))) (SN.se sn_c))) rfl (SN.se sn_c) (fun x_bag => (nx_of (ss_seq (ss_setIx (fun x_bag => [some x_bag, some (.val x_sides), some (.val x_cell), none, none]) (fun _ => rfl) (sw_fz sn_c) rfl (SN.se sn_c) (fun x_bag => (nx_of (ss_if (st_tst (SN.se (sn_op2 om_ge (SN.se (sn_var rfl)) (SN.se (sn_op2 om_pow (SN.se sn_c) (SN.se sn_c)))))) (ss_setIx (fun x_bag => [some x_bag, some (.val x_sides), some (.val x_cell), none, none]) (fun _ => rfl) (sw_fz (sn_var rfl)) rfl (SN.se sn_c) (fun x_bag => (fun h z => N8 x_bag (some (.val x_cell)) h z))) (ss_setIx (fun x_bag => [some x_bag, some (.val x_sides), some (.val x_cell), none, none]) (fun _ => rfl) (sw_fz (sn_op2 om_mod (SN.se (sn_op2 om_add (SN.se (sn_op2 om_add (SN.se (sn_op2 om_mulT (SN.se (sn_op2 om_ix (se_var rfl) (SN.se sn_c))) (SN.se sn_c))) (SN.se (sn_op2 om_mulT (SN.se (sn_op2 om_mod (SN.se (sn_var rfl)) (SN.se sn_c))) (SN.se sn_c))))) (SN.se sn_c))) (SN.se sn_c))) rfl (SN.se sn_c) (fun x_bag => (fun h z => N8 x_bag (some (.val x_cell)) h z)))))))))))))))) (ss_nx (fun h z => N8 (.val x_bag) (none) h z)))))
theorem q__law_take (ws : List W) (h : AH) (Qa : RR → AH → Prop) (Ea : AExc → AH → Prop) (hl : ws.length = 2) (z : upc m__law_take ws h Qa Ea) : t__law_take (excOf Ea) (endsOf Qa) (startA 5 ws) h := by
  obtain ⟨Q0, E0, hQ, hE, z⟩ := z
  match ws, hl with
  | [x_bag, x_sides], _ => exact z__law_take hQ hE x_bag x_sides h z
theorem z__law_pick {Q : RR → AH → Prop} {E : AExc → AH → Prop} {Q' : RR → AH → Prop} {E' : AExc → AH → Prop} (hQ : ∀ r h, Q r h → Q' r h) (hE : ∀ x h, E x h → E' x h) (x_bag x_row : W) : ∀ h, mf__law_pick x_bag x_row h Q E → t__law_pick (excOf E') (endsOf Q') [some (.val x_bag), some (.val x_row)] h := by
  have hr_ := hr_top hQ
  generalize endsOf Q' = D0 at hr_ ⊢
  obtain ⟨nx0, rt0, bk0, ct0⟩ := D0
  have hr_ : ∀ r s env h, Rl env r s → Q s.rr h → rt0 r env h := hr_
  have he := he_top hE
  unfold mf__law_pick t__law_pick
  exact (ss_ret hr_ (SN.se (sn_op2 om_ix (SN.se (sn_var rfl)) (SN.se (sn_call (he _) (sws_cons (sw_fz (sn_var rfl)) (sws_cons (sw_fz (sn_cb on_len (sr_cons (SN.se (sn_var rfl)) sr_nil))) sws_nil)))))))
theorem q__law_pick (ws : List W) (h : AH) (Qa : RR → AH → Prop) (Ea : AExc → AH → Prop) (hl : ws.length = 2) (z : upc m__law_pick ws h Qa Ea) : t__law_pick (excOf Ea) (endsOf Qa) (startA 2 ws) h := by
  obtain ⟨Q0, E0, hQ, hE, z⟩ := z
  match ws, hl with
  | [x_bag, x_row], _ => exact z__law_pick hQ hE x_bag x_row h z
theorem z__law_same (d : Nat) {Q : RR → AH → Prop} {E : AExc → AH → Prop} {Q' : RR → AH → Prop} {E' : AExc → AH → Prop} (hQ : ∀ r h, Q r h → Q' r h) (hE : ∀ x h, E x h → E' x h) (x_found x_due : W) : ∀ h, mf__law_same (m__law_same d) x_found x_due h Q E → t__law_same d (excOf E') (endsOf Q') [some (.val x_found), some (.val x_due), none] h := by
  have hr_ := hr_top hQ
  generalize endsOf Q' = D0 at hr_ ⊢
  obtain ⟨nx0, rt0, bk0, ct0⟩ := D0
  have hr_ : ∀ r s env h, Rl env r s → Q s.rr h → rt0 r env h := hr_
  have he := he_top hE
  unfold mf__law_same t__law_same
  exact (ss_seq (ss_if (st_tst (SN.se (sn_op2 om_isN (SN.se (sn_var rfl)) (SN.se sn_c)))) (ss_ret hr_ (SN.se (sn_op2 om_isN (SN.se (sn_var rfl)) (SN.se sn_c)))) (ss_nx (nx_of (ss_seq (ss_if (st_tst (SN.se (sn_cb on_isi (sr_cons (SN.se (sn_var rfl)) (sr_cons (SN.se sn_c) sr_nil))))) (ss_ret hr_ (SN.se (sn_and (SN.se (sn_cb on_isi (sr_cons (SN.se (sn_var rfl)) (sr_cons (SN.se sn_c) sr_nil)))) (sn_op2 om_eq (SN.se (sn_var rfl)) (SN.se (sn_var rfl)))))) (ss_nx (nx_of (ss_seq (ss_if (st_tst (SN.se (sn_cb on_isi (sr_cons (SN.se (sn_var rfl)) (sr_cons (SN.se sn_c) sr_nil))))) (ss_ret hr_ (SN.se (sn_and (SN.se (sn_cb on_isi (sr_cons (SN.se (sn_var rfl)) (sr_cons (SN.se sn_c) sr_nil)))) (sn_and (SN.se (sn_not (SN.se (sn_cb on_isi (sr_cons (SN.se (sn_var rfl)) (sr_cons (SN.se sn_c) sr_nil)))))) (sn_op2 om_eq (SN.se (sn_var rfl)) (SN.se (sn_var rfl))))))) (ss_nx (nx_of (ss_seq (ss_if (st_tst (SN.se (sn_cb on_isi (sr_cons (SN.se (sn_var rfl)) (sr_cons (SN.se sn_c) sr_nil))))) (ss_ret hr_ (SN.se (sn_and (SN.se (sn_cb on_isi (sr_cons (SN.se (sn_var rfl)) (sr_cons (SN.se sn_c) sr_nil)))) (sn_op2 om_eq (SN.se (sn_var rfl)) (SN.se (sn_var rfl)))))) (ss_nx (nx_of (ss_seq (ss_if (st_or (st_tst (SN.se (sn_op2 om_eq (SN.se (sn_cb on_isi (sr_cons (SN.se (sn_var rfl)) (sr_cons (SN.se sn_c) sr_nil)))) (SN.se (sn_cb on_isi (sr_cons (SN.se (sn_var rfl)) (sr_cons (SN.se sn_c) sr_nil))))))) (st_tst (SN.se (sn_op2 om_eq (SN.se (sn_cb on_isi (sr_cons (SN.se (sn_var rfl)) (sr_cons (SN.se sn_c) sr_nil)))) (SN.se (sn_cb on_isi (sr_cons (SN.se (sn_var rfl)) (sr_cons (SN.se sn_c) sr_nil)))))))) (ss_ret hr_ (SN.se sn_c)) (ss_nx (nx_of (ss_seq (ss_if (st_tst (SN.se (sn_op2 om_eq (SN.se (sn_cb on_len (sr_cons (SN.se (sn_var rfl)) sr_nil))) (SN.se (sn_cb on_len (sr_cons (SN.se (sn_var rfl)) sr_nil)))))) (ss_ret hr_ (SN.se sn_c)) (ss_nx (nx_of (ss_ret hr_ (SN.se (sn_cb on_bls (sr_cons (SN.se (sn_lc (si_rng1 (sr_cons (SN.se (sn_cb on_len (sr_cons (SN.se (sn_var rfl)) sr_nil))) sr_nil)) (fun x_at h kk K1 K0 h1 h0 z => by exact lc_body (e1 := [some (.val x_found), some (.val x_due), some (.val x_at)]) gd_nm st_yes (sw_fz (sn_call0 (sws_cons (sw_fz (sn_op2 om_ix (SN.se (sn_var rfl)) (SN.se (sn_var rfl)))) (sws_cons (sw_fz (sn_op2 om_ix (SN.se (sn_var rfl)) (SN.se (sn_var rfl)))) sws_nil)))) rfl h1 h0 z))) sr_nil))))))))))))))))))))))))))))
theorem q__law_same (d : Nat) (ws : List W) (h : AH) (Qa : RR → AH → Prop) (Ea : AExc → AH → Prop) (hl : ws.length = 2) (z : upc (m__law_same (d + 1)) ws h Qa Ea) : t__law_same d (excOf Ea) (endsOf Qa) (startA 3 ws) h := by
  obtain ⟨Q0, E0, hQ, hE, z⟩ := z
  match ws, hl with
  | [x_found, x_due], _ => exact z__law_same d hQ hE x_found x_due h z
theorem z__law_sizes {Q : RR → AH → Prop} {E : AExc → AH → Prop} {Q' : RR → AH → Prop} {E' : AExc → AH → Prop} (hQ : ∀ r h, Q r h → Q' r h) (hE : ∀ x h, E x h → E' x h) (x_bag x_mcasks x_most : W) : ∀ h, mf__law_sizes x_bag x_mcasks x_most h Q E → t__law_sizes (excOf E') (endsOf Q') [some (.val x_bag), some (.val x_mcasks), some (.val x_most), none] h := by
  have hr_ := hr_top hQ
  generalize endsOf Q' = D0 at hr_ ⊢
  obtain ⟨nx0, rt0, bk0, ct0⟩ := D0
  have hr_ : ∀ r s env h, Rl env r s → Q s.rr h → rt0 r env h := hr_
  have he := he_top hE
  unfold mf__law_sizes t__law_sizes
  exact (ss_ret hr_ (SN.se (sn_cb on_tupC (sr_cons (SN.se (sn_lc (si_rng1 (sr_cons (SN.se (sn_op2 om_add (SN.se sn_c) (SN.se (sn_call (he _) (sws_cons (sw_fz (sn_var rfl)) (sws_cons (sw_fz (sn_var rfl)) sws_nil)))))) sr_nil)) (fun x_mcask h kk K1 K0 h1 h0 z => by exact lc_body (e1 := [some (.val x_bag), some (.val x_mcasks), some (.val x_most), some (.val x_mcask)]) gd_nm st_yes (sw_fz (sn_op2 om_add (SN.se sn_c) (SN.se (sn_call0 (sws_cons (sw_fz (sn_var rfl)) (sws_cons (sw_fz (sn_var rfl)) sws_nil)))))) rfl h1 h0 z))) sr_nil))))
theorem q__law_sizes (ws : List W) (h : AH) (Qa : RR → AH → Prop) (Ea : AExc → AH → Prop) (hl : ws.length = 3) (z : upc m__law_sizes ws h Qa Ea) : t__law_sizes (excOf Ea) (endsOf Qa) (startA 4 ws) h := by
  obtain ⟨Q0, E0, hQ, hE, z⟩ := z
  match ws, hl with
  | [x_bag, x_mcasks, x_most], _ => exact z__law_sizes hQ hE x_bag x_mcasks x_most h z
theorem z__law_any_sizes {Q : RR → AH → Prop} {E : AExc → AH → Prop} {Q' : RR → AH → Prop} {E' : AExc → AH → Prop} (hQ : ∀ r h, Q r h → Q' r h) (hE : ∀ x h, E x h → E' x h) (x_bag : W) : ∀ h, mf__law_any_sizes x_bag h Q E → t__law_any_sizes (excOf E') (endsOf Q') [some (.val x_bag)] h := by
  have hr_ := hr_top hQ
  generalize endsOf Q' = D0 at hr_ ⊢
  obtain ⟨nx0, rt0, bk0, ct0⟩ := D0
  have hr_ : ∀ r s env h, Rl env r s → Q s.rr h → rt0 r env h := hr_
  have he := he_top hE
  unfold mf__law_any_sizes t__law_any_sizes
  exact (ss_ret hr_ (SN.se (sn_call (he _) (sws_cons (sw_fz (sn_var rfl)) (sws_cons (sw_fz sn_c) (sws_cons (sw_fz (sn_call (he _) (sws_cons (sw_fz (sn_var rfl)) (sws_cons (sw_fz (sn_lst (sws_cons (sw_fz sn_c) (sws_cons (sw_fz sn_c) (sws_cons (sw_fz sn_c) (sws_cons (sw_fz sn_c) sws_nil)))))) sws_nil)))) sws_nil))))))
theorem q__law_any_sizes (ws : List W) (h : AH) (Qa : RR → AH → Prop) (Ea : AExc → AH → Prop) (hl : ws.length = 1) (z : upc m__law_any_sizes ws h Qa Ea) : t__law_any_sizes (excOf Ea) (endsOf Qa) (startA 1 ws) h := by
  obtain ⟨Q0, E0, hQ, hE, z⟩ := z
  match ws, hl with
  | [x_bag], _ => exact z__law_any_sizes hQ hE x_bag h z
theorem z__law_stand {Q : RR → AH → Prop} {E : AExc → AH → Prop} {Q' : RR → AH → Prop} {E' : AExc → AH → Prop} (hQ : ∀ r h, Q r h → Q' r h) (hE : ∀ x h, E x h → E' x h) (x_bag x_msizes x_mmany x_gone : W) : ∀ h, mf__law_stand x_bag x_msizes x_mmany x_gone h Q E → t__law_stand (excOf E') (endsOf Q') [some (.val x_bag), some (.val x_msizes), some (.val x_mmany), some (.val x_gone), none, none, none, none] h := by
  have hr_ := hr_top hQ
  generalize endsOf Q' = D0 at hr_ ⊢
  obtain ⟨nx0, rt0, bk0, ct0⟩ := D0
  have hr_ : ∀ r s env h, Rl env r s → Q s.rr h → rt0 r env h := hr_
  have he := he_top hE
  unfold mf__law_stand t__law_stand
  exact (ss_seq (ss_asg (fun x_found => [some (.val x_bag), some (.val x_msizes), some (.val x_mmany), some (.val x_gone), some (.val x_found), none, none, none]) (fun _ => rfl) (sw_fz (sn_tup sws_nil)) (fun x_found => (nx_of (ss_seq (ss_set (fun x_held => [some (.val x_bag), some (.val x_msizes), some (.val x_mmany), some (.val x_gone), some (.val x_found), some x_held, none, none]) (fun _ => rfl) (sn_op2 om_mulT (SN.se (sn_lst (sws_cons (sw_fz sn_c) sws_nil))) (SN.se (sn_cb on_len (sr_cons (SN.se (sn_var rfl)) sr_nil)))) (fun x_held => (nx_of (ss_seq (ss_for (fun (s7 : W × SV) (j8 : Option SV × Option SV) => [some (.val x_bag), some (.val x_msizes), some (.val x_mmany), some (.val x_gone), some (.val s7.1), some s7.2, j8.1, j8.2]) (x_found, x_held) (none, none) rfl (si_rng1 (sr_cons (SN.se (sn_call (he _) (sws_cons (sw_fz (sn_var rfl)) (sws_cons (sw_fz (sn_op2 om_add (SN.se (sn_var rfl)) (SN.se sn_c))) sws_nil)))) sr_nil)) (fun s7 j8 => (nx_of (ss_ret hr_ (SN.se (sn_var rfl))))) (fun R12 x_k s7 j8 kn9 _ N11 h z => by refine gd_lit [some (.val x_bag), some (.val x_msizes), some (.val x_mmany), some (.val x_gone), some (.val s7.1), some s7.2, some (.val x_k), j8.2] gd_nm rfl h _ ?_; exact go_at h z (ss_seq (ss_asg (fun x_place => [some (.val x_bag), some (.val x_msizes), some (.val x_mmany), some (.val x_gone), some (.val s7.1), some s7.2, some (.val x_k), some (.val x_place)]) (fun _ => rfl) (sw_fz (sn_op2 om_sub (SN.se (sn_call (he _) (sws_cons (sw_fz (sn_var rfl)) (sws_cons (sw_fz (sn_op2 om_add (SN.se (sn_cb on_len (sr_cons (SN.se (sn_var rfl)) sr_nil))) (SN.se (sn_var rfl)))) sws_nil)))) (SN.se (sn_var rfl)))) (fun x_place => (nx_of (ss_if (st_tst (SN.se (sn_op2 om_lt (SN.se (sn_var rfl)) (SN.se sn_c)))) (ss_asg (fun x_found => [some (.val x_bag), some (.val x_msizes), some (.val x_mmany), some (.val x_gone), some (.val x_found), some s7.2, some (.val x_k), some (.val x_place)]) (fun _ => rfl) (sw_fz (sn_op2 om_add (SN.se (sn_var rfl)) (SN.se (sn_tup (sws_cons (sw_fz (sn_neg (SN.se sn_c))) sws_nil))))) (fun x_found => (fun h z => N11 (x_found, s7.2) (some (.val x_k), some (.val x_place)) h z))) (ss_if (st_tst (SN.se (sn_op2 om_lt (SN.se (sn_op2 om_ix (se_var rfl) (SN.se (sn_var rfl)))) (SN.se (sn_op2 om_ix (SN.se (sn_var rfl)) (SN.se (sn_var rfl))))))) (ss_seq (ss_setIx (fun x_held => [some (.val x_bag), some (.val x_msizes), some (.val x_mmany), some (.val x_gone), some (.val s7.1), some x_held, some (.val x_k), some (.val x_place)]) (fun _ => rfl) (sw_fz (sn_op2 om_add (SN.se (sn_op2 om_ix (se_var rfl) (SN.se (sn_var rfl)))) (SN.se sn_c))) rfl (SN.se (sn_var rfl)) (fun x_held => (nx_of (ss_asg (fun x_found => [some (.val x_bag), some (.val x_msizes), some (.val x_mmany), some (.val x_gone), some (.val x_found), some x_held, some (.val x_k), some (.val x_place)]) (fun _ => rfl) (sw_fz (sn_op2 om_add (SN.se (sn_var rfl)) (SN.se (sn_tup (sws_cons (sw_fz (sn_var rfl)) sws_nil))))) (fun x_found => (fun h z => N11 (x_found, x_held) (some (.val x_k), some (.val x_place)) h z))))))) (ss_nx (fun h z => N11 (s7.1, s7.2) (some (.val x_k), some (.val x_place)) h z)))))))))))))))))))
theorem q__law_stand (ws : List W) (h : AH) (Qa : RR → AH → Prop) (Ea : AExc → AH → Prop) (hl : ws.length = 4) (z : upc m__law_stand ws h Qa Ea) : t__law_stand (excOf Ea) (endsOf Qa) (startA 8 ws) h := by
  obtain ⟨Q0, E0, hQ, hE, z⟩ := z
  match ws, hl with
  | [x_bag, x_msizes, x_mmany, x_gone], _ => exact z__law_stand hQ hE x_bag x_msizes x_mmany x_gone h z
theorem z__law_load {Q : RR → AH → Prop} {E : AExc → AH → Prop} {Q' : RR → AH → Prop} {E' : AExc → AH → Prop} (hQ : ∀ r h, Q r h → Q' r h) (hE : ∀ x h, E x h → E' x h) (x_bag x_msizes : W) : ∀ h, mf__law_load x_bag x_msizes h Q E → t__law_load (excOf E') (endsOf Q') [some (.val x_bag), some (.val x_msizes), none] h := by
  have hr_ := hr_top hQ
  generalize endsOf Q' = D0 at hr_ ⊢
  obtain ⟨nx0, rt0, bk0, ct0⟩ := D0
  have hr_ : ∀ r s env h, Rl env r s → Q s.rr h → rt0 r env h := hr_
  have he := he_top hE
  unfold mf__law_load t__law_load
  exact (ss_ret hr_ (SN.se (sn_cb on_tupC (sr_cons (SN.se (sn_lc (si_items (sw_fz (sn_var rfl))) (fun x_size h kk K1 K0 h1 h0 z => by exact lc_body (e1 := [some (.val x_bag), some (.val x_msizes), some (.val x_size)]) gd_nm st_yes (sw_fz (sn_call0 (sws_cons (sw_fz (sn_var rfl)) (sws_cons (sw_fz (sn_op2 om_add (SN.se (sn_var rfl)) (SN.se sn_c))) sws_nil)))) rfl h1 h0 z))) sr_nil))))
theorem q__law_load (ws : List W) (h : AH) (Qa : RR → AH → Prop) (Ea : AExc → AH → Prop) (hl : ws.length = 2) (z : upc m__law_load ws h Qa Ea) : t__law_load (excOf Ea) (endsOf Qa) (startA 3 ws) h := by
  obtain ⟨Q0, E0, hQ, hE, z⟩ := z
  match ws, hl with
  | [x_bag, x_msizes], _ => exact z__law_load hQ hE x_bag x_msizes h z
theorem z__law_full_load {Q : RR → AH → Prop} {E : AExc → AH → Prop} {Q' : RR → AH → Prop} {E' : AExc → AH → Prop} (hQ : ∀ r h, Q r h → Q' r h) (hE : ∀ x h, E x h → E' x h) (x_bag x_msizes : W) : ∀ h, mf__law_full_load x_bag x_msizes h Q E → t__law_full_load (excOf E') (endsOf Q') [some (.val x_bag), some (.val x_msizes), none, none] h := by
  have hr_ := hr_top hQ
  generalize endsOf Q' = D0 at hr_ ⊢
  obtain ⟨nx0, rt0, bk0, ct0⟩ := D0
  have hr_ : ∀ r s env h, Rl env r s → Q s.rr h → rt0 r env h := hr_
  have he := he_top hE
  unfold mf__law_full_load t__law_full_load
  exact (ss_seq (ss_asg (fun x_how => [some (.val x_bag), some (.val x_msizes), some (.val x_how), none]) (fun _ => rfl) (sw_fz (sn_call (he _) (sws_cons (sw_fz (sn_var rfl)) (sws_cons (sw_fz sn_c) sws_nil)))) (fun x_how => (nx_of (ss_seq (ss_if (st_tst (SN.se (sn_op2 om_eq (SN.se (sn_var rfl)) (SN.se sn_c)))) (ss_ret hr_ (SN.se (sn_cb on_tupC (sr_cons (SN.se (sn_lc (si_items (sw_fz (sn_var rfl))) (fun x_size h kk K1 K0 h1 h0 z => by exact lc_body (e1 := [some (.val x_bag), some (.val x_msizes), some (.val x_how), some (.val x_size)]) gd_nm st_yes (sw_fz (sn_op2 om_sub (SN.se (sn_var rfl)) (SN.se (sn_call0 (sws_cons (sw_fz (sn_var rfl)) (sws_cons (sw_fz sn_c) sws_nil)))))) rfl h1 h0 z))) sr_nil)))) (ss_nx (nx_of (ss_ret hr_ (SN.se (sn_call (he _) (sws_cons (sw_fz (sn_var rfl)) (sws_cons (sw_fz (sn_var rfl)) sws_nil)))))))))))))
theorem q__law_full_load (ws : List W) (h : AH) (Qa : RR → AH → Prop) (Ea : AExc → AH → Prop) (hl : ws.length = 2) (z : upc m__law_full_load ws h Qa Ea) : t__law_full_load (excOf Ea) (endsOf Qa) (startA 4 ws) h := by
  obtain ⟨Q0, E0, hQ, hE, z⟩ := z
  match ws, hl with
  | [x_bag, x_msizes], _ => exact z__law_full_load hQ hE x_bag x_msizes h z
theorem z__law_told_v2 {Q : RR → AH → Prop} {E : AExc → AH → Prop} {Q' : RR → AH → Prop} {E' : AExc → AH → Prop} (hQ : ∀ r h, Q r h → Q' r h) (hE : ∀ x h, E x h → E' x h) {fl : Addr} {sp : ASp} {ML : List W → MC} (hs : ∀ ws h Q E, upc ML ws h Q E → sp ws h Q E) (x_ask : W) : ∀ h, mf__law_told_v2 fl ML x_ask h Q E → t__law_told_v2 fl sp (excOf E') (endsOf Q') [some (.val (.ref fl)), none, none] h := by
  have hr_ := hr_top hQ
  generalize endsOf Q' = D0 at hr_ ⊢
  obtain ⟨nx0, rt0, bk0, ct0⟩ := D0
  have hr_ : ∀ r s env h, Rl env r s → Q s.rr h → rt0 r env h := hr_
  have he := he_top hE
  unfold mf__law_told_v2 t__law_told_v2
  exact (ss_seq (ss_asg (fun x_found => [some (.val (.ref fl)), some (.val x_found), none]) (fun _ => rfl) (sw_fz (sn_tup (sws_cons (sw_fz sn_c) (sws_cons (sw_fz sn_c) sws_nil)))) (fun x_found => (nx_of (ss_seq (ss_try (ks := ["NoDrop", "TooMany"]) (i := 2) (j := 1) (l := [("NoDrop", (xTup (xCons (xCon (.str ("no drop" : Str))) (xCons (xFld "rank") xNil)))), ("TooMany", (xTup (xCons (xCon (.str ("too many" : Str))) (xCons (xFld "most") xNil))))]) rfl (Nat.le_of_ble_eq_true rfl) (.cons (mx_tup (mx_cons mx_con (mx_cons mx_fld mx_nil))) (.cons (mx_tup (mx_cons mx_con (mx_cons mx_fld mx_nil))) .nil)) (he _) (fun s7 => (nx_of (ss_ret hr_ (SN.se (sn_var rfl))))) (fun E2 Ein hz kk8 N9 => (ss_asg (fun x_found => [some (.val (.ref fl)), some (.val x_found), none]) (fun _ => rfl) (sw_fz (sn_tup (sws_cons (sw_fz sn_c) (sws_cons (sw_fz (sn_lam hz hs rfl sws_nil)) sws_nil)))) (fun x_found => (fun h z => N9 x_found h z))))))))))
theorem q__law_told_v2 {ML : List W → MC} (fl : Addr) (sp : ASp) (hs : ∀ ws h Q E, upc ML ws h Q E → sp ws h Q E) (ws : List W) (h : AH) (Qa : RR → AH → Prop) (Ea : AExc → AH → Prop) (hl : ws.length = 1) (z : upc (m__law_told_v2 ML fl) ws h Qa Ea) : t__law_told_v2 fl sp (excOf Ea) (endsOf Qa) (startA 3 ws) h := by
  obtain ⟨Q0, E0, hQ, hE, z⟩ := z
  match ws, hl with
  | [x_ask], _ =>
    obtain ⟨e, z⟩ := z
    subst e
    exact z__law_told_v2 hQ hE hs (.ref fl) h z
theorem z_law {Q : RR → AH → Prop} {E : AExc → AH → Prop} {Q' : RR → AH → Prop} {E' : AExc → AH → Prop} (hQ : ∀ r h, Q r h → Q' r h) (hE : ∀ x h, E x h → E' x h) (x_script : W) : ∀ h, mf_law x_script h Q E → t_law (excOf E') (endsOf Q') [some (.val x_script), none, none, none, none, none, none, none, none, none, none, none, none, none] h := by
  have hr_ := hr_top hQ
  generalize endsOf Q' = D0 at hr_ ⊢
  obtain ⟨nx0, rt0, bk0, ct0⟩ := D0
  have hr_ : ∀ r s env h, Rl env r s → Q s.rr h → rt0 r env h := hr_
  have he := he_top hE
  unfold mf_law t_law
  exact (ss_seq (ss_set (fun x_bag => [some (.val x_script), some x_bag, none, none, none, none, none, none, none, none, none, none, none, none]) (fun _ => rfl) (sn_call (he _) (sws_cons (sw_fz (sn_var rfl)) sws_nil)) (fun x_bag => (nx_of (ss_seq (ss_prom (fun x_bag => [some (.val x_script), some (.val x_bag), none, none, none, none, none, none, none, none, none, none, none, none]) (fun _ => rfl) rfl (fun x_bag => (ss_for (fun (s58 : Unit) (j59 : Option SV × Option SV × Option SV × Option SV × Option SV × Option SV × Option SV × Option SV × Option SV) => [some (.val x_script), some (.val x_bag), j59.1, j59.2.1, j59.2.2.1, none, j59.2.2.2.1, j59.2.2.2.2.1, j59.2.2.2.2.2.1, j59.2.2.2.2.2.2.1, j59.2.2.2.2.2.2.2.1, j59.2.2.2.2.2.2.2.2, none, none]) () (none, none, none, none, none, none, none, none, none) rfl (si_rng1 (sr_cons (SN.se sn_c) sr_nil)) (fun s58 j59 => (nx_of (ss_seq (ss_asg (fun x_tens => [some (.val x_script), some (.val x_bag), j59.1, j59.2.1, j59.2.2.1, none, j59.2.2.2.1, j59.2.2.2.2.1, j59.2.2.2.2.2.1, j59.2.2.2.2.2.2.1, j59.2.2.2.2.2.2.2.1, j59.2.2.2.2.2.2.2.2, some (.val x_tens), none]) (fun _ => rfl) (sw_fz (sn_op2 om_mulT (SN.se (sn_tup (sws_cons (sw_fz sn_c) sws_nil))) (SN.se sn_c))) (fun x_tens => (nx_of (ss_seq (ss_asg (fun x_found => [some (.val x_script), some (.val x_bag), j59.1, j59.2.1, j59.2.2.1, none, j59.2.2.2.1, j59.2.2.2.2.1, j59.2.2.2.2.2.1, j59.2.2.2.2.2.2.1, j59.2.2.2.2.2.2.2.1, j59.2.2.2.2.2.2.2.2, some (.val x_tens), some (.val x_found)]) (fun _ => rfl) (sw_fz (sn_lst (sws_cons (sw_fz (sn_call (he _) (sws_cons (sw_fz (sn_var rfl)) (sws_cons (sw_fz (sn_var rfl)) sws_nil)))) (sws_cons (sw_fz (sn_lamcall (he _) (fun f sp hs ws h Qa Ea hl z => q__law_told_v2 f sp hs ws h Qa Ea hl z) (lam0_ok (fun Q E E' he => (SN.se (sn_call (he _) (sws_cons (sw_fz (sn_op2 om_add (SN.se (sn_op2 om_mulT (SN.se (sn_tup (sws_cons (sw_fz sn_c) sws_nil))) (SN.se sn_c))) (SN.se (sn_tup (sws_cons (sw_fz sn_c) sws_nil))))) (sws_cons (sw_fz (sn_op2 om_add (SN.se (sn_op2 om_mulT (SN.se (sn_tup (sws_cons (sw_fz sn_c) sws_nil))) (SN.se sn_c))) (SN.se (sn_tup (sws_cons (sw_fz sn_c) sws_nil))))) sws_nil)))))) (sl_here sws_nil))) sws_nil)))) (fun x_found => (nx_of (ss_ret hr_ (SN.se (sn_and (SN.se (sn_op2 om_eq (SN.se (sn_cb on_len (sr_cons (SN.se (sn_op2 om_ix (SN.se (sn_var rfl)) (SN.se sn_c))) sr_nil))) (SN.se sn_c))) (sn_op2 om_eq (SN.se (sn_op2 om_ix (SN.se (sn_var rfl)) (SN.se sn_c))) (SN.se (sn_tup (sws_cons (sw_fz sn_c) (sws_cons (sw_fz sn_c) sws_nil)))))))))))))))))) (fun R63 x_turn s58 j59 kn60 _ N62 h z => by refine gd_lit [some (.val x_script), some (.val x_bag), some (.val x_turn), j59.2.1, j59.2.2.1, none, j59.2.2.2.1, j59.2.2.2.2.1, j59.2.2.2.2.2.1, j59.2.2.2.2.2.2.1, j59.2.2.2.2.2.2.2.1, j59.2.2.2.2.2.2.2.2, none, none] gd_nm rfl h _ ?_; exact go_at h z (ss_seq (ss_asg (fun x_msizes => [some (.val x_script), some (.val x_bag), some (.val x_turn), some (.val x_msizes), j59.2.2.1, none, j59.2.2.2.1, j59.2.2.2.2.1, j59.2.2.2.2.2.1, j59.2.2.2.2.2.2.1, j59.2.2.2.2.2.2.2.1, j59.2.2.2.2.2.2.2.2, none, none]) (fun _ => rfl) (sw_fz (sn_call (he _) (sws_cons (sw_fz (sn_var rfl)) sws_nil))) (fun x_msizes => (nx_of (ss_seq (ss_asg (fun x_mload => [some (.val x_script), some (.val x_bag), some (.val x_turn), some (.val x_msizes), some (.val x_mload), none, j59.2.2.2.1, j59.2.2.2.2.1, j59.2.2.2.2.2.1, j59.2.2.2.2.2.2.1, j59.2.2.2.2.2.2.2.1, j59.2.2.2.2.2.2.2.2, none, none]) (fun _ => rfl) (sw_fz (sn_call (he _) (sws_cons (sw_fz (sn_var rfl)) (sws_cons (sw_fz (sn_var rfl)) sws_nil)))) (fun x_mload => (nx_of (ss_seq (ss_if (st_not (st_tst (SN.se (sn_call (he _) (sws_cons (sw_fz (sn_callK (he _) (sws_cons (sw_fz (sn_var rfl)) (sws_cons (sw_fz (sn_var rfl)) sws_nil)))) (sws_cons (sw_fz (sn_cb on_tupC (sr_cons (SN.se (sn_lc (si_rng1 (sr_cons (SN.se (sn_cb on_len (sr_cons (SN.se (sn_var rfl)) sr_nil))) sr_nil)) (fun x_at h kk K1 K0 h1 h0 z => by exact lc_body (e1 := [some (.val x_script), some (.val x_bag), some (.val x_turn), some (.val x_msizes), some (.val x_mload), some (.val x_at), j59.2.2.2.1, j59.2.2.2.2.1, j59.2.2.2.2.2.1, j59.2.2.2.2.2.2.1, j59.2.2.2.2.2.2.2.1, j59.2.2.2.2.2.2.2.2, none, none]) gd_nm st_yes (sw_fz (sn_op2 om_sub (SN.se (sn_op2 om_ix (SN.se (sn_var rfl)) (SN.se (sn_var rfl)))) (SN.se (sn_op2 om_ix (SN.se (sn_var rfl)) (SN.se (sn_var rfl)))))) rfl h1 h0 z))) sr_nil))) sws_nil)))))) (ss_ret hr_ (SN.se sn_c)) (ss_nx (nx_of (ss_seq (ss_asg (fun x_due => [some (.val x_script), some (.val x_bag), some (.val x_turn), some (.val x_msizes), some (.val x_mload), none, some (.val x_due), j59.2.2.2.2.1, j59.2.2.2.2.2.1, j59.2.2.2.2.2.2.1, j59.2.2.2.2.2.2.2.1, j59.2.2.2.2.2.2.2.2, none, none]) (fun _ => rfl) (sw_fz (sn_tup sws_nil)) (fun x_due => (nx_of (ss_seq (ss_for (fun (s64 : W) (j65 : Option SV) => [some (.val x_script), some (.val x_bag), some (.val x_turn), some (.val x_msizes), some (.val x_mload), none, some (.val s64), j65, j59.2.2.2.2.2.1, j59.2.2.2.2.2.2.1, j59.2.2.2.2.2.2.2.1, j59.2.2.2.2.2.2.2.2, none, none]) x_due (j59.2.2.2.2.1) rfl (si_rng1 (sr_cons (SN.se (sn_cb on_len (sr_cons (SN.se (sn_var rfl)) sr_nil))) sr_nil)) (fun s64 j65 => (nx_of (ss_seq (ss_asg (fun x_want => [some (.val x_script), some (.val x_bag), some (.val x_turn), some (.val x_msizes), some (.val x_mload), none, some (.val s64), j65, some (.val x_want), j59.2.2.2.2.2.2.1, j59.2.2.2.2.2.2.2.1, j59.2.2.2.2.2.2.2.2, none, none]) (fun _ => rfl) (sw_fz (sn_if (st_tst (SN.se (sn_op2 om_le (SN.se (sn_cb on_len (sr_cons (SN.se (sn_var rfl)) sr_nil))) (SN.se sn_c)))) (sn_tup (sws_cons (sw_fz sn_c) (sws_cons (sw_fz (sn_var rfl)) sws_nil))) (sn_tup (sws_cons (sw_fz sn_c) (sws_cons (sw_fz sn_c) sws_nil))))) (fun x_want => (nx_of (ss_seq (ss_if (st_not (st_tst (SN.se (sn_call (he _) (sws_cons (sw_fz (sn_lamcall (he _) (fun f sp hs ws h Qa Ea hl z => q__law_told_v2 f sp hs ws h Qa Ea hl z) (lam0_ok (fun Q E E' he => (SN.se (sn_call (he _) (sws_cons (sw_fz (sn_var rfl)) (sws_cons (sw_fz (sn_var rfl)) sws_nil)))))) (sl_here sws_nil))) (sws_cons (sw_fz (sn_var rfl)) sws_nil)))))) (ss_ret hr_ (SN.se sn_c)) (ss_nx (nx_of (ss_seq (ss_if (st_and (st_tst (SN.se (sn_op2 om_le (SN.se (sn_cb on_len (sr_cons (SN.se (sn_var rfl)) sr_nil))) (SN.se sn_c)))) (st_not (st_tst (SN.se (sn_call (he _) (sws_cons (sw_fz (sn_call (he _) (sws_cons (sw_fz (sn_var rfl)) (sws_cons (sw_fz (sn_callK (he _) (sws_cons (sw_fz (sn_var rfl)) (sws_cons (sw_fz (sn_var rfl)) sws_nil)))) sws_nil)))) (sws_cons (sw_fz (sn_var rfl)) sws_nil))))))) (ss_ret hr_ (SN.se sn_c)) (ss_nx (nx_of (ss_seq (ss_asg (fun x_mstand => [some (.val x_script), some (.val x_bag), some (.val x_turn), some (.val x_msizes), some (.val x_mload), none, some (.val s64), j65, some (.val x_want), some (.val x_mstand), j59.2.2.2.2.2.2.2.1, j59.2.2.2.2.2.2.2.2, none, none]) (fun _ => rfl) (sw_fz (sn_call (he _) (sws_cons (sw_fz (sn_var rfl)) (sws_cons (sw_fz (sn_var rfl)) (sws_cons (sw_fz sn_c) (sws_cons (sw_fz sn_c) sws_nil)))))) (fun x_mstand => (nx_of (ss_seq (ss_asg (fun x_mmany => [some (.val x_script), some (.val x_bag), some (.val x_turn), some (.val x_msizes), some (.val x_mload), none, some (.val s64), j65, some (.val x_want), some (.val x_mstand), some (.val x_mmany), j59.2.2.2.2.2.2.2.2, none, none]) (fun _ => rfl) (sw_fz (sn_call (he _) (sws_cons (sw_fz (sn_var rfl)) (sws_cons (sw_fz (sn_op2 om_add (SN.se (sn_cb on_len (sr_cons (SN.se (sn_var rfl)) sr_nil))) (SN.se sn_c))) sws_nil)))) (fun x_mmany => (nx_of (ss_seq (ss_if (st_or (st_not (st_tst (SN.se (sn_call (he _) (sws_cons (sw_fz (sn_call (he _) (sws_cons (sw_fz (sn_var rfl)) (sws_cons (sw_fz (sn_var rfl)) sws_nil)))) (sws_cons (sw_fz (sn_sl (SN.se (sn_var rfl)) so_no (so_part (SN.se (sn_var rfl))))) sws_nil)))))) (st_tst (SN.se (sn_op2 om_eq (SN.se (sn_callK (he _) (sws_cons (sw_fz (sn_cb on_len (sr_cons (SN.se (sn_var rfl)) sr_nil))) (sws_cons (sw_fz (sn_var rfl)) sws_nil)))) (SN.se (sn_var rfl)))))) (ss_ret hr_ (SN.se sn_c)) (ss_nx (nx_of (ss_seq (ss_asg (fun x_far => [some (.val x_script), some (.val x_bag), some (.val x_turn), some (.val x_msizes), some (.val x_mload), none, some (.val s64), j65, some (.val x_want), some (.val x_mstand), some (.val x_mmany), some (.val x_far), none, none]) (fun _ => rfl) (sw_fz (sn_call (he _) (sws_cons (sw_fz (sn_var rfl)) (sws_cons (sw_fz (sn_lst (sws_cons (sw_fz (sn_neg (SN.se sn_c))) (sws_cons (sw_fz (sn_op2 om_add (SN.se (sn_cb on_len (sr_cons (SN.se (sn_var rfl)) sr_nil))) (SN.se sn_c))) (sws_cons (sw_fz (sn_op2 om_sub (SN.se (sn_neg (SN.se sn_c))) (SN.se (sn_call (he _) (sws_cons (sw_fz (sn_var rfl)) (sws_cons (sw_fz sn_c) sws_nil)))))) (sws_cons (sw_fz (sn_op2 om_add (SN.se sn_c) (SN.se (sn_call (he _) (sws_cons (sw_fz (sn_var rfl)) (sws_cons (sw_fz (sn_op2 om_pow (SN.se sn_c) (SN.se sn_c))) sws_nil)))))) sws_nil)))))) sws_nil)))) (fun x_far => (nx_of (ss_if (st_not (st_tst (SN.se (sn_call (he _) (sws_cons (sw_fz (sn_lamcall (he _) (fun f sp hs ws h Qa Ea hl z => q__law_told_v2 f sp hs ws h Qa Ea hl z) (lam0_ok (fun Q E E' he => (SN.se (sn_call (he _) (sws_cons (sw_fz (sn_var rfl)) (sws_cons (sw_fz (sn_var rfl)) sws_nil)))))) (sl_here sws_nil))) (sws_cons (sw_fz (sn_tup (sws_cons (sw_fz sn_c) (sws_cons (sw_fz (sn_var rfl)) sws_nil)))) sws_nil)))))) (ss_ret hr_ (SN.se sn_c)) (ss_nx (fun h z => N62 () (some (.val x_turn), some (.val x_msizes), some (.val x_mload), some (.val s64), j65, some (.val x_want), some (.val x_mstand), some (.val x_mmany), some (.val x_far)) h z))))))))))))))))))))))))))))))))) (fun R69 x_mcask s64 j65 kn66 _ N68 h z => by refine gd_lit [some (.val x_script), some (.val x_bag), some (.val x_turn), some (.val x_msizes), some (.val x_mload), none, some (.val s64), some (.val x_mcask), j59.2.2.2.2.2.1, j59.2.2.2.2.2.2.1, j59.2.2.2.2.2.2.2.1, j59.2.2.2.2.2.2.2.2, none, none] gd_nm rfl h _ ?_; exact go_at h z (ss_asg (fun x_due => [some (.val x_script), some (.val x_bag), some (.val x_turn), some (.val x_msizes), some (.val x_mload), none, some (.val x_due), some (.val x_mcask), j59.2.2.2.2.2.1, j59.2.2.2.2.2.2.1, j59.2.2.2.2.2.2.2.1, j59.2.2.2.2.2.2.2.2, none, none]) (fun _ => rfl) (sw_fz (sn_op2 om_add (SN.se (sn_var rfl)) (SN.se (sn_op2 om_mulT (SN.se (sn_tup (sws_cons (sw_fz (sn_var rfl)) sws_nil))) (SN.se (sn_op2 om_ix (SN.se (sn_var rfl)) (SN.se (sn_var rfl)))))))) (fun x_due => (fun h z => N68 x_due (some (.val x_mcask)) h z)))))))))))))))))))))))))))))))
theorem q_law (ws : List W) (h : AH) (Qa : RR → AH → Prop) (Ea : AExc → AH → Prop) (hl : ws.length = 1) (z : upc m_law ws h Qa Ea) : t_law (excOf Ea) (endsOf Qa) (startA 14 ws) h := by
  obtain ⟨Q0, E0, hQ, hE, z⟩ := z
  match ws, hl with
  | [x_script], _ => exact z_law hQ hE x_script h z
end Ab
namespace Ab
open PySem PySem.Spec PyProof.Rows L2 RZ
def top (i : Nat) : Stmt := PySem.Challenge.pw_hidelater_k03_counts_and_rooms.main.body.getD i (.Pass ⟨0, 0, 0, 0⟩)
abbrev s_look_sizes : Stmt := top 13
abbrev N_look_sizes : List Str := ["sizes", "cask", "size"]
abbrev P_look_sizes : List Str := ["sizes"]
theorem c_look_sizes : FnScope N_look_sizes P_look_sizes (defScope s_look_sizes) := ⟨rfl, rfl, rfl, by decide +kernel, rfl, by decide +kernel, by decide +kernel⟩
theorem a_look_sizes : BindsAll "look_sizes" s_look_sizes P_look_sizes := fun _ _ _ _ _ _ us hl => match us, hl with | [_], _ => rfl
abbrev s_look_counts : Stmt := top 14
abbrev N_look_counts : List Str := ["sizes", "counts", "cask", "many", "size"]
abbrev P_look_counts : List Str := ["sizes", "counts"]
theorem c_look_counts : FnScope N_look_counts P_look_counts (defScope s_look_counts) := ⟨rfl, rfl, rfl, by decide +kernel, rfl, by decide +kernel, by decide +kernel⟩
theorem a_look_counts : BindsAll "look_counts" s_look_counts P_look_counts := fun _ _ _ _ _ _ us hl => match us, hl with | [_, _], _ => rfl
abbrev s_look_stand : Stmt := top 15
abbrev N_look_stand : List Str := ["sizes", "stand", "held", "rank", "place"]
abbrev P_look_stand : List Str := ["sizes", "stand"]
theorem c_look_stand : FnScope N_look_stand P_look_stand (defScope s_look_stand) := ⟨rfl, rfl, rfl, by decide +kernel, rfl, by decide +kernel, by decide +kernel⟩
theorem a_look_stand : BindsAll "look_stand" s_look_stand P_look_stand := fun _ _ _ _ _ _ us hl => match us, hl with | [_, _], _ => rfl
abbrev s_counted : Stmt := top 16
abbrev N_counted : List Str := ["many", "stand", "held", "place"]
abbrev P_counted : List Str := ["many", "stand"]
theorem c_counted : FnScope N_counted P_counted (defScope s_counted) := ⟨rfl, rfl, rfl, by decide +kernel, rfl, by decide +kernel, by decide +kernel⟩
theorem a_counted : BindsAll "counted" s_counted P_counted := fun _ _ _ _ _ _ us hl => match us, hl with | [_, _], _ => rfl
abbrev s_counts_of : Stmt := top 17
abbrev N_counts_of : List Str := ["sizes", "stand"]
abbrev P_counts_of : List Str := ["sizes", "stand"]
theorem c_counts_of : FnScope N_counts_of P_counts_of (defScope s_counts_of) := ⟨rfl, rfl, rfl, by decide +kernel, rfl, by decide +kernel, by decide +kernel⟩
theorem a_counts_of : BindsAll "counts_of" s_counts_of P_counts_of := fun _ _ _ _ _ _ us hl => match us, hl with | [_, _], _ => rfl
abbrev s_stand_of : Stmt := top 18
abbrev N_stand_of : List Str := ["sizes", "counts", "cask", "many", "drop"]
abbrev P_stand_of : List Str := ["sizes", "counts"]
theorem c_stand_of : FnScope N_stand_of P_stand_of (defScope s_stand_of) := ⟨rfl, rfl, rfl, by decide +kernel, rfl, by decide +kernel, by decide +kernel⟩
theorem a_stand_of : BindsAll "stand_of" s_stand_of P_stand_of := fun _ _ _ _ _ _ us hl => match us, hl with | [_, _], _ => rfl
abbrev s_room : Stmt := top 19
abbrev N_room : List Str := ["sizes", "counts", "size", "many"]
abbrev P_room : List Str := ["sizes", "counts"]
theorem c_room : FnScope N_room P_room (defScope s_room) := ⟨rfl, rfl, rfl, by decide +kernel, rfl, by decide +kernel, by decide +kernel⟩
abbrev s_hidden : Stmt := top 20
abbrev N_hidden : List Str := ["stand", "many"]
abbrev P_hidden : List Str := ["stand", "many"]
theorem c_hidden : FnScope N_hidden P_hidden (defScope s_hidden) := ⟨rfl, rfl, rfl, by decide +kernel, rfl, by decide +kernel, by decide +kernel⟩
theorem a_hidden : BindsAll "hidden" s_hidden P_hidden := fun _ _ _ _ _ _ us hl => match us, hl with | [_, _], _ => rfl
abbrev s__law_open : Stmt := top 22
abbrev N__law_open : List Str := ["_law_script"]
abbrev P__law_open : List Str := ["_law_script"]
theorem c__law_open : FnScope N__law_open P__law_open (defScope s__law_open) := ⟨rfl, rfl, rfl, by decide +kernel, rfl, by decide +kernel, by decide +kernel⟩
theorem a__law_open : BindsAll "_law_open" s__law_open P__law_open := fun _ _ _ _ _ _ us hl => match us, hl with | [_], _ => rfl
abbrev s__law_take : Stmt := top 23
abbrev N__law_take : List Str := ["_law_bag", "_law_sides", "_law_cell", "_law_side", "_law_mix"]
abbrev P__law_take : List Str := ["_law_bag", "_law_sides"]
theorem c__law_take : FnScope N__law_take P__law_take (defScope s__law_take) := ⟨rfl, rfl, rfl, by decide +kernel, rfl, by decide +kernel, by decide +kernel⟩
theorem a__law_take : BindsAll "_law_take" s__law_take P__law_take := fun _ _ _ _ _ _ us hl => match us, hl with | [_, _], _ => rfl
abbrev s__law_pick : Stmt := top 24
abbrev N__law_pick : List Str := ["_law_bag", "_law_row"]
abbrev P__law_pick : List Str := ["_law_bag", "_law_row"]
theorem c__law_pick : FnScope N__law_pick P__law_pick (defScope s__law_pick) := ⟨rfl, rfl, rfl, by decide +kernel, rfl, by decide +kernel, by decide +kernel⟩
theorem a__law_pick : BindsAll "_law_pick" s__law_pick P__law_pick := fun _ _ _ _ _ _ us hl => match us, hl with | [_, _], _ => rfl
abbrev s__law_same : Stmt := top 25
abbrev N__law_same : List Str := ["_law_found", "_law_due", "_law_at"]
abbrev P__law_same : List Str := ["_law_found", "_law_due"]
theorem c__law_same : FnScope N__law_same P__law_same (defScope s__law_same) := ⟨rfl, rfl, rfl, by decide +kernel, rfl, by decide +kernel, by decide +kernel⟩
theorem a__law_same : BindsAll "_law_same" s__law_same P__law_same := fun _ _ _ _ _ _ us hl => match us, hl with | [_, _], _ => rfl
abbrev s__law_sizes : Stmt := top 26
abbrev N__law_sizes : List Str := ["_law_bag", "_law_mcasks", "_law_most", "_law_mcask"]
abbrev P__law_sizes : List Str := ["_law_bag", "_law_mcasks", "_law_most"]
theorem c__law_sizes : FnScope N__law_sizes P__law_sizes (defScope s__law_sizes) := ⟨rfl, rfl, rfl, by decide +kernel, rfl, by decide +kernel, by decide +kernel⟩
theorem a__law_sizes : BindsAll "_law_sizes" s__law_sizes P__law_sizes := fun _ _ _ _ _ _ us hl => match us, hl with | [_, _, _], _ => rfl
abbrev s__law_any_sizes : Stmt := top 27
abbrev N__law_any_sizes : List Str := ["_law_bag"]
abbrev P__law_any_sizes : List Str := ["_law_bag"]
theorem c__law_any_sizes : FnScope N__law_any_sizes P__law_any_sizes (defScope s__law_any_sizes) := ⟨rfl, rfl, rfl, by decide +kernel, rfl, by decide +kernel, by decide +kernel⟩
theorem a__law_any_sizes : BindsAll "_law_any_sizes" s__law_any_sizes P__law_any_sizes := fun _ _ _ _ _ _ us hl => match us, hl with | [_], _ => rfl
abbrev s__law_stand : Stmt := top 28
abbrev N__law_stand : List Str := ["_law_bag", "_law_msizes", "_law_mmany", "_law_gone", "_law_found", "_law_held", "_law_k", "_law_place"]
abbrev P__law_stand : List Str := ["_law_bag", "_law_msizes", "_law_mmany", "_law_gone"]
theorem c__law_stand : FnScope N__law_stand P__law_stand (defScope s__law_stand) := ⟨rfl, rfl, rfl, by decide +kernel, rfl, by decide +kernel, by decide +kernel⟩
theorem a__law_stand : BindsAll "_law_stand" s__law_stand P__law_stand := fun _ _ _ _ _ _ us hl => match us, hl with | [_, _, _, _], _ => rfl
abbrev s__law_load : Stmt := top 29
abbrev N__law_load : List Str := ["_law_bag", "_law_msizes", "_law_size"]
abbrev P__law_load : List Str := ["_law_bag", "_law_msizes"]
theorem c__law_load : FnScope N__law_load P__law_load (defScope s__law_load) := ⟨rfl, rfl, rfl, by decide +kernel, rfl, by decide +kernel, by decide +kernel⟩
theorem a__law_load : BindsAll "_law_load" s__law_load P__law_load := fun _ _ _ _ _ _ us hl => match us, hl with | [_, _], _ => rfl
abbrev s__law_full_load : Stmt := top 30
abbrev N__law_full_load : List Str := ["_law_bag", "_law_msizes", "_law_how", "_law_size"]
abbrev P__law_full_load : List Str := ["_law_bag", "_law_msizes"]
theorem c__law_full_load : FnScope N__law_full_load P__law_full_load (defScope s__law_full_load) := ⟨rfl, rfl, rfl, by decide +kernel, rfl, by decide +kernel, by decide +kernel⟩
theorem a__law_full_load : BindsAll "_law_full_load" s__law_full_load P__law_full_load := fun _ _ _ _ _ _ us hl => match us, hl with | [_, _], _ => rfl
abbrev s__law_told : Stmt := top 31
abbrev N__law_told : List Str := ["_law_ask", "_law_found", "e"]
abbrev P__law_told : List Str := ["_law_ask"]
theorem c__law_told : FnScope N__law_told P__law_told (defScope s__law_told) := ⟨rfl, rfl, rfl, by decide +kernel, rfl, by decide +kernel, by decide +kernel⟩
theorem a__law_told : BindsAll "_law_told" s__law_told P__law_told := fun _ _ _ _ _ _ us hl => match us, hl with | [_], _ => rfl
abbrev s_law : Stmt := top 32
abbrev N_law : List Str := ["_law_script", "_law_bag", "_law_turn", "_law_msizes", "_law_mload", "_law_at", "_law_due", "_law_mcask", "_law_want", "_law_mstand", "_law_mmany", "_law_far", "_law_tens", "_law_found"]
abbrev P_law : List Str := ["_law_script"]
theorem c_law : FnScope N_law P_law (defScope s_law) := ⟨rfl, rfl, rfl, by decide +kernel, rfl, by decide +kernel, by decide +kernel⟩
def meth (i j : Nat) : Stmt := match top i with
  | .ClassDef _ _ _ b _ _ _ _ _ _ _ => b.getD j (.Pass ⟨0, 0, 0, 0⟩)
  | _ => .Pass ⟨0, 0, 0, 0⟩
abbrev si_NoDrop : Stmt := meth 7 0
theorem ci_NoDrop : FnScope ["self", "rank"] ["self", "rank"] (defScope si_NoDrop) := ⟨rfl, rfl, rfl, by decide +kernel, rfl, by decide +kernel, by decide +kernel⟩
abbrev si_TooMany : Stmt := meth 6 0
theorem ci_TooMany : FnScope ["self", "most"] ["self", "most"] (defScope si_TooMany) := ⟨rfl, rfl, rfl, by decide +kernel, rfl, by decide +kernel, by decide +kernel⟩
theorem kw_room_1_0 : KwAll "room" s_room P_room ["counts", "sizes"] [1, 0] := fun _ _ _ _ _ _ us hl => match us, hl with | [u0, u1], _ => rfl
theorem kw_hidden_1_0 : KwAll "hidden" s_hidden P_hidden ["many", "stand"] [1, 0] := fun _ _ _ _ _ _ us hl => match us, hl with | [u0, u1], _ => rfl
theorem kw_stand_of_1_0 : KwAll "stand_of" s_stand_of P_stand_of ["counts", "sizes"] [1, 0] := fun _ _ _ _ _ _ us hl => match us, hl with | [u0, u1], _ => rfl
end Ab
namespace Ab
open PySem PySem.Spec PyProof.Rows L2 RZ
structure Blt (K : PySem.W.Frag) (mg : Str → Option Value) : Prop where
  n_all : mg "all" = none
  n_bool : mg "bool" = none
  n_enumerate : mg "enumerate" = none
  n_int : mg "int" = none
  n_isinstance : mg "isinstance" = none
  n_len : mg "len" = none
  n_list : mg "list" = none
  n_range : mg "range" = none
  n_str : mg "str" = none
  n_sum : mg "sum" = none
  n_tuple : mg "tuple" = none
  n_zip : mg "zip" = none
  c_GONE : ∃ t, mg "GONE" = some (.int (-1) t)
  c_MOST_CASKS : ∃ t, mg "MOST_CASKS" = some (.int 6 t)
  c_MOST_DROPS : ∃ t, mg "MOST_DROPS" = some (.int 60 t)
  c_MOST_SIZE : ∃ t, mg "MOST_SIZE" = some (.int 40 t)
  h_NoDrop : mg "NoDrop" = some (.ref (He.ga K "NoDrop"))
  h_TooMany : mg "TooMany" = some (.ref (He.ga K "TooMany"))
  x_NoDrop : ∀ k ∈ (["NoDrop", "TooMany"] : List Str), PySem.W.exmOne K (.ref (He.ga K k)) (.ref (He.ga K "NoDrop")) = some (subX k "NoDrop")
  x_TooMany : ∀ k ∈ (["NoDrop", "TooMany"] : List Str), PySem.W.exmOne K (.ref (He.ga K k)) (.ref (He.ga K "TooMany")) = some (subX k "TooMany")
  f_most : ∀ c ∈ (["NoDrop", "TooMany"] : List Str), XfC K (He.ga K c) ∧ PySem.W.findIn K (.ref (He.ga K c)) "most" = some none
  f_rank : ∀ c ∈ (["NoDrop", "TooMany"] : List Str), XfC K (He.ga K c) ∧ PySem.W.findIn K (.ref (He.ga K c)) "rank" = some none
theorem b_look_sizes {P : Program} {w : World} {K : PySem.W.Frag} {mg : Str → Option Value} {base : Heap} {f : Addr} {cdv : Value} {A : Around} {outer : List Env} {s : Shared} {H : Hp} {EX : XK} {G : Gx} {E : AExc → AEnv → AH → Prop} (Z : Blt K mg)  (hr : Room 0 (A.deeper (envOfC "look_sizes" (defScope s_look_sizes) s.heap.objs.size f cdv))) (gk : G.K = K) (tk : Takes (bx P w K mg base N_look_sizes "look_sizes" (defScope s_look_sizes) f cdv A outer s H EX) (cW G E)) :
    ASs (bx P w K mg base N_look_sizes "look_sizes" (defScope s_look_sizes) f cdv A outer s H EX) G (defBody s_look_sizes) (t_look_sizes E) := by
  subst gk
  have gk : G.K = G.K := rfl
  have sc := c_look_sizes
  have hu := hr.units
  exact (ass_cons (as_if (ap_not (ap_chn op_le op_le ae_int (ae_callB call_len ca_len rfl Z.n_len bo_len (ar_cons (ae_var (pv 0)) ar_nil)) (ae_gint rfl Z.c_MOST_CASKS))) (ass_one as_never) ass_nil)
    (ass_one (as_for (passes_of rfl) rfl (ai_enum gk rfl Z.n_enumerate (av_of (ae_var (pv 0)))) (ag_tup gk rfl (ags_cons (ag_name (i := 1) sc.nd rfl (by first | exact .inl rfl | exact .inr rfl)) (ags_cons (ag_name (i := 2) sc.nd rfl (by first | exact .inl rfl | exact .inr rfl)) ags_nil))) (ass_one (as_if (ap_not (ap_chn op_le op_le ae_int (ae_var (pv 2)) (ae_gint rfl Z.c_MOST_SIZE))) (ass_one as_never) ass_nil)))))
theorem b_look_counts {P : Program} {w : World} {K : PySem.W.Frag} {mg : Str → Option Value} {base : Heap} {f : Addr} {cdv : Value} {A : Around} {outer : List Env} {s : Shared} {H : Hp} {EX : XK} {G : Gx} {E : AExc → AEnv → AH → Prop} (Z : Blt K mg) (O_look_sizes : Ok P w K mg base "look_sizes" s_look_sizes 1 1 P_look_sizes (upc m_look_sizes)) (hr : Room 1 (A.deeper (envOfC "look_counts" (defScope s_look_counts) s.heap.objs.size f cdv))) (gk : G.K = K) (tk : Takes (bx P w K mg base N_look_counts "look_counts" (defScope s_look_counts) f cdv A outer s H EX) (cW G E)) :
    ASs (bx P w K mg base N_look_counts "look_counts" (defScope s_look_counts) f cdv A outer s H EX) G (defBody s_look_counts) (t_look_counts E) := by
  subst gk
  have gk : G.K = G.K := rfl
  have sc := c_look_counts
  have hu := hr.units
  exact (ass_cons (as_expr (ae_callO gk O_look_sizes a_look_sizes hr (by decide) rfl tk (an_cons (av_of (ae_var (pv 0))) an_nil)))
    (ass_cons (as_if (ap_ne gk hu (ae_callB call_len ca_len rfl Z.n_len bo_len (ar_cons (ae_var (pv 1)) ar_nil)) (ae_callB call_len ca_len rfl Z.n_len bo_len (ar_cons (ae_var (pv 0)) ar_nil))) (ass_one as_never) ass_nil)
    (ass_one (as_for (passes_of rfl) rfl (ai_enz gk rfl Z.n_enumerate rfl Z.n_zip (aa_cons (av_of (ae_var (pv 1))) (aa_cons (av_of (ae_var (pv 0))) aa_nil))) (ag_tup gk rfl (ags_cons (ag_name (i := 2) sc.nd rfl (by first | exact .inl rfl | exact .inr rfl)) (ags_cons (ag_tup gk rfl (ags_cons (ag_name (i := 3) sc.nd rfl (by first | exact .inl rfl | exact .inr rfl)) (ags_cons (ag_name (i := 4) sc.nd rfl (by first | exact .inl rfl | exact .inr rfl)) ags_nil))) ags_nil))) (ass_one (as_if (ap_not (ap_chn op_le op_le ae_int (ae_var (pv 3)) (ae_var (pv 4)))) (ass_one as_never) ass_nil))))))
theorem b_look_stand {P : Program} {w : World} {K : PySem.W.Frag} {mg : Str → Option Value} {base : Heap} {f : Addr} {cdv : Value} {A : Around} {outer : List Env} {s : Shared} {H : Hp} {EX : XK} {G : Gx} {E : AExc → AEnv → AH → Prop} (Z : Blt K mg) (O_look_sizes : Ok P w K mg base "look_sizes" s_look_sizes 1 1 P_look_sizes (upc m_look_sizes)) (hr : Room 1 (A.deeper (envOfC "look_stand" (defScope s_look_stand) s.heap.objs.size f cdv))) (gk : G.K = K) (tk : Takes (bx P w K mg base N_look_stand "look_stand" (defScope s_look_stand) f cdv A outer s H EX) (cW G E)) :
    ASs (bx P w K mg base N_look_stand "look_stand" (defScope s_look_stand) f cdv A outer s H EX) G (defBody s_look_stand) (t_look_stand E) := by
  subst gk
  have gk : G.K = G.K := rfl
  have sc := c_look_stand
  have hu := hr.units
  exact (ass_cons (as_expr (ae_callO gk O_look_sizes a_look_sizes hr (by decide) rfl tk (an_cons (av_of (ae_var (pv 0))) an_nil)))
    (ass_cons (as_if (ap_gt (ae_callB call_len ca_len rfl Z.n_len bo_len (ar_cons (ae_var (pv 1)) ar_nil)) (ae_gint rfl Z.c_MOST_DROPS)) (ass_one as_never) ass_nil)
    (ass_cons (as_set (i := 2) sc.nd rfl (by first | exact .inl rfl | exact .inr rfl) (ae_mulT gk (ae_lst (aa_cons (av_of ae_int) aa_nil)) (ae_callB call_len ca_len rfl Z.n_len bo_len (ar_cons (ae_var (pv 0)) ar_nil))))
    (ass_one (as_for (passes_of rfl) rfl (ai_enum gk rfl Z.n_enumerate (av_of (ae_var (pv 1)))) (ag_tup gk rfl (ags_cons (ag_name (i := 3) sc.nd rfl (by first | exact .inl rfl | exact .inr rfl)) (ags_cons (ag_name (i := 4) sc.nd rfl (by first | exact .inl rfl | exact .inr rfl)) ags_nil))) (ass_cons (as_if (ap_not (ap_chn op_le op_lt (ae_gint rfl Z.c_GONE) (ae_var (pv 4)) (ae_callB call_len ca_len rfl Z.n_len bo_len (ar_cons (ae_var (pv 0)) ar_nil)))) (ass_one as_never) ass_nil)
    (ass_one (as_if (ap_ne gk hu (ae_var (pv 4)) (ae_gint rfl Z.c_GONE)) (ass_cons (as_augS ip_add (ae_var (pv 2)) (ae_var (pv 4)) ae_int)
    (ass_one (as_if (ap_gt (ae_ix gk (ae_var (pv 2)) (ae_var (pv 4)) (fun _ _ => rfl)) (ae_ix gk (ae_var (pv 0)) (ae_var (pv 4)) (fun _ _ => rfl))) (ass_one as_never) ass_nil))) ass_nil))))))))
theorem b_counted {P : Program} {w : World} {K : PySem.W.Frag} {mg : Str → Option Value} {base : Heap} {f : Addr} {cdv : Value} {A : Around} {outer : List Env} {s : Shared} {H : Hp} {EX : XK} {G : Gx} {E : AExc → AEnv → AH → Prop} (Z : Blt K mg)  (hr : Room 0 (A.deeper (envOfC "counted" (defScope s_counted) s.heap.objs.size f cdv))) (gk : G.K = K) (tk : Takes (bx P w K mg base N_counted "counted" (defScope s_counted) f cdv A outer s H EX) (cW G E)) :
    ASs (bx P w K mg base N_counted "counted" (defScope s_counted) f cdv A outer s H EX) G (defBody s_counted) (t_counted E) := by
  subst gk
  have gk : G.K = G.K := rfl
  have sc := c_counted
  have hu := hr.units
  exact (ass_cons (as_set (i := 2) sc.nd rfl (by first | exact .inl rfl | exact .inr rfl) (ae_mulT gk (ae_lst (aa_cons (av_of ae_int) aa_nil)) (ae_var (pv 0))))
    (ass_cons (as_for (passes_of rfl) rfl (ai_sq gk (av_of (ae_var (pv 1)))) (ag_name (i := 3) sc.nd rfl (by first | exact .inl rfl | exact .inr rfl)) (ass_one (as_if (ap_ne gk hu (ae_var (pv 3)) (ae_gint rfl Z.c_GONE)) (ass_one (as_augS ip_add (ae_var (pv 2)) (ae_var (pv 3)) ae_int)) ass_nil)))
    (ass_one (as_ret (ae_callTy call_tuple_of ca_tup rfl Z.n_tuple bo_tuple (ar_cons (ae_var (pv 2)) ar_nil))))))
theorem b_counts_of {P : Program} {w : World} {K : PySem.W.Frag} {mg : Str → Option Value} {base : Heap} {f : Addr} {cdv : Value} {A : Around} {outer : List Env} {s : Shared} {H : Hp} {EX : XK} {G : Gx} {E : AExc → AEnv → AH → Prop} (Z : Blt K mg) (O_look_stand : Ok P w K mg base "look_stand" s_look_stand 2 2 P_look_stand (upc m_look_stand)) (O_counted : Ok P w K mg base "counted" s_counted 1 2 P_counted (upc m_counted)) (hr : Room 2 (A.deeper (envOfC "counts_of" (defScope s_counts_of) s.heap.objs.size f cdv))) (gk : G.K = K) (tk : Takes (bx P w K mg base N_counts_of "counts_of" (defScope s_counts_of) f cdv A outer s H EX) (cW G E)) :
    ASs (bx P w K mg base N_counts_of "counts_of" (defScope s_counts_of) f cdv A outer s H EX) G (defBody s_counts_of) (t_counts_of E) := by
  subst gk
  have gk : G.K = G.K := rfl
  have sc := c_counts_of
  have hu := hr.units
  exact (ass_cons (as_expr (ae_callO gk O_look_stand a_look_stand hr (by decide) rfl tk (an_cons (av_of (ae_var (pv 0))) (an_cons (av_of (ae_var (pv 1))) an_nil))))
    (ass_one (as_ret (ae_callO gk O_counted a_counted hr (by decide) rfl tk (an_cons (av_of (ae_callB call_len ca_len rfl Z.n_len bo_len (ar_cons (ae_var (pv 0)) ar_nil))) (an_cons (av_of (ae_var (pv 1))) an_nil))))))
theorem b_stand_of {P : Program} {w : World} {K : PySem.W.Frag} {mg : Str → Option Value} {base : Heap} {f : Addr} {cdv : Value} {A : Around} {outer : List Env} {s : Shared} {H : Hp} {EX : XK} {G : Gx} {E : AExc → AEnv → AH → Prop} (Z : Blt K mg) (O_look_counts : Ok P w K mg base "look_counts" s_look_counts 2 2 P_look_counts (upc m_look_counts)) (R_TooMany : XkOk P w K mg base "TooMany" "too many" ["most"]) (hr : Room 2 (A.deeper (envOfC "stand_of" (defScope s_stand_of) s.heap.objs.size f cdv))) (gk : G.K = K) (tk : Takes (bx P w K mg base N_stand_of "stand_of" (defScope s_stand_of) f cdv A outer s H EX) (cW G E)) :
    ASs (bx P w K mg base N_stand_of "stand_of" (defScope s_stand_of) f cdv A outer s H EX) G (defBody s_stand_of) (t_stand_of E) := by
  subst gk
  have gk : G.K = G.K := rfl
  have sc := c_stand_of
  have hu := hr.units
  exact (ass_cons (as_expr (ae_callO gk O_look_counts a_look_counts hr (by decide) rfl tk (an_cons (av_of (ae_var (pv 0))) (an_cons (av_of (ae_var (pv 1))) an_nil))))
    (ass_cons (as_if (ap_gt (ae_callB (cr_sumT rfl) ca_sumA rfl Z.n_sum bo_sum (ar_cons (ae_var (pv 1)) ar_nil)) (ae_gint rfl Z.c_MOST_DROPS)) (ass_one (as_raise R_TooMany gk rfl tk hr (by decide) rfl (an_cons (av_of (ae_gint rfl Z.c_MOST_DROPS)) an_nil))) ass_nil)
    (ass_one (as_ret (ae_callTy call_tuple_of ca_tup rfl Z.n_tuple bo_tuple (ar_cons (ae_lc2O (own := [("cask", 2), ("many", 3), ("drop", 4)]) (vs1 := [4]) rfl sc.nd (AI.two (ai_enum gk rfl Z.n_enumerate (av_of (ae_var (pv 1))))) (blkOk_by (by first | (show blkC N_stand_of (defScope s_stand_of) _ _ = true; decide +kernel) | rfl)) (by decide) (by decide) (by decide) (fun _ _ _ _ _ => (ag_tup gk rfl (ags_cons (ag_name (i := 2) sc.nd rfl (by first | exact .inl rfl | exact .inr rfl)) (ags_cons (ag_name (i := 3) sc.nd rfl (by first | exact .inl rfl | exact .inr rfl)) ags_nil)))) (fun _ _ _ _ _ => aps_nil) (fun _ _ _ _ _ => (AI.two (ai_range1 rfl Z.n_range (ar_cons (ae_var (pv 3)) ar_nil)))) (fun _ _ _ _ _ => (ag_name (i := 4) sc.nd rfl (by first | exact .inl rfl | exact .inr rfl))) (fun _ _ _ _ _ => aps_nil) (fun _ _ _ _ _ => (av_of (ae_var (pv 2))))) ar_nil))))))
theorem b_room {P : Program} {w : World} {K : PySem.W.Frag} {mg : Str → Option Value} {base : Heap} {f : Addr} {cdv : Value} {A : Around} {outer : List Env} {s : Shared} {H : Hp} {EX : XK} {G : Gx} {E : AExc → AEnv → AH → Prop} (Z : Blt K mg) (O_look_counts : Ok P w K mg base "look_counts" s_look_counts 2 2 P_look_counts (upc m_look_counts)) (hr : Room 2 (A.deeper (envOfC "room" (defScope s_room) s.heap.objs.size f cdv))) (gk : G.K = K) (tk : Takes (bx P w K mg base N_room "room" (defScope s_room) f cdv A outer s H EX) (cW G E)) :
    ASs (bx P w K mg base N_room "room" (defScope s_room) f cdv A outer s H EX) G (defBody s_room) (t_room E) := by
  subst gk
  have gk : G.K = G.K := rfl
  have sc := c_room
  have hu := hr.units
  exact (ass_cons (as_expr (ae_callO gk O_look_counts a_look_counts hr (by decide) rfl tk (an_cons (av_of (ae_var (pv 0))) (an_cons (av_of (ae_var (pv 1))) an_nil))))
    (ass_one (as_ret (ae_callTy call_tuple_of ca_tup rfl Z.n_tuple bo_tuple (ar_cons (ae_lcO (own := [("size", 2), ("many", 3)]) rfl sc.nd (ai_zip gk rfl Z.n_zip (aa_cons (av_of (ae_var (pv 0))) (aa_cons (av_of (ae_var (pv 1))) aa_nil))) (blkOk_by (by first | (show blkC N_room (defScope s_room) _ _ = true; decide +kernel) | rfl)) (by decide) (fun _ _ _ _ _ => (ag_tup gk rfl (ags_cons (ag_name (i := 2) sc.nd rfl (by first | exact .inl rfl | exact .inr rfl)) (ags_cons (ag_name (i := 3) sc.nd rfl (by first | exact .inl rfl | exact .inr rfl)) ags_nil)))) (fun _ _ _ _ _ => aps_nil) (fun _ _ _ _ _ => (av_of (ae_sub (ae_var (pv 2)) (ae_var (pv 3)))))) ar_nil)))))
theorem b_hidden {P : Program} {w : World} {K : PySem.W.Frag} {mg : Str → Option Value} {base : Heap} {f : Addr} {cdv : Value} {A : Around} {outer : List Env} {s : Shared} {H : Hp} {EX : XK} {G : Gx} {E : AExc → AEnv → AH → Prop} (Z : Blt K mg) (R_NoDrop : XkOk P w K mg base "NoDrop" "no drop" ["rank"]) (hr : Room 2 (A.deeper (envOfC "hidden" (defScope s_hidden) s.heap.objs.size f cdv))) (gk : G.K = K) (tk : Takes (bx P w K mg base N_hidden "hidden" (defScope s_hidden) f cdv A outer s H EX) (cW G E)) :
    ASs (bx P w K mg base N_hidden "hidden" (defScope s_hidden) f cdv A outer s H EX) G (defBody s_hidden) (t_hidden_v1 E) := by
  subst gk
  have gk : G.K = G.K := rfl
  have sc := c_hidden
  have hu := hr.units
  exact (ass_cons (as_if (ap_not (ap_chn op_le op_le ae_int (ae_var (pv 1)) (ae_callB call_len ca_len rfl Z.n_len bo_len (ar_cons (ae_var (pv 0)) ar_nil)))) (ass_one (as_raise R_NoDrop gk rfl tk hr (by decide) rfl (an_cons (av_of (ae_var (pv 1))) an_nil))) ass_nil)
    (ass_one (as_ret (ae_slice gk (ae_var (pv 0)) ao_none (ao_some (ae_var (pv 1)))))))
theorem b__law_open {P : Program} {w : World} {K : PySem.W.Frag} {mg : Str → Option Value} {base : Heap} {f : Addr} {cdv : Value} {A : Around} {outer : List Env} {s : Shared} {H : Hp} {EX : XK} {G : Gx} {E : AExc → AEnv → AH → Prop} (Z : Blt K mg)  (hr : Room 0 (A.deeper (envOfC "_law_open" (defScope s__law_open) s.heap.objs.size f cdv))) (gk : G.K = K) (tk : Takes (bx P w K mg base N__law_open "_law_open" (defScope s__law_open) f cdv A outer s H EX) (cW G E)) :
    ASs (bx P w K mg base N__law_open "_law_open" (defScope s__law_open) f cdv A outer s H EX) G (defBody s__law_open) (t__law_open E) := by
  subst gk
  have gk : G.K = G.K := rfl
  have sc := c__law_open
  have hu := hr.units
  exact (ass_one (as_ret (ae_lst (aa_cons (av_of (ae_callTy call_list_of ca_lst rfl Z.n_list bo_list (ar_cons (ae_slice gk (ae_var (pv 0)) ao_none (ao_some ae_int)) ar_nil))) (aa_cons (av_of ae_int) (aa_cons (av_of ae_int) (aa_cons (av_of ae_int) (aa_cons (av_of ae_int) aa_nil))))))))
theorem b__law_take {P : Program} {w : World} {K : PySem.W.Frag} {mg : Str → Option Value} {base : Heap} {f : Addr} {cdv : Value} {A : Around} {outer : List Env} {s : Shared} {H : Hp} {EX : XK} {G : Gx} {E : AExc → AEnv → AH → Prop} (Z : Blt K mg)  (hr : Room 0 (A.deeper (envOfC "_law_take" (defScope s__law_take) s.heap.objs.size f cdv))) (gk : G.K = K) (tk : Takes (bx P w K mg base N__law_take "_law_take" (defScope s__law_take) f cdv A outer s H EX) (cW G E)) :
    ASs (bx P w K mg base N__law_take "_law_take" (defScope s__law_take) f cdv A outer s H EX) G (defBody s__law_take) (t__law_take E) := by
  subst gk
  have gk : G.K = G.K := rfl
  have sc := c__law_take
  have hu := hr.units
  exact (ass_cons (as_if (AW.ap (aw_and (ap_lt (ae_ix gk (ae_var (pv 0)) ae_int (fun _ _ => rfl)) (ae_var (pv 1))) (aw_and1 (ap_lt (ae_ix gk (ae_var (pv 0)) ae_int (fun _ _ => rfl)) (ae_callB call_len ca_len rfl Z.n_len bo_len (ar_cons (ae_ix gk (ae_var (pv 0)) ae_int (fun _ _ => rfl)) ar_nil)))))) (ass_cons (as_asg (av_of (ae_ix gk (ae_ix gk (ae_var (pv 0)) ae_int (fun _ _ => rfl)) (ae_ix gk (ae_var (pv 0)) ae_int (fun _ _ => rfl)) (fun _ _ => rfl))) (ag_name (i := 2) sc.nd rfl (by first | exact .inl rfl | exact .inr rfl)))
    (ass_cons (as_asg (av_of (ae_add gk (ae_ix gk (ae_var (pv 0)) ae_int (fun _ _ => rfl)) ae_int)) (ag_set (ae_var (pv 0)) ae_int (pg_sub (ae_var (pv 0)).pe ae_int.pe set_list)))
    (ass_cons (as_asg (av_of ae_int) (ag_set (ae_var (pv 0)) ae_int (pg_sub (ae_var (pv 0)).pe ae_int.pe set_list)))
    (ass_one (as_if (ap_ge (ae_var (pv 2)) (ae_pow ae_int ae_int)) (ass_one (as_asg (av_of (ae_var (pv 2))) (ag_set (ae_var (pv 0)) ae_int (pg_sub (ae_var (pv 0)).pe ae_int.pe set_list)))) (ass_one (as_asg (av_of (ae_mod (ae_add gk (ae_add gk (ae_mulT gk (ae_ix gk (ae_var (pv 0)) ae_int (fun _ _ => rfl)) ae_int) (ae_mulT gk (ae_mod (ae_var (pv 2)) ae_int) ae_int)) ae_int) ae_int)) (ag_set (ae_var (pv 0)) ae_int (pg_sub (ae_var (pv 0)).pe ae_int.pe set_list))))))))) ass_nil)
    (ass_cons (as_if (ap_ge (ae_ix gk (ae_var (pv 0)) ae_int (fun _ _ => rfl)) (ae_var (pv 1))) (ass_cons (as_asg (av_of (ae_mod (ae_ix gk (ae_var (pv 0)) ae_int (fun _ _ => rfl)) (ae_var (pv 1)))) (ag_name (i := 3) sc.nd rfl (by first | exact .inl rfl | exact .inr rfl)))
    (ass_cons (as_asg (av_of (ae_fdiv (ae_ix gk (ae_var (pv 0)) ae_int (fun _ _ => rfl)) (ae_var (pv 1)))) (ag_set (ae_var (pv 0)) ae_int (pg_sub (ae_var (pv 0)).pe ae_int.pe set_list)))
    (ass_one (as_ret (ae_var (pv 3)))))) ass_nil)
    (ass_cons (as_asg (av_of (ae_add gk (ae_ix gk (ae_var (pv 0)) ae_int (fun _ _ => rfl)) ae_int)) (ag_set (ae_var (pv 0)) ae_int (pg_sub (ae_var (pv 0)).pe ae_int.pe set_list)))
    (ass_cons (as_asg (av_of (ae_ix gk (ae_var (pv 0)) ae_int (fun _ _ => rfl))) (ag_name (i := 4) sc.nd rfl (by first | exact .inl rfl | exact .inr rfl)))
    (ass_cons (as_asg (av_of (ae_mod (ae_add gk (ae_add gk (ae_add gk (ae_mulT gk (ae_mod (ae_mulT gk (ae_var (pv 4)) (ae_var (pv 4))) ae_int) ae_int) (ae_mulT gk (ae_var (pv 4)) ae_int)) (ae_mulT gk ae_int (ae_ix gk (ae_var (pv 0)) ae_int (fun _ _ => rfl)))) ae_int) ae_int)) (ag_set (ae_var (pv 0)) ae_int (pg_sub (ae_var (pv 0)).pe ae_int.pe set_list)))
    (ass_one (as_ret (ae_mod (ae_add gk (ae_fdiv (ae_ix gk (ae_var (pv 0)) ae_int (fun _ _ => rfl)) ae_int) (ae_mulT gk (ae_mod (ae_ix gk (ae_var (pv 0)) ae_int (fun _ _ => rfl)) ae_int) ae_int)) (ae_var (pv 1))))))))))
theorem b__law_pick {P : Program} {w : World} {K : PySem.W.Frag} {mg : Str → Option Value} {base : Heap} {f : Addr} {cdv : Value} {A : Around} {outer : List Env} {s : Shared} {H : Hp} {EX : XK} {G : Gx} {E : AExc → AEnv → AH → Prop} (Z : Blt K mg) (O__law_take : Ok P w K mg base "_law_take" s__law_take 1 2 P__law_take (upc m__law_take)) (hr : Room 1 (A.deeper (envOfC "_law_pick" (defScope s__law_pick) s.heap.objs.size f cdv))) (gk : G.K = K) (tk : Takes (bx P w K mg base N__law_pick "_law_pick" (defScope s__law_pick) f cdv A outer s H EX) (cW G E)) :
    ASs (bx P w K mg base N__law_pick "_law_pick" (defScope s__law_pick) f cdv A outer s H EX) G (defBody s__law_pick) (t__law_pick E) := by
  subst gk
  have gk : G.K = G.K := rfl
  have sc := c__law_pick
  have hu := hr.units
  exact (ass_one (as_ret (ae_ix gk (ae_var (pv 1)) (ae_callO gk O__law_take a__law_take hr (by decide) rfl tk (an_cons (av_of (ae_var (pv 0))) (an_cons (av_of (ae_callB call_len ca_len rfl Z.n_len bo_len (ar_cons (ae_var (pv 1)) ar_nil))) an_nil))) (fun _ _ => rfl))))
theorem b__law_same {P : Program} {w : World} {K : PySem.W.Frag} {mg : Str → Option Value} {base : Heap} {f : Addr} {cdv : Value} {A : Around} {outer : List Env} {s : Shared} {H : Hp} {EX : XK} {G : Gx} {E : AExc → AEnv → AH → Prop} {d j : Nat} (Z : Blt K mg) (O__law_same : Ok P w K mg base "_law_same" s__law_same j 2 P__law_same (upc (m__law_same d))) (hr : Room (max j 0) (A.deeper (envOfC "_law_same" (defScope s__law_same) s.heap.objs.size f cdv))) (gk : G.K = K) (tk : Takes (bx P w K mg base N__law_same "_law_same" (defScope s__law_same) f cdv A outer s H EX) (cW G E)) :
    ASs (bx P w K mg base N__law_same "_law_same" (defScope s__law_same) f cdv A outer s H EX) G (defBody s__law_same) (t__law_same d E) := by
  subst gk
  have gk : G.K = G.K := rfl
  have sc := c__law_same
  have hu := hr.units
  exact (ass_cons (as_if (ap_isN (ae_var (pv 1)) ae_non) (ass_one (as_ret (ae_isN (ae_var (pv 0)) ae_non))) ass_nil)
    (ass_cons (as_if (ap_v (ae_callB call_isi ca_isi rfl Z.n_isinstance bo_isinstance (ar_cons (ae_var (pv 1)) (ar_cons (ae_ty rfl Z.n_bool bo_bool) ar_nil)))) (ass_one (as_ret (ae_and (ae_callB call_isi ca_isi rfl Z.n_isinstance bo_isinstance (ar_cons (ae_var (pv 0)) (ar_cons (ae_ty rfl Z.n_bool bo_bool) ar_nil))) (ae_and1 (ae_eq gk hu (ae_var (pv 0)) (ae_var (pv 1))))))) ass_nil)
    (ass_cons (as_if (ap_v (ae_callB call_isi ca_isi rfl Z.n_isinstance bo_isinstance (ar_cons (ae_var (pv 1)) (ar_cons (ae_ty rfl Z.n_int bo_int) ar_nil)))) (ass_one (as_ret (ae_and (ae_callB call_isi ca_isi rfl Z.n_isinstance bo_isinstance (ar_cons (ae_var (pv 0)) (ar_cons (ae_ty rfl Z.n_int bo_int) ar_nil))) (ae_and (ae_not (ae_callB call_isi ca_isi rfl Z.n_isinstance bo_isinstance (ar_cons (ae_var (pv 0)) (ar_cons (ae_ty rfl Z.n_bool bo_bool) ar_nil)))) (ae_and1 (ae_eq gk hu (ae_var (pv 0)) (ae_var (pv 1)))))))) ass_nil)
    (ass_cons (as_if (ap_v (ae_callB call_isi ca_isi rfl Z.n_isinstance bo_isinstance (ar_cons (ae_var (pv 1)) (ar_cons (ae_ty rfl Z.n_str bo_str) ar_nil)))) (ass_one (as_ret (ae_and (ae_callB call_isi ca_isi rfl Z.n_isinstance bo_isinstance (ar_cons (ae_var (pv 0)) (ar_cons (ae_ty rfl Z.n_str bo_str) ar_nil))) (ae_and1 (ae_eq gk hu (ae_var (pv 0)) (ae_var (pv 1))))))) ass_nil)
    (ass_cons (as_if (AW.ap (aw_or (ap_ne gk hu (ae_callB call_isi ca_isi rfl Z.n_isinstance bo_isinstance (ar_cons (ae_var (pv 1)) (ar_cons (ae_ty rfl Z.n_tuple bo_tuple) ar_nil))) (ae_callB call_isi ca_isi rfl Z.n_isinstance bo_isinstance (ar_cons (ae_var (pv 0)) (ar_cons (ae_ty rfl Z.n_tuple bo_tuple) ar_nil)))) (aw_or1 (ap_ne gk hu (ae_callB call_isi ca_isi rfl Z.n_isinstance bo_isinstance (ar_cons (ae_var (pv 1)) (ar_cons (ae_ty rfl Z.n_list bo_list) ar_nil))) (ae_callB call_isi ca_isi rfl Z.n_isinstance bo_isinstance (ar_cons (ae_var (pv 0)) (ar_cons (ae_ty rfl Z.n_list bo_list) ar_nil))))))) (ass_one (as_ret ae_bl)) ass_nil)
    (ass_cons (as_if (ap_ne gk hu (ae_callB call_len ca_len rfl Z.n_len bo_len (ar_cons (ae_var (pv 0)) ar_nil)) (ae_callB call_len ca_len rfl Z.n_len bo_len (ar_cons (ae_var (pv 1)) ar_nil))) (ass_one (as_ret ae_bl)) ass_nil)
    (ass_one (as_ret (ae_callB (cr_all rfl) ca_all rfl Z.n_all bo_all (ar_cons (ae_lcO (own := [("_law_at", 2)]) rfl sc.nd (ai_range1 rfl Z.n_range (ar_cons (ae_callB call_len ca_len rfl Z.n_len bo_len (ar_cons (ae_var (pv 1)) ar_nil)) ar_nil)) (blkOk_by (by first | (show blkC N__law_same (defScope s__law_same) _ _ = true; decide +kernel) | rfl)) (by decide) (fun _ _ _ _ _ => (ag_name (i := 2) sc.nd rfl (by first | exact .inl rfl | exact .inr rfl))) (fun _ _ _ _ _ => aps_nil) (fun _ _ _ _ _ => (av_of (ae_callO gk O__law_same a__law_same hr (by omega) rfl tk_none (an_cons (av_of (ae_ix gk (ae_var (pv 0)) (ae_var (pv 2)) (fun _ _ => rfl))) (an_cons (av_of (ae_ix gk (ae_var (pv 1)) (ae_var (pv 2)) (fun _ _ => rfl))) an_nil)))))) ar_nil))))))))))
theorem b__law_sizes {P : Program} {w : World} {K : PySem.W.Frag} {mg : Str → Option Value} {base : Heap} {f : Addr} {cdv : Value} {A : Around} {outer : List Env} {s : Shared} {H : Hp} {EX : XK} {G : Gx} {E : AExc → AEnv → AH → Prop} (Z : Blt K mg) (O__law_take : Ok P w K mg base "_law_take" s__law_take 1 2 P__law_take (upc m__law_take)) (hr : Room 1 (A.deeper (envOfC "_law_sizes" (defScope s__law_sizes) s.heap.objs.size f cdv))) (gk : G.K = K) (tk : Takes (bx P w K mg base N__law_sizes "_law_sizes" (defScope s__law_sizes) f cdv A outer s H EX) (cW G E)) :
    ASs (bx P w K mg base N__law_sizes "_law_sizes" (defScope s__law_sizes) f cdv A outer s H EX) G (defBody s__law_sizes) (t__law_sizes E) := by
  subst gk
  have gk : G.K = G.K := rfl
  have sc := c__law_sizes
  have hu := hr.units
  exact (ass_one (as_ret (ae_callTy call_tuple_of ca_tup rfl Z.n_tuple bo_tuple (ar_cons (ae_lcO (own := [("_law_mcask", 3)]) rfl sc.nd (ai_range1 rfl Z.n_range (ar_cons (ae_add gk ae_int (ae_callO gk O__law_take a__law_take hr (by decide) rfl tk (an_cons (av_of (ae_var (pv 0))) (an_cons (av_of (ae_var (pv 1))) an_nil)))) ar_nil)) (blkOk_by (by first | (show blkC N__law_sizes (defScope s__law_sizes) _ _ = true; decide +kernel) | rfl)) (by decide) (fun _ _ _ _ _ => (ag_name (i := 3) sc.nd rfl (by first | exact .inl rfl | exact .inr rfl))) (fun _ _ _ _ _ => aps_nil) (fun _ _ _ _ _ => (av_of (ae_add gk ae_int (ae_callO gk O__law_take a__law_take hr (by decide) rfl tk_none (an_cons (av_of (ae_var (pv 0))) (an_cons (av_of (ae_var (pv 2))) an_nil))))))) ar_nil))))
theorem b__law_any_sizes {P : Program} {w : World} {K : PySem.W.Frag} {mg : Str → Option Value} {base : Heap} {f : Addr} {cdv : Value} {A : Around} {outer : List Env} {s : Shared} {H : Hp} {EX : XK} {G : Gx} {E : AExc → AEnv → AH → Prop} (Z : Blt K mg) (O__law_sizes : Ok P w K mg base "_law_sizes" s__law_sizes 2 3 P__law_sizes (upc m__law_sizes)) (O__law_pick : Ok P w K mg base "_law_pick" s__law_pick 2 2 P__law_pick (upc m__law_pick)) (hr : Room 2 (A.deeper (envOfC "_law_any_sizes" (defScope s__law_any_sizes) s.heap.objs.size f cdv))) (gk : G.K = K) (tk : Takes (bx P w K mg base N__law_any_sizes "_law_any_sizes" (defScope s__law_any_sizes) f cdv A outer s H EX) (cW G E)) :
    ASs (bx P w K mg base N__law_any_sizes "_law_any_sizes" (defScope s__law_any_sizes) f cdv A outer s H EX) G (defBody s__law_any_sizes) (t__law_any_sizes E) := by
  subst gk
  have gk : G.K = G.K := rfl
  have sc := c__law_any_sizes
  have hu := hr.units
  exact (ass_one (as_ret (ae_callO gk O__law_sizes a__law_sizes hr (by decide) rfl tk (an_cons (av_of (ae_var (pv 0))) (an_cons (av_of ae_int) (an_cons (av_of (ae_callO gk O__law_pick a__law_pick hr (by decide) rfl tk (an_cons (av_of (ae_var (pv 0))) (an_cons (av_of (ae_lst (aa_cons (av_of ae_int) (aa_cons (av_of ae_int) (aa_cons (av_of ae_int) (aa_cons (av_of ae_int) aa_nil)))))) an_nil)))) an_nil))))))
theorem b__law_stand {P : Program} {w : World} {K : PySem.W.Frag} {mg : Str → Option Value} {base : Heap} {f : Addr} {cdv : Value} {A : Around} {outer : List Env} {s : Shared} {H : Hp} {EX : XK} {G : Gx} {E : AExc → AEnv → AH → Prop} (Z : Blt K mg) (O__law_take : Ok P w K mg base "_law_take" s__law_take 1 2 P__law_take (upc m__law_take)) (hr : Room 1 (A.deeper (envOfC "_law_stand" (defScope s__law_stand) s.heap.objs.size f cdv))) (gk : G.K = K) (tk : Takes (bx P w K mg base N__law_stand "_law_stand" (defScope s__law_stand) f cdv A outer s H EX) (cW G E)) :
    ASs (bx P w K mg base N__law_stand "_law_stand" (defScope s__law_stand) f cdv A outer s H EX) G (defBody s__law_stand) (t__law_stand E) := by
  subst gk
  have gk : G.K = G.K := rfl
  have sc := c__law_stand
  have hu := hr.units
  exact (ass_cons (as_asg (av_of (ae_tup aa_nil)) (ag_name (i := 4) sc.nd rfl (by first | exact .inl rfl | exact .inr rfl)))
    (ass_cons (as_set (i := 5) sc.nd rfl (by first | exact .inl rfl | exact .inr rfl) (ae_mulT gk (ae_lst (aa_cons (av_of ae_int) aa_nil)) (ae_callB call_len ca_len rfl Z.n_len bo_len (ar_cons (ae_var (pv 1)) ar_nil))))
    (ass_cons (as_for (passes_of rfl) rfl (ai_range1 rfl Z.n_range (ar_cons (ae_callO gk O__law_take a__law_take hr (by decide) rfl tk (an_cons (av_of (ae_var (pv 0))) (an_cons (av_of (ae_add gk (ae_var (pv 2)) ae_int)) an_nil))) ar_nil)) (ag_name (i := 6) sc.nd rfl (by first | exact .inl rfl | exact .inr rfl)) (ass_cons (as_asg (av_of (ae_sub (ae_callO gk O__law_take a__law_take hr (by decide) rfl tk (an_cons (av_of (ae_var (pv 0))) (an_cons (av_of (ae_add gk (ae_callB call_len ca_len rfl Z.n_len bo_len (ar_cons (ae_var (pv 1)) ar_nil)) (ae_var (pv 3)))) an_nil))) (ae_var (pv 3)))) (ag_name (i := 7) sc.nd rfl (by first | exact .inl rfl | exact .inr rfl)))
    (ass_one (as_if (ap_lt (ae_var (pv 7)) ae_int) (ass_one (as_asg (av_of (ae_add gk (ae_var (pv 4)) (ae_tup (aa_cons (av_of (ae_neg ae_int)) aa_nil)))) (ag_name (i := 4) sc.nd rfl (by first | exact .inl rfl | exact .inr rfl)))) (ass_one (as_if (ap_lt (ae_ix gk (ae_var (pv 5)) (ae_var (pv 7)) (fun _ _ => rfl)) (ae_ix gk (ae_var (pv 1)) (ae_var (pv 7)) (fun _ _ => rfl))) (ass_cons (as_asg (av_of (ae_add gk (ae_ix gk (ae_var (pv 5)) (ae_var (pv 7)) (fun _ _ => rfl)) ae_int)) (ag_set (ae_var (pv 5)) (ae_var (pv 7)) (pg_sub (ae_var (pv 5)).pe (ae_var (pv 7)).pe set_list)))
    (ass_one (as_asg (av_of (ae_add gk (ae_var (pv 4)) (ae_tup (aa_cons (av_of (ae_var (pv 7))) aa_nil)))) (ag_name (i := 4) sc.nd rfl (by first | exact .inl rfl | exact .inr rfl))))) ass_nil))))))
    (ass_one (as_ret (ae_var (pv 4)))))))
theorem b__law_load {P : Program} {w : World} {K : PySem.W.Frag} {mg : Str → Option Value} {base : Heap} {f : Addr} {cdv : Value} {A : Around} {outer : List Env} {s : Shared} {H : Hp} {EX : XK} {G : Gx} {E : AExc → AEnv → AH → Prop} (Z : Blt K mg) (O__law_take : Ok P w K mg base "_law_take" s__law_take 1 2 P__law_take (upc m__law_take)) (hr : Room 1 (A.deeper (envOfC "_law_load" (defScope s__law_load) s.heap.objs.size f cdv))) (gk : G.K = K) (tk : Takes (bx P w K mg base N__law_load "_law_load" (defScope s__law_load) f cdv A outer s H EX) (cW G E)) :
    ASs (bx P w K mg base N__law_load "_law_load" (defScope s__law_load) f cdv A outer s H EX) G (defBody s__law_load) (t__law_load E) := by
  subst gk
  have gk : G.K = G.K := rfl
  have sc := c__law_load
  have hu := hr.units
  exact (ass_one (as_ret (ae_callTy call_tuple_of ca_tup rfl Z.n_tuple bo_tuple (ar_cons (ae_lcO (own := [("_law_size", 2)]) rfl sc.nd (ai_sq gk (av_of (ae_var (pv 1)))) (blkOk_by (by first | (show blkC N__law_load (defScope s__law_load) _ _ = true; decide +kernel) | rfl)) (by decide) (fun _ _ _ _ _ => (ag_name (i := 2) sc.nd rfl (by first | exact .inl rfl | exact .inr rfl))) (fun _ _ _ _ _ => aps_nil) (fun _ _ _ _ _ => (av_of (ae_callO gk O__law_take a__law_take hr (by decide) rfl tk_none (an_cons (av_of (ae_var (pv 0))) (an_cons (av_of (ae_add gk (ae_var (pv 2)) ae_int)) an_nil)))))) ar_nil))))
theorem b__law_full_load {P : Program} {w : World} {K : PySem.W.Frag} {mg : Str → Option Value} {base : Heap} {f : Addr} {cdv : Value} {A : Around} {outer : List Env} {s : Shared} {H : Hp} {EX : XK} {G : Gx} {E : AExc → AEnv → AH → Prop} (Z : Blt K mg) (O__law_take : Ok P w K mg base "_law_take" s__law_take 1 2 P__law_take (upc m__law_take)) (O__law_load : Ok P w K mg base "_law_load" s__law_load 2 2 P__law_load (upc m__law_load)) (hr : Room 2 (A.deeper (envOfC "_law_full_load" (defScope s__law_full_load) s.heap.objs.size f cdv))) (gk : G.K = K) (tk : Takes (bx P w K mg base N__law_full_load "_law_full_load" (defScope s__law_full_load) f cdv A outer s H EX) (cW G E)) :
    ASs (bx P w K mg base N__law_full_load "_law_full_load" (defScope s__law_full_load) f cdv A outer s H EX) G (defBody s__law_full_load) (t__law_full_load E) := by
  subst gk
  have gk : G.K = G.K := rfl
  have sc := c__law_full_load
  have hu := hr.units
  exact (ass_cons (as_asg (av_of (ae_callO gk O__law_take a__law_take hr (by decide) rfl tk (an_cons (av_of (ae_var (pv 0))) (an_cons (av_of ae_int) an_nil)))) (ag_name (i := 2) sc.nd rfl (by first | exact .inl rfl | exact .inr rfl)))
    (ass_cons (as_if (ap_eq gk hu (ae_var (pv 2)) ae_int) (ass_one (as_ret (ae_callTy call_tuple_of ca_tup rfl Z.n_tuple bo_tuple (ar_cons (ae_lcO (own := [("_law_size", 3)]) rfl sc.nd (ai_sq gk (av_of (ae_var (pv 1)))) (blkOk_by (by first | (show blkC N__law_full_load (defScope s__law_full_load) _ _ = true; decide +kernel) | rfl)) (by decide) (fun _ _ _ _ _ => (ag_name (i := 3) sc.nd rfl (by first | exact .inl rfl | exact .inr rfl))) (fun _ _ _ _ _ => aps_nil) (fun _ _ _ _ _ => (av_of (ae_sub (ae_var (pv 3)) (ae_callO gk O__law_take a__law_take hr (by decide) rfl tk_none (an_cons (av_of (ae_var (pv 0))) (an_cons (av_of ae_int) an_nil))))))) ar_nil)))) ass_nil)
    (ass_one (as_ret (ae_callO gk O__law_load a__law_load hr (by decide) rfl tk (an_cons (av_of (ae_var (pv 0))) (an_cons (av_of (ae_var (pv 1))) an_nil)))))))
theorem b__law_told {P : Program} {w : World} {K : PySem.W.Frag} {mg : Str → Option Value} {base : Heap} {f : Addr} {cdv : Value} {A : Around} {outer : List Env} {s : Shared} {H : Hp} {EX : XK} {G : Gx} {E : AExc → AEnv → AH → Prop} {fl : Addr} {sp : ASp} (Z : Blt K mg)  (hr : Room 0 (A.deeper (envOfC "_law_told" (defScope s__law_told) s.heap.objs.size f cdv))) (gk : G.K = K) (tk : Takes (bx P w K mg base N__law_told "_law_told" (defScope s__law_told) f cdv A outer s H EX) (cW G E)) (hL : LamHas (bx P w K mg base N__law_told "_law_told" (defScope s__law_told) f cdv A outer s H EX) G fl 0 sp) :
    ASs (bx P w K mg base N__law_told "_law_told" (defScope s__law_told) f cdv A outer s H EX) G (defBody s__law_told) (t__law_told_v2 fl sp E) := by
  subst gk
  have gk : G.K = G.K := rfl
  have sc := c__law_told
  have hu := hr.units
  exact (ass_cons (as_asg (av_of (ae_tup (aa_cons (av_of ae_str) (aa_cons (av_of ae_non) aa_nil)))) (ag_name (i := 1) sc.nd rfl (by first | exact .inl rfl | exact .inr rfl)))
    (ass_cons (as_try gk rfl rfl sc.nd tk (fun pn xe G E gk gl tk => by have hL := hL.to gl pn xe; exact (ass_one (as_asg (av_of (ae_tup (aa_cons (av_of ae_str) (aa_cons (av_of (ae_lam0 hL gk rfl (i := 0) rfl (by first | exact .inl rfl | exact .inr (.inl rfl) | exact .inr (.inr rfl)) tk)) aa_nil)))) (ag_name (i := 1) sc.nd rfl (by first | exact .inl rfl | exact .inr rfl))))) (HdA.cons rfl rfl rfl Z.h_NoDrop Z.x_NoDrop rfl (by first | exact .inl rfl | exact .inr rfl) (by first | exact .inl rfl | exact .inr rfl) (by decide) (fun G gk => (xv_tup (xvs_cons xv_str (xvs_cons (xv_fld gk Z.f_rank rfl (by first | exact .inl rfl | exact .inr (.inl rfl) | exact .inr (.inr rfl))) xvs_nil)))) rfl rfl rfl rfl (HdA.cons rfl rfl rfl Z.h_TooMany Z.x_TooMany rfl (by first | exact .inl rfl | exact .inr rfl) (by first | exact .inl rfl | exact .inr rfl) (by decide) (fun G gk => (xv_tup (xvs_cons xv_str (xvs_cons (xv_fld gk Z.f_most rfl (by first | exact .inl rfl | exact .inr (.inl rfl) | exact .inr (.inr rfl))) xvs_nil)))) rfl rfl rfl rfl HdA.nil)))
    (ass_one (as_ret (ae_var (pv 1))))))
theorem b_law {P : Program} {w : World} {K : PySem.W.Frag} {mg : Str → Option Value} {base : Heap} {f : Addr} {cdv : Value} {A : Around} {outer : List Env} {s : Shared} {H : Hp} {EX : XK} {G : Gx} {E : AExc → AEnv → AH → Prop} (Z : Blt K mg) (O__law_open : Ok P w K mg base "_law_open" s__law_open 1 1 P__law_open (upc m__law_open)) (O__law_any_sizes : Ok P w K mg base "_law_any_sizes" s__law_any_sizes 3 1 P__law_any_sizes (upc m__law_any_sizes)) (O__law_full_load : Ok P w K mg base "_law_full_load" s__law_full_load 3 2 P__law_full_load (upc m__law_full_load)) (O__law_same : Ok P w K mg base "_law_same" s__law_same 9 2 P__law_same (upc (m__law_same 8))) (O_room : Ok P w K mg base "room" s_room 3 2 P_room (upc m_room)) (O_stand_of : Ok P w K mg base "stand_of" s_stand_of 3 2 P_stand_of (upc m_stand_of)) (O_counts_of : Ok P w K mg base "counts_of" s_counts_of 3 2 P_counts_of (upc m_counts_of)) (O__law_stand : Ok P w K mg base "_law_stand" s__law_stand 2 4 P__law_stand (upc m__law_stand)) (O__law_take : Ok P w K mg base "_law_take" s__law_take 1 2 P__law_take (upc m__law_take)) (O_hidden : Ok P w K mg base "hidden" s_hidden 3 2 P_hidden (upc m_hidden_v1)) (O__law_pick : Ok P w K mg base "_law_pick" s__law_pick 2 2 P__law_pick (upc m__law_pick)) {ga__law_told : Addr} {fd__law_told : FuncData} (F__law_told : FunD K "_law_told" "_law_told" (defArgs s__law_told) (defBody s__law_told) (defScope s__law_told) [] [] ga__law_told fd__law_told) (g__law_told : mg "_law_told" = some (.ref ga__law_told)) (lm : MakesL K mg base ("law" ++ ".<locals>." ++ "<lambda>") cdv) (hr : Room 9 (A.deeper (envOfC "law" (defScope s_law) s.heap.objs.size f cdv))) (gk : G.K = K) (tk : Takes (bx P w K mg base N_law "law" (defScope s_law) f cdv A outer s H EX) (cW G E)) :
    ASs (bx P w K mg base N_law "law" (defScope s_law) f cdv A outer s H EX) G (defBody s_law) (t_law E) := by
  subst gk
  have gk : G.K = G.K := rfl
  have sc := c_law
  have hu := hr.units
  exact (ass_cons (as_set (i := 1) sc.nd rfl (by first | exact .inl rfl | exact .inr rfl) (ae_callO gk O__law_open a__law_open hr (by decide) rfl tk (an_cons (av_of (ae_var (pv 0))) an_nil)))
    (ass_cons (as_prom 1 (as_for (passes_of rfl) rfl (ai_range1 rfl Z.n_range (ar_cons ae_int ar_nil)) (ag_name (i := 2) sc.nd rfl (by first | exact .inl rfl | exact .inr rfl)) (ass_cons (as_asg (av_of (ae_callO gk O__law_any_sizes a__law_any_sizes hr (by decide) rfl tk (an_cons (av_of (ae_var (pv 1))) an_nil))) (ag_name (i := 3) sc.nd rfl (by first | exact .inl rfl | exact .inr rfl)))
    (ass_cons (as_asg (av_of (ae_callO gk O__law_full_load a__law_full_load hr (by decide) rfl tk (an_cons (av_of (ae_var (pv 1))) (an_cons (av_of (ae_var (pv 3))) an_nil)))) (ag_name (i := 4) sc.nd rfl (by first | exact .inl rfl | exact .inr rfl)))
    (ass_cons (as_if (ap_not (ap_v (ae_callO gk O__law_same a__law_same hr (by decide) rfl tk (an_cons (av_of (ae_callKO gk O_room (kw_room_1_0) hr (by decide) rfl tk (ak_cons (av_of (ae_var (pv 4))) (ak_cons (av_of (ae_var (pv 3))) ak_nil)))) (an_cons (av_of (ae_callTy call_tuple_of ca_tup rfl Z.n_tuple bo_tuple (ar_cons (ae_lcO (own := [("_law_at", 5)]) rfl sc.nd (ai_range1 rfl Z.n_range (ar_cons (ae_callB call_len ca_len rfl Z.n_len bo_len (ar_cons (ae_var (pv 4)) ar_nil)) ar_nil)) (blkOk_by (by first | (show blkC N_law (defScope s_law) _ _ = true; decide +kernel) | rfl)) (by decide) (fun _ _ _ _ _ => (ag_name (i := 5) sc.nd rfl (by first | exact .inl rfl | exact .inr rfl))) (fun _ _ _ _ _ => aps_nil) (fun _ _ _ _ _ => (av_of (ae_sub (ae_ix gk (ae_var (pv 3)) (ae_var (pv 5)) (fun _ _ => rfl)) (ae_ix gk (ae_var (pv 4)) (ae_var (pv 5)) (fun _ _ => rfl)))))) ar_nil))) an_nil))))) (ass_one (as_ret ae_bl)) ass_nil)
    (ass_cons (as_asg (av_of (ae_tup aa_nil)) (ag_name (i := 6) sc.nd rfl (by first | exact .inl rfl | exact .inr rfl)))
    (ass_cons (as_for (passes_of rfl) rfl (ai_range1 rfl Z.n_range (ar_cons (ae_callB call_len ca_len rfl Z.n_len bo_len (ar_cons (ae_var (pv 4)) ar_nil)) ar_nil)) (ag_name (i := 7) sc.nd rfl (by first | exact .inl rfl | exact .inr rfl)) (ass_one (as_asg (av_of (ae_add gk (ae_var (pv 6)) (ae_mulT gk (ae_tup (aa_cons (av_of (ae_var (pv 7))) aa_nil)) (ae_ix gk (ae_var (pv 4)) (ae_var (pv 7)) (fun _ _ => rfl))))) (ag_name (i := 6) sc.nd rfl (by first | exact .inl rfl | exact .inr rfl)))))
    (ass_cons (as_asg (av_of (ae_if (ap_le (ae_callB call_len ca_len rfl Z.n_len bo_len (ar_cons (ae_var (pv 6)) ar_nil)) ae_int) (ae_tup (aa_cons (av_of ae_str) (aa_cons (av_of (ae_var (pv 6))) aa_nil))) (ae_tup (aa_cons (av_of ae_str) (aa_cons (av_of ae_int) aa_nil))))) (ag_name (i := 8) sc.nd rfl (by first | exact .inl rfl | exact .inr rfl)))
    (ass_cons (as_if (ap_not (ap_v (ae_callO gk O__law_same a__law_same hr (by decide) rfl tk (an_cons (av_of (ae_lamcall (ps := []) (kg := 4) (kl := 3) gk F__law_told g__law_told a__law_told c__law_told rfl rfl tk (hr.mono (by decide)) (al_hereM gk lm rfl (lamP_by (by first | (show lamPB (defScope s_law) _ N_law [] = true; decide +kernel) | rfl)) an_nil) (lamP_by (by first | (show lamPB (defScope s_law) _ N_law [] = true; decide +kernel) | rfl)) (by decide) (fun _ _ _ _ _ us hl => match us, hl with | [], _ => rfl) (fun _ _ _ _ _ _ _ _ _ hr gk tk => by have hu := hr.units; exact (ae_callO gk O_stand_of a_stand_of hr (by decide) rfl tk (an_cons (av_of (ae_var (pv 3))) (an_cons (av_of (ae_var (pv 4))) an_nil)))) (fun cdv s H EX G' E' f sp hr gk tk hL => b__law_told Z  (hr.mono (by decide)) gk tk hL))) (an_cons (av_of (ae_var (pv 8))) an_nil))))) (ass_one (as_ret ae_bl)) ass_nil)
    (ass_cons (as_if (AW.ap (aw_and (ap_le (ae_callB call_len ca_len rfl Z.n_len bo_len (ar_cons (ae_var (pv 6)) ar_nil)) ae_int) (aw_and1 (ap_not (ap_v (ae_callO gk O__law_same a__law_same hr (by decide) rfl tk (an_cons (av_of (ae_callO gk O_counts_of a_counts_of hr (by decide) rfl tk (an_cons (av_of (ae_var (pv 3))) (an_cons (av_of (ae_callKO gk O_stand_of (kw_stand_of_1_0) hr (by decide) rfl tk (ak_cons (av_of (ae_var (pv 4))) (ak_cons (av_of (ae_var (pv 3))) ak_nil)))) an_nil)))) (an_cons (av_of (ae_var (pv 4))) an_nil)))))))) (ass_one (as_ret ae_bl)) ass_nil)
    (ass_cons (as_asg (av_of (ae_callO gk O__law_stand a__law_stand hr (by decide) rfl tk (an_cons (av_of (ae_var (pv 1))) (an_cons (av_of (ae_var (pv 3))) (an_cons (av_of ae_int) (an_cons (av_of ae_int) an_nil)))))) (ag_name (i := 9) sc.nd rfl (by first | exact .inl rfl | exact .inr rfl)))
    (ass_cons (as_asg (av_of (ae_callO gk O__law_take a__law_take hr (by decide) rfl tk (an_cons (av_of (ae_var (pv 1))) (an_cons (av_of (ae_add gk (ae_callB call_len ca_len rfl Z.n_len bo_len (ar_cons (ae_var (pv 9)) ar_nil)) ae_int)) an_nil)))) (ag_name (i := 10) sc.nd rfl (by first | exact .inl rfl | exact .inr rfl)))
    (ass_cons (as_if (AW.ap (aw_or (ap_not (ap_v (ae_callO gk O__law_same a__law_same hr (by decide) rfl tk (an_cons (av_of (ae_callO gk O_hidden a_hidden hr (by decide) rfl tk (an_cons (av_of (ae_var (pv 9))) (an_cons (av_of (ae_var (pv 10))) an_nil)))) (an_cons (av_of (ae_slice gk (ae_var (pv 9)) ao_none (ao_some (ae_var (pv 10))))) an_nil))))) (aw_or1 (ap_ne gk hu (ae_callKO gk O_hidden (kw_hidden_1_0) hr (by decide) rfl tk (ak_cons (av_of (ae_callB call_len ca_len rfl Z.n_len bo_len (ar_cons (ae_var (pv 9)) ar_nil))) (ak_cons (av_of (ae_var (pv 9))) ak_nil))) (ae_var (pv 9)))))) (ass_one (as_ret ae_bl)) ass_nil)
    (ass_cons (as_asg (av_of (ae_callO gk O__law_pick a__law_pick hr (by decide) rfl tk (an_cons (av_of (ae_var (pv 1))) (an_cons (av_of (ae_lst (aa_cons (av_of (ae_neg ae_int)) (aa_cons (av_of (ae_add gk (ae_callB call_len ca_len rfl Z.n_len bo_len (ar_cons (ae_var (pv 9)) ar_nil)) ae_int)) (aa_cons (av_of (ae_sub (ae_neg ae_int) (ae_callO gk O__law_take a__law_take hr (by decide) rfl tk (an_cons (av_of (ae_var (pv 1))) (an_cons (av_of ae_int) an_nil))))) (aa_cons (av_of (ae_add gk ae_int (ae_callO gk O__law_take a__law_take hr (by decide) rfl tk (an_cons (av_of (ae_var (pv 1))) (an_cons (av_of (ae_pow ae_int ae_int)) an_nil))))) aa_nil)))))) an_nil)))) (ag_name (i := 11) sc.nd rfl (by first | exact .inl rfl | exact .inr rfl)))
    (ass_one (as_if (ap_not (ap_v (ae_callO gk O__law_same a__law_same hr (by decide) rfl tk (an_cons (av_of (ae_lamcall (ps := []) (kg := 4) (kl := 3) gk F__law_told g__law_told a__law_told c__law_told rfl rfl tk (hr.mono (by decide)) (al_hereM gk lm rfl (lamP_by (by first | (show lamPB (defScope s_law) _ N_law [] = true; decide +kernel) | rfl)) an_nil) (lamP_by (by first | (show lamPB (defScope s_law) _ N_law [] = true; decide +kernel) | rfl)) (by decide) (fun _ _ _ _ _ us hl => match us, hl with | [], _ => rfl) (fun _ _ _ _ _ _ _ _ _ hr gk tk => by have hu := hr.units; exact (ae_callO gk O_hidden a_hidden hr (by decide) rfl tk (an_cons (av_of (ae_var (pv 9))) (an_cons (av_of (ae_var (pv 11))) an_nil)))) (fun cdv s H EX G' E' f sp hr gk tk hL => b__law_told Z  (hr.mono (by decide)) gk tk hL))) (an_cons (av_of (ae_tup (aa_cons (av_of ae_str) (aa_cons (av_of (ae_var (pv 11))) aa_nil)))) an_nil))))) (ass_one (as_ret ae_bl)) ass_nil))))))))))))))))
    (ass_cons (as_asg (av_of (ae_mulT gk (ae_tup (aa_cons (av_of ae_int) aa_nil)) ae_int)) (ag_name (i := 12) sc.nd rfl (by first | exact .inl rfl | exact .inr rfl)))
    (ass_cons (as_asg (av_of (ae_lst (aa_cons (av_of (ae_callO gk O_stand_of a_stand_of hr (by decide) rfl tk (an_cons (av_of (ae_var (pv 12))) (an_cons (av_of (ae_var (pv 12))) an_nil)))) (aa_cons (av_of (ae_lamcall (ps := []) (kg := 4) (kl := 3) gk F__law_told g__law_told a__law_told c__law_told rfl rfl tk (hr.mono (by decide)) (al_hereM gk lm rfl (lamP_by (by first | (show lamPB (defScope s_law) _ N_law [] = true; decide +kernel) | rfl)) an_nil) (lamP_by (by first | (show lamPB (defScope s_law) _ N_law [] = true; decide +kernel) | rfl)) (by decide) (fun _ _ _ _ _ us hl => match us, hl with | [], _ => rfl) (fun _ _ _ _ _ _ _ _ _ hr gk tk => by have hu := hr.units; exact (ae_callO gk O_stand_of a_stand_of hr (by decide) rfl tk (an_cons (av_of (ae_add gk (ae_mulT gk (ae_tup (aa_cons (av_of ae_int) aa_nil)) ae_int) (ae_tup (aa_cons (av_of ae_int) aa_nil)))) (an_cons (av_of (ae_add gk (ae_mulT gk (ae_tup (aa_cons (av_of ae_int) aa_nil)) ae_int) (ae_tup (aa_cons (av_of ae_int) aa_nil)))) an_nil)))) (fun cdv s H EX G' E' f sp hr gk tk hL => b__law_told Z  (hr.mono (by decide)) gk tk hL))) aa_nil)))) (ag_name (i := 13) sc.nd rfl (by first | exact .inl rfl | exact .inr rfl)))
    (ass_one (as_ret (ae_and (ae_eq gk hu (ae_callB call_len ca_len rfl Z.n_len bo_len (ar_cons (ae_ix gk (ae_var (pv 13)) ae_int (fun _ _ => rfl)) ar_nil)) ae_int) (ae_and1 (ae_eq gk hu (ae_ix gk (ae_var (pv 13)) ae_int (fun _ _ => rfl)) (ae_tup (aa_cons (av_of ae_str) (aa_cons (av_of ae_int) aa_nil))))))))))))
end Ab
namespace Ab
open PySem PySem.Spec PyProof.Rows L2 RZ
theorem o_look_sizes {P : Program} {w : World} {K : PySem.W.Frag} {mg : Str → Option Value} {base : Heap} {f : Addr} {fd : FuncData} (Z : Blt K mg) (F : FunD K "look_sizes" "look_sizes" (defArgs s_look_sizes) (defBody s_look_sizes) (defScope s_look_sizes) [] [] f fd) (hm : mg "look_sizes" = some (.ref f))  : Ok P w K mg base "look_sizes" s_look_sizes 1 1 P_look_sizes (upc m_look_sizes) :=
  Ok.mk' upc.m hm F c_look_sizes rfl (fun cdv A outer s H EX G E hr gk tk => b_look_sizes Z  hr gk tk) q_look_sizes
theorem o_look_counts {P : Program} {w : World} {K : PySem.W.Frag} {mg : Str → Option Value} {base : Heap} {f : Addr} {fd : FuncData} (Z : Blt K mg) (F : FunD K "look_counts" "look_counts" (defArgs s_look_counts) (defBody s_look_counts) (defScope s_look_counts) [] [] f fd) (hm : mg "look_counts" = some (.ref f)) (O_look_sizes : Ok P w K mg base "look_sizes" s_look_sizes 1 1 P_look_sizes (upc m_look_sizes)) : Ok P w K mg base "look_counts" s_look_counts 2 2 P_look_counts (upc m_look_counts) :=
  Ok.mk' upc.m hm F c_look_counts rfl (fun cdv A outer s H EX G E hr gk tk => b_look_counts Z O_look_sizes hr gk tk) q_look_counts
theorem o_look_stand {P : Program} {w : World} {K : PySem.W.Frag} {mg : Str → Option Value} {base : Heap} {f : Addr} {fd : FuncData} (Z : Blt K mg) (F : FunD K "look_stand" "look_stand" (defArgs s_look_stand) (defBody s_look_stand) (defScope s_look_stand) [] [] f fd) (hm : mg "look_stand" = some (.ref f)) (O_look_sizes : Ok P w K mg base "look_sizes" s_look_sizes 1 1 P_look_sizes (upc m_look_sizes)) : Ok P w K mg base "look_stand" s_look_stand 2 2 P_look_stand (upc m_look_stand) :=
  Ok.mk' upc.m hm F c_look_stand rfl (fun cdv A outer s H EX G E hr gk tk => b_look_stand Z O_look_sizes hr gk tk) q_look_stand
theorem o_counted {P : Program} {w : World} {K : PySem.W.Frag} {mg : Str → Option Value} {base : Heap} {f : Addr} {fd : FuncData} (Z : Blt K mg) (F : FunD K "counted" "counted" (defArgs s_counted) (defBody s_counted) (defScope s_counted) [] [] f fd) (hm : mg "counted" = some (.ref f))  : Ok P w K mg base "counted" s_counted 1 2 P_counted (upc m_counted) :=
  Ok.mk' upc.m hm F c_counted rfl (fun cdv A outer s H EX G E hr gk tk => b_counted Z  hr gk tk) q_counted
theorem o_counts_of {P : Program} {w : World} {K : PySem.W.Frag} {mg : Str → Option Value} {base : Heap} {f : Addr} {fd : FuncData} (Z : Blt K mg) (F : FunD K "counts_of" "counts_of" (defArgs s_counts_of) (defBody s_counts_of) (defScope s_counts_of) [] [] f fd) (hm : mg "counts_of" = some (.ref f)) (O_look_stand : Ok P w K mg base "look_stand" s_look_stand 2 2 P_look_stand (upc m_look_stand)) (O_counted : Ok P w K mg base "counted" s_counted 1 2 P_counted (upc m_counted)) : Ok P w K mg base "counts_of" s_counts_of 3 2 P_counts_of (upc m_counts_of) :=
  Ok.mk' upc.m hm F c_counts_of rfl (fun cdv A outer s H EX G E hr gk tk => b_counts_of Z O_look_stand O_counted hr gk tk) q_counts_of
theorem o_stand_of {P : Program} {w : World} {K : PySem.W.Frag} {mg : Str → Option Value} {base : Heap} {f : Addr} {fd : FuncData} (Z : Blt K mg) (F : FunD K "stand_of" "stand_of" (defArgs s_stand_of) (defBody s_stand_of) (defScope s_stand_of) [] [] f fd) (hm : mg "stand_of" = some (.ref f)) (O_look_counts : Ok P w K mg base "look_counts" s_look_counts 2 2 P_look_counts (upc m_look_counts)) (R_TooMany : XkOk P w K mg base "TooMany" "too many" ["most"]) : Ok P w K mg base "stand_of" s_stand_of 3 2 P_stand_of (upc m_stand_of) :=
  Ok.mk' upc.m hm F c_stand_of rfl (fun cdv A outer s H EX G E hr gk tk => b_stand_of Z O_look_counts R_TooMany hr gk tk) q_stand_of
theorem o_room {P : Program} {w : World} {K : PySem.W.Frag} {mg : Str → Option Value} {base : Heap} {f : Addr} {fd : FuncData} (Z : Blt K mg) (F : FunD K "room" "room" (defArgs s_room) (defBody s_room) (defScope s_room) [] [] f fd) (hm : mg "room" = some (.ref f)) (O_look_counts : Ok P w K mg base "look_counts" s_look_counts 2 2 P_look_counts (upc m_look_counts)) : Ok P w K mg base "room" s_room 3 2 P_room (upc m_room) :=
  Ok.mk' upc.m hm F c_room rfl (fun cdv A outer s H EX G E hr gk tk => b_room Z O_look_counts hr gk tk) q_room
theorem o_hidden {P : Program} {w : World} {K : PySem.W.Frag} {mg : Str → Option Value} {base : Heap} {f : Addr} {fd : FuncData} (Z : Blt K mg) (F : FunD K "hidden" "hidden" (defArgs s_hidden) (defBody s_hidden) (defScope s_hidden) [] [] f fd) (hm : mg "hidden" = some (.ref f)) (R_NoDrop : XkOk P w K mg base "NoDrop" "no drop" ["rank"]) : Ok P w K mg base "hidden" s_hidden 3 2 P_hidden (upc m_hidden_v1) :=
  Ok.mk' upc.m hm F c_hidden rfl (fun cdv A outer s H EX G E hr gk tk => b_hidden Z R_NoDrop hr gk tk) q_hidden_v1
theorem o__law_open {P : Program} {w : World} {K : PySem.W.Frag} {mg : Str → Option Value} {base : Heap} {f : Addr} {fd : FuncData} (Z : Blt K mg) (F : FunD K "_law_open" "_law_open" (defArgs s__law_open) (defBody s__law_open) (defScope s__law_open) [] [] f fd) (hm : mg "_law_open" = some (.ref f))  : Ok P w K mg base "_law_open" s__law_open 1 1 P__law_open (upc m__law_open) :=
  Ok.mk' upc.m hm F c__law_open rfl (fun cdv A outer s H EX G E hr gk tk => b__law_open Z  hr gk tk) q__law_open
theorem o__law_take {P : Program} {w : World} {K : PySem.W.Frag} {mg : Str → Option Value} {base : Heap} {f : Addr} {fd : FuncData} (Z : Blt K mg) (F : FunD K "_law_take" "_law_take" (defArgs s__law_take) (defBody s__law_take) (defScope s__law_take) [] [] f fd) (hm : mg "_law_take" = some (.ref f))  : Ok P w K mg base "_law_take" s__law_take 1 2 P__law_take (upc m__law_take) :=
  Ok.mk' upc.m hm F c__law_take rfl (fun cdv A outer s H EX G E hr gk tk => b__law_take Z  hr gk tk) q__law_take
theorem o__law_pick {P : Program} {w : World} {K : PySem.W.Frag} {mg : Str → Option Value} {base : Heap} {f : Addr} {fd : FuncData} (Z : Blt K mg) (F : FunD K "_law_pick" "_law_pick" (defArgs s__law_pick) (defBody s__law_pick) (defScope s__law_pick) [] [] f fd) (hm : mg "_law_pick" = some (.ref f)) (O__law_take : Ok P w K mg base "_law_take" s__law_take 1 2 P__law_take (upc m__law_take)) : Ok P w K mg base "_law_pick" s__law_pick 2 2 P__law_pick (upc m__law_pick) :=
  Ok.mk' upc.m hm F c__law_pick rfl (fun cdv A outer s H EX G E hr gk tk => b__law_pick Z O__law_take hr gk tk) q__law_pick
theorem o__law_same {P : Program} {w : World} {K : PySem.W.Frag} {mg : Str → Option Value} {base : Heap} {f : Addr} {fd : FuncData} (Z : Blt K mg) (F : FunD K "_law_same" "_law_same" (defArgs s__law_same) (defBody s__law_same) (defScope s__law_same) [] [] f fd) (hm : mg "_law_same" = some (.ref f)) : ∀ d, Ok P w K mg base "_law_same" s__law_same (1 + d) 2 P__law_same (upc (m__law_same d))
  | 0 => (ok_none (n := 2) (ps := P__law_same) hm F).up (by omega) upc.m (fun _ _ _ _ ⟨_, _, _, _, z⟩ => z)
  | d + 1 => Ok.mk' (k := 1 + d) upc.m hm F c__law_same rfl (fun cdv A outer s H EX G E hr gk tk => b__law_same (d := d) (j := 1 + d) Z (o__law_same Z F hm d) (hr.mono (by omega)) gk tk) (q__law_same d)
theorem o__law_sizes {P : Program} {w : World} {K : PySem.W.Frag} {mg : Str → Option Value} {base : Heap} {f : Addr} {fd : FuncData} (Z : Blt K mg) (F : FunD K "_law_sizes" "_law_sizes" (defArgs s__law_sizes) (defBody s__law_sizes) (defScope s__law_sizes) [] [] f fd) (hm : mg "_law_sizes" = some (.ref f)) (O__law_take : Ok P w K mg base "_law_take" s__law_take 1 2 P__law_take (upc m__law_take)) : Ok P w K mg base "_law_sizes" s__law_sizes 2 3 P__law_sizes (upc m__law_sizes) :=
  Ok.mk' upc.m hm F c__law_sizes rfl (fun cdv A outer s H EX G E hr gk tk => b__law_sizes Z O__law_take hr gk tk) q__law_sizes
theorem o__law_any_sizes {P : Program} {w : World} {K : PySem.W.Frag} {mg : Str → Option Value} {base : Heap} {f : Addr} {fd : FuncData} (Z : Blt K mg) (F : FunD K "_law_any_sizes" "_law_any_sizes" (defArgs s__law_any_sizes) (defBody s__law_any_sizes) (defScope s__law_any_sizes) [] [] f fd) (hm : mg "_law_any_sizes" = some (.ref f)) (O__law_sizes : Ok P w K mg base "_law_sizes" s__law_sizes 2 3 P__law_sizes (upc m__law_sizes)) (O__law_pick : Ok P w K mg base "_law_pick" s__law_pick 2 2 P__law_pick (upc m__law_pick)) : Ok P w K mg base "_law_any_sizes" s__law_any_sizes 3 1 P__law_any_sizes (upc m__law_any_sizes) :=
  Ok.mk' upc.m hm F c__law_any_sizes rfl (fun cdv A outer s H EX G E hr gk tk => b__law_any_sizes Z O__law_sizes O__law_pick hr gk tk) q__law_any_sizes
theorem o__law_stand {P : Program} {w : World} {K : PySem.W.Frag} {mg : Str → Option Value} {base : Heap} {f : Addr} {fd : FuncData} (Z : Blt K mg) (F : FunD K "_law_stand" "_law_stand" (defArgs s__law_stand) (defBody s__law_stand) (defScope s__law_stand) [] [] f fd) (hm : mg "_law_stand" = some (.ref f)) (O__law_take : Ok P w K mg base "_law_take" s__law_take 1 2 P__law_take (upc m__law_take)) : Ok P w K mg base "_law_stand" s__law_stand 2 4 P__law_stand (upc m__law_stand) :=
  Ok.mk' upc.m hm F c__law_stand rfl (fun cdv A outer s H EX G E hr gk tk => b__law_stand Z O__law_take hr gk tk) q__law_stand
theorem o__law_load {P : Program} {w : World} {K : PySem.W.Frag} {mg : Str → Option Value} {base : Heap} {f : Addr} {fd : FuncData} (Z : Blt K mg) (F : FunD K "_law_load" "_law_load" (defArgs s__law_load) (defBody s__law_load) (defScope s__law_load) [] [] f fd) (hm : mg "_law_load" = some (.ref f)) (O__law_take : Ok P w K mg base "_law_take" s__law_take 1 2 P__law_take (upc m__law_take)) : Ok P w K mg base "_law_load" s__law_load 2 2 P__law_load (upc m__law_load) :=
  Ok.mk' upc.m hm F c__law_load rfl (fun cdv A outer s H EX G E hr gk tk => b__law_load Z O__law_take hr gk tk) q__law_load
theorem o__law_full_load {P : Program} {w : World} {K : PySem.W.Frag} {mg : Str → Option Value} {base : Heap} {f : Addr} {fd : FuncData} (Z : Blt K mg) (F : FunD K "_law_full_load" "_law_full_load" (defArgs s__law_full_load) (defBody s__law_full_load) (defScope s__law_full_load) [] [] f fd) (hm : mg "_law_full_load" = some (.ref f)) (O__law_take : Ok P w K mg base "_law_take" s__law_take 1 2 P__law_take (upc m__law_take)) (O__law_load : Ok P w K mg base "_law_load" s__law_load 2 2 P__law_load (upc m__law_load)) : Ok P w K mg base "_law_full_load" s__law_full_load 3 2 P__law_full_load (upc m__law_full_load) :=
  Ok.mk' upc.m hm F c__law_full_load rfl (fun cdv A outer s H EX G E hr gk tk => b__law_full_load Z O__law_take O__law_load hr gk tk) q__law_full_load
theorem o_law {P : Program} {w : World} {K : PySem.W.Frag} {mg : Str → Option Value} {base : Heap} {f : Addr} {fd : FuncData} (Z : Blt K mg) (O__law_open : Ok P w K mg base "_law_open" s__law_open 1 1 P__law_open (upc m__law_open)) (O__law_any_sizes : Ok P w K mg base "_law_any_sizes" s__law_any_sizes 3 1 P__law_any_sizes (upc m__law_any_sizes)) (O__law_full_load : Ok P w K mg base "_law_full_load" s__law_full_load 3 2 P__law_full_load (upc m__law_full_load)) (O__law_same : Ok P w K mg base "_law_same" s__law_same 9 2 P__law_same (upc (m__law_same 8))) (O_room : Ok P w K mg base "room" s_room 3 2 P_room (upc m_room)) (O_stand_of : Ok P w K mg base "stand_of" s_stand_of 3 2 P_stand_of (upc m_stand_of)) (O_counts_of : Ok P w K mg base "counts_of" s_counts_of 3 2 P_counts_of (upc m_counts_of)) (O__law_stand : Ok P w K mg base "_law_stand" s__law_stand 2 4 P__law_stand (upc m__law_stand)) (O__law_take : Ok P w K mg base "_law_take" s__law_take 1 2 P__law_take (upc m__law_take)) (O_hidden : Ok P w K mg base "hidden" s_hidden 3 2 P_hidden (upc m_hidden_v1)) (O__law_pick : Ok P w K mg base "_law_pick" s__law_pick 2 2 P__law_pick (upc m__law_pick)) {ga__law_told : Addr} {fd__law_told : FuncData} (F__law_told : FunD K "_law_told" "_law_told" (defArgs s__law_told) (defBody s__law_told) (defScope s__law_told) [] [] ga__law_told fd__law_told) (g__law_told : mg "_law_told" = some (.ref ga__law_told)) (F : FunD K "law" "law" (defArgs s_law) (defBody s_law) (defScope s_law) [] [] f fd) (hm : mg "law" = some (.ref f)) (lm : ∀ cdv, CodeOf K f cdv → MakesL K mg base ("law" ++ ".<locals>." ++ "<lambda>") cdv) : Ok P w K mg base "law" s_law 10 1 P_law (upc m_law) :=
  Ok.mkL upc.m hm F c_law rfl lm (fun cdv A outer s H EX G E lm hr gk tk => b_law Z O__law_open O__law_any_sizes O__law_full_load O__law_same O_room O_stand_of O_counts_of O__law_stand O__law_take O_hidden O__law_pick F__law_told g__law_told lm hr gk tk) q_law
end Ab
namespace Ab
open PySem PySem.Spec PyProof.Rows L2 RZ
def d_look_sizes : He.DefD := ⟨("look_sizes", none), "look_sizes", "look_sizes", defArgs s_look_sizes, defBody s_look_sizes, defScope s_look_sizes, [], []⟩
def d_look_counts : He.DefD := ⟨("look_counts", none), "look_counts", "look_counts", defArgs s_look_counts, defBody s_look_counts, defScope s_look_counts, [], []⟩
def d_look_stand : He.DefD := ⟨("look_stand", none), "look_stand", "look_stand", defArgs s_look_stand, defBody s_look_stand, defScope s_look_stand, [], []⟩
def d_counted : He.DefD := ⟨("counted", none), "counted", "counted", defArgs s_counted, defBody s_counted, defScope s_counted, [], []⟩
def d_counts_of : He.DefD := ⟨("counts_of", none), "counts_of", "counts_of", defArgs s_counts_of, defBody s_counts_of, defScope s_counts_of, [], []⟩
def d_stand_of : He.DefD := ⟨("stand_of", none), "stand_of", "stand_of", defArgs s_stand_of, defBody s_stand_of, defScope s_stand_of, [], []⟩
def d_room : He.DefD := ⟨("room", none), "room", "room", defArgs s_room, defBody s_room, defScope s_room, [], []⟩
def d_hidden : He.DefD := ⟨("hidden", none), "hidden", "hidden", defArgs s_hidden, defBody s_hidden, defScope s_hidden, [], []⟩
def d__law_open : He.DefD := ⟨("_law_open", none), "_law_open", "_law_open", defArgs s__law_open, defBody s__law_open, defScope s__law_open, [], []⟩
def d__law_take : He.DefD := ⟨("_law_take", none), "_law_take", "_law_take", defArgs s__law_take, defBody s__law_take, defScope s__law_take, [], []⟩
def d__law_pick : He.DefD := ⟨("_law_pick", none), "_law_pick", "_law_pick", defArgs s__law_pick, defBody s__law_pick, defScope s__law_pick, [], []⟩
def d__law_same : He.DefD := ⟨("_law_same", none), "_law_same", "_law_same", defArgs s__law_same, defBody s__law_same, defScope s__law_same, [], []⟩
def d__law_sizes : He.DefD := ⟨("_law_sizes", none), "_law_sizes", "_law_sizes", defArgs s__law_sizes, defBody s__law_sizes, defScope s__law_sizes, [], []⟩
def d__law_any_sizes : He.DefD := ⟨("_law_any_sizes", none), "_law_any_sizes", "_law_any_sizes", defArgs s__law_any_sizes, defBody s__law_any_sizes, defScope s__law_any_sizes, [], []⟩
def d__law_stand : He.DefD := ⟨("_law_stand", none), "_law_stand", "_law_stand", defArgs s__law_stand, defBody s__law_stand, defScope s__law_stand, [], []⟩
def d__law_load : He.DefD := ⟨("_law_load", none), "_law_load", "_law_load", defArgs s__law_load, defBody s__law_load, defScope s__law_load, [], []⟩
def d__law_full_load : He.DefD := ⟨("_law_full_load", none), "_law_full_load", "_law_full_load", defArgs s__law_full_load, defBody s__law_full_load, defScope s__law_full_load, [], []⟩
def d__law_told : He.DefD := ⟨("_law_told", none), "_law_told", "_law_told", defArgs s__law_told, defBody s__law_told, defScope s__law_told, [], []⟩
def d_law : He.DefD := ⟨("law", none), "law", "law", defArgs s_law, defBody s_law, defScope s_law, [], []⟩
def di_NoDrop : He.DefD := ⟨("NoDrop", some "__init__"), "__init__", "NoDrop.__init__", defArgs si_NoDrop, defBody si_NoDrop, defScope si_NoDrop, [], []⟩
def di_TooMany : He.DefD := ⟨("TooMany", some "__init__"), "__init__", "TooMany.__init__", defArgs si_TooMany, defBody si_TooMany, defScope si_TooMany, [], []⟩
def hFn : List He.DefD := [d_look_sizes, d_look_counts, d_look_stand, d_counted, d_counts_of, d_stand_of, d_room, d_hidden, d__law_open, d__law_take, d__law_pick, d__law_same, d__law_sizes, d__law_any_sizes, d__law_stand, d__law_load, d__law_full_load, d__law_told, d_law, di_NoDrop, di_TooMany]
def hFa : List He.Fa := [.glo "look_sizes", .glo "look_counts", .glo "look_stand", .glo "counted", .glo "counts_of", .glo "stand_of", .glo "room", .glo "hidden", .glo "_law_open", .glo "_law_take", .glo "_law_pick", .glo "_law_same", .glo "_law_sizes", .glo "_law_any_sizes", .glo "_law_stand", .glo "_law_load", .glo "_law_full_load", .glo "_law_told", .glo "law", .free "all", .free "bool", .free "enumerate", .free "int", .free "isinstance", .free "len", .free "list", .free "range", .free "str", .free "sum", .free "tuple", .free "zip", .int "GONE" (-1), .int "MOST_CASKS" 6, .int "MOST_DROPS" 60, .int "MOST_SIZE" 40, .glo "NoDrop", .glo "TooMany"]
def hEx : PySem.W.Frag → Bool := fun K => lamB K "law" && uniB K && xkB K "NoDrop" ["rank"] && xkB K "TooMany" ["most"] && exmB K ["NoDrop", "TooMany"] "NoDrop" && exmB K ["NoDrop", "TooMany"] "TooMany" && fldB K ["NoDrop", "TooMany"] "most" && fldB K ["NoDrop", "TooMany"] "rank"
def hLs : List Str := ["law"]
def hNm0 : List Str := ["__name__", "HideError", "Missing", "BadSizes", "BadCounts", "BadStand", "TooMany", "NoDrop", "MOST_CASKS", "MOST_SIZE", "MOST_DROPS", "GONE", "look_sizes", "look_counts", "look_stand", "counted", "counts_of", "stand_of", "room", "hidden", "_law_open", "_law_take", "_law_pick", "_law_same", "_law_sizes", "_law_any_sizes", "_law_stand", "_law_load", "_law_full_load", "_law_told"]
def hNms : List Str := hNm0
abbrev hR : PySem.W.OpenRow := PySem.W.OpenLaw.row PySem.Challenge.rw_hidelater_k03_counts_and_rooms
abbrev hHk : PySem.W.Hook := hookK hFa hFn hEx hLs
def hOb (s : PySem.W.SharedT) : AlK := obsK hFa hFn hEx hLs (HandSHeadRun.getT s)
theorem hOb_eq (s : PySem.W.SharedT) : hOb s = hHk.obs s.abs := obsK_eq (HandSHeadRun.getT_eq s)
theorem hRun (w : World) : HandSHeadRun.RunEq hR (PySem.W.view hR.prog [32]) hHk hOb 3000 hNms w := by
  intro os
  kernel_rfl
theorem hFacts {P : Program} {w : World} {K : PySem.W.Frag} {h : Heap} {mg : Str → Option Value} {f : Addr} (X : K.In h) (G : h.Ns mainGlobals mg) (hfa : mg ("law" : Str) = some (.ref f)) (c : He.SaysD hFa hFn K) (x : hEx K = true) :
    ∃ fd : FuncData, (∀ (s : Shared) (v : Value), BindsTo s fd ⟨[v], []⟩ [("_law_script", v)]) ∧ ∀ base : Heap, (∀ p ∈ (csOf K).map (·.1), LamX.TabB base mg p.1 p.2) → FnOk P w K mg base (L2.CX P w) 10 f fd P_law (cSp K 1 (upc m_law)) := by
  obtain ⟨fd_look_sizes, F_look_sizes⟩ := c.def_ 0 (d := d_look_sizes) rfl
  have g_look_sizes := He.glo_ok X G (c.fact 0 (f := .glo "look_sizes") rfl)
  obtain ⟨fd_look_counts, F_look_counts⟩ := c.def_ 1 (d := d_look_counts) rfl
  have g_look_counts := He.glo_ok X G (c.fact 1 (f := .glo "look_counts") rfl)
  obtain ⟨fd_look_stand, F_look_stand⟩ := c.def_ 2 (d := d_look_stand) rfl
  have g_look_stand := He.glo_ok X G (c.fact 2 (f := .glo "look_stand") rfl)
  obtain ⟨fd_counted, F_counted⟩ := c.def_ 3 (d := d_counted) rfl
  have g_counted := He.glo_ok X G (c.fact 3 (f := .glo "counted") rfl)
  obtain ⟨fd_counts_of, F_counts_of⟩ := c.def_ 4 (d := d_counts_of) rfl
  have g_counts_of := He.glo_ok X G (c.fact 4 (f := .glo "counts_of") rfl)
  obtain ⟨fd_stand_of, F_stand_of⟩ := c.def_ 5 (d := d_stand_of) rfl
  have g_stand_of := He.glo_ok X G (c.fact 5 (f := .glo "stand_of") rfl)
  obtain ⟨fd_room, F_room⟩ := c.def_ 6 (d := d_room) rfl
  have g_room := He.glo_ok X G (c.fact 6 (f := .glo "room") rfl)
  obtain ⟨fd_hidden, F_hidden⟩ := c.def_ 7 (d := d_hidden) rfl
  have g_hidden := He.glo_ok X G (c.fact 7 (f := .glo "hidden") rfl)
  obtain ⟨fd__law_open, F__law_open⟩ := c.def_ 8 (d := d__law_open) rfl
  have g__law_open := He.glo_ok X G (c.fact 8 (f := .glo "_law_open") rfl)
  obtain ⟨fd__law_take, F__law_take⟩ := c.def_ 9 (d := d__law_take) rfl
  have g__law_take := He.glo_ok X G (c.fact 9 (f := .glo "_law_take") rfl)
  obtain ⟨fd__law_pick, F__law_pick⟩ := c.def_ 10 (d := d__law_pick) rfl
  have g__law_pick := He.glo_ok X G (c.fact 10 (f := .glo "_law_pick") rfl)
  obtain ⟨fd__law_same, F__law_same⟩ := c.def_ 11 (d := d__law_same) rfl
  have g__law_same := He.glo_ok X G (c.fact 11 (f := .glo "_law_same") rfl)
  obtain ⟨fd__law_sizes, F__law_sizes⟩ := c.def_ 12 (d := d__law_sizes) rfl
  have g__law_sizes := He.glo_ok X G (c.fact 12 (f := .glo "_law_sizes") rfl)
  obtain ⟨fd__law_any_sizes, F__law_any_sizes⟩ := c.def_ 13 (d := d__law_any_sizes) rfl
  have g__law_any_sizes := He.glo_ok X G (c.fact 13 (f := .glo "_law_any_sizes") rfl)
  obtain ⟨fd__law_stand, F__law_stand⟩ := c.def_ 14 (d := d__law_stand) rfl
  have g__law_stand := He.glo_ok X G (c.fact 14 (f := .glo "_law_stand") rfl)
  obtain ⟨fd__law_load, F__law_load⟩ := c.def_ 15 (d := d__law_load) rfl
  have g__law_load := He.glo_ok X G (c.fact 15 (f := .glo "_law_load") rfl)
  obtain ⟨fd__law_full_load, F__law_full_load⟩ := c.def_ 16 (d := d__law_full_load) rfl
  have g__law_full_load := He.glo_ok X G (c.fact 16 (f := .glo "_law_full_load") rfl)
  obtain ⟨fd__law_told, F__law_told⟩ := c.def_ 17 (d := d__law_told) rfl
  have g__law_told := He.glo_ok X G (c.fact 17 (f := .glo "_law_told") rfl)
  obtain ⟨fd_law, F_law⟩ := c.def_ 18 (d := d_law) rfl
  have g_law := He.glo_ok X G (c.fact 18 (f := .glo "law") rfl)
  unfold hEx at x
  simp only [Bool.and_eq_true] at x
  have h_NoDrop := He.glo_ok X G (c.fact 35 (f := .glo "NoDrop") rfl)
  obtain ⟨fdi_NoDrop, Fi_NoDrop⟩ := c.def_ 19 (d := di_NoDrop) rfl
  have h_TooMany := He.glo_ok X G (c.fact 36 (f := .glo "TooMany") rfl)
  obtain ⟨fdi_TooMany, Fi_TooMany⟩ := c.def_ 20 (d := di_TooMany) rfl
  have Z : Blt K mg := ⟨He.free_ok X G (c.fact 19 (f := .free "all") rfl),
    He.free_ok X G (c.fact 20 (f := .free "bool") rfl),
    He.free_ok X G (c.fact 21 (f := .free "enumerate") rfl),
    He.free_ok X G (c.fact 22 (f := .free "int") rfl),
    He.free_ok X G (c.fact 23 (f := .free "isinstance") rfl),
    He.free_ok X G (c.fact 24 (f := .free "len") rfl),
    He.free_ok X G (c.fact 25 (f := .free "list") rfl),
    He.free_ok X G (c.fact 26 (f := .free "range") rfl),
    He.free_ok X G (c.fact 27 (f := .free "str") rfl),
    He.free_ok X G (c.fact 28 (f := .free "sum") rfl),
    He.free_ok X G (c.fact 29 (f := .free "tuple") rfl),
    He.free_ok X G (c.fact 30 (f := .free "zip") rfl),
    He.int_ok X G (c.fact 31 (f := .int "GONE" (-1)) rfl),
    He.int_ok X G (c.fact 32 (f := .int "MOST_CASKS" 6) rfl),
    He.int_ok X G (c.fact 33 (f := .int "MOST_DROPS" 60) rfl),
    He.int_ok X G (c.fact 34 (f := .int "MOST_SIZE" 40) rfl),
    h_NoDrop,
    h_TooMany,
    exm_of x.1.1.1.2,
    exm_of x.1.1.2,
    fld_of x.1.2,
    fld_of x.2⟩
  have e := hfa.symm.trans g_law
  cases e
  have b := FunD.bindsA (ps := P_law) F_law fun _ _ _ _ _ _ us hl => match us, hl with | [_], _ => rfl
  refine ⟨fd_law, fun s v => b s [v] rfl, fun base TBs => ?_⟩
  have R_NoDrop : XkOk P w K mg base "NoDrop" "no drop" ["rank"] := xk1 (xk_ok x.1.1.1.1.1.2) h_NoDrop Fi_NoDrop ci_NoDrop (fun _ _ _ _ _ _ us hl => match us, hl with | [_, _], _ => rfl)
  have R_TooMany : XkOk P w K mg base "TooMany" "too many" ["most"] := xk1 (xk_ok x.1.1.1.1.2) h_TooMany Fi_TooMany ci_TooMany (fun _ _ _ _ _ _ us hl => match us, hl with | [_, _], _ => rfl)
  have O__law_open := o__law_open (P := P) (w := w) (base := base) Z F__law_open g__law_open 
  have O__law_take := o__law_take (P := P) (w := w) (base := base) Z F__law_take g__law_take 
  have O__law_sizes := o__law_sizes (P := P) (w := w) (base := base) Z F__law_sizes g__law_sizes O__law_take
  have O__law_pick := o__law_pick (P := P) (w := w) (base := base) Z F__law_pick g__law_pick O__law_take
  have O__law_any_sizes := o__law_any_sizes (P := P) (w := w) (base := base) Z F__law_any_sizes g__law_any_sizes O__law_sizes O__law_pick
  have O__law_load := o__law_load (P := P) (w := w) (base := base) Z F__law_load g__law_load O__law_take
  have O__law_full_load := o__law_full_load (P := P) (w := w) (base := base) Z F__law_full_load g__law_full_load O__law_take O__law_load
  have O__law_same := o__law_same (P := P) (w := w) (base := base) Z F__law_same g__law_same 8
  have O_look_sizes := o_look_sizes (P := P) (w := w) (base := base) Z F_look_sizes g_look_sizes 
  have O_look_counts := o_look_counts (P := P) (w := w) (base := base) Z F_look_counts g_look_counts O_look_sizes
  have O_room := o_room (P := P) (w := w) (base := base) Z F_room g_room O_look_counts
  have O_stand_of := o_stand_of (P := P) (w := w) (base := base) Z F_stand_of g_stand_of O_look_counts R_TooMany
  have O_look_stand := o_look_stand (P := P) (w := w) (base := base) Z F_look_stand g_look_stand O_look_sizes
  have O_counted := o_counted (P := P) (w := w) (base := base) Z F_counted g_counted 
  have O_counts_of := o_counts_of (P := P) (w := w) (base := base) Z F_counts_of g_counts_of O_look_stand O_counted
  have O__law_stand := o__law_stand (P := P) (w := w) (base := base) Z F__law_stand g__law_stand O__law_take
  have O_hidden := o_hidden (P := P) (w := w) (base := base) Z F_hidden g_hidden R_NoDrop
  have lm_law := makes_of (x := "law") x.1.1.1.1.1.1.1 x.1.1.1.1.1.1.2 TBs
  have O_law := o_law (P := P) (w := w) (base := base) Z O__law_open O__law_any_sizes O__law_full_load O__law_same O_room O_stand_of O_counts_of O__law_stand O__law_take O_hidden O__law_pick F__law_told g__law_told F_law g_law lm_law
  obtain ⟨f2, fd2, hm2, FD2, F2⟩ := O_law.ex
  have e2 := hm2.symm.trans g_law
  cases e2
  have e3 : fd2 = fd_law := FunD.one FD2 F_law
  rw [← e3]
  exact F2
end Ab
open PySem PySem.W PySem.Calls PyProof.Rows
theorem PySem.Challenge.cw_hidelater_k03_counts_and_rooms_holds : PySem.Challenge.rw_hidelater_k03_counts_and_rooms.Holds := by
  w_on; o_law
  refine HandSHeadRun.head_any (r := OpenLaw.row PySem.Challenge.rw_hidelater_k03_counts_and_rooms) (q := view (OpenLaw.row PySem.Challenge.rw_hidelater_k03_counts_and_rooms).prog [32]) (H := Ab.hHk) (ob := Ab.hOb) (M := 3000) (loose := Ab.hNms) (d := HandSHeadRun.topDef (OpenLaw.row PySem.Challenge.rw_hidelater_k03_counts_and_rooms).prog 32) (kwd := []) Ab.hOb_eq
    (by kernel_rfl) (fun s => by kernel_rfl) Ab.hRun (by kernel_rfl) (by kernel_rfl) (by kernel_rfl) (by rfl) (by first | assumption | decide +kernel) (by decide +kernel) ⟨rfl, rfl, rfl, rfl, rfl, by decide +kernel⟩ ?hw ?hc
  case hw => w_witness2
  case hc =>
    refine Ab.walk_end (l := PySem.Challenge.rw_hidelater_k03_counts_and_rooms) (j := 10) (y := "_law_script") rfl (by kernel_rfl) ⟨rfl, by decide, by decide⟩ ?F
    intro w mg fa h Y G hmg0
    obtain ⟨K, KX, ⟨c, ex⟩, no, te⟩ := Y
    have hmg : mg ("law" : PySem.Str) = some (.ref fa) := by
      have e : (HandSHeadRun.topDef (OpenLaw.row PySem.Challenge.rw_hidelater_k03_counts_and_rooms).prog 32).name = ("law" : PySem.Str) := by kernel_rfl
      rw [← e]
      exact hmg0
    obtain ⟨fd, hb, hF⟩ := Ab.hFacts (P := (PySem.Challenge.rw_hidelater_k03_counts_and_rooms).prog) (w := w) KX G hmg c ex
    exact ⟨K, fd, Ab.upc Ab.m_law, KX, no, te, Ab.law_says, hb, hF⟩

