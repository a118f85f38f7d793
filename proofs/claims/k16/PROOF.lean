import PyProof.Rows.All
import Wide.All
import OpenK.AllK
import Wide.FinOn
import HandS.ForExc
import HandS.ForMost
import HandS.Defaults
import KE.DataEq
import HandS.TupAny
import HandS.IsInst
import HandS.Wide
import HandS.TupMul
import HandS.Codes
import HandS.Zip
import PyProof.CollectIter
import PyProof.WalksMore
import KE.GoesEnum
import KE.GoesZip
import KE.KItemsList
import HandS.Conv
import HandS.TryOnly
import HandS.Head0
import HandS.Head1
import HandS.Head2
import HandS.HeadEnd
import HandS.HeadHook1
import HandS.HeadHook2
import PySem.Challenge.RW_hidelater_k16_whole_later_drops_are_not
set_option Elab.async false
set_option linter.all false
set_option maxRecDepth 100000
set_option maxHeartbeats 0
namespace Ab
open PySem PySem.Spec PyProof.Rows L2
/-! ### values as data -/
inductive W where
  | non | bl (b : Bool) | int (i : Int) | str (x : Str) | tup (xs : List W) | lst (xs : List W) | dct (ks vs : List W) | ref (a : Addr) | ty (n : String)
instance : Inhabited W := ⟨.non⟩
/-- a key of a dict: a flat one, or a tuple of flat ones -/
def keyF : W → Option Key
  | .int i => some (.inl i)
  | .str x => some (.inr x)
  | _ => none
def keyFs : List W → Option (List Key)
  | [] => some []
  | w :: ws => match keyF w, keyFs ws with
    | some k, some ks => some (k :: ks)
    | _, _ => none
def keyT : W → Option (List Key)
  | .tup ws => keyFs ws
  | _ => none
def Imm : HO → Prop
  | .tup _ => True
  | .frz _ _ => True
  | _ => False
/-- a list that no one writes any more -/
def LsF (H : Hp) (a : Addr) (vs : List V) : Prop := ∃ o, H a = some (.frz o (.lst vs))
theorem LsF.sq {K : PySem.W.Frag} {H : Hp} {a : Addr} {vs : List V} (h : LsF H a vs) : SqL K H a vs := let ⟨o, h⟩ := h; .inl (.inr ⟨o, h⟩)
mutual
def Rep (K : PySem.W.Frag) (H : Hp) : W → V → Prop
  | .non, v => v = .non
  | .bl b, v => v = .bl b
  | .int i, v => v = .int i
  | .str x, v => v = .str x
  | .tup ws, v => ∃ a vs, v = .ref a ∧ SqT K H a vs ∧ RepL K H ws vs
  | .lst ws, v => ∃ a vs, v = .ref a ∧ LsF H a vs ∧ RepL K H ws vs
  | .dct ks ws, v => ∃ a, v = .ref a ∧ ((∃ o kvs, H a = some (.frz o (.dK kvs)) ∧ ks.map keyF = kvs.map (fun p => some p.1) ∧ RepL K H ws (kvs.map (·.2))) ∨
      ∃ o kvs, H a = some (.frz o (.dT kvs)) ∧ ks.map keyT = kvs.map (fun p => some p.1) ∧ RepL K H ws (kvs.map (·.2)))
  | .ref a, v => v = .ref a
  | .ty n, v => v = .ty n
def RepL (K : PySem.W.Frag) (H : Hp) : List W → List V → Prop
  | [], vs => vs = []
  | w :: ws, vs => ∃ v r, vs = v :: r ∧ Rep K H w v ∧ RepL K H ws r
end
def Keeps (H H' : Hp) : Prop := ∀ a o, H a = some o → Imm o → H' a = some o
theorem Keeps.refl (H : Hp) : Keeps H H := fun _ _ h _ => h
theorem Keeps.trans {H H1 H2 : Hp} (a : Keeps H H1) (b : Keeps H1 H2) : Keeps H H2 := fun p o h i => b p o (a p o h i) i
theorem Keeps.sqT {K : PySem.W.Frag} {H H' : Hp} (k : Keeps H H') {a : Addr} {vs : List V} (h : SqT K H a vs) : SqT K H' a vs := by
  rcases h with (h | ⟨o, h⟩) | h
  · exact .inl (.inl (k _ _ h trivial))
  · exact .inl (.inr ⟨o, k _ _ h trivial⟩)
  · exact .inr h
theorem Keeps.lsF {H H' : Hp} (k : Keeps H H') {a : Addr} {vs : List V} (h : LsF H a vs) : LsF H' a vs := let ⟨o, h⟩ := h; ⟨o, k _ _ h trivial⟩
mutual
theorem Rep.mono {K : PySem.W.Frag} {H H' : Hp} (k : Keeps H H') : ∀ (w : W) (v : V), Rep K H w v → Rep K H' w v
  | .non, _, h => by simpa only [Rep] using h
  | .bl _, _, h => by simpa only [Rep] using h
  | .int _, _, h => by simpa only [Rep] using h
  | .str _, _, h => by simpa only [Rep] using h
  | .ref _, _, h => by simpa only [Rep] using h
  | .ty _, _, h => by simpa only [Rep] using h
  | .tup ws, v, h => by
    simp only [Rep] at h ⊢
    obtain ⟨a, vs, e, s, r⟩ := h
    exact ⟨a, vs, e, k.sqT s, RepL.mono k ws vs r⟩
  | .lst ws, v, h => by
    simp only [Rep] at h ⊢
    obtain ⟨a, vs, e, s, r⟩ := h
    exact ⟨a, vs, e, k.lsF s, RepL.mono k ws vs r⟩
  | .dct ks ws, v, h => by
    simp only [Rep] at h ⊢
    obtain ⟨a, e, ⟨o, kvs, s, t, r⟩ | ⟨o, kvs, s, t, r⟩⟩ := h
    · exact ⟨a, e, .inl ⟨o, kvs, k _ _ s trivial, t, RepL.mono k ws _ r⟩⟩
    · exact ⟨a, e, .inr ⟨o, kvs, k _ _ s trivial, t, RepL.mono k ws _ r⟩⟩
theorem RepL.mono {K : PySem.W.Frag} {H H' : Hp} (k : Keeps H H') : ∀ (ws : List W) (vs : List V), RepL K H ws vs → RepL K H' ws vs
  | [], vs, h => by simpa only [RepL] using h
  | w :: ws, vs, h => by
    simp only [RepL] at h ⊢
    obtain ⟨v, r, e, a, b⟩ := h
    exact ⟨v, r, e, Rep.mono k w v a, RepL.mono k ws r b⟩
end
section
variable {K : PySem.W.Frag} {H : Hp}
theorem Rep.of_int {i : Int} {v : V} (h : Rep K H (.int i) v) : v = .int i := by simpa only [Rep] using h
theorem Rep.of_str {i : Str} {v : V} (h : Rep K H (.str i) v) : v = .str i := by simpa only [Rep] using h
theorem Rep.of_bl {i : Bool} {v : V} (h : Rep K H (.bl i) v) : v = .bl i := by simpa only [Rep] using h
theorem Rep.of_non {v : V} (h : Rep K H .non v) : v = .non := by simpa only [Rep] using h
theorem Rep.of_ref {a : Addr} {v : V} (h : Rep K H (.ref a) v) : v = .ref a := by simpa only [Rep] using h
theorem Rep.of_ty {n : String} {v : V} (h : Rep K H (.ty n) v) : v = .ty n := by simpa only [Rep] using h
theorem Rep.of_tup {ws : List W} {v : V} (h : Rep K H (.tup ws) v) : ∃ a vs, v = .ref a ∧ SqT K H a vs ∧ RepL K H ws vs := by simpa only [Rep] using h
theorem Rep.of_lst {ws : List W} {v : V} (h : Rep K H (.lst ws) v) : ∃ a vs, v = .ref a ∧ LsF H a vs ∧ RepL K H ws vs := by simpa only [Rep] using h
theorem Rep.int {i : Int} : Rep K H (.int i) (.int i) := by simp only [Rep]
theorem Rep.str {i : Str} : Rep K H (.str i) (.str i) := by simp only [Rep]
theorem Rep.bl {i : Bool} : Rep K H (.bl i) (.bl i) := by simp only [Rep]
theorem Rep.non : Rep K H .non .non := by simp only [Rep]
theorem Rep.ref {a : Addr} : Rep K H (.ref a) (.ref a) := by simp only [Rep]
theorem Rep.ty {n : String} : Rep K H (.ty n) (.ty n) := by simp only [Rep]
theorem Rep.tup {ws : List W} {a : Addr} {vs : List V} (s : SqT K H a vs) (r : RepL K H ws vs) : Rep K H (.tup ws) (.ref a) := by
  simp only [Rep]; exact ⟨a, vs, rfl, s, r⟩
theorem Rep.lst {ws : List W} {a : Addr} {vs : List V} (s : LsF H a vs) (r : RepL K H ws vs) : Rep K H (.lst ws) (.ref a) := by
  simp only [Rep]; exact ⟨a, vs, rfl, s, r⟩
theorem RepL.nil : RepL K H [] [] := by simp only [RepL]
theorem RepL.cons {w : W} {ws : List W} {v : V} {vs : List V} (a : Rep K H w v) (b : RepL K H ws vs) : RepL K H (w :: ws) (v :: vs) := by
  simp only [RepL]; exact ⟨v, vs, rfl, a, b⟩
theorem RepL.of_nil {vs : List V} (h : RepL K H [] vs) : vs = [] := by simpa only [RepL] using h
theorem RepL.of_cons {w : W} {ws : List W} {vs : List V} (h : RepL K H (w :: ws) vs) : ∃ v r, vs = v :: r ∧ Rep K H w v ∧ RepL K H ws r := by simpa only [RepL] using h
theorem RepL.length : ∀ {ws : List W} {vs : List V}, RepL K H ws vs → ws.length = vs.length
  | [], vs, h => by rw [h.of_nil]; rfl
  | w :: ws, vs, h => by
    obtain ⟨v, r, e, _, t⟩ := h.of_cons
    rw [e, List.length_cons, List.length_cons, t.length]
theorem RepL.get : ∀ {ws : List W} {vs : List V} {i : Nat} {w : W}, RepL K H ws vs → ws[i]? = some w → ∃ v, vs[i]? = some v ∧ Rep K H w v
  | [], _, _, _, _, e => by simp at e
  | w :: ws, vs, 0, x, h, e => by
    obtain ⟨v, r, rfl, a, _⟩ := h.of_cons
    simp at e; subst e; exact ⟨v, rfl, a⟩
  | w :: ws, vs, i + 1, x, h, e => by
    obtain ⟨v, r, rfl, _, t⟩ := h.of_cons
    obtain ⟨u, h1, h2⟩ := t.get (i := i) (by simpa using e)
    exact ⟨u, by simpa using h1, h2⟩
theorem RepL.getV {ws : List W} {vs : List V} {i : Nat} {v : V} (h : RepL K H ws vs) (e : vs[i]? = some v) : ∃ w, ws[i]? = some w ∧ Rep K H w v := by
  have hi : i < ws.length := by rw [h.length]; exact (List.getElem?_eq_some_iff.mp e).1
  obtain ⟨u, h1, h2⟩ := h.get (List.getElem?_eq_getElem hi)
  rw [e] at h1; cases h1
  exact ⟨_, List.getElem?_eq_getElem hi, h2⟩
theorem RepL.append : ∀ {ws xs : List W} {vs us : List V}, RepL K H ws vs → RepL K H xs us → RepL K H (ws ++ xs) (vs ++ us)
  | [], xs, vs, us, h, g => by rw [h.of_nil]; exact g
  | w :: ws, xs, vs, us, h, g => by
    obtain ⟨v, r, rfl, a, t⟩ := h.of_cons
    exact .cons a (t.append g)
theorem RepL.set : ∀ {ws : List W} {vs : List V} (i : Nat) {w : W} {v : V}, RepL K H ws vs → Rep K H w v → RepL K H (ws.set i w) (vs.set i v)
  | [], vs, i, w, v, h, g => by rw [h.of_nil]; exact .nil
  | x :: ws, vs, 0, w, v, h, g => by
    obtain ⟨u, r, rfl, a, t⟩ := h.of_cons
    exact .cons g t
  | x :: ws, vs, i + 1, w, v, h, g => by
    obtain ⟨u, r, rfl, a, t⟩ := h.of_cons
    exact .cons a (t.set i g)
theorem RepL.take : ∀ {ws : List W} {vs : List V} (n : Nat), RepL K H ws vs → RepL K H (ws.take n) (vs.take n)
  | _, _, 0, _ => .nil
  | [], vs, n + 1, h => by rw [h.of_nil]; exact .nil
  | w :: ws, vs, n + 1, h => by
    obtain ⟨v, r, rfl, a, t⟩ := h.of_cons
    exact .cons a (t.take n)
theorem RepL.drop : ∀ {ws : List W} {vs : List V} (n : Nat), RepL K H ws vs → RepL K H (ws.drop n) (vs.drop n)
  | _, _, 0, h => h
  | [], vs, n + 1, h => by rw [h.of_nil]; exact .nil
  | w :: ws, vs, n + 1, h => by
    obtain ⟨v, r, rfl, a, t⟩ := h.of_cons
    exact t.drop n
theorem RepL.eraseIdx : ∀ {ws : List W} {vs : List V} (i : Nat), RepL K H ws vs → RepL K H (ws.eraseIdx i) (vs.eraseIdx i)
  | [], vs, i, h => by rw [h.of_nil]; exact .nil
  | w :: ws, vs, 0, h => by
    obtain ⟨v, r, rfl, a, t⟩ := h.of_cons
    exact t
  | w :: ws, vs, i + 1, h => by
    obtain ⟨v, r, rfl, a, t⟩ := h.of_cons
    exact .cons a (t.eraseIdx i)
theorem RepL.rep {ws : List W} {vs : List V} (h : RepL K H ws vs) : ∀ k : Nat, RepL K H (List.replicate k ws).flatten (List.replicate k vs).flatten
  | 0 => .nil
  | k + 1 => by
    rw [List.replicate_succ, List.replicate_succ, List.flatten_cons, List.flatten_cons]
    exact h.append (h.rep k)
theorem RepL.ints {ns : List Int} : RepL K H (ns.map W.int) (ns.map V.int) := by
  induction ns with
  | nil => exact .nil
  | cons n r ih => exact .cons .int ih
theorem RepL.of_ints {ns : List Int} {vs : List V} (h : RepL K H (ns.map W.int) vs) : vs = ns.map V.int := by
  induction ns generalizing vs with
  | nil => exact h.of_nil
  | cons n r ih =>
    obtain ⟨v, t, rfl, a, b⟩ := h.of_cons
    rw [a.of_int, ih b]; rfl
theorem RepL.of_bls {ns : List Bool} {vs : List V} (h : RepL K H (ns.map W.bl) vs) : vs = ns.map V.bl := by
  induction ns generalizing vs with
  | nil => exact h.of_nil
  | cons n r ih =>
    obtain ⟨v, t, rfl, a, b⟩ := h.of_cons
    rw [a.of_bl, ih b]; rfl
theorem RepL.of_strs {ns : List Str} {vs : List V} (h : RepL K H (ns.map W.str) vs) : vs = ns.map V.str := by
  induction ns generalizing vs with
  | nil => exact h.of_nil
  | cons n r ih =>
    obtain ⟨v, t, rfl, a, b⟩ := h.of_cons
    rw [a.of_str, ih b]; rfl
end
/-! ### contents, abstract heaps, environments -/
inductive Cont where
  | seq (ws : List W) | map (kvs : List (W × W))
def Cont.fz : Cont → W
  | .seq ws => .lst ws
  | .map kvs => .dct (kvs.map (·.1)) (kvs.map (·.2))
inductive AO where
  | cont (c : Cont) | ins (C : Addr) (fs : List (Str × W))
abbrev AH := Addr → Option AO
inductive SV where
  | val (w : W) | own (c : Cont)
abbrev AEnv := List (Option SV)
def CRep (K : PySem.W.Frag) (H : Hp) (p : Addr) : Cont → Prop
  | .seq ws => ∃ vs, H p = some (.lst vs) ∧ RepL K H ws vs
  | .map kvs => (∃ ks, H p = some (.dK ks) ∧ (kvs.map (·.1)).map keyF = ks.map (fun q => some q.1) ∧ RepL K H (kvs.map (·.2)) (ks.map (·.2))) ∨
      ∃ ks, H p = some (.dT ks) ∧ (kvs.map (·.1)).map keyT = ks.map (fun q => some q.1) ∧ RepL K H (kvs.map (·.2)) (ks.map (·.2))
def FRep (K : PySem.W.Frag) (H : Hp) (fs : List (Str × W)) (vs : List (Str × V)) : Prop := fs.map (·.1) = vs.map (·.1) ∧ RepL K H (fs.map (·.2)) (vs.map (·.2))
def ORep (K : PySem.W.Frag) (H : Hp) (a : Addr) : AO → Prop
  | .cont c => CRep K H a c
  | .ins C fs => ∃ dx vs, H a = some (.ins C dx vs) ∧ FRep K H fs vs
def Mu : HO → Prop
  | .lst _ => True
  | .dK _ => True
  | .dT _ => True
  | .ins _ _ _ => True
  | _ => False
theorem Mu.mut {o : HO} (h : Mu o) : Mut (some o) := by cases o <;> first | trivial | exact h.elim
theorem Mu.imm {o : HO} (h : Mu o) : ¬ Imm o := by cases o <;> first | exact h.elim | (intro z; exact z)
theorem CRep.there {K : PySem.W.Frag} {H : Hp} {p : Addr} {c : Cont} (h : CRep K H p c) : ∃ o, H p = some o ∧ Mu o := by
  cases c with
  | seq ws => obtain ⟨vs, e, _⟩ := h; exact ⟨_, e, trivial⟩
  | map kvs =>
    rcases h with ⟨ks, e, _⟩ | ⟨ks, e, _⟩
    · exact ⟨_, e, trivial⟩
    · exact ⟨_, e, trivial⟩
theorem ORep.there {K : PySem.W.Frag} {H : Hp} {p : Addr} {o : AO} (h : ORep K H p o) : ∃ u, H p = some u ∧ Mu u := by
  cases o with
  | cont c => exact CRep.there h
  | ins C fs => obtain ⟨dx, vs, e, _⟩ := h; exact ⟨_, e, trivial⟩
theorem CRep.mono {K : PySem.W.Frag} {H H' : Hp} (k : Keeps H H') {p : Addr} (s : H' p = H p) {c : Cont} (h : CRep K H p c) : CRep K H' p c := by
  cases c with
  | seq ws => obtain ⟨vs, e, r⟩ := h; exact ⟨vs, s.trans e, RepL.mono k _ _ r⟩
  | map kvs =>
    rcases h with ⟨ks, e, t, r⟩ | ⟨ks, e, t, r⟩
    · exact .inl ⟨ks, s.trans e, t, RepL.mono k _ _ r⟩
    · exact .inr ⟨ks, s.trans e, t, RepL.mono k _ _ r⟩
theorem ORep.mono {K : PySem.W.Frag} {H H' : Hp} (k : Keeps H H') {p : Addr} (s : H' p = H p) {o : AO} (h : ORep K H p o) : ORep K H' p o := by
  cases o with
  | cont c => exact CRep.mono k s h
  | ins C fs => obtain ⟨dx, vs, e, t, r⟩ := h; exact ⟨dx, vs, s.trans e, t, RepL.mono k _ _ r⟩
/-- the ghost: the written part; abstract and tracked heap at the def's entry -/
structure AExc where
  C : Addr
  fs : List (Str × W)
structure Gx where
  K : PySem.W.Frag
  h0 : AH
  H0 : Hp
def OwnAt (env : AEnv) (σ : L2.St) (p : Addr) : Prop := ∃ (i : Nat) (c : Cont), env[i]? = some (some (SV.own c)) ∧ σ[i]? = some (some (V.ref p))
structure BS (G : Gx) (env : AEnv) (h : AH) (σ : L2.St) (H : Hp) : Prop where
  len : env.length = σ.length
  val : ∀ (i : Nat) (w : W), env[i]? = some (some (SV.val w)) → ∃ v, σ[i]? = some (some v) ∧ Rep G.K H w v
  own : ∀ (i : Nat) (c : Cont), env[i]? = some (some (SV.own c)) → ∃ p, σ[i]? = some (some (V.ref p)) ∧ CRep G.K H p c ∧ h p = none ∧ G.H0 p = none
  uni : ∀ (i j : Nat) (c c' : Cont) (p : Addr), env[i]? = some (some (SV.own c)) → env[j]? = some (some (SV.own c')) → σ[i]? = some (some (V.ref p)) → σ[j]? = some (some (V.ref p)) → i = j
  hp : ∀ a o, h a = some o → ORep G.K H a o
  fr : ∀ p o, G.H0 p = some o → G.h0 p = none → H p = some o
  ext : ∀ a o, h a = some o → G.h0 a = none → G.H0 a = none
  tr : ∀ p o, G.H0 p = some o → ∃ u, H p = some u
/-- a step of an expression: all but what is owned or in the abstract heap stays -/
structure Xt (env : AEnv) (h : AH) (σ : L2.St) (H : Hp) (env' : AEnv) (h' : AH) (H' : Hp) : Prop where
  fr : ∀ p o, H p = some o → h p = none → ¬ OwnAt env σ p → H' p = some o
  hn : ∀ p o, h' p = some o → h p = none → H p = none
  th : ∀ p o, H p = some o → ∃ o', H' p = some o'
  sl : ∀ (i : Nat) (c' : Cont), env'[i]? = some (some (SV.own c')) → ∃ c, env[i]? = some (some (SV.own c))
section
variable {G : Gx} {env env' env2 : AEnv} {h h' h2 : AH} {σ : L2.St} {H H' H2 : Hp}
theorem BS.imm (S : BS G env h σ H) {p : Addr} {o : HO} (e : H p = some o) (i : Imm o) : h p = none ∧ ¬ OwnAt env σ p := by
  refine ⟨?_, fun ⟨j, c, a, b⟩ => ?_⟩
  · cases q : h p with
    | none => rfl
    | some u =>
      obtain ⟨o', e', m⟩ := (S.hp p u q).there
      rw [e] at e'; cases e'
      exact absurd i m.imm
  · obtain ⟨p', b', cr, _⟩ := S.own j c a
    rw [b] at b'; cases b'
    obtain ⟨o', e', m⟩ := cr.there
    rw [e] at e'; cases e'
    exact absurd i m.imm
theorem Xt.keeps (x : Xt env h σ H env' h' H') (S : BS G env h σ H) : Keeps H H' := fun p o e i => x.fr p o e (S.imm e i).1 (S.imm e i).2
theorem Xt.refl : Xt env h σ H env h H := ⟨fun _ _ e _ _ => e, fun p o e n => (by rw [n] at e; cases e), fun _ o e => ⟨o, e⟩, fun i c e => ⟨c, e⟩⟩
theorem Xt.own (x : Xt env h σ H env' h' H') {p : Addr} (o : OwnAt env' σ p) : OwnAt env σ p := by
  obtain ⟨i, c, e1, e2⟩ := o
  obtain ⟨c0, z⟩ := x.sl i c e1
  exact ⟨i, c0, z, e2⟩
theorem Xt.trans (a : Xt env h σ H env' h' H') (b : Xt env' h' σ H' env2 h2 H2) : Xt env h σ H env2 h2 H2 := by
  refine ⟨fun p o e n w => ?_, fun p o e n => ?_, fun p o e => ?_, fun i c e => ?_⟩
  · refine b.fr p o (a.fr p o e n w) ?_ fun q => w (a.own q)
    cases q : h' p with
    | none => rfl
    | some u => rw [a.hn p u q n] at e; cases e
  · cases q : h' p with
    | none =>
      have z := b.hn p o e q
      cases q2 : H p with
      | none => rfl
      | some u =>
        obtain ⟨o', e'⟩ := a.th p u q2
        rw [z] at e'; cases e'
    | some u => exact a.hn p u q n
  · obtain ⟨o', e'⟩ := a.th p o e
    exact b.th p o' e'
  · obtain ⟨c1, z⟩ := b.sl i c e
    exact a.sl i c1 z
end
end Ab

namespace Ab
open PySem PySem.Spec PyProof.Rows L2
/-! ### results -/
/-- an expression's result: a value; a new list or dict; the list or dict that the i-th slot owns -/
inductive RV where
  | val (w : W) | own (c : Cont) | slot (i : Nat)
/-- what is to be read there -/
inductive Vw where
  | wv (x : W) | cv (x : Cont) | bad
def viewS : Option (Option SV) → Vw
  | some (some (.val w)) => .wv w
  | some (some (.own c)) => .cv c
  | _ => .bad
/-- what stands behind a value: of an address in the abstract heap its content -/
def viewW (h : AH) : W → Vw
  | .ref a => match h a with
    | some (.cont c) => .cv c
    | _ => .wv (.ref a)
  | w => .wv w
def view (env : AEnv) (h : AH) : RV → Vw
  | .val w => viewW h w
  | .own c => .cv c
  | .slot i => viewS env[i]?
def Vw.toW : Vw → W
  | .wv w => w
  | .cv c => c.fz
  | .bad => .non
def RvRep (G : Gx) (env : AEnv) (h : AH) (σ : L2.St) (H : Hp) : RV → V → Prop
  | .val w, v => Rep G.K H w v
  | .own c, v => ∃ p, v = .ref p ∧ CRep G.K H p c ∧ h p = none ∧ G.H0 p = none ∧ ¬ OwnAt env σ p
  | .slot i, v => σ[i]? = some (some v)
def VR (K : PySem.W.Frag) (H : Hp) : Vw → V → Prop
  | .wv w, v => Rep K H w v
  | .cv c, v => ∃ p, v = .ref p ∧ CRep K H p c
  | .bad, _ => True
section
variable {G : Gx} {env env' : AEnv} {h h' : AH} {σ : L2.St} {H H' : Hp}
theorem VR.viewW (S : BS G env h σ H) {w : W} {v : V} (x : Rep G.K H w v) : VR G.K H (viewW h w) v := by
  cases w with
  | ref a =>
    have e : v = .ref a := Rep.of_ref x
    subst e
    show VR G.K H (match h a with
      | some (.cont c) => .cv c
      | _ => .wv (.ref a)) _
    cases q : h a with
    | none => exact x
    | some o =>
      cases o with
      | cont c => exact ⟨a, rfl, S.hp a _ q⟩
      | ins C fs => exact x
  | _ => exact x
theorem RvRep.vr (S : BS G env h σ H) {r : RV} {v : V} (x : RvRep G env h σ H r v) : VR G.K H (view env h r) v := by
  cases r with
  | val w => exact VR.viewW S x
  | own c => obtain ⟨p, e, c, _⟩ := x; exact ⟨p, e, c⟩
  | slot i =>
    have e1 : σ[i]? = some (some v) := x
    show VR G.K H (viewS env[i]?) v
    cases e2 : env[i]? with
    | none => trivial
    | some o =>
      cases o with
      | none => trivial
      | some sv =>
        cases sv with
        | val w =>
          obtain ⟨u, e3, r⟩ := S.val i w e2
          rw [e1] at e3; cases e3
          exact r
        | own c =>
          obtain ⟨p, e3, r, _⟩ := S.own i c e2
          rw [e1] at e3; cases e3
          exact ⟨p, rfl, r⟩
theorem RvRep.xt (S : BS G env h σ H) (x : Xt env h σ H env' h' H') {r : RV} {v : V} (a : RvRep G env h σ H r v) : RvRep G env' h' σ H' r v := by
  cases r with
  | val w => exact Rep.mono (x.keeps S) w v a
  | own c =>
    obtain ⟨p, e, c, n, n0, no⟩ := a
    obtain ⟨o, eo, _⟩ := c.there
    refine ⟨p, e, c.mono (x.keeps S) ((x.fr p o eo n no).trans eo.symm), ?_, n0, fun q => no (x.own q)⟩
    cases q : h' p with
    | none => rfl
    | some u => rw [x.hn p u q n] at eo; cases eo
  | slot i => exact a
/-- nothing but new things -/
def New (H H' : Hp) : Prop := ∀ p o, H p = some o → H' p = some o
theorem New.refl (H : Hp) : New H H := fun _ _ e => e
theorem New.upd {p : Addr} {o : HO} (n : H p = none) : New H (upd H p o) := fun q u e => by rw [upd_ne (ne_of_none e n)]; exact e
theorem New.keeps (n : New H H') : Keeps H H' := fun p o e _ => n p o e
theorem New.xt (n : New H H') : Xt env h σ H env h H' := ⟨fun p o e _ _ => n p o e, fun p o e q => (by rw [q] at e; cases e), fun p o e => ⟨o, n p o e⟩, fun i c e => ⟨c, e⟩⟩
theorem New.bs (n : New H H') (S : BS G env h σ H) : BS G env h σ H' where
  len := S.len
  val := fun i w e => let ⟨v, a, b⟩ := S.val i w e; ⟨v, a, Rep.mono n.keeps w v b⟩
  own := fun i c e => by
    obtain ⟨p, a, b, d, f⟩ := S.own i c e
    obtain ⟨o, eo, _⟩ := b.there
    exact ⟨p, a, b.mono n.keeps ((n p o eo).trans eo.symm), d, f⟩
  uni := S.uni
  hp := fun a o e => by
    obtain ⟨u, eu, _⟩ := (S.hp a o e).there
    exact (S.hp a o e).mono n.keeps ((n a u eu).trans eu.symm)
  fr := fun p o e q => n p o (S.fr p o e q)
  ext := S.ext
  tr := fun p o e => let ⟨u, q⟩ := S.tr p o e; ⟨u, n p u q⟩
end
/-! ### readings -/
abbrev AT := AEnv → AH → (RV → AEnv → AH → Prop) → Prop
abbrev AVT := AEnv → AH → (W → AEnv → AH → Prop) → Prop
abbrev AAT := AEnv → AH → (List W → AEnv → AH → Prop) → Prop
abbrev ABT := AEnv → AH → (Bool → AEnv → AH → Prop) → Prop
def Mono {α : Type} (t : AEnv → AH → (α → AEnv → AH → Prop) → Prop) : Prop := ∀ env h Q Q', (∀ r e k, Q r e k → Q' r e k) → t env h Q → t env h Q'
/-- what is new is new -/
def Fsh (H : Hp) : RV → V → Prop
  | .own _, v => ∀ p, v = .ref p → H p = none
  | _, _ => True
def cE (G : Gx) (t : AT) : TE := fun σ H Q => ∃ env h, BS G env h σ H ∧ t env h fun r env' h' => ∀ v H', BS G env' h' σ H' → Xt env h σ H env' h' H' → RvRep G env' h' σ H' r v → Fsh H r v → Q v H'
def cV (G : Gx) (t : AVT) : TE := fun σ H Q => ∃ env h, BS G env h σ H ∧ t env h fun w env' h' => ∀ v H', BS G env' h' σ H' → Xt env h σ H env' h' H' → Rep G.K H' w v → Q v H'
def cA (G : Gx) (t : AAT) : TA := fun σ H Q => ∃ env h, BS G env h σ H ∧ t env h fun ws env' h' => ∀ vs H', BS G env' h' σ H' → Xt env h σ H env' h' H' → RepL G.K H' ws vs → Q vs H'
def cT (G : Gx) (t : ABT) : TT := fun σ H Q => ∃ env h, BS G env h σ H ∧ t env h fun b env' h' => ∀ H', BS G env' h' σ H' → Xt env h σ H env' h' H' → Q b H'
structure AE (X : Cx) (G : Gx) (e : Expr) (t : AT) : Prop where
  mono : Mono t
  pe : PE X e (cE G t)
structure AV (X : Cx) (G : Gx) (e : Expr) (t : AVT) : Prop where
  mono : Mono t
  pe : PE X e (cV G t)
structure AA (X : Cx) (G : Gx) (es : List Expr) (t : AAT) : Prop where
  mono : Mono t
  pa : PA X es (cA G t)
structure AP (X : Cx) (G : Gx) (e : Expr) (t : ABT) : Prop where
  mono : Mono t
  pt : PT X e (cT G t)
theorem PE.imp {X : Cx} {e : Expr} {t t' : TE} (h : PE X e t) (i : ∀ σ H Q, t' σ H Q → t σ H Q) : PE X e t' := ⟨fun pins s σ H Q I q => h.run pins s σ H Q I (i σ H Q q)⟩
theorem PA.imp {X : Cx} {e : List Expr} {t t' : TA} (h : PA X e t) (i : ∀ σ H Q, t' σ H Q → t σ H Q) : PA X e t' := ⟨fun pos pins s σ H Q I q => h.run pos pins s σ H Q I (i σ H Q q)⟩
theorem PT.imp {X : Cx} {e : Expr} {t t' : TT} (h : PT X e t) (i : ∀ σ H Q, t' σ H Q → t σ H Q) : PT X e t' := ⟨fun pins s σ H Q I q => h.run pins s σ H Q I (i σ H Q q)⟩
theorem PS.imp {X : Cx} {e : Stmt} {t t' : TS} (h : PS X e t) (i : ∀ D σ H, t' D σ H → t D σ H) : PS X e t' := ⟨fun pins s σ H Q I q => h.run pins s σ H Q I (i Q σ H q)⟩
theorem PSs.imp {X : Cx} {e : List Stmt} {t t' : TS} (h : PSs X e t) (i : ∀ D σ H, t' D σ H → t D σ H) : PSs X e t' := ⟨fun pins s σ H Q I q => h.run pins s σ H Q I (i Q σ H q)⟩
section
variable {X : Cx} {G : Gx}
/-! ### names, constants -/
def aVar (i : Nat) : AT := fun env h Q => match env[i]? with
  | some (some (.val w)) => Q (.val w) env h
  | some (some (.own _)) => Q (.slot i) env h
  | _ => False
def aC (w : W) : AT := fun env h Q => Q (.val w) env h
theorem aVar.mono {i : Nat} : Mono (aVar i) := fun env h Q Q' k q => by
  unfold aVar at q ⊢
  split at q
  · exact k _ _ _ q
  · exact k _ _ _ q
  · exact q
theorem aC.mono {w : W} : Mono (aC w) := fun env h Q Q' k q => k _ _ _ q
theorem ae_var {e : Expr} {i : Nat} (h : PE X e (tVar i)) : AE X G e (aVar i) := by
  refine ⟨aVar.mono, PE.imp h fun σ H Q ⟨env, k, S, q⟩ => ?_⟩
  unfold aVar at q
  split at q
  · rename_i w e
    obtain ⟨v, e1, r⟩ := S.val i w e
    exact ⟨v, e1, q v H S .refl r trivial⟩
  · rename_i c e
    obtain ⟨p, e1, r⟩ := S.own i c e
    exact ⟨_, e1, q _ H S .refl e1 trivial⟩
  · exact q.elim
theorem ae_c {e : Expr} {w : W} {v : V} (h : PE X e (tC v)) (r : ∀ H, Rep G.K H w v) : AE X G e (aC w) :=
  ⟨aC.mono, PE.imp h fun σ H Q ⟨env, k, S, q⟩ => q v H S .refl (r H) trivial⟩
theorem ae_int {i j pos} : AE X G (.Constant (.int i) j pos) (aC (.int i)) := ae_c pe_int fun _ => .int
theorem ae_bl {i j pos} : AE X G (.Constant (.bool i) j pos) (aC (.bl i)) := ae_c pe_bl fun _ => .bl
theorem ae_non {j pos} : AE X G (.Constant .none j pos) (aC .non) := ae_c pe_non fun _ => .non
theorem ae_str {i j pos} : AE X G (.Constant (.str i) j pos) (aC (.str i)) := ae_c pe_str fun _ => .str
/-! ### a list is frozen -/
def aFz (t : AT) : AVT := fun env h Q => t env h fun r env' h' => match r with
  | .val w => Q w env' h'
  | .own c => Q c.fz env' h'
  | .slot i => match env'[i]? with
    | some (some (.val w)) => Q w env' h'
    | some (some (.own c)) => Q c.fz (env'.set i (some (.val c.fz))) h'
    | _ => False
theorem aFz.mono {t : AT} (m : Mono t) : Mono (aFz t) := fun env h Q Q' k q => by
  refine m env h _ _ (fun r e g z => ?_) q
  cases r with
  | val w => exact k _ _ _ z
  | own c => exact k _ _ _ z
  | slot i =>
    show match e[i]? with
      | some (some (.val w)) => Q' w e g
      | some (some (.own c)) => Q' c.fz (e.set i (some (.val c.fz))) g
      | _ => False
    have z : match e[i]? with
      | some (some (.val w)) => Q w e g
      | some (some (.own c)) => Q c.fz (e.set i (some (.val c.fz))) g
      | _ => False := z
    split at z
    · exact k _ _ _ z
    · exact k _ _ _ z
    · exact z
/-- locked for good -/
theorem fz_rep {K : PySem.W.Frag} {H : Hp} {p : Addr} {c : Cont} (r : CRep K H p c) (hp : ∃ u, H p = some u ∧ Mu u) : ∃ u, H p = some u ∧ Mu u ∧ ∀ od, Rep K (upd H p (.frz od u)) c.fz (.ref p) := by
  have keep : ∀ (u : HO) (od : Obj), H p = some u → Mu u → Keeps H (upd H p (.frz od u)) := fun u od e m q o e' i => by
    have n : q ≠ p := fun z => by rw [z, e] at e'; cases e'; exact m.imm i
    rw [upd_ne n]; exact e'
  cases c with
  | seq ws =>
    obtain ⟨vs, e, r⟩ := r
    refine ⟨_, e, trivial, fun od => ?_⟩
    exact .lst ⟨od, upd_same⟩ (RepL.mono (keep _ od e trivial) _ _ r)
  | map kvs =>
    rcases r with ⟨ks, e, t, r⟩ | ⟨ks, e, t, r⟩
    · refine ⟨_, e, trivial, fun od => ?_⟩
      show Rep K _ (.dct _ _) _
      simp only [Rep]
      exact ⟨p, rfl, .inl ⟨od, ks, upd_same, t, RepL.mono (keep _ od e trivial) _ _ r⟩⟩
    · refine ⟨_, e, trivial, fun od => ?_⟩
      show Rep K _ (.dct _ _) _
      simp only [Rep]
      exact ⟨p, rfl, .inr ⟨od, ks, upd_same, t, RepL.mono (keep _ od e trivial) _ _ r⟩⟩
/-- the state behind a freezing of what stands at p: not in the abstract heap; owned by no slot but those in `off` -/
theorem BS.freeze {env env' : AEnv} {h : AH} {σ : L2.St} {H : Hp} (S : BS G env h σ H) {p : Addr} {u : HO} (od : Obj) (e : H p = some u) (m : Mu u) (n : h p = none) (n0 : G.H0 p = none)
    (len : env'.length = env.length)
    (v' : ∀ (i : Nat) (w : W), env'[i]? = some (some (SV.val w)) → env[i]? = some (some (SV.val w)) ∨ ∃ v, σ[i]? = some (some v) ∧ Rep G.K (upd H p (.frz od u)) w v)
    (o' : ∀ (i : Nat) (c : Cont), env'[i]? = some (some (SV.own c)) → env[i]? = some (some (SV.own c)) ∧ σ[i]? ≠ some (some (V.ref p))) : BS G env' h σ (upd H p (.frz od u)) := by
  have keep : Keeps H (upd H p (.frz od u)) := fun q o e' i => by
    have n : q ≠ p := fun z => by rw [z, e] at e'; cases e'; exact m.imm i
    rw [upd_ne n]; exact e'
  refine ⟨len.trans S.len, fun i w z => ?_, fun i c z => ?_, fun i j c c' q a b => ?_, fun a o z => ?_, fun q o z y => ?_, S.ext, fun q o z => ?_⟩
  · rcases v' i w z with z | z
    · obtain ⟨v, a, b⟩ := S.val i w z
      exact ⟨v, a, Rep.mono keep w v b⟩
    · exact z
  · obtain ⟨z, ne⟩ := o' i c z
    obtain ⟨q, a, b, d, f⟩ := S.own i c z
    have nq : q ≠ p := fun y => ne (by rw [a, y])
    exact ⟨q, a, b.mono keep (upd_ne nq), d, f⟩
  · exact S.uni i j c c' q (o' i c a).1 (o' j c' b).1
  · have na : a ≠ p := fun y => by rw [y, n] at z; cases z
    exact (S.hp a o z).mono keep (upd_ne na)
  · have nq : q ≠ p := fun x => by rw [x, n0] at z; cases z
    rw [upd_ne nq]; exact S.fr q o z y
  · by_cases hq : q = p
    · subst hq; exact ⟨_, upd_same⟩
    · obtain ⟨u', e'⟩ := S.tr q o z
      exact ⟨u', by rw [upd_ne hq]; exact e'⟩
theorem Xt.freeze {env env' env2 : AEnv} {h h' : AH} {σ : L2.St} {H H1 : Hp} {p : Addr} {u : HO} {od : Obj} (x : Xt env h σ H env' h' H1) (e : H1 p = some u) (f : H p = none ∨ OwnAt env σ p)
    (sl : ∀ (i : Nat) (c : Cont), env2[i]? = some (some (SV.own c)) → env'[i]? = some (some (SV.own c))) : Xt env h σ H env2 h' (upd H1 p (.frz od u)) := by
  refine ⟨fun q o e n w => ?_, x.hn, fun q o e => ?_, fun i c e => x.sl i c (sl i c e)⟩
  · have nq : q ≠ p := fun y => by
      rcases f with f | f
      · rw [y, f] at e; cases e
      · exact w (y ▸ f)
    rw [upd_ne nq]; exact x.fr q o e n w
  · by_cases hq : q = p
    · subst hq; exact ⟨_, upd_same⟩
    · rw [upd_ne hq]; exact x.th q o e
theorem set_slot {env : AEnv} {i j : Nat} {sv sv' : SV} (e : env[i]? = some (some sv)) : (env.set i (some sv'))[j]? = if j = i then some (some sv') else env[j]? := by
  have hi : i < env.length := (List.getElem?_eq_some_iff.mp e).1
  by_cases hj : j = i
  · subst hj; rw [if_pos rfl, List.getElem?_set_self hi]
  · rw [if_neg hj, List.getElem?_set_ne (Ne.symm hj)]
/-- freezing the very slot -/
theorem slot_freeze {env env' : AEnv} {h h' : AH} {σ : L2.St} {H H1 : Hp} {i : Nat} {c : Cont} {pins : List (Addr × Obj)} {s : Shared} (S : BS G env' h' σ H1) (x : Xt env h σ H env' h' H1) (I : Inv X pins σ H1 s) (e : env'[i]? = some (some (.own c))) :
    ∃ p H2, σ[i]? = some (some (V.ref p)) ∧ Inv X pins σ H2 s ∧ BS G (env'.set i (some (.val c.fz))) h' σ H2 ∧ Xt env h σ H (env'.set i (some (.val c.fz))) h' H2 ∧ Rep G.K H2 c.fz (.ref p) := by
  obtain ⟨p, es, cr, n, n0⟩ := S.own i c e
  obtain ⟨u, eu, mu, fr⟩ := fz_rep cr cr.there
  obtain ⟨od, I2⟩ := I.lock eu mu.mut
  refine ⟨p, _, es, I2, S.freeze od eu mu n n0 (by simp) (fun j w z => ?_) (fun j d z => ?_), x.freeze eu (.inr ?_) (fun j d z => ?_), fr od⟩
  · rw [set_slot e] at z
    by_cases hj : j = i
    · rw [if_pos hj] at z
      cases z
      exact .inr ⟨_, hj ▸ es, fr od⟩
    · rw [if_neg hj] at z; exact .inl z
  · rw [set_slot e] at z
    by_cases hj : j = i
    · rw [if_pos hj] at z; cases z
    · rw [if_neg hj] at z
      exact ⟨z, fun y => hj (S.uni j i d c p z e y es)⟩
  · exact x.own ⟨i, c, e, es⟩
  · rw [set_slot e] at z
    by_cases hj : j = i
    · rw [if_pos hj] at z; cases z
    · rw [if_neg hj] at z; exact z
theorem own_freeze {env env' : AEnv} {h h' : AH} {σ : L2.St} {H H1 : Hp} {c : Cont} {v : V} {pins : List (Addr × Obj)} {s : Shared} (S : BS G env' h' σ H1) (x : Xt env h σ H env' h' H1) (I : Inv X pins σ H1 s) (r : RvRep G env' h' σ H1 (.own c) v) (f : Fsh H (.own c) v) :
    ∃ H2, Inv X pins σ H2 s ∧ BS G env' h' σ H2 ∧ Xt env h σ H env' h' H2 ∧ Rep G.K H2 c.fz v := by
  obtain ⟨p, ex, cr, n, n0, no⟩ := r
  obtain ⟨u, eu, mu, fr⟩ := fz_rep cr cr.there
  obtain ⟨od, I2⟩ := I.lock eu mu.mut
  subst ex
  exact ⟨_, I2, S.freeze od eu mu n n0 rfl (fun i w e => .inl e) fun i c e => ⟨e, fun y => no ⟨i, c, e, y⟩⟩, x.freeze eu (.inl (f p rfl)) fun i c e => e, fr od⟩
theorem av_of {e : Expr} {t : AT} (a : AE X G e t) : AV X G e (aFz t) := by
  refine ⟨aFz.mono a.mono, ⟨fun pins s σ H Q I ⟨env, h, S, q⟩ => ?_⟩⟩
  refine thn (a.pe.run pins s σ H (fun v H1 => ∃ r env' h', BS G env' h' σ H1 ∧ Xt env h σ H env' h' H1 ∧ RvRep G env' h' σ H1 r v ∧ Fsh H r v ∧ match r with
    | .val w => ∀ v H', BS G env' h' σ H' → Xt env h σ H env' h' H' → Rep G.K H' w v → Q v H'
    | .own c => ∀ v H', BS G env' h' σ H' → Xt env h σ H env' h' H' → Rep G.K H' c.fz v → Q v H'
    | .slot i => match env'[i]? with
      | some (some (.val w)) => ∀ v H', BS G env' h' σ H' → Xt env h σ H env' h' H' → Rep G.K H' w v → Q v H'
      | some (some (.own c)) => ∀ v H', BS G (env'.set i (some (.val c.fz))) h' σ H' → Xt env h σ H (env'.set i (some (.val c.fz))) h' H' → Rep G.K H' c.fz v → Q v H'
      | _ => False) I ⟨env, h, S, a.mono env h _ _ (fun r env' h' z v H1 S1 x1 r1 f1 => ⟨r, env', h', S1, x1, r1, f1, z⟩) q⟩) fun v s1 ⟨x, H1, I1, r1, r, env', h', S1, x1, rr, f1, z⟩ => ?_
  cases r with
  | val w => exact ⟨x, H1, I1, r1, z x H1 S1 x1 rr⟩
  | own c =>
    obtain ⟨H2, I2, S2, x2, r2⟩ := own_freeze S1 x1 I1 rr f1
    exact ⟨x, H2, I2, r1, z x H2 S2 x2 r2⟩
  | slot i =>
    have es : σ[i]? = some (some x) := rr
    have z : match env'[i]? with
      | some (some (.val w)) => ∀ v H', BS G env' h' σ H' → Xt env h σ H env' h' H' → Rep G.K H' w v → Q v H'
      | some (some (.own c)) => ∀ v H', BS G (env'.set i (some (.val c.fz))) h' σ H' → Xt env h σ H (env'.set i (some (.val c.fz))) h' H' → Rep G.K H' c.fz v → Q v H'
      | _ => False := z
    split at z
    · rename_i w e
      obtain ⟨u, e3, r⟩ := S1.val i w e
      rw [es] at e3; cases e3
      exact ⟨x, H1, I1, r1, z x H1 S1 x1 r⟩
    · rename_i c e
      obtain ⟨p, H2, ep, I2, S2, x2, r2⟩ := slot_freeze S1 x1 I1 e
      rw [es] at ep; cases ep
      exact ⟨_, H2, I2, r1, z _ H2 S2 x2 r2⟩
    · exact z.elim
/-- .. of a value that is none of the frame's lists -/
def aUn (t : AVT) : AT := fun env h Q => t env h fun w env' h' => Q (.val w) env' h'
/-! ### argument lists -/
def aNil : AAT := fun env h Q => Q [] env h
def aCons (t : AVT) (u : AAT) : AAT := fun env h Q => t env h fun w env' h' => u env' h' fun ws env2 h2 => Q (w :: ws) env2 h2
theorem aNil.mono : Mono aNil := fun env h Q Q' k q => k _ _ _ q
theorem aCons.mono {t : AVT} {u : AAT} (m : Mono t) (n : Mono u) : Mono (aCons t u) := fun env h Q Q' k q => m env h _ _ (fun w e g z => n e g _ _ (fun ws e2 g2 z2 => k _ _ _ z2) z) q
theorem aa_nil : AA X G [] aNil := ⟨aNil.mono, PA.imp pa_nil fun σ H Q ⟨env, h, S, q⟩ => q [] H S .refl .nil⟩
theorem aa_cons {e : Expr} {es : List Expr} {t : AVT} {u : AAT} (a : AV X G e t) (b : AA X G es u) (hs : starEach (e :: es) X.env = (false, eval e X.env) :: starEach es X.env := by rfl) : AA X G (e :: es) (aCons t u) := by
  refine ⟨aCons.mono a.mono b.mono, PA.imp (pa_cons a.pe b.pa hs) fun σ H Q ⟨env, h, S, q⟩ => ?_⟩
  refine ⟨env, h, S, a.mono env h _ _ (fun w env1 h1 z v H1 S1 x1 r1 => ?_) q⟩
  refine ⟨env1, h1, S1, b.mono env1 h1 _ _ (fun ws env2 h2 z vs H2 S2 x2 r2 => ?_) z⟩
  exact z (v :: vs) H2 S2 (x1.trans x2) (.cons (Rep.mono (x2.keeps S1) w v r1) r2)
/-! ### displays -/
def aTup (t : AAT) : AT := fun env h Q => t env h fun ws env' h' => ws.length ≤ sizeLine ∧ Q (.val (.tup ws)) env' h'
def aLst (t : AAT) : AT := fun env h Q => t env h fun ws env' h' => ws.length ≤ sizeLine ∧ Q (.own (.seq ws)) env' h'
theorem aTup.mono {t : AAT} (m : Mono t) : Mono (aTup t) := fun env h Q Q' k q => m env h _ _ (fun ws e g z => ⟨z.1, k _ _ _ z.2⟩) q
theorem aLst.mono {t : AAT} (m : Mono t) : Mono (aLst t) := fun env h Q Q' k q => m env h _ _ (fun ws e g z => ⟨z.1, k _ _ _ z.2⟩) q
section
variable {env : AEnv} {h : AH} {σ : L2.St} {H : Hp}
theorem BS.noAt (S : BS G env h σ H) {p : Addr} (n : H p = none) : h p = none ∧ G.H0 p = none ∧ ¬ OwnAt env σ p := by
  refine ⟨?_, ?_, fun ⟨i, c, e1, e2⟩ => ?_⟩
  · cases q : h p with
    | none => rfl
    | some u => obtain ⟨o, e, _⟩ := (S.hp p u q).there; rw [n] at e; cases e
  · cases q : G.H0 p with
    | none => rfl
    | some o => obtain ⟨u, e⟩ := S.tr p o q; rw [n] at e; cases e
  · obtain ⟨q, e3, cr, _⟩ := S.own i c e1
    rw [e2] at e3; cases e3
    obtain ⟨o, e, _⟩ := cr.there; rw [n] at e; cases e
theorem ae_tup {es : List Expr} {t : AAT} {x1 pos} (a : AA X G es t) : AE X G (.Tuple es x1 pos) (aTup t) := by
  refine ⟨aTup.mono a.mono, PE.imp (pe_tup a.pa) fun σ H Q ⟨env, h, S, q⟩ => ?_⟩
  refine ⟨env, h, S, a.mono env h _ _ (fun ws env1 h1 z vs H1 S1 x1 r1 => ⟨by rw [← r1.length]; exact z.1, fun p n => ?_⟩) q⟩
  have nw : New H1 (upd H1 p (.tup vs)) := New.upd n
  exact z.2 (.ref p) _ (nw.bs S1) (x1.trans nw.xt) (.tup (.inl (.inl upd_same)) (RepL.mono nw.keeps _ _ r1)) trivial
theorem Xt.fresh {env env' : AEnv} {h' : AH} {H' : Hp} (x : Xt env h σ H env' h' H') {p : Addr} (n : H' p = none) : H p = none := by
  cases q : H p with
  | none => rfl
  | some o => obtain ⟨u, e⟩ := x.th p o q; rw [n] at e; cases e
/-- a new list, dict -/
theorem own_new {env env1 : AEnv} {h h1 : AH} {σ : L2.St} {H H1 : Hp} {p : Addr} {o : HO} {c : Cont} (S : BS G env1 h1 σ H1) (x : Xt env h σ H env1 h1 H1) (n : H1 p = none) (r : New H1 (upd H1 p o) → CRep G.K (upd H1 p o) p c) :
    BS G env1 h1 σ (upd H1 p o) ∧ Xt env h σ H env1 h1 (upd H1 p o) ∧ RvRep G env1 h1 σ (upd H1 p o) (.own c) (.ref p) ∧ Fsh H (.own c) (.ref p) := by
  have nw : New H1 (upd H1 p o) := New.upd n
  obtain ⟨a, b, d⟩ := S.noAt n
  exact ⟨nw.bs S, x.trans nw.xt, ⟨p, rfl, r nw, a, b, d⟩, fun q e => by cases e; exact x.fresh n⟩
theorem ae_lst {es : List Expr} {t : AAT} {pos} (a : AA X G es t) : AE X G (.List es pos) (aLst t) := by
  refine ⟨aLst.mono a.mono, PE.imp (pe_lst a.pa) fun σ H Q ⟨env, h, S, q⟩ => ?_⟩
  refine ⟨env, h, S, a.mono env h _ _ (fun ws env1 h1 z vs H1 S1 x1 r1 => ⟨by rw [← r1.length]; exact z.1, fun p n => ?_⟩) q⟩
  obtain ⟨S2, x2, r2, f2⟩ := own_new S1 x1 n (o := .lst vs) (c := .seq ws) fun nw => ⟨vs, upd_same, RepL.mono nw.keeps _ _ r1⟩
  exact z.2 _ _ S2 x2 r2 f2
end
end
end Ab

namespace Ab
open PySem PySem.Spec PyProof.Rows L2
/-! ### views of lists and tuples -/
def Vw.seq : Vw → Option (List W)
  | .wv (.lst xs) => some xs
  | .cv (.seq xs) => some xs
  | _ => none
def Vw.tpl : Vw → Option (List W)
  | .wv (.tup xs) => some xs
  | _ => none
section
variable {K : PySem.W.Frag} {H : Hp} {a : Vw} {v : V} {xs : List W}
theorem VR.seq (r : VR K H a v) (e : a.seq = some xs) : ∃ p vs, v = .ref p ∧ Rd H p (.lst vs) ∧ RepL K H xs vs := by
  cases a with
  | wv w =>
    cases w with
    | lst ys =>
      cases e
      obtain ⟨p, vs, e1, ⟨o, l⟩, r⟩ := Rep.of_lst r
      exact ⟨p, vs, e1, .inr ⟨o, l⟩, r⟩
    | _ => cases e
  | cv c =>
    cases c with
    | seq ys =>
      cases e
      obtain ⟨p, e1, vs, l, r⟩ := r
      exact ⟨p, vs, e1, .inl l, r⟩
    | map _ => cases e
  | bad => cases e
theorem VR.tpl (r : VR K H a v) (e : a.tpl = some xs) : ∃ p vs, v = .ref p ∧ SqT K H p vs ∧ RepL K H xs vs := by
  cases a with
  | wv w =>
    cases w with
    | tup ys => cases e; exact Rep.of_tup r
    | _ => cases e
  | _ => cases e
theorem VR.int {i : Int} (r : VR K H (.wv (.int i)) v) : v = .int i := Rep.of_int (K := K) (H := H) r
theorem VR.str {i : Str} (r : VR K H (.wv (.str i)) v) : v = .str i := Rep.of_str (K := K) (H := H) r
theorem VR.bl {i : Bool} (r : VR K H (.wv (.bl i)) v) : v = .bl i := Rep.of_bl (K := K) (H := H) r
theorem VR.non (r : VR K H (.wv .non) v) : v = .non := Rep.of_non (K := K) (H := H) r
end
/-! ### what an operation gives: an old value or a new tuple, a new list -/
def OutR (K : PySem.W.Frag) (H : Hp) (Q : RV → Prop) (v : V) (H' : Hp) : Prop :=
  (H' = H ∧ ∃ w, Q (.val w) ∧ Rep K H w v) ∨ ∃ p o, H p = none ∧ H' = upd H p o ∧ v = .ref p ∧ ((∃ w, Q (.val w) ∧ Rep K H' w v) ∨ ∃ c, Q (.own c) ∧ CRep K H' p c)
theorem OutR.val {K : PySem.W.Frag} {H : Hp} {Q : RV → Prop} {w : W} {v : V} (q : Q (.val w)) (r : Rep K H w v) : OutR K H Q v H := .inl ⟨rfl, w, q, r⟩
theorem OutR.tup {K : PySem.W.Frag} {H : Hp} {Q : RV → Prop} {ws : List W} {vs : List V} {p : Addr} (n : H p = none) (q : Q (.val (.tup ws))) (r : RepL K H ws vs) : OutR K H Q (.ref p) (upd H p (.tup vs)) :=
  .inr ⟨p, _, n, rfl, rfl, .inl ⟨_, q, .tup (.inl (.inl upd_same)) (RepL.mono (New.upd n).keeps _ _ r)⟩⟩
theorem OutR.lst {K : PySem.W.Frag} {H : Hp} {Q : RV → Prop} {ws : List W} {vs : List V} {p : Addr} (n : H p = none) (q : Q (.own (.seq ws))) (r : RepL K H ws vs) : OutR K H Q (.ref p) (upd H p (.lst vs)) :=
  .inr ⟨p, _, n, rfl, rfl, .inr ⟨_, q, vs, upd_same, RepL.mono (New.upd n).keeps _ _ r⟩⟩
section
variable {G : Gx} {env env1 : AEnv} {h h1 : AH} {σ : L2.St} {H H1 H2 : Hp}
theorem OutR.end {Q0 : RV → Prop} {v : V} (S : BS G env1 h1 σ H1) (x : Xt env h σ H env1 h1 H1) (o : OutR G.K H1 Q0 v H2) :
    ∃ r, Q0 r ∧ BS G env1 h1 σ H2 ∧ Xt env h σ H env1 h1 H2 ∧ RvRep G env1 h1 σ H2 r v ∧ Fsh H r v := by
  rcases o with ⟨rfl, w, q, r⟩ | ⟨p, o, n, rfl, rfl, ⟨w, q, r⟩ | ⟨c, q, r⟩⟩
  · exact ⟨_, q, S, x, r, trivial⟩
  · have nw : New H1 (upd H1 p o) := New.upd n
    exact ⟨_, q, nw.bs S, x.trans nw.xt, r, trivial⟩
  · obtain ⟨a, b, c, d⟩ := own_new S x n fun _ => r
    exact ⟨_, q, a, b, c, d⟩
end
/-! ### operations on two -/
abbrev Op2 := Vw → Vw → (RV → Prop) → Prop
structure OpA (K : PySem.W.Frag) (r : R2) (o : Op2) : Prop where
  mono : ∀ a b Q Q', (∀ r, Q r → Q' r) → o a b Q → o a b Q'
  ok : ∀ a b x y H Q0 Q, VR K H a x → VR K H b y → o a b Q0 → (∀ v H', OutR K H Q0 v H' → Q v H') → r x y H Q
def aOp2 (o : Op2) (ta tb : AT) : AT := fun env h Q => ta env h fun rx env1 h1 => tb env1 h1 fun ry env2 h2 => o (view env2 h2 rx) (view env2 h2 ry) fun r => Q r env2 h2
theorem aOp2.mono {K : PySem.W.Frag} {r : R2} {o : Op2} (oa : OpA K r o) {ta tb : AT} (a : Mono ta) (b : Mono tb) : Mono (aOp2 o ta tb) := fun env h Q Q' k q =>
  a env h _ _ (fun rx e g z => b e g _ _ (fun ry e2 g2 z2 => oa.mono _ _ _ _ (fun r z3 => k _ _ _ z3) z2) z) q
section
variable {X : Cx} {G : Gx}
theorem two_step {ta tb : AT} {o : Op2} {r : R2} (ma : Mono ta) (mb : Mono tb) (oa : OpA G.K r o) {σ : L2.St} {H : Hp} {Q : VK} (q : cE G (aOp2 o ta tb) σ H Q) : tOp r (cE G ta) (cE G tb) σ H Q := by
  obtain ⟨env, h, S, q⟩ := q
  refine ⟨env, h, S, ma env h _ _ (fun rx env1 h1 z x H1 S1 x1 r1 f1 => ?_) q⟩
  refine ⟨env1, h1, S1, mb env1 h1 _ _ (fun ry env2 h2 z2 y H2 S2 x2 r2 f2 => ?_) z⟩
  refine oa.ok _ _ _ _ _ _ _ ((r1.xt S1 x2).vr S2) (r2.vr S2) z2 fun v H3 out => ?_
  obtain ⟨res, q0, S3, x3, r3, f3⟩ := out.end S2 (x1.trans x2)
  exact q0 v H3 S3 x3 r3 f3
theorem ae_op {op : Operator} {r : R2} {o : Op2} {a b : Expr} {ta tb : AT} {pos : Pos} (ho : OpR X (binaryOp op) r) (oa : OpA G.K r o) (ha : AE X G a ta) (hb : AE X G b tb) : AE X G (.BinOp a op b pos) (aOp2 o ta tb) :=
  ⟨aOp2.mono oa ha.mono hb.mono, PE.imp (pe_op ho ha.pe hb.pe) fun _ _ _ q => two_step ha.mono hb.mono oa q⟩
theorem ae_cmp {op : CmpOp} {r : R2} {o : Op2} {a b : Expr} {ta tb : AT} {pos : Pos} (ho : OpR X (compareOp op) r) (oa : OpA G.K r o) (ha : AE X G a ta) (hb : AE X G b tb) (hm : behindInMarks op b = false) : AE X G (.Compare a [op] [b] pos) (aOp2 o ta tb) :=
  ⟨aOp2.mono oa ha.mono hb.mono, PE.imp (pe_cmpR ho ha.pe hb.pe hm) fun _ _ _ q => two_step ha.mono hb.mono oa q⟩
end
theorem OpA.or {K : PySem.W.Frag} {r r' : R2} {o o' : Op2} (a : OpA K r o) (b : OpA K r' o') : OpA K (fun x y H Q => r x y H Q ∨ r' x y H Q) (fun x y Q => o x y Q ∨ o' x y Q) :=
  ⟨fun x y Q Q' k q => q.elim (fun z => .inl (a.mono x y Q Q' k z)) fun z => .inr (b.mono x y Q Q' k z), fun x y u v H Q0 Q r1 r2 q k => q.elim (fun z => .inl (a.ok x y u v H Q0 Q r1 r2 z k)) fun z => .inr (b.ok x y u v H Q0 Q r1 r2 z k)⟩
/-- the same by another reading of what is asked -/
theorem OpA.as {K : PySem.W.Frag} {r : R2} {o o' : Op2} (a : OpA K r o) (i : ∀ x y Q, o' x y Q → o x y Q) (m : ∀ a b Q Q', (∀ r, Q r → Q' r) → o' a b Q → o' a b Q') : OpA K r o' := ⟨m, fun x y u v H Q0 Q r1 r2 q k => a.ok x y u v H Q0 Q r1 r2 (i _ _ _ q) k⟩
/-- two ints -/
def oII (C : Int → Int → Prop) (g : Int → Int → W) : Op2 := fun a b Q => match a, b with
  | .wv (.int i), .wv (.int j) => C i j ∧ Q (.val (g i j))
  | _, _ => False
theorem oII.mono {C : Int → Int → Prop} {g : Int → Int → W} (a b : Vw) (Q Q' : RV → Prop) (k : ∀ r, Q r → Q' r) (q : oII C g a b Q) : oII C g a b Q' := by
  unfold oII at q ⊢
  split at q
  · exact ⟨q.1, k _ q.2⟩
  · exact q.elim
theorem oII.get {C : Int → Int → Prop} {g : Int → Int → W} {a b : Vw} {Q : RV → Prop} (q : oII C g a b Q) : ∃ i j, a = .wv (.int i) ∧ b = .wv (.int j) ∧ C i j ∧ Q (.val (g i j)) := by
  unfold oII at q
  split at q
  · exact ⟨_, _, rfl, rfl, q⟩
  · exact q.elim
theorem opa_int {K : PySem.W.Frag} {C : Int → Int → Prop} {g : Int → Int → V} {g' : Int → Int → W} (hg : ∀ H i j, Rep K H (g' i j) (g i j)) : OpA K (rI C g) (oII C g') :=
  ⟨fun a b Q Q' k q => oII.mono a b Q Q' k q, fun a b x y H Q0 Q ra rb q k => by
    obtain ⟨i, j, rfl, rfl, c, q⟩ := q.get
    exact ⟨i, j, ra.int, rb.int, c, k _ _ (.val q (hg H i j))⟩⟩
theorem opa_int0 {K : PySem.W.Frag} {g : Int → Int → V} {g' : Int → Int → W} (hg : ∀ H i j, Rep K H (g' i j) (g i j)) : OpA K (rI0 g) (oII (fun _ _ => True) g') :=
  ⟨fun a b Q Q' k q => oII.mono a b Q Q' k q, fun a b x y H Q0 Q ra rb q k => by
    obtain ⟨i, j, rfl, rfl, c, q⟩ := q.get
    exact ⟨i, j, ra.int, rb.int, k _ _ (.val q (hg H i j))⟩⟩
def CMod (_ j : Int) : Prop := 0 < j
section
variable {X : Cx} {G : Gx} {a b : Expr} {ta tb : AT} {pos : Pos}
/-! ### ints -/
theorem ae_sub (ha : AE X G a ta) (hb : AE X G b tb) : AE X G (.BinOp a .Sub b pos) (aOp2 (oII (fun _ _ => True) fun i j => .int (i - j)) ta tb) := ae_op op_sub (opa_int0 fun _ _ _ => .int) ha hb
theorem ae_mod (ha : AE X G a ta) (hb : AE X G b tb) : AE X G (.BinOp a .Mod b pos) (aOp2 (oII CMod fun i j => .int (i % j)) ta tb) := ae_op op_mod (opa_int (C := fun _ j => 0 < j) fun _ _ _ => .int) ha hb
theorem ae_fdiv (ha : AE X G a ta) (hb : AE X G b tb) : AE X G (.BinOp a .FloorDiv b pos) (aOp2 (oII CDivW fun i j => .int (i / j)) ta tb) := ae_op op_fdivW (opa_int fun _ _ _ => .int) ha hb
theorem ae_lt (ha : AE X G a ta) (hb : AE X G b tb) : AE X G (.Compare a [.Lt] [b] pos) (aOp2 (oII (fun _ _ => True) fun i j => .bl (decide (i < j))) ta tb) := ae_cmp op_lt (opa_int0 fun _ _ _ => .bl) ha hb (nomark _)
theorem ae_le (ha : AE X G a ta) (hb : AE X G b tb) : AE X G (.Compare a [.LtE] [b] pos) (aOp2 (oII (fun _ _ => True) fun i j => .bl (decide (i ≤ j))) ta tb) := ae_cmp op_le (opa_int0 fun _ _ _ => .bl) ha hb (nomark _)
theorem ae_gt (ha : AE X G a ta) (hb : AE X G b tb) : AE X G (.Compare a [.Gt] [b] pos) (aOp2 (oII (fun _ _ => True) fun i j => .bl (decide (j < i))) ta tb) := ae_cmp op_gt (opa_int0 fun _ _ _ => .bl) ha hb (nomark _)
theorem ae_ge (ha : AE X G a ta) (hb : AE X G b tb) : AE X G (.Compare a [.GtE] [b] pos) (aOp2 (oII (fun _ _ => True) fun i j => .bl (decide (j ≤ i))) ta tb) := ae_cmp op_ge (opa_int0 fun _ _ _ => .bl) ha hb (nomark _)
end
end Ab

namespace Ab
open PySem PySem.Spec PyProof.Rows L2
section
variable {X : Cx}
/-- a list that may be read now -/
theorem rd_get {pins : List (Addr × Obj)} {σ : L2.St} {H : Hp} {s : Shared} {l : Addr} {xs : List V} (I : Inv X pins σ H s) (r : Rd H l (.lst xs)) :
    xs.length ≤ sizeLine ∧ ∃ (us : List Value) (n : Nat), Vals xs us ∧ s.heap.get? l = some { cls := .type "list", data := .seq us.toArray n } := r.ok I.hok
/-- list + list, whoever owns them -/
def rCatR : R2 := fun x y H Q => ∃ l b xs zs, x = .ref l ∧ y = .ref b ∧ Rd H l (.lst xs) ∧ Rd H b (.lst zs) ∧ xs.length + zs.length ≤ sizeLine ∧ ∀ p, H p = none → Q (.ref p) (upd H p (.lst (xs ++ zs)))
theorem op_catR : OpR X (binaryOp .Add) rCatR := fun pins s σ H x y v u Q I rx ry h => by
  obtain ⟨l, b, xs, zs, rfl, rfl, h1, h2, hz, q⟩ := h
  obtain rfl : v = .ref l := rx
  obtain rfl : u = .ref b := ry
  obtain ⟨_, us, n, r1, e1⟩ := rd_get I h1
  obtain ⟨_, ws, m, r2, e2⟩ := rd_get I h2
  have z : us.toArray.size + ws.toArray.size ≤ sizeLine := by
    rw [List.size_toArray, List.size_toArray, ← r1.length, ← r2.length]; exact hz
  have w := r1.append r2
  refine PySem.P.add_list e1 e2 ?_ z
  rw [show us.toArray ++ ws.toArray = (us ++ ws).toArray from by simp]
  refine ⟨.ref _, _, I.lnew (t' := s.toks) w ?_, rfl, q _ I.fresh⟩
  rw [List.length_append]; exact hz
end
def oCat : Op2 := fun a b Q => ∃ xs ys, a.seq = some xs ∧ b.seq = some ys ∧ xs.length + ys.length ≤ sizeLine ∧ Q (.own (.seq (xs ++ ys)))
theorem opa_cat {K : PySem.W.Frag} : OpA K rCatR oCat :=
  ⟨fun a b Q Q' k ⟨xs, ys, e, f, z, q⟩ => ⟨xs, ys, e, f, z, k _ q⟩, fun a b x y H Q0 Q ra rb q k => by
    obtain ⟨xs, ys, e, f, z, q⟩ := q
    obtain ⟨p, vs, rfl, d1, r1⟩ := ra.seq e
    obtain ⟨p', us, rfl, d2, r2⟩ := rb.seq f
    exact ⟨p, p', vs, us, rfl, rfl, d1, d2, by rw [← r1.length, ← r2.length]; exact z, fun l n => k _ _ (.lst n q (r1.append r2))⟩⟩
def oCatT : Op2 := fun a b Q => ∃ xs ys, a.tpl = some xs ∧ b.tpl = some ys ∧ xs.length + ys.length ≤ sizeLine ∧ Q (.val (.tup (xs ++ ys)))
theorem opa_catT {K : PySem.W.Frag} : OpA K (rCatA K) oCatT :=
  ⟨fun a b Q Q' k ⟨xs, ys, e, f, z, q⟩ => ⟨xs, ys, e, f, z, k _ q⟩, fun a b x y H Q0 Q ra rb q k => by
    obtain ⟨xs, ys, e, f, z, q⟩ := q
    obtain ⟨p, vs, rfl, d1, r1⟩ := ra.tpl e
    obtain ⟨p', us, rfl, d2, r2⟩ := rb.tpl f
    refine ⟨p, p', vs, us, rfl, rfl, d1, d2, by rw [← r1.length, ← r2.length]; exact z, fun h0 => ?_, fun _ h0 => ?_, fun _ _ l n => k _ _ (.tup n q (r1.append r2))⟩
    · have e0 : xs = [] := List.eq_nil_of_length_eq_zero (by rw [r1.length, h0]; rfl)
      subst e0
      exact k _ _ (.val q (.tup d2 r2))
    · have e0 : ys = [] := List.eq_nil_of_length_eq_zero (by rw [r2.length, h0]; rfl)
      subst e0
      rw [List.append_nil] at q
      exact k _ _ (.val q (.tup d1 r1))⟩
def oCatS : Op2 := fun a b Q => match a, b with
  | .wv (.str x), .wv (.str y) => x.length + y.length ≤ sizeLine ∧ Q (.val (.str (x ++ y)))
  | _, _ => False
theorem opa_catS {K : PySem.W.Frag} : OpA K (fun x y H Q => ∃ i j, x = .str i ∧ y = .str j ∧ i.length + j.length ≤ sizeLine ∧ Q (.str (i ++ j)) H) oCatS :=
  ⟨fun a b Q Q' k q => by
    unfold oCatS at q ⊢
    split at q
    · exact ⟨q.1, k _ q.2⟩
    · exact q.elim, fun a b x y H Q0 Q ra rb q k => by
    unfold oCatS at q
    split at q
    · exact ⟨_, _, ra.str, rb.str, q.1, k _ _ (.val q.2 .str)⟩
    · exact q.elim⟩
/-- + : what it asks and gives by what stands on its sides -/
def oAdd : Op2 := fun a b Q => match a, b with
  | .wv (.int i), .wv (.int j) => Q (.val (.int (i + j)))
  | .wv (.str x), .wv (.str y) => x.length + y.length ≤ sizeLine ∧ Q (.val (.str (x ++ y)))
  | .wv (.tup xs), .wv (.tup ys) => xs.length + ys.length ≤ sizeLine ∧ Q (.val (.tup (xs ++ ys)))
  | .wv (.lst xs), .wv (.lst ys) => xs.length + ys.length ≤ sizeLine ∧ Q (.own (.seq (xs ++ ys)))
  | .wv (.lst xs), .cv (.seq ys) => xs.length + ys.length ≤ sizeLine ∧ Q (.own (.seq (xs ++ ys)))
  | .cv (.seq xs), .wv (.lst ys) => xs.length + ys.length ≤ sizeLine ∧ Q (.own (.seq (xs ++ ys)))
  | .cv (.seq xs), .cv (.seq ys) => xs.length + ys.length ≤ sizeLine ∧ Q (.own (.seq (xs ++ ys)))
  | _, _ => False
theorem oAdd.as (a b : Vw) (Q : RV → Prop) (q : oAdd a b Q) : ((oII (fun _ _ => True) (fun i j => .int (i + j)) a b Q ∨ oCatS a b Q) ∨ oCatT a b Q) ∨ oCat a b Q := by
  unfold oAdd at q
  split at q
  · exact .inl (.inl (.inl ⟨trivial, q⟩))
  · exact .inl (.inl (.inr q))
  · exact .inl (.inr ⟨_, _, rfl, rfl, q⟩)
  · exact .inr ⟨_, _, rfl, rfl, q⟩
  · exact .inr ⟨_, _, rfl, rfl, q⟩
  · exact .inr ⟨_, _, rfl, rfl, q⟩
  · exact .inr ⟨_, _, rfl, rfl, q⟩
  · exact q.elim
theorem oAdd.mono (a b : Vw) (Q Q' : RV → Prop) (k : ∀ r, Q r → Q' r) (q : oAdd a b Q) : oAdd a b Q' := by
  unfold oAdd at q ⊢
  split at q <;> first | exact ⟨q.1, k _ q.2⟩ | exact k _ q | exact q.elim
section
variable {X : Cx} {G : Gx} {a b c : Expr} {ta tb tc : AT} {pos : Pos}
theorem ae_add (gk : G.K = X.K) (ha : AE X G a ta) (hb : AE X G b tb) : AE X G (.BinOp a .Add b pos) (aOp2 oAdd ta tb) :=
  ae_op (((op_add.or op_add_str).or op_catA).or op_catR) ((((opa_int0 fun _ _ _ => .int).or opa_catS).or (gk ▸ opa_catT)).or opa_cat |>.as (o' := oAdd) oAdd.as oAdd.mono) ha hb
end
/-! ### == and != of data at any depth -/
mutual
def W.pd : W → PyData
  | .non => .none
  | .bl b => .bool b
  | .int i => .int i
  | .str x => .str x
  | .tup xs => .tuple (W.pds xs)
  | .lst xs => .list (W.pds xs)
  | .dct _ _ => .none
  | .ref _ => .none
  | .ty _ => .none
def W.pds : List W → List PyData
  | [] => []
  | x :: xs => x.pd :: W.pds xs
end
/-- data alone, nested at most so deep -/
def W.dat : Nat → W → Bool
  | _, .non => true
  | _, .bl _ => true
  | _, .int _ => true
  | _, .str _ => true
  | n + 1, .tup xs => xs.all (W.dat n)
  | n + 1, .lst xs => xs.all (W.dat n)
  | _, _ => false
theorem W.depth_all {n : Nat} : ∀ xs : List W, (∀ x ∈ xs, x.pd.depth ≤ n) → PyData.depthAll (W.pds xs) ≤ n
  | [], _ => Nat.zero_le _
  | x :: xs, h => by
    simp only [W.pds, PyData.depthAll]
    exact Nat.max_le.mpr ⟨h x List.mem_cons_self, W.depth_all xs fun y hy => h y (List.mem_cons_of_mem _ hy)⟩
theorem W.dat_depth : ∀ (n : Nat) (w : W), w.dat n = true → w.pd.depth ≤ n
  | _, .non, _ => by simp only [W.pd, PyData.depth]; omega
  | _, .bl _, _ => by simp only [W.pd, PyData.depth]; omega
  | _, .int _, _ => by simp only [W.pd, PyData.depth]; omega
  | _, .str _, _ => by simp only [W.pd, PyData.depth]; omega
  | 0, .tup _, h => by simp [W.dat] at h
  | 0, .lst _, h => by simp [W.dat] at h
  | n + 1, .tup xs, h => by
    simp only [W.pd, PyData.depth]
    have z := W.depth_all xs fun x hx => W.dat_depth n x (List.all_eq_true.mp (by simpa only [W.dat] using h) x hx)
    omega
  | n + 1, .lst xs, h => by
    simp only [W.pd, PyData.depth]
    have z := W.depth_all xs fun x hx => W.dat_depth n x (List.all_eq_true.mp (by simpa only [W.dat] using h) x hx)
    omega
  | n, .dct _ _, h => by simp [W.dat] at h
  | n, .ref _, h => by simp [W.dat] at h
  | n, .ty _, h => by simp [W.dat] at h
mutual
theorem W.pd_plain : ∀ w : W, w.pd.plain = true
  | .non => rfl
  | .bl _ => rfl
  | .int _ => rfl
  | .str _ => rfl
  | .tup xs => by simp only [W.pd, PyData.plain]; exact W.pds_plain xs
  | .lst xs => by simp only [W.pd, PyData.plain]; exact W.pds_plain xs
  | .dct _ _ => rfl
  | .ref _ => rfl
  | .ty _ => rfl
theorem W.pds_plain : ∀ ws : List W, PyData.plainAll (W.pds ws) = true
  | [] => rfl
  | w :: ws => by simp only [W.pds, PyData.plainAll, Bool.and_eq_true]; exact ⟨W.pd_plain w, W.pds_plain ws⟩
end
section
variable {K : PySem.W.Frag} {H : Hp}
theorem rd_sq {a : Addr} {vs : List V} (h : Rd H a (.lst vs)) : SqL K H a vs := .inl h
theorem RepL.dp {n : Nat} (ih : ∀ (w : W) (v : V), Rep K H w v → w.dat n = true → Dp K H v w.pd) : ∀ (ws : List W) (vs : List V), RepL K H ws vs → ws.all (W.dat n) = true → DpAll K H vs (W.pds ws)
  | [], vs, r, _ => by rw [r.of_nil]; exact .nil
  | w :: ws, vs, r, d => by
    obtain ⟨v, t, rfl, a, b⟩ := r.of_cons
    rw [List.all_cons, Bool.and_eq_true] at d
    exact .cons (ih w v a d.1) (RepL.dp ih ws t b d.2)
theorem Rep.dp : ∀ (n : Nat) (w : W) (v : V), Rep K H w v → w.dat n = true → Dp K H v w.pd
  | _, .non, _, r, _ => by rw [Rep.of_non (K := K) (H := H) r]; exact .non
  | _, .bl _, _, r, _ => by rw [Rep.of_bl (K := K) (H := H) r]; exact .bl _
  | _, .int _, _, r, _ => by rw [Rep.of_int (K := K) (H := H) r]; exact .int _
  | _, .str _, _, r, _ => by rw [Rep.of_str (K := K) (H := H) r]; exact .str _
  | n + 1, .tup xs, v, r, d => by
    obtain ⟨a, vs, rfl, s, r⟩ := Rep.of_tup r
    simp only [W.pd]
    exact .tup s (RepL.dp (Rep.dp n) xs vs r (by simpa only [W.dat] using d))
  | n + 1, .lst xs, v, r, d => by
    obtain ⟨a, vs, rfl, ⟨o, s⟩, r⟩ := Rep.of_lst r
    simp only [W.pd]
    exact .lst (rd_sq (.inr ⟨o, s⟩)) (RepL.dp (Rep.dp n) xs vs r (by simpa only [W.dat] using d))
  | 0, .tup _, _, _, d => by simp [W.dat] at d
  | 0, .lst _, _, _, d => by simp [W.dat] at d
  | _, .dct _ _, _, _, d => by simp [W.dat] at d
  | _, .ref _, _, _, d => by simp [W.dat] at d
  | _, .ty _, _, _, d => by simp [W.dat] at d
end
theorem VR.dp {K : PySem.W.Frag} {H : Hp} {a : Vw} {v : V} {n : Nat} (r : VR K H a v) (d : a.toW.dat n = true) (nb : a ≠ .bad) : Dp K H v a.toW.pd := by
  cases a with
  | wv w => exact Rep.dp n w v r d
  | bad => exact absurd rfl nb
  | cv c =>
    cases c with
    | map kvs => simp [Vw.toW, Cont.fz, W.dat] at d
    | seq ws =>
      obtain ⟨p, rfl, vs, e, r⟩ := r
      have d : (W.lst ws).dat n = true := d
      cases n with
      | zero => simp [W.dat] at d
      | succ n =>
        simp only [W.dat] at d
        show Dp K H _ (W.lst ws).pd
        simp only [W.pd]
        exact .lst (rd_sq (.inl e)) (RepL.dp (Rep.dp n) ws vs r d)
/-- whether two data are equal, as == tells it -/
def eqw (a b : W) : Bool := PyData.eqv a.pd b.pd
def Vw.ok : Vw → Bool
  | .bad => false
  | v => v.toW.dat 60
theorem Vw.of_ok {a : Vw} (h : a.ok = true) : a.toW.dat 60 = true ∧ a ≠ .bad := by
  cases a with
  | bad => cases h
  | wv w => exact ⟨h, fun z => nomatch z⟩
  | cv c => exact ⟨h, fun z => nomatch z⟩
def oEq (neg : Bool) : Op2 := fun a b Q => a.ok = true ∧ b.ok = true ∧ Q (.val (.bl (if neg then !eqw a.toW b.toW else eqw a.toW b.toW)))
def rEqP (K : PySem.W.Frag) (neg : Bool) : R2 := fun x y H Q => ∃ d e, Dp K H x d ∧ Dp K H y e ∧ d.plain = true ∧ e.plain = true ∧ d.depth ≤ 60 ∧ Q (.bl (if neg then !PyData.eqv d e else PyData.eqv d e)) H
theorem opa_eq {K : PySem.W.Frag} {neg : Bool} : OpA K (rEqP K neg) (oEq neg) :=
  ⟨fun a b Q Q' k ⟨x, y, q⟩ => ⟨x, y, k _ q⟩, fun a b x y H Q0 Q ra rb ⟨da, db, q⟩ k =>
    ⟨_, _, ra.dp (Vw.of_ok da).1 (Vw.of_ok da).2, rb.dp (Vw.of_ok db).1 (Vw.of_ok db).2, W.pd_plain _, W.pd_plain _, W.dat_depth _ _ (Vw.of_ok da).1, k _ _ (.val q .bl)⟩⟩
section
variable {X : Cx} {G : Gx} {a b c : Expr} {ta tb tc : AT} {pos : Pos}
theorem op_eqP (hu : X.A.units + 64 < cLine) : OpR X (compareOp .Eq) (rEqP X.K false) := fun pins s σ H x y v u Q I rx ry ⟨d, e, hd, he, pd, pe, dp, q⟩ => by
  obtain ⟨as, r1⟩ := Dp.reads I d x v hd rx
  obtain ⟨bs, r2⟩ := Dp.reads I e y u he ry
  have z := Nat.min_le_left d.depth e.depth
  exact SeqAt.eq_plain r1 r2 pd pe (by omega) ⟨.bl _, H, I, rfl, q⟩
theorem op_neP (hu : X.A.units + 64 < cLine) : OpR X (compareOp .NotEq) (rEqP X.K true) := fun pins s σ H x y v u Q I rx ry ⟨d, e, hd, he, pd, pe, dp, q⟩ => by
  obtain ⟨as, r1⟩ := Dp.reads I d x v hd rx
  obtain ⟨bs, r2⟩ := Dp.reads I e y u he ry
  have z := Nat.min_le_left d.depth e.depth
  exact SeqAt.ne_plain r1 r2 pd pe (by omega) ⟨.bl _, H, I, rfl, q⟩
theorem ae_eq (gk : G.K = X.K) (hu : X.A.units + 64 < cLine) (ha : AE X G a ta) (hb : AE X G b tb) : AE X G (.Compare a [.Eq] [b] pos) (aOp2 (oEq false) ta tb) := ae_cmp (op_eqP hu) (gk ▸ opa_eq) ha hb (nomark _)
theorem ae_ne (gk : G.K = X.K) (hu : X.A.units + 64 < cLine) (ha : AE X G a ta) (hb : AE X G b tb) : AE X G (.Compare a [.NotEq] [b] pos) (aOp2 (oEq true) ta tb) := ae_cmp (op_neP hu) (gk ▸ opa_eq) ha hb (nomark _)
end
end Ab

namespace Ab
open PySem PySem.Spec PyProof.Rows L2
/-! ### is None; in -/
def Vw.isNon : Vw → Bool
  | .wv .non => true
  | _ => false
def oIsN (neg : Bool) : Op2 := fun a b Q => b = .wv .non ∧ a ≠ .bad ∧ Q (.val (.bl (if neg then !a.isNon else a.isNon)))
theorem VR.isN {K : PySem.W.Frag} {H : Hp} : ∀ {a : Vw} {v : V}, VR K H a v → a ≠ .bad → decide (v = .non) = a.isNon
  | .bad, _, _, nb => absurd rfl nb
  | .cv c, v, r, _ => by obtain ⟨p, e, _⟩ := r; subst e; rfl
  | .wv .non, v, r, _ => by have e := r.non; subst e; rfl
  | .wv (.bl b), v, r, _ => by have e := r.bl; subst e; rfl
  | .wv (.int b), v, r, _ => by have e := r.int; subst e; rfl
  | .wv (.str b), v, r, _ => by have e := r.str; subst e; rfl
  | .wv (.tup b), v, r, _ => by obtain ⟨p, vs, e, _⟩ := Rep.of_tup (K := K) (H := H) r; subst e; rfl
  | .wv (.lst b), v, r, _ => by obtain ⟨p, vs, e, _⟩ := Rep.of_lst (K := K) (H := H) r; subst e; rfl
  | .wv (.ref a), v, r, _ => by have e := Rep.of_ref (K := K) (H := H) r; subst e; rfl
  | .wv (.ty a), v, r, _ => by have e := Rep.of_ty (K := K) (H := H) r; subst e; rfl
  | .wv (.dct ks vs), v, r, _ => by
    have z : Rep K H (.dct ks vs) v := r
    simp only [Rep] at z
    obtain ⟨p, e, _⟩ := z; subst e; rfl
theorem opa_isN {K : PySem.W.Frag} : OpA K (fun x y H Q => y = .non ∧ Q (.bl (decide (x = .non))) H) (oIsN false) :=
  ⟨fun a b Q Q' k ⟨x, y, q⟩ => ⟨x, y, k _ q⟩, fun a b x y H Q0 Q ra rb ⟨e, nb, q⟩ k => by
    subst e
    refine ⟨rb.non, k _ _ (.val q ?_)⟩
    rw [ra.isN nb]
    exact .bl⟩
theorem opa_notN {K : PySem.W.Frag} : OpA K (fun x y H Q => y = .non ∧ Q (.bl (!decide (x = .non))) H) (oIsN true) :=
  ⟨fun a b Q Q' k ⟨x, y, q⟩ => ⟨x, y, k _ q⟩, fun a b x y H Q0 Q ra rb ⟨e, nb, q⟩ k => by
    subst e
    refine ⟨rb.non, k _ _ (.val q ?_)⟩
    rw [ra.isN nb]
    exact .bl⟩
def Vw.items : Vw → Option (List W)
  | .wv (.lst xs) => some xs
  | .wv (.tup xs) => some xs
  | .cv (.seq xs) => some xs
  | _ => none
theorem VR.items {K : PySem.W.Frag} {H : Hp} {a : Vw} {v : V} {xs : List W} (r : VR K H a v) (e : a.items = some xs) : ∃ p vs, v = .ref p ∧ (Rd H p (.lst vs) ∨ SqT K H p vs) ∧ RepL K H xs vs := by
  cases a with
  | bad => cases e
  | cv c =>
    cases c with
    | map _ => cases e
    | seq ws => obtain ⟨p, vs, a, b, c⟩ := r.seq e; exact ⟨p, vs, a, .inl b, c⟩
  | wv w =>
    cases w with
    | lst ws => obtain ⟨p, vs, a, b, c⟩ := r.seq e; exact ⟨p, vs, a, .inl b, c⟩
    | tup ws => obtain ⟨p, vs, a, b, c⟩ := r.tpl e; exact ⟨p, vs, a, .inr b, c⟩
    | _ => cases e
def memw (x : W) (xs : List W) : Bool := xs.any fun y => eqw y x
def oInL (neg : Bool) : Op2 := fun a b Q => ∃ xs, b.items = some xs ∧ a.ok = true ∧ xs.all (W.dat 60) = true ∧ Q (.val (.bl (if neg then !memw a.toW xs else memw a.toW xs)))
def rInP (K : PySem.W.Frag) (neg : Bool) : R2 := fun x y H Q => ∃ p vs d ds, y = .ref p ∧ (SqL K H p vs ∨ SqT K H p vs) ∧ Dp K H x d ∧ DpAll K H vs ds ∧ d.plain = true ∧ PyData.plainAll ds = true ∧ d.depth ≤ 60 ∧ Q (.bl (if neg then !(ds.any fun y => PyData.eqv y d) else ds.any fun y => PyData.eqv y d)) H
theorem any_pds (x : W) : ∀ xs : List W, ((W.pds xs).any fun y => PyData.eqv y x.pd) = memw x xs
  | [] => rfl
  | y :: ys => by
    simp only [W.pds, List.any_cons, memw]
    rw [any_pds x ys]; rfl
theorem opa_inL {K : PySem.W.Frag} {neg : Bool} : OpA K (rInP K neg) (oInL neg) :=
  ⟨fun a b Q Q' k ⟨xs, x, y, z, q⟩ => ⟨xs, x, y, z, k _ q⟩, fun a b x y H Q0 Q ra rb ⟨xs, e, da, db, q⟩ k => by
    obtain ⟨p, vs, rfl, hs, rv⟩ := rb.items e
    refine ⟨p, vs, _, _, rfl, hs.imp_left rd_sq, ra.dp (Vw.of_ok da).1 (Vw.of_ok da).2, RepL.dp (Rep.dp 60) xs vs rv db, W.pd_plain _, W.pds_plain _, W.dat_depth _ _ (Vw.of_ok da).1, k _ _ (.val q ?_)⟩
    rw [any_pds]
    exact .bl⟩
section
variable {X : Cx}
theorem in_get {pins : List (Addr × Obj)} {σ : L2.St} {H : Hp} {s : Shared} {p : Addr} {vs : List V} {ds : List PyData} (I : Inv X pins σ H s) (hq : SqL X.K H p vs ∨ SqT X.K H p vs) (hd : DpAll X.K H vs ds) : (∃ as, Reads s.heap (.ref p) (.list ds) as) ∨ ∃ as, Reads s.heap (.ref p) (.tuple ds) as := by
  rcases hq with hq | hq
  · exact .inl (Dp.reads I (.list ds) (.ref p) (.ref p) (.lst hq hd) rfl)
  · exact .inr (Dp.reads I (.tuple ds) (.ref p) (.ref p) (.tup hq hd) rfl)
theorem op_inP (hu : X.A.units + 64 < cLine) : OpR X (compareOp .In) (rInP X.K false) := fun pins s σ H x y v u Q I rx ry ⟨p, vs, d, ds, e, hq, hx, hd, pd, pe, dp, q⟩ => by
  subst e
  obtain rfl : u = .ref p := ry
  obtain ⟨as, r1⟩ := Dp.reads I d x v hx rx
  have z := Nat.min_le_right (PyData.depthAll ds) d.depth
  rcases in_get I hq hd with ⟨bs, r2⟩ | ⟨bs, r2⟩
  · exact SeqAt.in_list_data r2 r1 pe pd (by omega) ⟨.bl _, H, I, rfl, q⟩
  · exact SeqAt.in_tuple_data r2 r1 pe pd (by omega) ⟨.bl _, H, I, rfl, q⟩
theorem op_notInP (hu : X.A.units + 64 < cLine) : OpR X (compareOp .NotIn) (rInP X.K true) := fun pins s σ H x y v u Q I rx ry ⟨p, vs, d, ds, e, hq, hx, hd, pd, pe, dp, q⟩ => by
  subst e
  obtain rfl : u = .ref p := ry
  obtain ⟨as, r1⟩ := Dp.reads I d x v hx rx
  have z := Nat.min_le_right (PyData.depthAll ds) d.depth
  rcases in_get I hq hd with ⟨bs, r2⟩ | ⟨bs, r2⟩
  · exact SeqAt.notIn_list_data r2 r1 pe pd (by omega) ⟨.bl _, H, I, rfl, q⟩
  · exact SeqAt.notIn_tuple_data r2 r1 pe pd (by omega) ⟨.bl _, H, I, rfl, q⟩
end
/-! ### tests -/
def aTst (t : AT) : ABT := fun env h Q => t env h fun r env' h' => match view env' h' r with
  | .wv (.bl b) => Q b env' h'
  | _ => False
theorem aTst.mono {t : AT} (m : Mono t) : Mono (aTst t) := fun env h Q Q' k q => m env h _ _ (fun r e g z => by
  show match view e g r with
    | .wv (.bl b) => Q' b e g
    | _ => False
  have z : match view e g r with
    | .wv (.bl b) => Q b e g
    | _ => False := z
  split at z
  · exact k _ _ _ z
  · exact z) q
def aAndT (t u : ABT) : ABT := fun env h Q => t env h fun b env' h' => if b = true then u env' h' Q else Q false env' h'
def aOrT (t u : ABT) : ABT := fun env h Q => t env h fun b env' h' => if b = true then Q true env' h' else u env' h' Q
def aNotT (t : ABT) : ABT := fun env h Q => t env h fun b env' h' => Q (!b) env' h'
def aIfE (t : ABT) (a b : AT) : AT := fun env h Q => t env h fun c env' h' => if c = true then a env' h' Q else b env' h' Q
theorem aAndT.mono {t u : ABT} (m : Mono t) (n : Mono u) : Mono (aAndT t u) := fun env h Q Q' k q => m env h _ _ (fun b e g z => by
  cases b with
  | true => exact iteT (n e g _ _ k (by simpa using z))
  | false => exact iteF (k _ _ _ (by simpa using z))) q
theorem aOrT.mono {t u : ABT} (m : Mono t) (n : Mono u) : Mono (aOrT t u) := fun env h Q Q' k q => m env h _ _ (fun b e g z => by
  cases b with
  | true => exact iteT (k _ _ _ (by simpa using z))
  | false => exact iteF (n e g _ _ k (by simpa using z))) q
theorem aNotT.mono {t : ABT} (m : Mono t) : Mono (aNotT t) := fun env h Q Q' k q => m env h _ _ (fun b e g z => k _ _ _ z) q
theorem aIfE.mono {t : ABT} {a b : AT} (m : Mono t) (n : Mono a) (o : Mono b) : Mono (aIfE t a b) := fun env h Q Q' k q => m env h _ _ (fun c e g z => by
  cases c with
  | true => exact iteT (n e g _ _ k (by simpa using z))
  | false => exact iteF (o e g _ _ k (by simpa using z))) q
section
variable {X : Cx} {G : Gx} {a b c : Expr} {ta tb tc : AT} {t u : ABT} {pos : Pos} {rest : List Expr}
/-- a test by its value, a truth value -/
theorem ap_val (h : AE X G a ta) (hv : ∀ t : TE, PE X a t → PT X a (tTest t)) : AP X G a (aTst ta) := by
  refine ⟨aTst.mono h.mono, PT.imp (hv _ h.pe) fun σ H Q ⟨env, k, S, q⟩ => ?_⟩
  refine ⟨env, k, S, h.mono env k _ _ (fun r env1 h1 z v H1 S1 x1 r1 f1 => ?_) q⟩
  have r2 := r1.vr S1
  split at z
  · rename_i b e
    rw [e] at r2
    exact ⟨b, r2.bl, z H1 S1 x1⟩
  · exact z.elim
theorem ap_cmp {op : CmpOp} {r : R2} {o : Op2} (ho : OpR X (compareOp op) r) (oa : OpA G.K r o) (ha : AE X G a ta) (hb : AE X G b tb) (hm : behindInMarks op b = false) : AP X G (.Compare a [op] [b] pos) (aTst (aOp2 o ta tb)) := by
  refine ⟨aTst.mono (aOp2.mono oa ha.mono hb.mono), PT.imp (pt_cmpR ho ha.pe hb.pe hm) fun σ H Q ⟨env, k, S, q⟩ => ?_⟩
  refine two_step ha.mono hb.mono oa ⟨env, k, S, aOp2.mono oa ha.mono hb.mono env k _ _ (fun r env1 h1 z v H1 S1 x1 r1 f1 => ?_) q⟩
  have r2 := r1.vr S1
  split at z
  · rename_i b e
    rw [e] at r2
    exact ⟨b, r2.bl, z H1 S1 x1⟩
  · exact z.elim
theorem ap_not (h : AP X G a t) : AP X G (.UnaryOp .Not a pos) (aNotT t) :=
  ⟨aNotT.mono h.mono, PT.imp (pt_not h.pt) fun σ H Q ⟨env, k, S, q⟩ => ⟨env, k, S, q⟩⟩
structure AW (X : Cx) (G : Gx) (e : Expr) (t : ABT) : Prop where
  mono : Mono t
  pw : PW X e (cT G t)
theorem PW.imp {e : Expr} {t t' : TT} (h : PW X e t) (i : ∀ σ H Q, t' σ H Q → t σ H Q) : PW X e t' := ⟨fun w pins s σ H Q I q => h.run w pins s σ H Q I (i σ H Q q)⟩
theorem AW.ap (h : AW X G a t) : AP X G a t := ⟨h.mono, h.pw.pt⟩
theorem aw_and1 (h : AP X G a t) : AW X G (.BoolOp .And [a] pos) t := ⟨h.mono, pw_and1 h.pt⟩
theorem aw_or1 (h : AP X G a t) : AW X G (.BoolOp .Or [a] pos) t := ⟨h.mono, pw_or1 h.pt⟩
theorem and_step {σ : L2.St} {H : Hp} {Q : Bool → Hp → Prop} (mt : Mono t) (mu : Mono u) (q : cT G (aAndT t u) σ H Q) : tAnd (cT G t) (cT G u) σ H Q := by
  obtain ⟨env, k, S, q⟩ := q
  refine ⟨env, k, S, mt env k _ _ (fun b env1 h1 z H1 S1 x1 => ?_) q⟩
  cases b with
  | true =>
    rw [if_pos rfl] at z
    exact iteT ⟨env1, h1, S1, mu env1 h1 _ _ (fun c env2 h2 z2 H2 S2 x2 => z2 H2 S2 (x1.trans x2)) z⟩
  | false =>
    rw [if_neg Bool.false_ne_true] at z ⊢
    exact z H1 S1 x1
theorem or_step {σ : L2.St} {H : Hp} {Q : Bool → Hp → Prop} (mt : Mono t) (mu : Mono u) (q : cT G (aOrT t u) σ H Q) : tOr (cT G t) (cT G u) σ H Q := by
  obtain ⟨env, k, S, q⟩ := q
  refine ⟨env, k, S, mt env k _ _ (fun b env1 h1 z H1 S1 x1 => ?_) q⟩
  cases b with
  | false =>
    rw [if_neg Bool.false_ne_true] at z
    exact iteF ⟨env1, h1, S1, mu env1 h1 _ _ (fun c env2 h2 z2 H2 S2 x2 => z2 H2 S2 (x1.trans x2)) z⟩
  | true =>
    rw [if_pos rfl] at z ⊢
    exact z H1 S1 x1
theorem aw_and (ha : AP X G a t) (hb : AW X G (.BoolOp .And (b :: rest) pos) u) : AW X G (.BoolOp .And (a :: b :: rest) pos) (aAndT t u) :=
  ⟨aAndT.mono ha.mono hb.mono, PW.imp (pw_and ha.pt hb.pw) fun _ _ _ q => and_step ha.mono hb.mono q⟩
theorem aw_or (ha : AP X G a t) (hb : AW X G (.BoolOp .Or (b :: rest) pos) u) : AW X G (.BoolOp .Or (a :: b :: rest) pos) (aOrT t u) :=
  ⟨aOrT.mono ha.mono hb.mono, PW.imp (pw_or ha.pt hb.pw) fun _ _ _ q => or_step ha.mono hb.mono q⟩
theorem ae_if (hc : AP X G c t) (ha : AE X G a ta) (hb : AE X G b tb) : AE X G (.IfExp c a b pos) (aIfE t ta tb) := by
  refine ⟨aIfE.mono hc.mono ha.mono hb.mono, PE.imp (pe_ifExp hc.pt ha.pe hb.pe) fun σ H Q ⟨env, k, S, q⟩ => ?_⟩
  refine ⟨env, k, S, hc.mono env k _ _ (fun d env1 h1 z H1 S1 x1 => ?_) q⟩
  have fin : ∀ {t : AT}, Mono t → t env1 h1 (fun r env2 h2 => ∀ v H', BS G env2 h2 σ H' → Xt env k σ H env2 h2 H' → RvRep G env2 h2 σ H' r v → Fsh H r v → Q v H') → cE G t σ H1 Q := fun m y =>
    ⟨env1, h1, S1, m env1 h1 _ _ (fun r env2 h2 z2 v H2 S2 x2 r2 f2 => z2 v H2 S2 (x1.trans x2) r2 (by
      cases r with
      | own c => exact fun p e => x1.fresh (f2 p e)
      | _ => trivial)) y⟩
  cases d with
  | true => exact iteT (fin ha.mono (by simpa using z))
  | false => exact iteF (fin hb.mono (by simpa using z))
end
end Ab

namespace Ab
open PySem PySem.Spec PyProof.Rows L2
/-! ### places -/
theorem RepL.atI {K : PySem.W.Frag} {H : Hp} {ws : List W} {vs : List V} {i : Int} {w : W} (r : RepL K H ws vs) (e : L2.atI ws i = some w) : ∃ v, L2.atI vs i = some v ∧ Rep K H w v := by
  unfold L2.atI at e ⊢
  rw [← r.length]
  cases q : ixN ws.length i with
  | none => rw [q] at e; cases e
  | some j =>
    rw [q] at e
    exact r.get (i := j) e
def oIx : Op2 := fun a b Q => match b with
  | .wv (.int i) => match a with
    | .wv (.str x) => x.length ≤ sizeLine ∧ ∃ c, L2.atI x.cps.toList i = some c ∧ Q (.val (.str ⟨#[c]⟩))
    | a => ∃ xs w, a.items = some xs ∧ L2.atI xs i = some w ∧ Q (.val w)
  | _ => False
theorem oIx.mono (a b : Vw) (Q Q' : RV → Prop) (k : ∀ r, Q r → Q' r) (q : oIx a b Q) : oIx a b Q' := by
  unfold oIx at q ⊢
  split at q
  · split at q
    · obtain ⟨z, c, e, q⟩ := q; exact ⟨z, c, e, k _ q⟩
    · obtain ⟨xs, w, e, f, q⟩ := q; exact ⟨xs, w, e, f, k _ q⟩
  · exact q
theorem opa_ix {K : PySem.W.Frag} : OpA K (rIx K) oIx :=
  ⟨oIx.mono, fun a b x y H Q0 Q ra rb q k => by
    unfold oIx at q
    split at q
    · rename_i i
      split at q
      · obtain ⟨z, c, e, q⟩ := q
        exact .inr (.inr ⟨_, i, c, ra.str, rb.int, z, e, k _ _ (.val q .str)⟩)
      · obtain ⟨xs, w, e, f, q⟩ := q
        obtain ⟨p, vs, rfl, hs, rv⟩ := ra.items e
        obtain ⟨v, g, r⟩ := rv.atI f
        rcases hs with hs | hs
        · exact .inl ⟨p, vs, i, v, rfl, rb.int, rd_sq hs, g, k _ _ (.val q r)⟩
        · exact .inr (.inl ⟨p, vs, i, v, rfl, rb.int, hs, g, k _ _ (.val q r)⟩)
    · exact q.elim⟩
section
variable {X : Cx} {G : Gx} {a b c : Expr} {ta tb tc : AT} {pos : Pos}
theorem ae_ix (gk : G.K = X.K) (ha : AE X G a ta) (hb : AE X G b tb) (hs : PlainIx b) : AE X G (.Subscript a b pos) (aOp2 oIx ta tb) :=
  ⟨aOp2.mono (opa_ix (K := G.K)) ha.mono hb.mono, PE.imp (pe_ix ix_seq ha.pe hb.pe hs) fun _ _ _ q => two_step ha.mono hb.mono (gk ▸ opa_ix) q⟩
end
/-! ### slices -/
abbrev AOT := AEnv → AH → (Option Int → AEnv → AH → Prop) → Prop
def cO (G : Gx) (t : AOT) : TO := fun σ H Q => ∃ env h, BS G env h σ H ∧ t env h fun o env' h' => ∀ H', BS G env' h' σ H' → Xt env h σ H env' h' H' → Q o H'
structure AOp (X : Cx) (G : Gx) (e : Option Expr) (t : AOT) : Prop where
  mono : Mono t
  po : PO X e (cO G t)
def aNoPart : AOT := fun env h Q => Q none env h
def aPart (t : AT) : AOT := fun env h Q => t env h fun r env' h' => match view env' h' r with
  | .wv (.int i) => Q (some i) env' h'
  | _ => False
theorem PO.imp {X : Cx} {e : Option Expr} {t t' : TO} (h : PO X e t) (i : ∀ σ H Q, t' σ H Q → t σ H Q) : PO X e t' := ⟨fun pins s σ H Q I q => h.run pins s σ H Q I (i σ H Q q)⟩
section
variable {X : Cx} {G : Gx} {a b c : Expr} {ta tb tc : AT} {pos p2 : Pos} {lo hi : Option Expr} {tl th : AOT}
theorem ao_none : AOp X G none aNoPart := ⟨fun env h Q Q' k q => k _ _ _ q, PO.imp po_none fun σ H Q ⟨env, h, S, q⟩ => q H S .refl⟩
theorem ao_some (ha : AE X G a ta) : AOp X G (some a) (aPart ta) := by
  refine ⟨fun env h Q Q' k q => ha.mono env h _ _ (fun r e g z => ?_) q, PO.imp (po_some ha.pe) fun σ H Q ⟨env, h, S, q⟩ => ?_⟩
  · split at z
    · exact k _ _ _ z
    · exact z
  · refine ⟨env, h, S, ha.mono env h _ _ (fun r env1 h1 z v H1 S1 x1 r1 f1 => ?_) q⟩
    have r2 := r1.vr S1
    split at z
    · rename_i i e
      rw [e] at r2
      exact ⟨i, r2.int, z H1 S1 x1⟩
    · exact z.elim
def cutW (xs : List W) (lo hi : Option Int) : List W := (xs.drop (HT.sIx xs.length 0 lo)).take (HT.sIx xs.length xs.length hi - HT.sIx xs.length 0 lo)
def oSl (a : Vw) (lo hi : Option Int) (Q : RV → Prop) : Prop := match a with
  | .wv (.str x) => x.length ≤ sizeLine ∧ Q (.val (.str (Txt.slice x lo hi)))
  | .wv (.tup xs) => Q (.val (.tup (cutW xs lo hi)))
  | .wv (.lst xs) => Q (.own (.seq (cutW xs lo hi)))
  | .cv (.seq xs) => Q (.own (.seq (cutW xs lo hi)))
  | _ => False
theorem oSl.mono {a : Vw} {lo hi : Option Int} {Q Q' : RV → Prop} (k : ∀ r, Q r → Q' r) (q : oSl a lo hi Q) : oSl a lo hi Q' := by
  unfold oSl at q ⊢
  split at q <;> first | exact ⟨q.1, k _ q.2⟩ | exact k _ q | exact q.elim
def aSl (ta : AT) (tl th : AOT) : AT := fun env h Q => ta env h fun r env1 h1 => tl env1 h1 fun lo env2 h2 => th env2 h2 fun hi env3 h3 => oSl (view env3 h3 r) lo hi fun r => Q r env3 h3
theorem RepL.cut {K : PySem.W.Frag} {H : Hp} {ws : List W} {vs : List V} (r : RepL K H ws vs) (lo hi : Option Int) : RepL K H (cutW ws lo hi) (cutV vs lo hi) := by
  unfold cutW cutV
  rw [← r.length]
  exact (r.drop _).take _
theorem cut_whole {ws : List W} {lo hi : Option Int} (h : HT.sIx ws.length 0 lo = 0 ∧ HT.sIx ws.length ws.length hi = ws.length) : cutW ws lo hi = ws := by
  unfold cutW
  rw [h.1, h.2]
  simp
theorem ae_slice (gk : G.K = X.K) (ha : AE X G a ta) (hl : AOp X G lo tl) (hu : AOp X G hi th) : AE X G (.Subscript a (.Slice lo hi none p2) pos) (aSl ta tl th) := by
  refine ⟨fun env h Q Q' k q => ha.mono env h _ _ (fun r e g z => hl.mono e g _ _ (fun l e g z => hu.mono e g _ _ (fun u e g z => oSl.mono (fun r q => k _ _ _ q) z) z) z) q, PE.imp (pe_slice ((C8.sl_txt.or sl_tupA).or sl_list) ha.pe hl.po hu.po) fun σ H Q ⟨env, h, S, q⟩ => ?_⟩
  refine ⟨env, h, S, ha.mono env h _ _ (fun r env1 h1 z v H1 S1 x1 r1 f1 => ?_) q⟩
  refine ⟨env1, h1, S1, hl.mono env1 h1 _ _ (fun l env2 h2 z H2 S2 x2 => ?_) z⟩
  refine ⟨env2, h2, S2, hu.mono env2 h2 _ _ (fun u env3 h3 z H3 S3 x3 => ?_) z⟩
  have rr := ((r1.xt S1 x2).xt S2 x3).vr S3
  have fin : ∀ {v : V} {H' : Hp}, OutR G.K H3 (fun r => ∀ v H', BS G env3 h3 σ H' → Xt env h σ H env3 h3 H' → RvRep G env3 h3 σ H' r v → Fsh H r v → Q v H') v H' → Q v H' := fun o => by
    obtain ⟨res, q0, a, b, c, d⟩ := o.end S3 (x1.trans (x2.trans x3))
    exact q0 _ _ a b c d
  unfold oSl at z
  split at z
  · rename_i x e
    rw [e] at rr
    exact .inl (.inl ⟨x, rr.str, z.1, fin (.val z.2 .str)⟩)
  · rename_i xs e
    rw [e] at rr
    obtain ⟨p, vs, rfl, hs, rv⟩ := rr.tpl rfl
    refine .inl (.inr ⟨p, vs, rfl, gk ▸ hs, fun y => ?_, fun _ m n => fin (.tup n z (rv.cut _ _))⟩)
    rw [← rv.length] at y
    rw [cut_whole y] at z
    exact fin (.val z (.tup hs rv))
  · rename_i xs e
    rw [e] at rr
    obtain ⟨p, vs, rfl, hs, rv⟩ := rr.seq rfl
    exact .inr ⟨p, vs, rfl, rd_sq hs, fun m n => fin (.lst n z (rv.cut _ _))⟩
  · rename_i xs e
    rw [e] at rr
    obtain ⟨p, vs, rfl, hs, rv⟩ := rr.seq rfl
    exact .inr ⟨p, vs, rfl, rd_sq hs, fun m n => fin (.lst n z (rv.cut _ _))⟩
  · exact z.elim
/-! ### calls of built-ins: what is handed in is borrowed -/
abbrev ART := AEnv → AH → (List RV → AEnv → AH → Prop) → Prop
inductive RvL (G : Gx) (env : AEnv) (h : AH) (σ : L2.St) (H : Hp) : List RV → List V → Prop where
  | nil : RvL G env h σ H [] []
  | cons {r : RV} {rs : List RV} {v : V} {vs : List V} : RvRep G env h σ H r v → RvL G env h σ H rs vs → RvL G env h σ H (r :: rs) (v :: vs)
def cR (G : Gx) (t : ART) : TA := fun σ H Q => ∃ env h, BS G env h σ H ∧ t env h fun rs env' h' => ∀ vs H', BS G env' h' σ H' → Xt env h σ H env' h' H' → RvL G env' h' σ H' rs vs → Q vs H'
structure AR (X : Cx) (G : Gx) (es : List Expr) (t : ART) : Prop where
  mono : Mono t
  pa : PA X es (cR G t)
def rNil : ART := fun env h Q => Q [] env h
def rCons (t : AT) (u : ART) : ART := fun env h Q => t env h fun r env' h' => u env' h' fun rs env2 h2 => Q (r :: rs) env2 h2
theorem ar_nil : AR X G [] rNil := ⟨fun env h Q Q' k q => k _ _ _ q, PA.imp pa_nil fun σ H Q ⟨env, h, S, q⟩ => q [] H S .refl .nil⟩
theorem ar_cons {e : Expr} {es : List Expr} {t : AT} {u : ART} (a : AE X G e t) (b : AR X G es u) (hs : starEach (e :: es) X.env = (false, eval e X.env) :: starEach es X.env := by rfl) : AR X G (e :: es) (rCons t u) := by
  refine ⟨fun env h Q Q' k q => a.mono env h _ _ (fun r e g z => b.mono e g _ _ (fun rs e2 g2 z2 => k _ _ _ z2) z) q, PA.imp (pa_cons a.pe b.pa hs) fun σ H Q ⟨env, h, S, q⟩ => ?_⟩
  refine ⟨env, h, S, a.mono env h _ _ (fun r env1 h1 z v H1 S1 x1 r1 f1 => ?_) q⟩
  refine ⟨env1, h1, S1, b.mono env1 h1 _ _ (fun rs env2 h2 z vs H2 S2 x2 r2 => ?_) z⟩
  exact z (v :: vs) H2 S2 (x1.trans x2) (.cons (r1.xt S1 x2) r2)
inductive VRL (K : PySem.W.Frag) (H : Hp) : List Vw → List V → Prop where
  | nil : VRL K H [] []
  | cons {a : Vw} {as : List Vw} {v : V} {vs : List V} : VR K H a v → VRL K H as vs → VRL K H (a :: as) (v :: vs)
theorem RvL.vrl {env : AEnv} {h : AH} {σ : L2.St} {H : Hp} (S : BS G env h σ H) {rs : List RV} {vs : List V} (r : RvL G env h σ H rs vs) : VRL G.K H (rs.map (view env h)) vs := by
  induction r with
  | nil => exact .nil
  | cons a _ ih => exact .cons (a.vr S) ih
abbrev OpN := List Vw → (RV → Prop) → Prop
structure CallA (K : PySem.W.Frag) (r : List V → Hp → VK → Prop) (o : OpN) : Prop where
  mono : ∀ as Q Q', (∀ r, Q r → Q' r) → o as Q → o as Q'
  ok : ∀ as vs H Q0 Q, VRL K H as vs → o as Q0 → (∀ v H', OutR K H Q0 v H' → Q v H') → r vs H Q
def aCB (o : OpN) (t : ART) : AT := fun env h Q => t env h fun rs env1 h1 => o (rs.map (view env1 h1)) fun r => Q r env1 h1
theorem CallA.or {K : PySem.W.Frag} {r r' : List V → Hp → VK → Prop} {o o' : OpN} (a : CallA K r o) (b : CallA K r' o') : CallA K (fun vs H Q => r vs H Q ∨ r' vs H Q) (fun as Q => o as Q ∨ o' as Q) :=
  ⟨fun as Q Q' k q => q.imp (a.mono as Q Q' k) (b.mono as Q Q' k), fun as vs H Q0 Q r q k => q.imp (fun z => a.ok as vs H Q0 Q r z k) fun z => b.ok as vs H Q0 Q r z k⟩
theorem CallA.as {K : PySem.W.Frag} {r : List V → Hp → VK → Prop} {o o' : OpN} (a : CallA K r o) (i : ∀ as Q, o' as Q → o as Q) (m : ∀ as Q Q', (∀ r, Q r → Q' r) → o' as Q → o' as Q') : CallA K r o' := ⟨m, fun as vs H Q0 Q r q k => a.ok as vs H Q0 Q r (i _ _ q) k⟩
theorem cb_step {r : List V → Hp → VK → Prop} {o : OpN} {t : ART} (ca : CallA G.K r o) (m : Mono t) {σ : L2.St} {H : Hp} {Q : VK} (q : cE G (aCB o t) σ H Q) : tCB r (cR G t) σ H Q := by
  obtain ⟨env, h, S, q⟩ := q
  refine ⟨env, h, S, m env h _ _ (fun rs env1 h1 z vs H1 S1 x1 r1 => ?_) q⟩
  refine ca.ok _ _ _ _ _ (r1.vrl S1) z fun v H2 out => ?_
  obtain ⟨res, q0, a, b, c, d⟩ := out.end S1 x1
  exact q0 v H2 a b c d
theorem aCB.mono {r : List V → Hp → VK → Prop} {o : OpN} {t : ART} (ca : CallA G.K r o) (m : Mono t) : Mono (aCB o t) := fun env h Q Q' k q => m env h _ _ (fun rs e g z => ca.mono _ _ _ (fun r q => k _ _ _ q) z) q
theorem ae_callB {id : String} {x : Str} {e : Expr} {es : List Expr} {p : Pos} {r : List V → Hp → VK → Prop} {o : OpN} {t : ART} (hc : CallR X (.builtin id) r) (ca : CallA G.K r o) (hg : Gl X x) (hm : X.mg x = none) (hv : bootBuiltins x = some (.builtin id)) (ha : AR X G (e :: es) t)
    (hn : x ≠ "__name__" := by decide) (hdb : (x == ("__debug__" : Str)) = false := by decide) (he : starEach (e :: es) X.env = (false, eval e X.env) :: starEach es X.env := by rfl) (hpl : (backTo pos (starEach es X.env)).any (·.1) = false := by rfl) :
    AE X G (.Call (.Name x p) (e :: es) [] pos) (aCB o t) :=
  ⟨aCB.mono ca ha.mono, PE.imp (pe_callB hc hg hm hv ha.pa hn hdb he hpl) fun _ _ _ q => cb_step ca ha.mono q⟩
theorem ae_callTy {T : String} {x : Str} {e : Expr} {es : List Expr} {p : Pos} {r : List V → Hp → VK → Prop} {o : OpN} {t : ART} (hc : CallR X (.type T) r) (ca : CallA G.K r o) (hg : Gl X x) (hm : X.mg x = none) (hv : bootBuiltins x = some (.type T)) (ha : AR X G (e :: es) t)
    (hn : x ≠ "__name__" := by decide) (hdb : (x == ("__debug__" : Str)) = false := by decide) (he : starEach (e :: es) X.env = (false, eval e X.env) :: starEach es X.env := by rfl) (hpl : (backTo pos (starEach es X.env)).any (·.1) = false := by rfl) :
    AE X G (.Call (.Name x p) (e :: es) [] pos) (aCB o t) :=
  ⟨aCB.mono ca ha.mono, PE.imp (pe_callTy hc hg hm hv ha.pa hn hdb he hpl) fun _ _ _ q => cb_step ca ha.mono q⟩
end
theorem VRL.one {K : PySem.W.Frag} {H : Hp} {a : Vw} {vs : List V} (r : VRL K H [a] vs) : ∃ v, vs = [v] ∧ VR K H a v := by
  cases r with
  | cons r t => cases t; exact ⟨_, rfl, r⟩
theorem VRL.two {K : PySem.W.Frag} {H : Hp} {a b : Vw} {vs : List V} (r : VRL K H [a, b] vs) : ∃ v u, vs = [v, u] ∧ VR K H a v ∧ VR K H b u := by
  cases r with
  | cons r t => obtain ⟨u, rfl, q⟩ := t.one; exact ⟨_, u, rfl, r, q⟩
/-- len -/
def oLen : OpN := fun as Q => match as with
  | [.wv (.str x)] => x.length ≤ sizeLine ∧ Q (.val (.int x.length))
  | [a] => ∃ xs, a.items = some xs ∧ Q (.val (.int xs.length))
  | _ => False
theorem ca_len {K : PySem.W.Frag} : CallA K (fun xs H Q => ∃ x n, xs = [x] ∧ LenV K x H n ∧ Q (.int n) H) oLen :=
  ⟨fun as Q Q' k q => by
    unfold oLen at q ⊢
    split at q
    · exact ⟨q.1, k _ q.2⟩
    · obtain ⟨xs, e, q⟩ := q; exact ⟨xs, e, k _ q⟩
    · exact q, fun as vs H Q0 Q r q k => by
    unfold oLen at q
    split at q
    · obtain ⟨v, rfl, r1⟩ := r.one
      cases r1.str
      exact ⟨_, _, rfl, ⟨q.1, rfl⟩, k _ _ (.val q.2 .int)⟩
    · obtain ⟨v, rfl, r1⟩ := r.one
      obtain ⟨xs, e, q⟩ := q
      obtain ⟨p, us, rfl, hs, rv⟩ := r1.items e
      refine ⟨_, us.length, rfl, ?_, k _ _ (.val q (by rw [rv.length]; exact .int))⟩
      rcases hs with hs | hs
      · exact .inl ⟨us, rd_sq hs, rfl⟩
      · exact .inr ⟨us, hs, rfl⟩
    · exact q.elim⟩
/-- min, max of two ints; abs -/
def o2I (g : Int → Int → Int) : OpN := fun as Q => match as with
  | [.wv (.int i), .wv (.int j)] => Q (.val (.int (g i j)))
  | _ => False
theorem ca_2I {K : PySem.W.Frag} {g : Int → Int → Int} : CallA K (fun xs H Q => ∃ i j, xs = [.int i, .int j] ∧ Q (.int (g i j)) H) (o2I g) :=
  ⟨fun as Q Q' k q => by
    unfold o2I at q ⊢
    split at q
    · exact k _ q
    · exact q, fun as vs H Q0 Q r q k => by
    unfold o2I at q
    split at q
    · obtain ⟨v, u, rfl, r1, r2⟩ := r.two
      cases r1.int; cases r2.int
      exact ⟨_, _, rfl, k _ _ (.val q .int)⟩
    · exact q.elim⟩
def o1I (g : Int → Int) : OpN := fun as Q => match as with
  | [.wv (.int i)] => Q (.val (.int (g i)))
  | _ => False
theorem ca_1I {K : PySem.W.Frag} {g : Int → Int} : CallA K (fun xs H Q => ∃ i, xs = [.int i] ∧ Q (.int (g i)) H) (o1I g) :=
  ⟨fun as Q Q' k q => by
    unfold o1I at q ⊢
    split at q
    · exact k _ q
    · exact q, fun as vs H Q0 Q r q k => by
    unfold o1I at q
    split at q
    · obtain ⟨v, rfl, r1⟩ := r.one
      cases r1.int
      exact ⟨_, rfl, k _ _ (.val q .int)⟩
    · exact q.elim⟩
/-- sum, min, max of a list of ints -/
def oInts (g : List Int → (RV → Prop) → Prop) : OpN := fun as Q => match as with
  | [a] => ∃ ns : List Int, a.seq = some (ns.map W.int) ∧ g ns Q
  | _ => False
theorem oInts.mono {g : List Int → (RV → Prop) → Prop} (m : ∀ ns Q Q', (∀ r, Q r → Q' r) → g ns Q → g ns Q') (as : List Vw) (Q Q' : RV → Prop) (k : ∀ r, Q r → Q' r) (q : oInts g as Q) : oInts g as Q' := by
  unfold oInts at q ⊢
  split at q
  · obtain ⟨ns, e, q⟩ := q; exact ⟨ns, e, m _ _ _ k q⟩
  · exact q
theorem oInts.get {K : PySem.W.Frag} {H : Hp} {g : List Int → (RV → Prop) → Prop} {as : List Vw} {vs : List V} {Q : RV → Prop} (r : VRL K H as vs) (q : oInts g as Q) : ∃ p ns, vs = [.ref p] ∧ SqL K H p (ns.map V.int) ∧ g ns Q := by
  unfold oInts at q
  split at q
  · obtain ⟨v, rfl, r1⟩ := r.one
    obtain ⟨ns, e, q⟩ := q
    obtain ⟨p, us, rfl, hs, rv⟩ := r1.seq e
    rw [rv.of_ints] at hs
    exact ⟨p, ns, rfl, rd_sq hs, q⟩
  · exact q.elim
def oSum : OpN := oInts fun ns Q => Q (.val (.int ns.sum))
theorem ca_sum {K : PySem.W.Frag} : CallA K (rSum K) oSum :=
  ⟨oInts.mono fun _ _ _ k q => k _ q, fun as vs H Q0 Q r q k => by
    obtain ⟨p, ns, rfl, hs, q⟩ := oInts.get r q
    exact ⟨p, ns, rfl, hs, k _ _ (.val q .int)⟩⟩
def oMax : OpN := oInts fun ns Q => 0 < ns.length ∧ ∀ m, m ∈ ns → (∀ y, y ∈ ns → y ≤ m) → Q (.val (.int m))
theorem ca_max {K : PySem.W.Frag} : CallA K (rMax K) oMax :=
  ⟨oInts.mono fun _ _ _ k q => ⟨q.1, fun m a b => k _ (q.2 m a b)⟩, fun as vs H Q0 Q r q k => by
    obtain ⟨p, ns, rfl, hs, q⟩ := oInts.get r q
    exact ⟨p, ns, rfl, hs, q.1, fun m a b => k _ _ (.val (q.2 m a b) .int)⟩⟩
def oMin : OpN := oInts fun ns Q => 0 < ns.length ∧ ∀ m, m ∈ ns → (∀ y, y ∈ ns → m ≤ y) → Q (.val (.int m))
theorem ca_min {K : PySem.W.Frag} : CallA K (rMin K) oMin :=
  ⟨oInts.mono fun _ _ _ k q => ⟨q.1, fun m a b => k _ (q.2 m a b)⟩, fun as vs H Q0 Q r q k => by
    obtain ⟨p, ns, rfl, hs, q⟩ := oInts.get r q
    exact ⟨p, ns, rfl, hs, q.1, fun m a b => k _ _ (.val (q.2 m a b) .int)⟩⟩
/-- any, all of a list of truth values -/
def oBls (g : List Bool → Bool) : OpN := fun as Q => match as with
  | [a] => ∃ bs : List Bool, a.seq = some (bs.map W.bl) ∧ Q (.val (.bl (g bs)))
  | _ => False
theorem oBls.mono {g : List Bool → Bool} (as : List Vw) (Q Q' : RV → Prop) (k : ∀ r, Q r → Q' r) (q : oBls g as Q) : oBls g as Q' := by
  unfold oBls at q ⊢
  split at q
  · obtain ⟨ns, e, q⟩ := q; exact ⟨ns, e, k _ q⟩
  · exact q
theorem oBls.get {K : PySem.W.Frag} {H : Hp} {g : List Bool → Bool} {as : List Vw} {vs : List V} {Q : RV → Prop} (r : VRL K H as vs) (q : oBls g as Q) : ∃ p bs, vs = [.ref p] ∧ SqL K H p (bs.map V.bl) ∧ Q (.val (.bl (g bs))) := by
  unfold oBls at q
  split at q
  · obtain ⟨v, rfl, r1⟩ := r.one
    obtain ⟨ns, e, q⟩ := q
    obtain ⟨p, us, rfl, hs, rv⟩ := r1.seq e
    rw [rv.of_bls] at hs
    exact ⟨p, ns, rfl, rd_sq hs, q⟩
  · exact q.elim
theorem ca_any {K : PySem.W.Frag} : CallA K (rAny K) (oBls fun bs => bs.any id) :=
  ⟨oBls.mono, fun as vs H Q0 Q r q k => by
    obtain ⟨p, ns, rfl, hs, q⟩ := oBls.get r q
    exact ⟨p, ns, rfl, hs, k _ _ (.val q .bl)⟩⟩
theorem ca_all {K : PySem.W.Frag} : CallA K (rAll K) (oBls fun bs => bs.all id) :=
  ⟨oBls.mono, fun as vs H Q0 Q r q k => by
    obtain ⟨p, ns, rfl, hs, q⟩ := oBls.get r q
    exact ⟨p, ns, rfl, hs, k _ _ (.val q .bl)⟩⟩
/-- tuple(..), list(..) of a list or tuple -/
def oTupC : OpN := fun as Q => match as with
  | [a] => ∃ xs, a.items = some xs ∧ Q (.val (.tup xs))
  | _ => False
theorem ca_tup {K : PySem.W.Frag} : CallA K (fun xs H Q => ∃ p ys, xs = [.ref p] ∧ ((SqL K H p ys ∧ ∀ l, H l = none → Q (.ref l) (upd H l (.tup ys))) ∨ (SqT K H p ys ∧ Q (.ref p) H))) oTupC :=
  ⟨fun as Q Q' k q => by
    unfold oTupC at q ⊢
    split at q
    · obtain ⟨xs, e, q⟩ := q; exact ⟨xs, e, k _ q⟩
    · exact q, fun as vs H Q0 Q r q k => by
    unfold oTupC at q
    split at q
    · obtain ⟨v, rfl, r1⟩ := r.one
      obtain ⟨xs, e, q⟩ := q
      obtain ⟨p, us, rfl, hs, rv⟩ := r1.items e
      refine ⟨p, us, rfl, ?_⟩
      rcases hs with hs | hs
      · exact .inl ⟨rd_sq hs, fun l n => k _ _ (.tup n q rv)⟩
      · exact .inr ⟨hs, k _ _ (.val q (.tup hs rv))⟩
    · exact q.elim⟩
def oLstC : OpN := fun as Q => match as with
  | [a] => ∃ xs, a.items = some xs ∧ Q (.own (.seq xs))
  | _ => False
theorem ca_lst {K : PySem.W.Frag} : CallA K (fun xs H Q => ∃ p ys, xs = [.ref p] ∧ (SqL K H p ys ∨ SqT K H p ys) ∧ ∀ l, H l = none → Q (.ref l) (upd H l (.lst ys))) oLstC :=
  ⟨fun as Q Q' k q => by
    unfold oLstC at q ⊢
    split at q
    · obtain ⟨xs, e, q⟩ := q; exact ⟨xs, e, k _ q⟩
    · exact q, fun as vs H Q0 Q r q k => by
    unfold oLstC at q
    split at q
    · obtain ⟨v, rfl, r1⟩ := r.one
      obtain ⟨xs, e, q⟩ := q
      obtain ⟨p, us, rfl, hs, rv⟩ := r1.items e
      exact ⟨p, us, rfl, hs.imp_left rd_sq, fun l n => k _ _ (.lst n q rv)⟩
    · exact q.elim⟩
/-- isinstance(x, T), T one of bool, int, str, tuple, list -/
def W.tyName : W → Option String
  | .non => some "NoneType"
  | .bl _ => some "bool"
  | .int _ => some "int"
  | .str _ => some "str"
  | .tup _ => some "tuple"
  | .lst _ => some "list"
  | _ => none
def Vw.tyName : Vw → Option String
  | .wv w => w.tyName
  | .cv (.seq _) => some "list"
  | _ => none
def isiB : String → String → Option Bool
  | "NoneType", "bool" => some false
  | "NoneType", "int" => some false
  | "NoneType", "str" => some false
  | "NoneType", "tuple" => some false
  | "NoneType", "list" => some false
  | "bool", "bool" => some true
  | "bool", "int" => some true
  | "bool", "str" => some false
  | "bool", "tuple" => some false
  | "bool", "list" => some false
  | "int", "bool" => some false
  | "int", "int" => some true
  | "int", "str" => some false
  | "int", "tuple" => some false
  | "int", "list" => some false
  | "str", "bool" => some false
  | "str", "int" => some false
  | "str", "str" => some true
  | "str", "tuple" => some false
  | "str", "list" => some false
  | "tuple", "bool" => some false
  | "tuple", "int" => some false
  | "tuple", "str" => some false
  | "tuple", "tuple" => some true
  | "tuple", "list" => some false
  | "list", "bool" => some false
  | "list", "int" => some false
  | "list", "str" => some false
  | "list", "tuple" => some false
  | "list", "list" => some true
  | _, _ => none
def oIsi : OpN := fun as Q => match as with
  | [a, .wv (.ty T)] => ∃ n b, a.tyName = some n ∧ isiB n T = some b ∧ Q (.val (.bl b))
  | _ => False
theorem VR.tyX {K : PySem.W.Frag} {H : Hp} : ∀ {a : Vw} {v : V} {n : String}, VR K H a v → a.tyName = some n → (∀ ws, a ≠ .wv (.tup ws)) → TyX K H v (.type n)
  | .bad, _, _, _, e, _ => by cases e
  | .cv (.seq ws), _, _, r, e, _ => by cases e; obtain ⟨p, rfl, vs, l, _⟩ := r; exact .base (.lst l)
  | .cv (.map _), _, _, _, e, _ => by cases e
  | .wv .non, _, _, r, e, _ => by cases e; cases r.non; exact .base .non
  | .wv (.bl _), _, _, r, e, _ => by cases e; cases r.bl; exact .base (.bl _)
  | .wv (.int _), _, _, r, e, _ => by cases e; cases r.int; exact .base (.int _)
  | .wv (.str _), _, _, r, e, _ => by cases e; cases r.str; exact .base (.str _)
  | .wv (.tup ws), _, _, _, _, h => absurd rfl (h ws)
  | .wv (.lst ws), _, _, r, e, _ => by cases e; obtain ⟨p, vs, rfl, ⟨o, l⟩, _⟩ := Rep.of_lst (K := K) (H := H) r; exact .base (.frz l)
  | .wv (.dct _ _), _, _, _, e, _ => by cases e
  | .wv (.ref _), _, _, _, e, _ => by cases e
  | .wv (.ty _), _, _, _, e, _ => by cases e
end Ab

namespace Ab
open PySem PySem.Spec PyProof.Rows L2
theorem isi_kit {K : PySem.W.Frag} {n T : String} {b : Bool} (h : isiB n T = some b) : PySem.W.kitOne K (.type n) (.type T) = some b := by
  unfold isiB at h
  split at h
  all_goals first
    | (cases h; exact kit_ty (by decide +kernel))
    | cases h
theorem sq_tyX {K : PySem.W.Frag} {H : Hp} {a : Addr} {vs : List V} (h : SqT K H a vs) : TyX K H (.ref a) (.type "tuple") := by
  rcases h with (h | ⟨o, h⟩) | ⟨o, its, n, e, c, _⟩
  · exact .base (.tup h)
  · exact .fTuple h
  · exact .kTuple e c
theorem VR.ty {K : PySem.W.Frag} {H : Hp} {a : Vw} {v : V} {n : String} (r : VR K H a v) (e : a.tyName = some n) : TyX K H v (.type n) := by
  by_cases h : ∃ ws, a = .wv (.tup ws)
  · obtain ⟨ws, rfl⟩ := h
    cases e
    obtain ⟨p, vs, rfl, s, _⟩ := Rep.of_tup (K := K) (H := H) r
    exact sq_tyX s
  · exact r.tyX e fun ws z => h ⟨ws, z⟩
theorem ca_isi {K : PySem.W.Frag} : CallA K (rIsi K) oIsi :=
  ⟨fun as Q Q' k q => by
    unfold oIsi at q ⊢
    split at q
    · obtain ⟨n, b, e, f, q⟩ := q; exact ⟨n, b, e, f, k _ q⟩
    · exact q, fun as vs H Q0 Q r q k => by
    unfold oIsi at q
    split at q
    · rename_i a T
      obtain ⟨v, u, rfl, r1, r2⟩ := r.two
      cases Rep.of_ty (K := K) (H := H) r2
      obtain ⟨n, b, e, f, q⟩ := q
      exact ⟨v, .ty T, .type n, .type T, b, rfl, ClsV.ty T, r1.ty e, isi_kit f, k _ _ (.val q .bl)⟩
    · exact q.elim⟩
end Ab

namespace Ab
open PySem PySem.Spec PyProof.Rows L2
/-! ### heaps at a call's two ends -/
structure HS (G : Gx) (h : AH) (H : Hp) : Prop where
  hp : ∀ a o, h a = some o → ORep G.K H a o
  fr : ∀ p o, G.H0 p = some o → G.h0 p = none → H p = some o
  ext : ∀ a o, h a = some o → G.h0 a = none → G.H0 a = none
  tr : ∀ p o, G.H0 p = some o → ∃ u, H p = some u
theorem BS.hs {G : Gx} {env : AEnv} {h : AH} {σ : L2.St} {H : Hp} (S : BS G env h σ H) : HS G h H := ⟨S.hp, S.fr, S.ext, S.tr⟩
def XRep (K : PySem.W.Frag) (H : Hp) (x : AExc) (cls : Value) (d : Option Addr) : Prop := cls = .ref x.C ∧ ∃ dd vs, d = some dd ∧ H dd = some (.xd vs) ∧ FRep K H x.fs vs
/-- a def's result -/
inductive RR where
  | val (w : W) | own (c : Cont)
def RrRep (G : Gx) (h : AH) (H : Hp) : RR → V → Prop
  | .val w, v => Rep G.K H w v
  | .own c, v => ∃ p, v = .ref p ∧ CRep G.K H p c ∧ h p = none ∧ G.H0 p = none
/-- a def's promise over data: what is handed in, the abstract heap, the wish of what it tells, the wish of what it raises -/
abbrev ASp := List W → AH → (RR → AH → Prop) → (AExc → AH → Prop) → Prop
def cSp (K : PySem.W.Frag) (n : Nat) (sp : ASp) : Sp := fun vs H Q E => ∃ ws h Qa Ea, ws.length = n ∧ (∀ a o, h a = some o → ORep K H a o) ∧ RepL K H ws vs ∧ sp ws h Qa Ea ∧
  (∀ r h' v H', Qa r h' → HS ⟨K, h, H⟩ h' H' → RrRep ⟨K, h, H⟩ h' H' r v → Q v H') ∧
  (∀ x h' cls d H', Ea x h' → HS ⟨K, h, H⟩ h' H' → XRep K H' x cls d → E cls d H')
section
variable {G : Gx} {env : AEnv} {h1 h2 : AH} {σ : L2.St} {H1 H2 : Hp}
/-- behind a call -/
theorem BS.after (S : BS G env h1 σ H1) (c : HS ⟨G.K, h1, H1⟩ h2 H2) : BS G env h2 σ H2 ∧ Xt env h1 σ H1 env h2 H2 := by
  have kp : Keeps H1 H2 := fun p o e i => c.fr p o e (S.imm e i).1
  have x : Xt env h1 σ H1 env h2 H2 := by
    refine ⟨fun p o e n _ => c.fr p o e n, fun p o e n => c.ext p o e n, c.tr, fun i d e => ⟨d, e⟩⟩
  refine ⟨⟨S.len, fun i w e => ?_, fun i a e => ?_, S.uni, c.hp, fun p o e n => ?_, fun a o e n => ?_, fun p o e => ?_⟩, x⟩
  · obtain ⟨v, a, b⟩ := S.val i w e; exact ⟨v, a, Rep.mono kp w v b⟩
  · obtain ⟨p, q, r, n, n0⟩ := S.own i a e
    obtain ⟨o, eo, _⟩ := r.there
    refine ⟨p, q, r.mono kp ((c.fr p o eo n).trans eo.symm), ?_, n0⟩
    cases z : h2 p with
    | none => rfl
    | some u => have y : H1 p = none := c.ext p u z n; rw [y] at eo; cases eo
  · have n1 : h1 p = none := by
      cases z : h1 p with
      | none => rfl
      | some u => have y := S.ext p u z n; rw [y] at e; cases e
    exact c.fr p o (S.fr p o e n) n1
  · cases z : h1 a with
    | some u => exact S.ext a u z n
    | none =>
      have y : H1 a = none := c.ext a o e z
      cases w : G.H0 a with
      | none => rfl
      | some u => obtain ⟨t, q⟩ := S.tr a u w; rw [y] at q; cases q
  · obtain ⟨u, q⟩ := S.tr p o e; exact c.tr p u q
end
/-! ### a def is called -/
def aCall (E : AExc → AEnv → AH → Prop) (sp : ASp) (t : AAT) : AT := fun env h Q => t env h fun ws env1 h1 => sp ws h1 (fun r h2 => match r with
  | .val w => Q (.val w) env1 h2
  | .own c => Q (.own c) env1 h2) fun x h2 => E x env1 h2
/-- a promise's wishes may be weakened -/
def SpMono (sp : ASp) : Prop := ∀ ws h Q Q' E E', (∀ r k, Q r k → Q' r k) → (∀ x k, E x k → E' x k) → sp ws h Q E → sp ws h Q' E'
theorem aCall.mono {E : AExc → AEnv → AH → Prop} {sp : ASp} {t : AAT} (m : SpMono sp) (n : Mono t) : Mono (aCall E sp t) := fun env h Q Q' k q => n env h _ _ (fun ws e g z => m _ _ _ _ _ _ (fun r f y => by
  cases r with
  | val w => exact k _ _ _ y
  | own c => exact k _ _ _ y) (fun x f y => y) z) q
def cW (G : Gx) (E : AExc → AEnv → AH → Prop) : WX := fun cls d σ H => ∃ x env h, BS G env h σ H ∧ XRep G.K H x cls d ∧ E x env h
theorem tk_none {X : Cx} {G : Gx} : Takes X (cW G fun _ _ _ => False) := takes0.imp fun _ _ _ _ ⟨_, _, _, _, _, z⟩ => z
section
variable {X : Cx} {G : Gx} {sp : ASp} {k n : Nat} {f : Addr} {fd : FuncData} {ps : List Str} {x : Str} {p pos : Pos} {e : Expr} {es : List Expr} {t : AAT} {E : AExc → AEnv → AH → Prop}
theorem call_step {σ : L2.St} {H : Hp} {Q : VK} (m : Mono t) (sm : SpMono sp) (hn : ∀ env h (R : List W → AEnv → AH → Prop), t env h R → t env h fun ws e g => ws.length = n ∧ R ws e g) (q : cE G (aCall E sp t) σ H Q) :
    tCallS (cSp G.K n sp) (WE (cW G E)) (cA G t) σ H Q := by
  obtain ⟨env, h, S, q⟩ := q
  refine ⟨env, h, S, m env h _ _ (fun ws env1 h1 ⟨hl, z⟩ vs H1 S1 x1 r1 => ?_) (hn _ _ _ q)⟩
  refine ⟨ws, h1, _, _, hl, S1.hp, r1, z, fun r h' v H' y c rr => ?_, fun x h' cls d H' y c xr => ?_⟩
  · obtain ⟨S2, x2⟩ := S1.after c
    cases r with
    | val w => exact y v H' S2 (x1.trans x2) rr trivial
    | own c0 =>
      obtain ⟨p, e, cr, a, b⟩ := rr
      have nw : H1 p = none := b
      obtain ⟨_, g0, no⟩ := S1.noAt nw
      exact y v H' S2 (x1.trans x2) ⟨p, e, cr, a, g0, no⟩ fun p' e' => by
        rw [e] at e'; cases e'; exact x1.fresh nw
  · obtain ⟨S2, x2⟩ := S1.after c
    exact ⟨x, env1, h', S2, xr, y⟩
/-- f(e, ..) -/
theorem ae_call (F : FnOk X.prog X.w X.K X.mg X.base (L2.CX X.prog X.w) k f fd ps (cSp G.K n sp)) (sm : SpMono sp) (hr : Room k X.A) (hg : Gl X x) (hm : X.mg x = some (.ref f)) (hk : PySem.W.keepIn X.K (.ref f) = true) (hb : Binds X.K fd ps []) (tk : Takes X (cW G E))
    (ha : AA X G (e :: es) t) (hn : ∀ env h (R : List W → AEnv → AH → Prop), t env h R → t env h fun ws e g => ws.length = n ∧ R ws e g)
    (hdb : (x == ("__debug__" : Str)) = false := by decide) (he : starEach (e :: es) X.env = (false, eval e X.env) :: starEach es X.env := by rfl) (hpl : (backTo pos (starEach es X.env)).any (·.1) = false := by rfl) :
    AE X G (.Call (.Name x p) (e :: es) [] pos) (aCall E sp t) :=
  ⟨aCall.mono sm ha.mono, PE.imp (pe_callS F hr hg hm hk hb (fun σ => passAt tk σ) ha.pa hdb he hpl) fun _ _ _ q => call_step ha.mono sm hn q⟩
end
/-! ### how many are handed in -/
theorem len_nil : ∀ env h (R : List W → AEnv → AH → Prop), aNil env h R → aNil env h fun ws e g => ws.length = 0 ∧ R ws e g := fun _ _ _ q => ⟨rfl, q⟩
theorem len_cons {t : AVT} {u : AAT} {n : Nat} (mt : Mono t) (hu : ∀ env h (R : List W → AEnv → AH → Prop), u env h R → u env h fun ws e g => ws.length = n ∧ R ws e g) (mu : Mono u) :
    ∀ env h (R : List W → AEnv → AH → Prop), aCons t u env h R → aCons t u env h fun ws e g => ws.length = n + 1 ∧ R ws e g := fun env h R q =>
  mt env h _ _ (fun w e g z => mu e g _ _ (fun ws e2 g2 ⟨y1, y2⟩ => ⟨by rw [List.length_cons, y1], y2⟩) (hu e g _ z)) q
/-! ### statements -/
structure AEnds where
  nx : AEnv → AH → Prop
  rt : RV → AEnv → AH → Prop
  bk : AEnv → AH → Prop := fun _ _ => False
  ct : AEnv → AH → Prop := fun _ _ => False
structure AEnds.Le (D D' : AEnds) : Prop where
  nx : ∀ e h, D.nx e h → D'.nx e h
  rt : ∀ r e h, D.rt r e h → D'.rt r e h
  bk : ∀ e h, D.bk e h → D'.bk e h
  ct : ∀ e h, D.ct e h → D'.ct e h
theorem AEnds.Le.refl (D : AEnds) : D.Le D := ⟨fun _ _ q => q, fun _ _ _ q => q, fun _ _ q => q, fun _ _ q => q⟩
abbrev ATS := AEnds → AEnv → AH → Prop
def MonoS (t : ATS) : Prop := ∀ D D' env h, D.Le D' → t D env h → t D' env h
/-- the wishes behind a statement, of the two layers -/
structure Link (G : Gx) (H0 : Hp) (Da : AEnds) (D : Ends) : Prop where
  nx : ∀ env h σ H, BS G env h σ H → Keeps H0 H → Da.nx env h → D.nx σ H
  rt : ∀ r env h σ H v, BS G env h σ H → Keeps H0 H → RvRep G env h σ H r v → Da.rt r env h → D.rt v H
  bk : ∀ env h σ H, BS G env h σ H → Keeps H0 H → Da.bk env h → D.bk σ H
  ct : ∀ env h σ H, BS G env h σ H → Keeps H0 H → Da.ct env h → D.ct σ H
theorem Link.from {G : Gx} {H H1 : Hp} {Da : AEnds} {D : Ends} (l : Link G H Da D) (k : Keeps H H1) : Link G H1 Da D :=
  ⟨fun e h σ H' S q => l.nx e h σ H' S (k.trans q), fun r e h σ H' v S q => l.rt r e h σ H' v S (k.trans q), fun e h σ H' S q => l.bk e h σ H' S (k.trans q), fun e h σ H' S q => l.ct e h σ H' S (k.trans q)⟩
def cS (G : Gx) (t : ATS) : TS := fun D σ H => ∃ env h Da, BS G env h σ H ∧ t Da env h ∧ Link G H Da D
structure AS (X : Cx) (G : Gx) (st : Stmt) (t : ATS) : Prop where
  mono : MonoS t
  ps : PS X st (cS G t)
structure ASs (X : Cx) (G : Gx) (st : List Stmt) (t : ATS) : Prop where
  mono : MonoS t
  ps : PSs X st (cS G t)
def aNext : ATS := fun D env h => D.nx env h
def aSeq (t u : ATS) : ATS := fun D env h => t { D with nx := u D } env h
theorem aSeq.mono {t u : ATS} (m : MonoS t) (n : MonoS u) : MonoS (aSeq t u) := fun D D' env h l q => m { D with nx := u D } { D' with nx := u D' } env h ⟨fun e g z => n D D' e g l z, l.rt, l.bk, l.ct⟩ q
section
variable {X : Cx} {G : Gx} {st : Stmt} {rest : List Stmt} {t u : ATS} {e : Expr} {te : AT} {tv : AVT} {pos : Pos}
theorem ass_nil : ASs X G [] aNext := ⟨fun D D' env h l q => l.nx _ _ q, PSs.imp pss_nil fun D σ H ⟨env, h, Da, S, q, l⟩ => l.nx _ _ _ _ S (.refl _) q⟩
theorem ass_cons (a : AS X G st t) (b : ASs X G rest u) : ASs X G (st :: rest) (aSeq t u) :=
  ⟨aSeq.mono a.mono b.mono, PSs.imp (pss_cons a.ps b.ps) fun D σ H ⟨env, h, Da, S, q, l⟩ => ⟨env, h, { Da with nx := u Da }, S, q, ⟨fun e g σ' H' S' y z => ⟨e, g, Da, S', z, l.from y⟩, l.rt, l.bk, l.ct⟩⟩⟩
theorem ass_one (a : AS X G st t) : ASs X G [st] t := ⟨a.mono, pss_one a.ps⟩
theorem as_pass : AS X G (.Pass pos) aNext := ⟨fun D D' env h l q => l.nx _ _ q, PS.imp ps_pass fun D σ H ⟨env, h, Da, S, q, l⟩ => l.nx _ _ _ _ S (.refl _) q⟩
def aBrk : ATS := fun D env h => D.bk env h
def aCnt : ATS := fun D env h => D.ct env h
theorem as_break : AS X G (.Break pos) aBrk := ⟨fun D D' env h l q => l.bk _ _ q, PS.imp ps_break fun D σ H ⟨env, h, Da, S, q, l⟩ => l.bk _ _ _ _ S (.refl _) q⟩
theorem as_continue : AS X G (.Continue pos) aCnt := ⟨fun D D' env h l q => l.ct _ _ q, PS.imp ps_continue fun D σ H ⟨env, h, Da, S, q, l⟩ => l.ct _ _ _ _ S (.refl _) q⟩
theorem as_doc {x j pos pos'} : AS X G (.Expr (.Constant (.str x) j pos) pos') aNext := ⟨fun D D' env h l q => l.nx _ _ q, PS.imp ps_doc fun D σ H ⟨env, h, Da, S, q, l⟩ => l.nx _ _ _ _ S (.refl _) q⟩
def aDrop (t : AT) : ATS := fun D env h => t env h fun _ env1 h1 => D.nx env1 h1
theorem as_expr (a : AE X G e te) (hs : swapsWith e none pos.line X.env = pure false := by rfl) : AS X G (.Expr e pos) (aDrop te) :=
  ⟨fun D D' env h l q => a.mono env h _ _ (fun _ e g z => l.nx _ _ z) q, PS.imp (ps_expr a.pe hs) fun D σ H ⟨env, h, Da, S, q, l⟩ => ⟨env, h, S, a.mono env h _ _ (fun r e g z v H1 S1 x1 _ _ => l.nx _ _ _ _ S1 (x1.keeps S) z) q⟩⟩
def aRet (t : AT) : ATS := fun D env h => t env h D.rt
theorem as_ret (a : AE X G e te) : AS X G (.Return (some e) pos) (aRet te) :=
  ⟨fun D D' env h l q => a.mono env h _ _ l.rt q, PS.imp (ps_ret a.pe) fun D σ H ⟨env, h, Da, S, q, l⟩ => ⟨env, h, S, a.mono env h _ _ (fun r e g z v H1 S1 x1 r1 _ => l.rt _ _ _ _ _ _ S1 (x1.keeps S) r1 z) q⟩⟩
def aRetN : ATS := fun D env h => D.rt (.val .non) env h
theorem as_retN : AS X G (.Return none pos) aRetN := ⟨fun D D' env h l q => l.rt _ _ _ q, PS.imp ps_retN fun D σ H ⟨env, h, Da, S, q, l⟩ => l.rt (.val .non) _ _ _ _ _ S (.refl _) (show Rep G.K H .non .non from Rep.non) q⟩
def aIf (c : ABT) (t u : ATS) : ATS := fun D env h => c env h fun b env1 h1 => if b = true then t D env1 h1 else u D env1 h1
theorem as_if {c : Expr} {a b : List Stmt} {tc : ABT} (hc : AP X G c tc) (ha : ASs X G a t) (hb : ASs X G b u) : AS X G (.If c a b pos) (aIf tc t u) := by
  refine ⟨fun D D' env h l q => hc.mono env h _ _ (fun d e g z => ?_) q, PS.imp (ps_if hc.pt ha.ps hb.ps) fun D σ H ⟨env, h, Da, S, q, l⟩ => ⟨env, h, S, hc.mono env h _ _ (fun d e g z H1 S1 x1 => ?_) q⟩⟩
  · cases d with
    | true => rw [if_pos rfl] at z ⊢; exact ha.mono _ _ _ _ l z
    | false => rw [if_neg Bool.false_ne_true] at z ⊢; exact hb.mono _ _ _ _ l z
  · cases d with
    | true => rw [if_pos rfl] at z ⊢; exact ⟨e, g, Da, S1, z, l.from (x1.keeps S)⟩
    | false => rw [if_neg Bool.false_ne_true] at z ⊢; exact ⟨e, g, Da, S1, z, l.from (x1.keeps S)⟩
/-! ### names are stored -/
/-- no result is a slot's own list: it is frozen -/
def aNs (t : AT) : AT := fun env h Q => t env h fun r env' h' => match r with
  | .slot i => match env'[i]? with
    | some (some (.val w)) => Q (.val w) env' h'
    | some (some (.own c)) => Q (.val c.fz) (env'.set i (some (.val c.fz))) h'
    | _ => False
  | r => Q r env' h'
def NoSlot : RV → Prop
  | .slot _ => False
  | _ => True
theorem aNs.mono (m : Mono te) : Mono (aNs te) := fun env h Q Q' k q => by
  refine m env h _ _ (fun r e g z => ?_) q
  cases r with
  | val w => exact k _ _ _ z
  | own c => exact k _ _ _ z
  | slot i =>
    show match e[i]? with
      | some (some (.val w)) => Q' (.val w) e g
      | some (some (.own c)) => Q' (.val c.fz) (e.set i (some (.val c.fz))) g
      | _ => False
    have z : match e[i]? with
      | some (some (.val w)) => Q (.val w) e g
      | some (some (.own c)) => Q (.val c.fz) (e.set i (some (.val c.fz))) g
      | _ => False := z
    split at z
    · exact k _ _ _ z
    · exact k _ _ _ z
    · exact z
/-- the reading of what is stored: never a slot's -/
def cN (G : Gx) (t : AT) : TE := fun σ H Q => ∃ env h, BS G env h σ H ∧ t env h fun r env' h' => ∀ v H', BS G env' h' σ H' → Xt env h σ H env' h' H' → RvRep G env' h' σ H' r v → Fsh H r v → NoSlot r → Q v H'
theorem pe_ns (a : AE X G e te) : PE X e (cN G (aNs te)) := by
  refine ⟨fun pins s σ H Q I ⟨env, h, S, q⟩ => ?_⟩
  refine thn (a.pe.run pins s σ H (fun v H1 => ∃ r env' h', BS G env' h' σ H1 ∧ Xt env h σ H env' h' H1 ∧ RvRep G env' h' σ H1 r v ∧ Fsh H r v ∧ match r with
    | .slot i => match env'[i]? with
      | some (some (.val w)) => ∀ v H', BS G env' h' σ H' → Xt env h σ H env' h' H' → RvRep G env' h' σ H' (.val w) v → Fsh H (.val w) v → NoSlot (.val w) → Q v H'
      | some (some (.own c)) => ∀ v H', BS G (env'.set i (some (.val c.fz))) h' σ H' → Xt env h σ H (env'.set i (some (.val c.fz))) h' H' → RvRep G (env'.set i (some (.val c.fz))) h' σ H' (.val c.fz) v → Fsh H (.val c.fz) v → NoSlot (.val c.fz) → Q v H'
      | _ => False
    | r => ∀ v H', BS G env' h' σ H' → Xt env h σ H env' h' H' → RvRep G env' h' σ H' r v → Fsh H r v → NoSlot r → Q v H') I ⟨env, h, S, a.mono env h _ _ (fun r env' h' z v H1 S1 x1 r1 f1 => ⟨r, env', h', S1, x1, r1, f1, z⟩) q⟩) fun v s1 ⟨x, H1, I1, r1, r, env', h', S1, x1, rr, f1, z⟩ => ?_
  cases r with
  | val w => exact ⟨x, H1, I1, r1, z x H1 S1 x1 rr f1 trivial⟩
  | own c => exact ⟨x, H1, I1, r1, z x H1 S1 x1 rr f1 trivial⟩
  | slot i =>
    have es : σ[i]? = some (some x) := rr
    have z : match env'[i]? with
      | some (some (.val w)) => ∀ v H', BS G env' h' σ H' → Xt env h σ H env' h' H' → RvRep G env' h' σ H' (.val w) v → Fsh H (.val w) v → NoSlot (.val w) → Q v H'
      | some (some (.own c)) => ∀ v H', BS G (env'.set i (some (.val c.fz))) h' σ H' → Xt env h σ H (env'.set i (some (.val c.fz))) h' H' → RvRep G (env'.set i (some (.val c.fz))) h' σ H' (.val c.fz) v → Fsh H (.val c.fz) v → NoSlot (.val c.fz) → Q v H'
      | _ => False := z
    split at z
    · rename_i w e
      obtain ⟨u, e3, r⟩ := S1.val i w e
      rw [es] at e3; cases e3
      exact ⟨x, H1, I1, r1, z x H1 S1 x1 r trivial trivial⟩
    · rename_i c e
      obtain ⟨p, H2, ep, I2, S2, x2, r2⟩ := slot_freeze S1 x1 I1 e
      rw [es] at ep; cases ep
      exact ⟨_, H2, I2, r1, z _ H2 S2 x2 r2 trivial trivial⟩
    · exact z.elim
def RV.sv : RV → SV
  | .val w => .val w
  | .own c => .own c
  | .slot _ => .val .non
/-- the i-th slot holds it -/
theorem BS.set {env : AEnv} {h : AH} {σ : L2.St} {H : Hp} (S : BS G env h σ H) {r : RV} {v : V} (i : Nat) (rr : RvRep G env h σ H r v) (ns : NoSlot r) : BS G (env.set i (some r.sv)) h (σ.set i (some v)) H := by
  have at_ : ∀ (j : Nat) (sv : SV), (env.set i (some r.sv))[j]? = some (some sv) → (j = i ∧ sv = r.sv ∧ (σ.set i (some v))[j]? = some (some v)) ∨ (j ≠ i ∧ env[j]? = some (some sv) ∧ (σ.set i (some v))[j]? = σ[j]?) := fun j sv e => by
    by_cases hj : j = i
    · subst hj
      have hl : j < env.length := by
        cases Nat.lt_or_ge j env.length with
        | inl z => exact z
        | inr z => rw [List.getElem?_eq_none (by rw [List.length_set]; exact z)] at e; cases e
      rw [List.getElem?_set_self hl] at e
      exact .inl ⟨rfl, by injection e with e; injection e with e; exact e.symm, List.getElem?_set_self (by rw [← S.len]; exact hl)⟩
    · rw [List.getElem?_set_ne (Ne.symm hj)] at e
      exact .inr ⟨hj, e, List.getElem?_set_ne (Ne.symm hj)⟩
  refine ⟨by rw [List.length_set, List.length_set]; exact S.len, fun j w e => ?_, fun j c e => ?_, fun j k c c' p e1 e2 f1 f2 => ?_, S.hp, S.fr, S.ext, S.tr⟩
  · rcases at_ j _ e with ⟨rfl, z, y⟩ | ⟨_, z, y⟩
    · cases r with
      | val w' => cases z; exact ⟨v, y, rr⟩
      | own c => cases z
      | slot _ => exact ns.elim
    · obtain ⟨u, a, b⟩ := S.val j w z; exact ⟨u, y.trans a, b⟩
  · rcases at_ j _ e with ⟨rfl, z, y⟩ | ⟨_, z, y⟩
    · cases r with
      | val w' => cases z
      | own c' => cases z; obtain ⟨p, rfl, a, b, d, _⟩ := rr; exact ⟨p, y, a, b, d⟩
      | slot _ => exact ns.elim
    · obtain ⟨p, a, b⟩ := S.own j c z; exact ⟨p, y.trans a, b⟩
  · have other : ∀ (m : Nat) (d : Cont), env[m]? = some (some (SV.own d)) → σ[m]? = some (some (V.ref p)) → r.sv = .own c ∨ r.sv = .own c' → v = .ref p → False := fun m d a b z y => by
      cases r with
      | val w => rcases z with z | z <;> cases z
      | slot _ => exact ns
      | own c0 => obtain ⟨q, e, _, _, _, no⟩ := rr; rw [e] at y; cases y; exact no ⟨m, d, a, b⟩
    rcases at_ j _ e1 with ⟨j1, z1, y1⟩ | ⟨j1, z1, y1⟩
    · rcases at_ k _ e2 with ⟨k1, z2, y2⟩ | ⟨k1, z2, y2⟩
      · rw [j1, k1]
      · rw [y1] at f1; injection f1 with f1; injection f1 with f1
        rw [y2] at f2
        exact (other k c' z2 f2 (.inl z1.symm) f1).elim
    · rcases at_ k _ e2 with ⟨k1, z2, y2⟩ | ⟨k1, z2, y2⟩
      · rw [y2] at f2; injection f2 with f2; injection f2 with f2
        rw [y1] at f1
        exact (other j c z1 f1 (.inr z2.symm) f2).elim
      · rw [y1] at f1; rw [y2] at f2
        exact S.uni j k c c' p z1 z2 f1 f2
def aSet (i : Nat) (t : AT) : ATS := fun D env h => aNs t env h fun r env1 h1 => D.nx (env1.set i (some r.sv)) h1
theorem as_set {i : Nat} {x : Str} {pos' : Pos} (hN : X.N.Nodup) (hi : X.N[i]? = some x) (hx : Loc X.env.scope x) (a : AE X G e te) (hs : swapsWith e (some (.Name x pos')) pos.line X.env = pure false := by rfl) (hf : X.fn x = true ∨ X.env.scope.names.lookup x = some .local := by first | exact .inl rfl | exact .inr rfl | assumption) :
    AS X G (.Assign [.Name x pos'] e pos) (aSet i te) := by
  refine ⟨fun D D' env h l q => aNs.mono a.mono env h _ _ (fun _ e g z => l.nx _ _ z) q, PS.imp (ps_set hN hi hx (pe_ns a) hs hf) fun D σ H ⟨env, h, Da, S, q, l⟩ => ?_⟩
  exact ⟨env, h, S, aNs.mono a.mono env h _ _ (fun r e g z v H1 S1 x1 r1 _ ns => l.nx _ _ _ _ (S1.set i r1 ns) (x1.keeps S) z) q⟩
end
end Ab

namespace Ab
open PySem PySem.Spec PyProof.Rows L2
/-! ### targets -/
abbrev AGT := W → AEnv → AH → (AEnv → AH → Prop) → Prop
abbrev AGTs := List W → AEnv → AH → (AEnv → AH → Prop) → Prop
def MonoG {α : Type} (g : α → AEnv → AH → (AEnv → AH → Prop) → Prop) : Prop := ∀ w env h Q Q', (∀ e k, Q e k → Q' e k) → g w env h Q → g w env h Q'
/-- alike but in these slots -/
def But (sl : List Nat) (σ σ' : L2.St) : Prop := σ'.length = σ.length ∧ ∀ i : Nat, i ∉ sl → σ'[i]? = σ[i]?
theorem But.refl {sl : List Nat} (σ : L2.St) : But sl σ σ := ⟨rfl, fun _ _ => rfl⟩
theorem But.trans {sl sl' : List Nat} {σ σ1 σ2 : L2.St} (a : But sl σ σ1) (b : But sl' σ1 σ2) : But (sl ++ sl') σ σ2 :=
  ⟨b.1.trans a.1, fun i hi => (b.2 i fun z => hi (List.mem_append_right _ z)).trans (a.2 i fun z => hi (List.mem_append_left _ z))⟩
/-- a target's step: the slots sl may hold something else, what is owned or in the abstract heap may have been written -/
structure Xg (sl : List Nat) (env : AEnv) (h : AH) (σ : L2.St) (H : Hp) (env' : AEnv) (h' : AH) (σ' : L2.St) (H' : Hp) : Prop where
  fr : ∀ p o, H p = some o → h p = none → ¬ OwnAt env σ p → H' p = some o
  hn : ∀ p o, h' p = some o → h p = none → H p = none
  th : ∀ p o, H p = some o → ∃ o', H' p = some o'
  ow : ∀ p, OwnAt env' σ' p → OwnAt env σ p
  so : ∀ (i : Nat) (c' : Cont), env'[i]? = some (some (SV.own c')) → ∃ c, env[i]? = some (some (SV.own c))
  bt : But sl σ σ'
theorem Xg.keeps {sl : List Nat} {G : Gx} {env env' : AEnv} {h h' : AH} {σ σ' : L2.St} {H H' : Hp} (x : Xg sl env h σ H env' h' σ' H') (S : BS G env h σ H) : Keeps H H' := fun p o e i => x.fr p o e (S.imm e i).1 (S.imm e i).2
theorem Xg.refl {sl : List Nat} {env : AEnv} {h : AH} {σ : L2.St} {H : Hp} : Xg sl env h σ H env h σ H := ⟨fun _ _ e _ _ => e, fun p o e n => (by rw [n] at e; cases e), fun _ o e => ⟨o, e⟩, fun _ q => q, fun i c e => ⟨c, e⟩, .refl σ⟩
theorem Xg.trans {sl sl' : List Nat} {env env1 env2 : AEnv} {h h1 h2 : AH} {σ σ1 σ2 : L2.St} {H H1 H2 : Hp} (a : Xg sl env h σ H env1 h1 σ1 H1) (b : Xg sl' env1 h1 σ1 H1 env2 h2 σ2 H2) : Xg (sl ++ sl') env h σ H env2 h2 σ2 H2 := by
  refine ⟨fun p o e n w => ?_, fun p o e n => ?_, fun p o e => ?_, fun p q => a.ow p (b.ow p q), fun i c e => ?_, a.bt.trans b.bt⟩
  · refine b.fr p o (a.fr p o e n w) ?_ fun q => w (a.ow p q)
    cases q : h1 p with
    | none => rfl
    | some u => rw [a.hn p u q n] at e; cases e
  · cases q : h1 p with
    | some u => exact a.hn p u q n
    | none =>
      have z := b.hn p o e q
      cases q2 : H p with
      | none => rfl
      | some u => obtain ⟨o', e'⟩ := a.th p u q2; rw [z] at e'; cases e'
  · obtain ⟨o', e'⟩ := a.th p o e; exact b.th p o' e'
  · obtain ⟨c1, z⟩ := b.so i c e
    exact a.so i c1 z
theorem Xt.xg {env env' : AEnv} {h h' : AH} {σ : L2.St} {H H' : Hp} (x : Xt env h σ H env' h' H') : Xg [] env h σ H env' h' σ H' :=
  ⟨x.fr, x.hn, x.th, fun _ q => x.own q, x.sl, .refl σ⟩
def cG (G : Gx) (sl : List Nat) (g : AGT) : TG := fun v σ H Q => ∃ w env h, Rep G.K H w v ∧ BS G env h σ H ∧ g w env h fun env' h' => ∀ σ' H', BS G env' h' σ' H' → Xg sl env h σ H env' h' σ' H' → Q σ' H'
def cGs (G : Gx) (sl : List Nat) (g : AGTs) : TGs := fun vs σ H Q => ∃ ws env h, RepL G.K H ws vs ∧ BS G env h σ H ∧ g ws env h fun env' h' => ∀ σ' H', BS G env' h' σ' H' → Xg sl env h σ H env' h' σ' H' → Q σ' H'
structure AG (X : Cx) (G : Gx) (tg : Expr) (sl : List Nat) (g : AGT) : Prop where
  mono : MonoG g
  pg : PG X tg (cG G sl g)
structure AGs (X : Cx) (G : Gx) (tg : List Expr) (sl : List Nat) (g : AGTs) : Prop where
  mono : MonoG g
  pg : PGs X tg (cGs G sl g)
theorem PG.imp {X : Cx} {e : Expr} {t t' : TG} (h : PG X e t) (i : ∀ v σ H Q, t' v σ H Q → t v σ H Q) : PG X e t' := ⟨fun pins s σ H v u Q I r q => h.run pins s σ H v u Q I r (i _ _ _ _ q)⟩
theorem PGs.imp {X : Cx} {e : List Expr} {t t' : TGs} (h : PGs X e t) (i : ∀ v σ H Q, t' v σ H Q → t v σ H Q) : PGs X e t' := ⟨fun pins s σ H v u Q I r q => h.run pins s σ H v u Q I r (i _ _ _ _ q)⟩
section
variable {X : Cx} {G : Gx} {pos : Pos} {x : Str}
def gNm (i : Nat) : AGT := fun w env h Q => Q (env.set i (some (.val w))) h
theorem ag_name {i : Nat} (hN : X.N.Nodup) (hi : X.N[i]? = some x) (hx : Loc X.env.scope x) (hf : X.fn x = true ∨ X.env.scope.names.lookup x = some .local := by first | exact .inl rfl | exact .inr rfl | assumption) : AG X G (.Name x pos) [i] (gNm i) := by
  refine ⟨fun w env h Q Q' k q => k _ _ q, PG.imp (pg_name hN hi hx hf) fun v σ H Q ⟨w, env, h, r, S, q⟩ => ?_⟩
  have ne : ∀ {j : Nat}, j ∉ [i] → i ≠ j := fun hj z => hj (by simp [z])
  refine q _ H (S.set (r := .val w) i r trivial) ⟨fun _ _ e _ _ => e, fun p o e n => (by rw [n] at e; cases e), fun _ o e => ⟨o, e⟩, fun p ⟨j, c, e1, e2⟩ => ?_, fun j c e1 => ?_, List.length_set, fun j hj => List.getElem?_set_ne (ne hj)⟩
  · by_cases hj : i = j
    · subst hj
      have hl : i < env.length := by
        have := (List.getElem?_eq_some_iff.mp e1).1
        rwa [List.length_set] at this
      rw [List.getElem?_set_self hl] at e1
      cases e1
    · rw [List.getElem?_set_ne hj] at e1 e2
      exact ⟨j, c, e1, e2⟩
  · by_cases hj : i = j
    · subst hj
      have hl : i < env.length := by
        have := (List.getElem?_eq_some_iff.mp e1).1
        rwa [List.length_set] at this
      rw [List.getElem?_set_self hl] at e1
      cases e1
    · rw [List.getElem?_set_ne hj] at e1
      exact ⟨c, e1⟩
def gsNil : AGTs := fun ws env h Q => ws = [] ∧ Q env h
def gsCons (t : AGT) (u : AGTs) : AGTs := fun ws env h Q => ∃ w r, ws = w :: r ∧ t w env h fun env' h' => u r env' h' Q
theorem ags_nil : AGs X G [] [] gsNil := ⟨fun w env h Q Q' k q => ⟨q.1, k _ _ q.2⟩, PGs.imp pgs_nil fun v σ H Q ⟨ws, env, h, r, S, e, q⟩ => by
  subst e
  exact ⟨r.of_nil, q σ H S .refl⟩⟩
theorem ags_cons {e : Expr} {es : List Expr} {t : AGT} {u : AGTs} {sl sl' : List Nat} (a : AG X G e sl t) (b : AGs X G es sl' u) (hs : (assignEach (e :: es) X.env).map (·.2) = assign e X.env :: (assignEach es X.env).map (·.2) := by rfl) : AGs X G (e :: es) (sl ++ sl') (gsCons t u) := by
  refine ⟨fun w env h Q Q' k ⟨x, r, e, q⟩ => ⟨x, r, e, a.mono _ _ _ _ _ (fun e g z => b.mono _ _ _ _ _ k z) q⟩, PGs.imp (pgs_cons a.pg b.pg hs) fun v σ H Q ⟨ws, env, h, r, S, w, rs, e, q⟩ => ?_⟩
  subst e
  obtain ⟨v0, vr, rfl, r0, rr⟩ := r.of_cons
  refine ⟨v0, vr, rfl, w, env, h, r0, S, a.mono _ _ _ _ _ (fun env1 h1 z σ1 H1 S1 x1 => ?_) q⟩
  exact ⟨rs, env1, h1, RepL.mono (x1.keeps S) _ _ rr, S1, b.mono _ _ _ _ _ (fun env2 h2 z2 σ2 H2 S2 x2 => z2 σ2 H2 S2 (x1.trans x2)) z⟩
def gTp (n : Nat) (u : AGTs) : AGT := fun w env h Q => match w with
  | .tup ws => ws.length = n ∧ u ws env h Q
  | _ => False
theorem ag_tup {es : List Expr} {k n : Nat} {u : AGTs} {sl : List Nat} (gk : G.K = X.K) (hc : X.calm = true) (b : AGs X G es sl u)
    (hn : (assignEach es X.env).length = n := by rfl) (hst : (assignEach es X.env).findIdx? (·.1) = none := by rfl) : AG X G (.Tuple es k pos) sl (gTp n u) := by
  refine ⟨fun w env h Q Q' k q => ?_, PG.imp (pg_tup hc b.pg hn hst) fun v σ H Q ⟨w, env, h, r, S, q⟩ => ?_⟩
  · unfold gTp at q ⊢
    split at q
    · exact ⟨q.1, b.mono _ _ _ _ _ k q.2⟩
    · exact q
  · unfold gTp at q
    split at q
    · obtain ⟨a, vs, rfl, s, r⟩ := Rep.of_tup r
      exact ⟨a, vs, rfl, gk ▸ s, r.length.symm.trans q.1, _, env, h, r, S, q.2⟩
    · exact q.elim
end
/-! ### what is walked -/
abbrev AIT := AEnv → AH → (List W → AEnv → AH → Prop) → Prop
def Gives (K : PySem.W.Frag) (J : It) (H1 : Hp) (ws : List W) : Prop := ∀ H, Keeps H1 H → ∀ i : Nat, (ws.length ≤ i → J.stop i H) ∧ ∀ w, ws[i]? = some w → J.go i H ∧ ∀ x H', J.yld i H x H' → New H H' ∧ Rep K H' w x
def cI (G : Gx) (t : AIT) : TI := fun σ H R => ∃ env h, BS G env h σ H ∧ t env h fun ws env' h' => ∀ J H', BS G env' h' σ H' → Xt env h σ H env' h' H' → Gives G.K J H' ws → R J H'
structure AI (X : Cx) (G : Gx) (tg iter : Expr) (t : AIT) : Prop where
  mono : Mono t
  pi : PI X tg iter (cI G t)
theorem PI.imp {X : Cx} {tg e : Expr} {t t' : TI} (h : PI X tg e t) (i : ∀ σ H R, t' σ H R → t σ H R) : PI X tg e t' := ⟨fun pins s σ H R I q => h.run pins s σ H R I (i _ _ _ q)⟩
section
variable {X : Cx} {G : Gx} {tg e : Expr} {pos : Pos} {x : Str}
def iLst (t : AVT) : AIT := fun env h Q => t env h fun w env' h' => match w with
  | .lst ws => Q ws env' h'
  | _ => False
def iTpl (t : AVT) : AIT := fun env h Q => t env h fun w env' h' => match w with
  | .tup ws => Q ws env' h'
  | _ => False
theorem iLst.mono {t : AVT} (m : Mono t) : Mono (iLst t) := fun env h Q Q' k q => m env h _ _ (fun w e g z => by
  cases w <;> first | exact k _ _ _ z | exact z) q
theorem iTpl.mono {t : AVT} (m : Mono t) : Mono (iTpl t) := fun env h Q Q' k q => m env h _ _ (fun w e g z => by
  cases w <;> first | exact k _ _ _ z | exact z) q
theorem gives_list {K : PySem.W.Frag} {H : Hp} {a : Addr} {ws : List W} {vs : List V} (l : LsF H a vs) (r : RepL K H ws vs) : Gives K (Itl K a) H ws := fun H' k i => by
  have l' := (k.lsF l).sq (K := K)
  have r' := RepL.mono k _ _ r
  refine ⟨fun h => ⟨vs, l', by rw [← r'.length]; exact h⟩, fun w e => ?_⟩
  obtain ⟨v, ev, rv⟩ := r'.get e
  exact ⟨⟨vs, v, l', ev⟩, fun x H2 ⟨e1, q⟩ => by
    subst e1
    have z := q vs l'
    rw [ev] at z; cases z
    exact ⟨.refl _, rv⟩⟩
theorem gives_tup {K : PySem.W.Frag} {H : Hp} {a : Addr} {ws : List W} {vs : List V} (l : SqT K H a vs) (r : RepL K H ws vs) : Gives K (Itt K a) H ws := fun H' k i => by
  have l' := k.sqT l
  have r' := RepL.mono k _ _ r
  refine ⟨fun h => ⟨vs, l', by rw [← r'.length]; exact h⟩, fun w e => ?_⟩
  obtain ⟨v, ev, rv⟩ := r'.get e
  exact ⟨⟨vs, v, l', ev⟩, fun x H2 ⟨e1, q⟩ => by
    subst e1
    have z := q vs l'
    rw [ev] at z; cases z
    exact ⟨.refl _, rv⟩⟩
theorem ai_lst {t : AVT} (gk : G.K = X.K) (a : AV X G e t) : AI X G tg e (iLst t) := by
  refine ⟨iLst.mono a.mono, PI.imp (pi_list a.pe) fun σ H R ⟨env, h, S, q⟩ => ?_⟩
  refine ⟨env, h, S, a.mono env h _ _ (fun w env1 h1 z v H1 S1 x1 r1 => ?_) q⟩
  cases w with
  | lst ws =>
    obtain ⟨p, vs, rfl, l, r⟩ := Rep.of_lst r1
    exact ⟨p, rfl, ⟨vs, l.sq⟩, z _ H1 S1 x1 (gk ▸ gives_list l r)⟩
  | _ => exact z.elim
theorem ai_tup {t : AVT} (gk : G.K = X.K) (a : AV X G e t) : AI X G tg e (iTpl t) := by
  refine ⟨iTpl.mono a.mono, PI.imp (pi_tup a.pe) fun σ H R ⟨env, h, S, q⟩ => ?_⟩
  refine ⟨env, h, S, a.mono env h _ _ (fun w env1 h1 z v H1 S1 x1 r1 => ?_) q⟩
  cases w with
  | tup ws =>
    obtain ⟨p, vs, rfl, l, r⟩ := Rep.of_tup r1
    exact ⟨p, rfl, ⟨vs, gk ▸ l⟩, z _ H1 S1 x1 (gk ▸ gives_tup l r)⟩
  | _ => exact z.elim
/-- a list or a tuple: known ahead of the walk -/
def iOr (t u : AIT) : AIT := fun env h Q => t env h Q ∨ u env h Q
theorem PI.or {t u : TI} (a : PI X tg e t) (b : PI X tg e u) : PI X tg e (fun σ H R => t σ H R ∨ u σ H R) := ⟨fun pins s σ H R I q => q.elim (fun z => a.run pins s σ H R I z) fun z => b.run pins s σ H R I z⟩
theorem ai_or {t u : AIT} (a : AI X G tg e t) (b : AI X G tg e u) : AI X G tg e (iOr t u) :=
  ⟨fun env h Q Q' k q => q.imp (a.mono env h Q Q' k) (b.mono env h Q Q' k), PI.imp (PI.or a.pi b.pi) fun σ H R ⟨env, h, S, q⟩ => q.imp (fun z => ⟨env, h, S, z⟩) fun z => ⟨env, h, S, z⟩⟩
theorem ai_seq {t : AVT} (gk : G.K = X.K) (a : AV X G e t) : AI X G tg e (iOr (iLst t) (iTpl t)) := ai_or (ai_lst gk a) (ai_tup gk a)
/-- range(n) -/
def rngW (lo : Int) (n : Nat) : List W := (List.range n).map fun (i : Nat) => W.int (lo + i)
theorem gives_range {K : PySem.W.Frag} {H : Hp} {lo : Int} {n : Nat} : Gives K (Itr lo n) H (rngW lo n) := fun H' k i => by
  have hl : (rngW lo n).length = n := by simp [rngW]
  refine ⟨fun h => (show n ≤ i by omega), fun w e => ?_⟩
  unfold rngW at e
  rw [List.getElem?_map] at e
  cases q : (List.range n)[i]? with
  | none => rw [q] at e; cases e
  | some j =>
    rw [q] at e
    obtain ⟨hi, ej⟩ := List.getElem?_eq_some_iff.mp q
    rw [List.getElem_range] at ej
    subst ej
    cases e
    rw [List.length_range] at hi
    exact ⟨hi, fun x H2 ⟨e1, e2⟩ => by subst e1; subst e2; exact ⟨.refl _, .int⟩⟩
def iRg1 (t : ART) : AIT := fun env h Q => t env h fun rs env' h' => match rs.map (view env' h') with
  | [.wv (.int j)] => -(2 ^ 62) ≤ j ∧ j < 2 ^ 62 ∧ Q (rngW 0 j.toNat) env' h'
  | _ => False
def iRg2 (t : ART) : AIT := fun env h Q => t env h fun rs env' h' => match rs.map (view env' h') with
  | [.wv (.int i), .wv (.int j)] => (-(2 ^ 62) ≤ i ∧ i < 2 ^ 62 ∧ -(2 ^ 62) ≤ j ∧ j < 2 ^ 62) ∧ Q (rngW i (j - i).toNat) env' h'
  | _ => False
theorem ai_range1 {a : Expr} {ta : ART} {p : Pos} (hg : Gl X "range") (hm : X.mg "range" = none) (ha : AR X G [a] ta) (hs : starEach [a] X.env = [(false, eval a X.env)] := by rfl) : AI X G tg (.Call (.Name "range" p) [a] [] pos) (iRg1 ta) := by
  refine ⟨fun env h Q Q' k q => ha.mono env h _ _ (fun rs e g z => ?_) q, PI.imp (pi_range1 hg hm ha.pa hs) fun σ H R ⟨env, h, S, q⟩ => ?_⟩
  · split at z
    · exact ⟨z.1, z.2.1, k _ _ _ z.2.2⟩
    · exact z
  · refine ⟨env, h, S, ha.mono env h _ _ (fun rs env1 h1 z vs H1 S1 x1 r1 => ?_) q⟩
    have rr := r1.vrl S1
    split at z
    · rename_i j e
      rw [e] at rr
      obtain ⟨v, rfl, rv⟩ := rr.one
      cases rv.int
      exact ⟨j, rfl, z.1, z.2.1, z.2.2 _ H1 S1 x1 gives_range⟩
    · exact z.elim
theorem ai_range2 {a b : Expr} {ta : ART} {p : Pos} (hg : Gl X "range") (hm : X.mg "range" = none) (ha : AR X G [a, b] ta) (hs : starEach [a, b] X.env = [(false, eval a X.env), (false, eval b X.env)] := by rfl) (hs2 : starEach [b] X.env = [(false, eval b X.env)] := by rfl) : AI X G tg (.Call (.Name "range" p) [a, b] [] pos) (iRg2 ta) := by
  refine ⟨fun env h Q Q' k q => ha.mono env h _ _ (fun rs e g z => ?_) q, PI.imp (pi_range2 hg hm ha.pa hs hs2) fun σ H R ⟨env, h, S, q⟩ => ?_⟩
  · split at z
    · exact ⟨z.1, k _ _ _ z.2⟩
    · exact z
  · refine ⟨env, h, S, ha.mono env h _ _ (fun rs env1 h1 z vs H1 S1 x1 r1 => ?_) q⟩
    have rr := r1.vrl S1
    split at z
    · rename_i i j e
      rw [e] at rr
      obtain ⟨v, u, rfl, rv, ru⟩ := rr.two
      cases rv.int; cases ru.int
      exact ⟨i, j, rfl, z.1, z.2 _ H1 S1 x1 gives_range⟩
    · exact z.elim
end
/-! ### for -/
def aLoop (g : AGT) (tb : ATS) (D : AEnds) : List W → AEnv → AH → Prop
  | [] => D.nx
  | w :: ws => fun env h => g w env h fun env1 h1 => tb { D with nx := aLoop g tb D ws, ct := aLoop g tb D ws, bk := D.nx } env1 h1
def aFor (ti : AIT) (g : AGT) (tb : ATS) : ATS := fun D env h => ti env h fun ws env1 h1 => aLoop g tb D ws env1 h1
theorem aLoop.mono {g : AGT} {tb : ATS} (mg : MonoG g) (mt : MonoS tb) {D D' : AEnds} (l : D.Le D') : ∀ (ws : List W) env h, aLoop g tb D ws env h → aLoop g tb D' ws env h
  | [], env, h, q => l.nx _ _ q
  | w :: ws, env, h, q => mg w env h _ _ (fun e k z => mt { D with nx := aLoop g tb D ws, ct := aLoop g tb D ws, bk := D.nx } { D' with nx := aLoop g tb D' ws, ct := aLoop g tb D' ws, bk := D'.nx } e k ⟨aLoop.mono mg mt l ws, l.rt, l.nx, aLoop.mono mg mt l ws⟩ z) q
section
variable {X : Cx} {G : Gx} {tg iter : Expr} {body : List Stmt} {pos : Pos}
theorem as_for {ti : AIT} {g : AGT} {tb : ATS} {sl : List Nat} (hp : PassesOwn (model X.prog X.w) X.A X.env X.xe) (hc : X.calm = true) (hi : AI X G tg iter ti) (hg : AG X G tg sl g) (hb : ASs X G body tb)
    (hs : ∀ x, foldedSetIterable iter X.env x = pure x := by intro _; rfl) : AS X G (.For tg iter body [] pos) (aFor ti g tb) := by
  refine ⟨fun D D' env h l q => hi.mono env h _ _ (fun ws e k z => aLoop.mono hg.mono hb.mono l ws e k z) q, PS.imp (ps_for hp hc hi.pi hg.pg hb.ps hs) fun D σ H ⟨env, h, Da, S, q, l⟩ => ?_⟩
  refine ⟨env, h, S, hi.mono env h _ _ (fun ws env1 h1 z J H1 S1 x1 gv => ?_) q⟩
  have kp := x1.keeps S
  refine ⟨fun i m σ' H' => ws.length ≤ i + m ∧ Keeps H1 H' ∧ ∃ e k, BS G e k σ' H' ∧ aLoop g tb Da (ws.drop i) e k, ⟨ws.length, by omega, .refl H1, env1, h1, S1, by simpa using z⟩, ?_⟩
  rintro i m σ2 H2 ⟨hm, k2, e2, g2, S2, z2⟩
  have gi := gv H2 k2 i
  cases e : ws[i]? with
  | none =>
    have hl := List.getElem?_eq_none_iff.mp e
    rw [List.drop_eq_nil_of_le hl] at z2
    exact .inl ⟨gi.1 hl, l.nx _ _ _ _ S2 (kp.trans k2) z2⟩
  | some w =>
    obtain ⟨hl, ew⟩ := List.getElem?_eq_some_iff.mp e
    have ed : ws.drop i = w :: ws.drop (i + 1) := by rw [List.drop_eq_getElem_cons hl, ew]
    rw [ed] at z2
    obtain ⟨go, yl⟩ := gi.2 w e
    refine .inr ⟨go, fun σ' H' => Keeps H1 H' ∧ ∃ e k, BS G e k σ' H' ∧ aLoop g tb Da (ws.drop (i + 1)) e k, fun σ' H' n => ⟨m - 1, by omega, by omega, n.1, n.2⟩, fun x H3 y => ?_⟩
    obtain ⟨nw, rx⟩ := yl x H3 y
    have k3 := k2.trans nw.keeps
    refine ⟨w, e2, g2, rx, nw.bs S2, hg.mono w e2 g2 _ _ (fun e4 g4 z4 σ4 H4 S4 x4 => ?_) z2⟩
    have k4 := x4.keeps (nw.bs S2)
    refine ⟨e4, g4, _, S4, z4, ⟨fun e k σ H S' kk y => ⟨(k3.trans k4).trans kk, e, k, S', y⟩, fun r e k σ H v S' kk => l.rt r e k σ H v S' (kp.trans ((k3.trans k4).trans kk)), fun e k σ H S' kk => l.nx e k σ H S' (kp.trans ((k3.trans k4).trans kk)), fun e k σ H S' kk y => ⟨(k3.trans k4).trans kk, e, k, S', y⟩⟩⟩
end
end Ab

namespace Ab
open PySem PySem.Spec PyProof.Rows L2
/-! ### the slots of a comprehension's own names -/
def wipeA (env : AEnv) : List Nat → AEnv
  | [] => env
  | v :: vs => (wipeA env vs).set v none
def keepV : Option (Option SV) → Option SV
  | some (some (.val w)) => some (.val w)
  | _ => none
def mend (env e2 : AEnv) : List Nat → AEnv
  | [] => e2
  | v :: vs => (mend env e2 vs).set v (keepV env[v]?)
theorem wipeA_len (env : AEnv) : ∀ vs, (wipeA env vs).length = env.length
  | [] => rfl
  | v :: vs => by rw [wipeA, List.length_set, wipeA_len env vs]
theorem mend_len (env e2 : AEnv) : ∀ vs, (mend env e2 vs).length = e2.length
  | [] => rfl
  | v :: vs => by rw [mend, List.length_set, mend_len env e2 vs]
theorem wipeA_out {env : AEnv} {i : Nat} : ∀ {vs : List Nat}, i ∉ vs → (wipeA env vs)[i]? = env[i]?
  | [], _ => rfl
  | v :: vs, h => by
    rw [wipeA, List.getElem?_set_ne (fun z => h (by simp [z])), wipeA_out fun z => h (List.mem_cons_of_mem _ z)]
theorem wipeA_some {env : AEnv} {i : Nat} {x : SV} : ∀ {vs : List Nat}, (wipeA env vs)[i]? = some (some x) → env[i]? = some (some x) ∧ i ∉ vs
  | [], h => ⟨h, by simp⟩
  | v :: vs, h => by
    rw [wipeA] at h
    by_cases hi : v = i
    · subst hi
      by_cases hl : v < (wipeA env vs).length
      · rw [List.getElem?_set_self hl] at h; cases h
      · rw [List.getElem?_eq_none (by rw [List.length_set]; omega)] at h; cases h
    · rw [List.getElem?_set_ne hi] at h
      obtain ⟨a, b⟩ := wipeA_some h
      exact ⟨a, by simp only [List.mem_cons, not_or]; exact ⟨fun z => hi z.symm, b⟩⟩
theorem mend_out {env e2 : AEnv} {i : Nat} : ∀ {vs : List Nat}, i ∉ vs → (mend env e2 vs)[i]? = e2[i]?
  | [], _ => rfl
  | v :: vs, h => by
    rw [mend, List.getElem?_set_ne (fun z => h (by simp [z])), mend_out fun z => h (List.mem_cons_of_mem _ z)]
theorem mend_in {env e2 : AEnv} {i : Nat} {x : SV} : ∀ {vs : List Nat}, i ∈ vs → (mend env e2 vs)[i]? = some (some x) → ∃ w, x = .val w ∧ env[i]? = some (some (.val w))
  | v :: vs, hi, h => by
    rw [mend] at h
    by_cases e : v = i
    · subst e
      by_cases hl : v < (mend env e2 vs).length
      · rw [List.getElem?_set_self hl] at h
        cases q : env[v]? with
        | none => rw [q] at h; cases h
        | some o =>
          cases o with
          | none => rw [q] at h; cases h
          | some sv =>
            cases sv with
            | val w => rw [q] at h; cases h; exact ⟨w, rfl, rfl⟩
            | own c => rw [q] at h; cases h
      · rw [List.getElem?_eq_none (by rw [List.length_set]; omega)] at h; cases h
    · rw [List.getElem?_set_ne e] at h
      rcases List.mem_cons.mp hi with z | z
      · exact absurd z.symm e
      · exact mend_in z h
theorem wipe_len (σ : L2.St) (vs : List Nat) : (wipe σ vs).length = σ.length := wipe_length σ vs
theorem wipe_out' {σ : L2.St} {i : Nat} : ∀ {vs : List Nat}, i ∉ vs → (wipe σ vs)[i]? = σ[i]?
  | [], _ => rfl
  | v :: vs, h => by
    rw [wipe, List.getElem?_set_ne (fun z => h (by simp [z])), wipe_out' fun z => h (List.mem_cons_of_mem _ z)]
theorem wipe_in {σ : L2.St} {i : Nat} : ∀ {vs : List Nat}, i ∈ vs → (wipe σ vs)[i]? = if i < σ.length then some none else none
  | v :: vs, h => by
    rw [wipe]
    by_cases e : v = i
    · subst e
      by_cases hl : v < σ.length
      · rw [if_pos hl, List.getElem?_set_self (by rw [wipe_len]; exact hl)]
      · rw [if_neg hl, List.getElem?_eq_none (by rw [List.length_set, wipe_len]; omega)]
    · rw [List.getElem?_set_ne e]
      rcases List.mem_cons.mp h with z | z
      · exact absurd z.symm e
      · exact wipe_in z
theorem wipe_but {σ σ2 : L2.St} {vs sl : List Nat} (b : But sl (wipe σ vs) σ2) (h : ∀ i ∈ sl, i ∈ vs) : wipe σ2 vs = wipe σ vs := by
  have hl : σ2.length = σ.length := b.1.trans (wipe_len _ _)
  apply List.ext_getElem?
  intro i
  by_cases hi : i ∈ vs
  · rw [wipe_in hi, wipe_in hi, hl]
  · rw [wipe_out' hi, b.2 i fun z => hi (h i z)]
section
variable {G : Gx} {env e2 : AEnv} {h h2 : AH} {σ σ2 : L2.St} {H H2 : Hp} {vs sl : List Nat}
theorem OwnAt.wiped {p : Addr} (o : OwnAt (wipeA env vs) (wipe σ vs) p) : OwnAt env σ p := by
  obtain ⟨i, c, a, b⟩ := o
  obtain ⟨a1, hi⟩ := wipeA_some a
  rw [wipe_out' hi] at b
  exact ⟨i, c, a1, b⟩
theorem BS.wipe (S : BS G env h σ H) : BS G (wipeA env vs) h (L2.wipe σ vs) H := by
  refine ⟨by rw [wipeA_len, wipe_len]; exact S.len, fun i w e => ?_, fun i c e => ?_, fun i j c c' p e1 e2 f1 f2 => ?_, S.hp, S.fr, S.ext, S.tr⟩
  · obtain ⟨a, hi⟩ := wipeA_some e
    rw [wipe_out' hi]; exact S.val i w a
  · obtain ⟨a, hi⟩ := wipeA_some e
    rw [wipe_out' hi]; exact S.own i c a
  · obtain ⟨a, hi⟩ := wipeA_some e1
    obtain ⟨b, hj⟩ := wipeA_some e2
    rw [wipe_out' hi] at f1; rw [wipe_out' hj] at f2
    exact S.uni i j c c' p a b f1 f2
/-- behind the block the names are as they were -/
theorem BS.mend (S : BS G env h σ H) (S2 : BS G e2 h2 σ2 H2) (k : Keeps H H2) (b : But sl (L2.wipe σ vs) σ2) (hs : ∀ i ∈ sl, i ∈ vs) : BS G (mend env e2 vs) h2 σ H2 := by
  have at_ : ∀ {i : Nat}, i ∉ vs → σ2[i]? = σ[i]? := fun {i} hi => (b.2 i fun z => hi (hs i z)).trans (wipe_out' hi)
  refine ⟨by rw [mend_len, S2.len, b.1, wipe_len], fun i w e => ?_, fun i c e => ?_, fun i j c c' p e1 e2 f1 f2 => ?_, S2.hp, S2.fr, S2.ext, S2.tr⟩
  · by_cases hi : i ∈ vs
    · obtain ⟨w', e0, a⟩ := mend_in hi e
      cases e0
      obtain ⟨v, x, y⟩ := S.val i w a
      exact ⟨v, x, Rep.mono k w v y⟩
    · rw [mend_out hi] at e
      obtain ⟨v, x, y⟩ := S2.val i w e
      exact ⟨v, (at_ hi).symm.trans x, y⟩
  · by_cases hi : i ∈ vs
    · obtain ⟨w', e0, _⟩ := mend_in hi e; cases e0
    · rw [mend_out hi] at e
      obtain ⟨p, x, y⟩ := S2.own i c e
      exact ⟨p, (at_ hi).symm.trans x, y⟩
  · by_cases hi : i ∈ vs
    · obtain ⟨w', e0, _⟩ := mend_in hi e1; cases e0
    · by_cases hj : j ∈ vs
      · obtain ⟨w', e0, _⟩ := mend_in hj e2; cases e0
      · rw [mend_out hi] at e1; rw [mend_out hj] at e2
        exact S2.uni i j c c' p e1 e2 ((at_ hi).trans f1) ((at_ hj).trans f2)
/-- what stands at an address that the abstract layer doesn't see is changed -/
theorem BS.unseen (S : BS G env h σ H) {D : Addr} {o o' : HO} (e : H D = some o) (m : ¬ Imm o) (n : h D = none) (n0 : G.H0 D = none) (no : ¬ OwnAt env σ D) : Keeps H (upd H D o') ∧ BS G env h σ (upd H D o') := by
  have k : Keeps H (upd H D o') := fun p u q i => by
    have ne : p ≠ D := fun z => by subst z; rw [e] at q; cases q; exact m i
    rw [upd_ne ne]; exact q
  refine ⟨k, S.len, fun i w z => ?_, fun i c z => ?_, S.uni, fun a u z => ?_, fun p u z y => ?_, S.ext, fun p u z => ?_⟩
  · obtain ⟨v, x, y⟩ := S.val i w z; exact ⟨v, x, Rep.mono k w v y⟩
  · obtain ⟨p, x, y, a, b⟩ := S.own i c z
    have ne : p ≠ D := fun q => no ⟨i, c, z, q ▸ x⟩
    exact ⟨p, x, y.mono k (upd_ne ne), a, b⟩
  · have ne : a ≠ D := fun q => by rw [q, n] at z; cases z
    exact (S.hp a u z).mono k (upd_ne ne)
  · have ne : p ≠ D := fun q => by rw [q, n0] at z; cases z
    rw [upd_ne ne]; exact S.fr p u z y
  · by_cases q : p = D
    · subst q; exact ⟨_, upd_same⟩
    · obtain ⟨u', y⟩ := S.tr p u z; exact ⟨u', by rw [upd_ne q]; exact y⟩
end
/-! ### list comprehensions -/
/-- from the items: what is made so far, slots and abstract heap -/
def lcLoop (vs : List Nat) (g : AGT) (tt : ABT) (te : AVT) (Q : List W → AEnv → AH → Prop) : List W → List W → AEnv → AH → Prop
  | [], acc => fun env h => Q acc env h
  | w :: ws, acc => fun env h => g w (wipeA env vs) h fun e1 h1 => tt e1 h1 fun b e2 h2 => if b = true then te e2 h2 fun y e3 h3 => acc.length < sizeLine ∧ lcLoop vs g tt te Q ws (acc ++ [y]) (mend env e3 vs) h3 else lcLoop vs g tt te Q ws acc (mend env e2 vs) h2
def aLc (vs : List Nat) (ti : AIT) (g : AGT) (tt : ABT) (te : AVT) : AT := fun env h Q => ti env h fun ws e1 h1 => lcLoop vs g tt te (fun acc e h => Q (.own (.seq acc)) e h) ws [] e1 h1
theorem lcLoop.mono {vs : List Nat} {g : AGT} {tt : ABT} {te : AVT} (mg : MonoG g) (mt : Mono tt) (me : Mono te) {Q Q' : List W → AEnv → AH → Prop} (k : ∀ a e h, Q a e h → Q' a e h) : ∀ (ws acc : List W) env h, lcLoop vs g tt te Q ws acc env h → lcLoop vs g tt te Q' ws acc env h
  | [], acc, env, h, q => k _ _ _ q
  | w :: ws, acc, env, h, q => mg _ _ _ _ _ (fun e1 h1 z => mt _ _ _ _ (fun b e2 h2 z => by
    cases b with
    | true => rw [if_pos rfl] at z ⊢; exact me _ _ _ _ (fun y e3 h3 z => ⟨z.1, lcLoop.mono mg mt me k ws _ _ _ z.2⟩) z
    | false => rw [if_neg Bool.false_ne_true] at z ⊢; exact lcLoop.mono mg mt me k ws _ _ _ z) z) q
structure APs (X : Cx) (G : Gx) (ifs : List Expr) (t : ABT) : Prop where
  mono : Mono t
  pts : PTs X ifs (cT G t)
def aYes : ABT := fun env h Q => Q true env h
theorem aps_nil {X : Cx} {G : Gx} : APs X G [] aYes := ⟨fun env h Q Q' k q => k _ _ _ q, ⟨fun pins s σ H Q I ⟨env, h, S, q⟩ => pts_nil.run pins s σ H Q I (q H S .refl)⟩⟩
theorem aps_one {X : Cx} {G : Gx} {c : Expr} {t : ABT} (h : AP X G c t) : APs X G [c] t := ⟨h.mono, pts_one h.pt⟩
section
variable {X : Cx} {G : Gx} {elt tg iter : Expr} {ifs : List Expr} {scope : Scope} {own : List (Str × Nat)} {pos : Pos} {ti : AIT} {g : AGT} {tt : ABT} {te : AVT} {sl : List Nat}
theorem lc_step {σ : L2.St} {H : Hp} {Q : VK} (hi : AI X G tg iter ti) (hsl : ∀ i ∈ sl, i ∈ own.map (·.2)) (mg : MonoG g) (mt : Mono tt) (me : Mono te) (q : cE G (aLc (own.map (·.2)) ti g tt te) σ H Q) :
    tLc (cI G ti) (cG G sl g) (cT G tt) (cV G te) (own.map (·.2)) σ H Q := by
  obtain ⟨env, h, S, q⟩ := q
  refine ⟨env, h, S, hi.mono env h _ _ (fun ws env1 h1 z J H1 S1 x1 gv => ?_) q⟩
  intro D nD
  have hD : H D = none := x1.fresh nD
  obtain ⟨hd1, hd0, hdo⟩ := S1.noAt nD
  have nw0 : New H1 (upd H1 D (.lst [])) := New.upd nD
  refine ⟨fun i m H' => ws.length ≤ i + m ∧ Keeps H1 H' ∧ ∃ acc vacc e k, H' D = some (.lst vacc) ∧ RepL G.K H' acc vacc ∧ BS G e k σ H' ∧ Xt env h σ H e k H' ∧ k D = none ∧ ¬ OwnAt e σ D ∧
    lcLoop (own.map (·.2)) g tt te (fun acc e h' => ∀ v H', BS G e h' σ H' → Xt env h σ H e h' H' → RvRep G e h' σ H' (.own (.seq acc)) v → Fsh H (.own (.seq acc)) v → Q v H') (ws.drop i) acc e k,
    ⟨ws.length, by omega, nw0.keeps, [], [], env1, h1, upd_same, .nil, nw0.bs S1, x1.trans nw0.xt, hd1, hdo, by simpa using z⟩, ?_⟩
  rintro i m H2 ⟨hm, k2, acc, vacc, e2, g2, d2, r2, S2, x2, n2, no2, z2⟩
  have gi := gv H2 k2 i
  cases e : ws[i]? with
  | none =>
    have hl := List.getElem?_eq_none_iff.mp e
    rw [List.drop_eq_nil_of_le hl] at z2
    exact .inl ⟨gi.1 hl, z2 _ H2 S2 x2 ⟨D, rfl, ⟨vacc, d2, r2⟩, n2, hd0, no2⟩ fun p ep => by cases ep; exact hD⟩
  | some w =>
    obtain ⟨hl, ew⟩ := List.getElem?_eq_some_iff.mp e
    have ed : ws.drop i = w :: ws.drop (i + 1) := by rw [List.drop_eq_getElem_cons hl, ew]
    rw [ed] at z2
    simp only [lcLoop] at z2
    obtain ⟨go, yl⟩ := gi.2 w e
    refine .inr ⟨go, fun H' => Keeps H1 H' ∧ ∃ acc vacc e k, H' D = some (.lst vacc) ∧ RepL G.K H' acc vacc ∧ BS G e k σ H' ∧ Xt env h σ H e k H' ∧ k D = none ∧ ¬ OwnAt e σ D ∧
      lcLoop (own.map (·.2)) g tt te (fun acc e h' => ∀ v H', BS G e h' σ H' → Xt env h σ H e h' H' → RvRep G e h' σ H' (.own (.seq acc)) v → Fsh H (.own (.seq acc)) v → Q v H') (ws.drop (i + 1)) acc e k, fun H' n => ⟨m - 1, by omega, by omega, n.1, n.2⟩, fun x H3 y => ?_⟩
    obtain ⟨nw, rx⟩ := yl x H3 y
    have S3 := nw.bs S2
    refine ⟨w, wipeA e2 (own.map (·.2)), g2, rx, S3.wipe, mg _ _ _ _ _ (fun e4 g4 z4 σ4 H4 S4 x4 => ?_) z2⟩
    refine ⟨wipe_but x4.bt hsl, e4, g4, S4, mt _ _ _ _ (fun b e5 g5 z5 H5 S5 x5 => ?_) z4⟩
    -- what has happened since the turn began
    have fin : ∀ {e6 : AEnv} {g6 : AH} {H6 : Hp}, BS G e6 g6 σ4 H6 → Xt e4 g4 σ4 H4 e6 g6 H6 → H6 D = some (.lst vacc) ∧ Keeps H2 H6 ∧ BS G (mend e2 e6 (own.map (·.2))) g6 σ H6 ∧ g6 D = none ∧ ¬ OwnAt (mend e2 e6 (own.map (·.2))) σ D ∧
        ∀ ys, Xt env h σ H (mend e2 e6 (own.map (·.2))) g6 (upd H6 D (.lst ys)) := fun {e6 g6 H6} S6 x6 => by
      have xx := x4.trans x6.xg
      have noW : ¬ OwnAt (wipeA e2 (own.map (·.2))) (wipe σ (own.map (·.2))) D := fun q => no2 q.wiped
      have f6 : ∀ p o, H2 p = some o → g2 p = none → ¬ OwnAt e2 σ p → H6 p = some o := fun p o e n q => xx.fr p o (nw p o e) n fun q' => q q'.wiped
      have kk : Keeps H2 H6 := fun p o e i => f6 p o e (S2.imm e i).1 (S2.imm e i).2
      have Sm := BS.mend (sl := sl ++ []) S2 S6 kk xx.bt fun i hi => hsl i (by simpa using hi)
      have g6D : g6 D = none := by
        cases q : g6 D with
        | none => rfl
        | some u => have y := xx.hn D u q n2; rw [nw D _ d2] at y; cases y
      have sameOut : ∀ {j : Nat}, j ∉ own.map (·.2) → σ4[j]? = σ[j]? := fun {j} hj => (x4.bt.2 j fun q => hj (hsl j q)).trans (wipe_out' hj)
      have oM : ∀ p, OwnAt (mend e2 e6 (own.map (·.2))) σ p → OwnAt e2 σ p := fun p ⟨j, c, a, b⟩ => by
        by_cases hj : j ∈ own.map (·.2)
        · obtain ⟨w', e0, _⟩ := mend_in hj a; cases e0
        · rw [mend_out hj] at a
          exact (xx.ow p ⟨j, c, a, (sameOut hj).trans b⟩).wiped
      refine ⟨f6 D _ d2 n2 no2, kk, Sm, g6D, fun q => no2 (oM D q), fun ys => ⟨fun p o e n q => ?_, fun p o e n => ?_, fun p o e => ?_, fun j c e => ?_⟩⟩
      · have np : p ≠ D := fun z => by rw [z, hD] at e; cases e
        rw [upd_ne np]
        refine f6 p o (x2.fr p o e n q) ?_ fun y => q (x2.own y)
        cases y : g2 p with
        | none => rfl
        | some u => rw [x2.hn p u y n] at e; cases e
      · cases y : g2 p with
        | some u => exact x2.hn p u y n
        | none =>
          have y3 := xx.hn p o e y
          cases y4 : H p with
          | none => rfl
          | some u =>
            obtain ⟨u', y5⟩ := x2.th p u y4
            rw [nw p u' y5] at y3; cases y3
      · by_cases hp : p = D
        · subst hp; exact ⟨_, upd_same⟩
        · obtain ⟨u, y⟩ := x2.th p o e
          obtain ⟨u', y'⟩ := xx.th p u (nw p u y)
          exact ⟨u', by rw [upd_ne hp]; exact y'⟩
      · by_cases hj : j ∈ own.map (·.2)
        · obtain ⟨w', e0, _⟩ := mend_in hj e; cases e0
        · rw [mend_out hj] at e
          obtain ⟨c1, y⟩ := xx.so j _ e
          obtain ⟨y1, _⟩ := wipeA_some y
          exact x2.sl j c1 y1
    cases b with
    | true =>
      rw [if_pos rfl] at z5
      refine iteT ⟨e5, g5, S5, me _ _ _ _ (fun y e6 g6 ⟨hz, z6⟩ v H6 S6 x6 r6 => ?_) z5⟩
      obtain ⟨d6, k6, Sm, n6, no6, xm⟩ := fin S6 (x5.trans x6)
      obtain ⟨k7, S7⟩ := Sm.unseen (o' := .lst (vacc ++ [v])) d6 (fun z => z) n6 hd0 no6
      exact ⟨vacc, d6, by rw [← r2.length]; exact hz, (k2.trans k6).trans k7, acc ++ [y], vacc ++ [v], _, g6, upd_same, (RepL.mono (k6.trans k7) _ _ r2).append (.cons (Rep.mono k7 _ _ r6) .nil), S7, xm _, n6, no6, z6⟩
    | false =>
      rw [if_neg Bool.false_ne_true] at z5
      refine iteF ?_
      obtain ⟨d6, k6, Sm, n6, no6, xm⟩ := fin S5 x5
      have eu : upd H5 D (.lst vacc) = H5 := by
        funext p
        by_cases hp : p = D
        · subst hp; rw [upd_same, d6]
        · rw [upd_ne hp]
      have xm' := xm vacc
      rw [eu] at xm'
      exact ⟨k2.trans k6, acc, vacc, _, g5, d6, RepL.mono k6 _ _ r2, Sm, xm', n6, no6, z5⟩
theorem ae_lc (hc : X.calm = true) (hN : X.N.Nodup) (hi : AI X G tg iter ti) (ok : BlkOk X.N X.env.scope scope own) (hsl : ∀ i ∈ sl, i ∈ own.map (·.2))
    (hg : ∀ (s : Shared) (H : Hp) (C : Addr) (cl : List (Str × Addr)) (fp : List Addr), AG (X.blk s H scope (compEnvC scope cl C X.env) fp) G tg sl g) (ht : ∀ (s : Shared) (H : Hp) (C : Addr) (cl : List (Str × Addr)) (fp : List Addr), APs (X.blk s H scope (compEnvC scope cl C X.env) fp) G ifs tt)
    (he : ∀ (s : Shared) (H : Hp) (C : Addr) (cl : List (Str × Addr)) (fp : List Addr), AV (X.blk s H scope (compEnvC scope cl C X.env) fp) G elt te) (mg : MonoG g) (mt : Mono tt) (me : Mono te) (hs : ∀ x, foldedSetIterable iter X.env x = pure x := by intro _; rfl) :
    AE X G (.ListComp elt [⟨tg, iter, ifs, 0⟩] scope pos) (aLc (own.map (·.2)) ti g tt te) := by
  exact ⟨fun env h Q Q' k q => hi.mono env h _ _ (fun ws e1 h1 z => lcLoop.mono mg mt me (fun a e h q => k _ _ _ q) ws [] e1 h1 z) q, PE.imp (pe_lc hc hN hi.pi ok (fun s H C cl fp => (hg s H C cl fp).pg) (fun s H C cl fp => (ht s H C cl fp).pts) (fun s H C cl fp => (he s H C cl fp).pe) hs) fun σ H Q q => lc_step hi hsl mg mt me q⟩
end
end Ab

namespace Ab
open PySem PySem.Spec PyProof.Rows L2
/-! ### places that are written -/
def updA (h : AH) (a : Addr) (o : AO) : AH := fun b => if b = a then some o else h b
theorem updA_same {h : AH} {a : Addr} {o : AO} : updA h a o a = some o := by unfold updA; rw [if_pos rfl]
theorem updA_ne {h : AH} {a b : Addr} {o : AO} (n : b ≠ a) : updA h a o b = h b := by unfold updA; rw [if_neg n]
theorem updA_upd {h : AH} {a : Addr} {o u : AO} : updA (updA h a o) a u = updA h a u := by
  funext b; unfold updA; split <;> rfl
/-- the list or dict that may be written through a result -/
def plc (env : AEnv) (h : AH) : RV → Option Cont
  | .slot i => match env[i]? with
    | some (some (.own c)) => some c
    | _ => none
  | .val (.ref a) => match h a with
    | some (.cont c) => some c
    | _ => none
  | _ => none
def putE (env : AEnv) (r : RV) (c : Cont) : AEnv := match r with
  | .slot i => env.set i (some (.own c))
  | _ => env
def putH (h : AH) (r : RV) (c : Cont) : AH := match r with
  | .val (.ref a) => updA h a (.cont c)
  | _ => h
section
variable {G : Gx} {env : AEnv} {h : AH} {σ : L2.St} {H : Hp}
theorem put_ok (S : BS G env h σ H) {r : RV} {v : V} {c : Cont} (rr : RvRep G env h σ H r v) (e : plc env h r = some c) : ∃ p, v = .ref p ∧ CRep G.K H p c ∧
    ∀ o' c', (Keeps H (upd H p o') → CRep G.K (upd H p o') p c') → BS G (putE env r c') (putH h r c') σ (upd H p o') ∧ Xt env h σ H (putE env r c') (putH h r c') (upd H p o') := by
  -- what all cases have in common
  have com : ∀ (p : Addr) (o' : HO), (∃ u, H p = some u ∧ Mu u) → Keeps H (upd H p o') ∧ (∀ q o, H q = some o → ∃ u, upd H p o' q = some u) := fun p o' ⟨u, eu, mu⟩ => by
    refine ⟨fun q o eq i => ?_, fun q o eq => ?_⟩
    · have ne : q ≠ p := fun z => by subst z; rw [eu] at eq; cases eq; exact mu.imm i
      rw [upd_ne ne]; exact eq
    · by_cases z : q = p
      · subst z; exact ⟨_, upd_same⟩
      · exact ⟨o, by rw [upd_ne z]; exact eq⟩
  cases r with
  | own c0 => cases e
  | slot i =>
    have e : (match env[i]? with
      | some (some (.own c)) => some c
      | _ => none) = some c := e
    split at e
    · rename_i c0 hs
      cases e
      obtain ⟨p, es, cr, n, n0⟩ := S.own i c hs
      have es' : σ[i]? = some (some v) := rr
      rw [es] at es'; cases es'
      refine ⟨p, rfl, cr, fun o' c' hc => ?_⟩
      obtain ⟨kp, th⟩ := com p o' cr.there
      have hc := hc kp
      have at_ : ∀ (j : Nat) (sv : SV), (env.set i (some (SV.own c')))[j]? = some (some sv) → (j = i ∧ sv = .own c') ∨ (j ≠ i ∧ env[j]? = some (some sv)) := fun j sv z => by
        rw [set_slot hs] at z
        by_cases hj : j = i
        · rw [if_pos hj] at z; cases z; exact .inl ⟨hj, rfl⟩
        · rw [if_neg hj] at z; exact .inr ⟨hj, z⟩
      show BS G (env.set i (some (.own c'))) h σ _ ∧ Xt env h σ H (env.set i (some (.own c'))) h _
      refine ⟨⟨by rw [List.length_set]; exact S.len, fun j w z => ?_, fun j d z => ?_, fun j k d d' q z1 z2 f1 f2 => ?_, fun a o z => ?_, fun q o z y => ?_, S.ext, fun q o z => ?_⟩, fun q o z y w => ?_, fun q o z y => (by rw [y] at z; cases z), th, fun j d z => ?_⟩
      · rcases at_ j _ z with ⟨_, z⟩ | ⟨_, z⟩
        · cases z
        · obtain ⟨u, a, b⟩ := S.val j w z; exact ⟨u, a, Rep.mono kp w u b⟩
      · rcases at_ j _ z with ⟨hj, z⟩ | ⟨hj, z⟩
        · cases z; exact ⟨p, hj ▸ es, hc, n, n0⟩
        · obtain ⟨q, a, b, x, y⟩ := S.own j d z
          have nq : q ≠ p := fun z2 => hj (S.uni j i d c p z hs (z2 ▸ a) es)
          exact ⟨q, a, b.mono kp (upd_ne nq), x, y⟩
      · rcases at_ j _ z1 with ⟨hj, y1⟩ | ⟨hj, y1⟩
        · rcases at_ k _ z2 with ⟨hk, y2⟩ | ⟨hk, y2⟩
          · rw [hj, hk]
          · rw [hj] at f1 ⊢; exact S.uni i k c d' q hs y2 f1 f2
        · rcases at_ k _ z2 with ⟨hk, y2⟩ | ⟨hk, y2⟩
          · rw [hk] at f2 ⊢; exact S.uni j i d c q y1 hs f1 f2
          · exact S.uni j k d d' q y1 y2 f1 f2
      · have na : a ≠ p := fun y => by rw [y, n] at z; cases z
        exact (S.hp a o z).mono kp (upd_ne na)
      · have nq : q ≠ p := fun x => by rw [x, n0] at z; cases z
        rw [upd_ne nq]; exact S.fr q o z y
      · obtain ⟨u, y⟩ := S.tr q o z; exact th q u y
      · have nq : q ≠ p := fun x => w ⟨i, c, hs, x ▸ es⟩
        rw [upd_ne nq]; exact z
      · rcases at_ j _ z with ⟨hj, z⟩ | ⟨hj, z⟩
        · exact ⟨c, hj ▸ hs⟩
        · exact ⟨d, z⟩
    · cases e
  | val w0 =>
    cases w0 with
    | ref a =>
      have e : (match h a with
        | some (.cont c) => some c
        | _ => none) = some c := e
      split at e
      · rename_i c0 ha
        cases e
        have ev : v = .ref a := Rep.of_ref (K := G.K) (H := H) rr
        have cr : CRep G.K H a c := S.hp a _ ha
        refine ⟨a, ev, cr, fun o' c' hc => ?_⟩
        obtain ⟨kp, th⟩ := com a o' cr.there
        have hc := hc kp
        show BS G env (updA h a (.cont c')) σ _ ∧ Xt env h σ H env (updA h a (.cont c')) _
        have neo : ∀ {j : Nat} {d : Cont} {q : Addr}, env[j]? = some (some (SV.own d)) → σ[j]? = some (some (V.ref q)) → q ≠ a := fun z y x => by
          obtain ⟨q', a', _, n, _⟩ := S.own _ _ z
          rw [y] at a'; cases a'
          rw [x, ha] at n; cases n
        refine ⟨⟨S.len, fun j w z => ?_, fun j d z => ?_, S.uni, fun b o z => ?_, fun q o z y => ?_, fun b o z y => ?_, fun q o z => ?_⟩, fun q o z y w => ?_, fun q o z y => ?_, th, fun j d z => ⟨d, z⟩⟩
        · obtain ⟨u, x, y⟩ := S.val j w z; exact ⟨u, x, Rep.mono kp w u y⟩
        · obtain ⟨q, x, y, n, n0⟩ := S.own j d z
          have nq := neo z x
          exact ⟨q, x, y.mono kp (upd_ne nq), by rw [updA_ne nq]; exact n, n0⟩
        · by_cases hb : b = a
          · subst hb; rw [updA_same] at z; cases z; exact hc
          · rw [updA_ne hb] at z; exact (S.hp b o z).mono kp (upd_ne hb)
        · have nq : q ≠ a := fun x => by
            subst x
            have := S.ext q _ ha y
            rw [this] at z; cases z
          rw [upd_ne nq]; exact S.fr q o z y
        · by_cases hb : b = a
          · subst hb; exact S.ext b _ ha y
          · rw [updA_ne hb] at z; exact S.ext b o z y
        · obtain ⟨u, y⟩ := S.tr q o z; exact th q u y
        · have nq : q ≠ a := fun x => by rw [x, ha] at y; cases y
          rw [upd_ne nq]; exact z
        · have nq : q ≠ a := fun x => by rw [x, ha] at y; cases y
          rw [updA_ne nq, y] at z; cases z
      · cases e
    | _ => cases e
end
/-! ### methods of lists that write -/
abbrev LmT := List W → List W → (List W → W → Prop) → Prop
structure LmOk (K : PySem.W.Frag) (r : V → List V → Hp → VK → Prop) (f : LmT) : Prop where
  mono : ∀ xs ws Q Q', (∀ a b, Q a b → Q' a b) → f xs ws Q → f xs ws Q'
  ok : ∀ H p xs vs ws us Qf Q, H p = some (.lst vs) → RepL K H xs vs → RepL K H ws us → f xs ws Qf → (∀ xs' vs' w v, Qf xs' w → RepL K H xs' vs' → Rep K H w v → Q v (upd H p (.lst vs'))) → r (.ref p) us H Q
def isSeq : Option Cont → Prop
  | some (.seq _) => True
  | _ => False
def aLm (f : LmT) (to : AT) (t : AAT) : AT := fun env h Q => to env h fun ro env1 h1 => isSeq (plc env1 h1 ro) ∧ t env1 h1 fun ws env2 h2 => match plc env2 h2 ro with
  | some (.seq xs) => f xs ws fun xs' w => Q (.val w) (putE env2 ro (.seq xs')) (putH h2 ro (.seq xs'))
  | _ => False
theorem aLm.mono {K : PySem.W.Frag} {r : V → List V → Hp → VK → Prop} {f : LmT} {to : AT} {t : AAT} (lm : LmOk K r f) (a : Mono to) (b : Mono t) : Mono (aLm f to t) := fun env h Q Q' k q => a env h _ _ (fun ro e g z => ⟨z.1, b e g _ _ (fun ws e2 g2 z => by
  split at z
  · exact lm.mono _ _ _ _ (fun _ _ q => k _ _ _ q) z
  · exact z) z.2⟩) q
section
variable {X : Cx} {G : Gx} {o e : Expr} {es : List Expr} {to : AT} {t : AAT} {name : Str} {apos cpos : Pos} {id : String} {r : V → List V → Hp → VK → Prop} {f : LmT}
theorem lm_core {σ : L2.St} {H : Hp} {Q : VK} (gk : G.K = X.K) (lm : LmOk G.K r f) (mo : Mono to) (mt : Mono t) (q : cE G (aLm f to t) σ H Q) : tBM X.K "list" r (cE G to) (cA G t) σ H Q := by
  obtain ⟨env, h, S, q⟩ := q
  refine ⟨env, h, S, mo env h _ _ (fun ro env1 h1 ⟨hs, z⟩ x H1 S1 x1 r1 f1 => ?_) q⟩
  have ty : tyV X.K "list" x H1 := by
    cases e : plc env1 h1 ro with
    | none => rw [e] at hs; exact hs.elim
    | some c =>
      cases c with
      | map _ => rw [e] at hs; exact hs.elim
      | seq xs =>
        obtain ⟨p, rfl, ⟨vs, l, _⟩, _⟩ := put_ok S1 r1 e
        exact .inl ⟨rfl, _, .inl (.inl l)⟩
  refine ⟨ty, env1, h1, S1, mt env1 h1 _ _ (fun ws env2 h2 z vs H2 S2 x2 r2 => ?_) z⟩
  split at z
  · rename_i xs e
    obtain ⟨p, rfl, ⟨us, l, rl⟩, put⟩ := put_ok S2 (r1.xt S1 x2) e
    refine lm.ok H2 p xs us ws vs _ Q l rl r2 z fun xs' vs' w v q0 ra rw0 => ?_
    have kp : Keeps H2 (upd H2 p (.lst vs')) := fun q o e i => by
      have ne : q ≠ p := fun z => by subst z; rw [l] at e; cases e; exact i
      rw [upd_ne ne]; exact e
    obtain ⟨S3, x3⟩ := put (.lst vs') (.seq xs') fun k => ⟨vs', upd_same, RepL.mono k _ _ ra⟩
    exact q0 v _ S3 (x1.trans (x2.trans x3)) (show Rep G.K _ w v from Rep.mono kp w v rw0) trivial
  · exact z.elim
theorem ae_lm (gk : G.K = X.K) (lm : LmOk G.K r f) (pa : PlainAttrs "list") (slot : Slot "list" name id) (hty : typeOf (.builtin id) = pure (.type "method_descriptor")) (hm : MtR X id r) (ho : AE X G o to) (ha : AA X G (e :: es) t)
    (hbase : attributeBase o name X.env (eval o X.env) = eval o X.env := by rfl)
    (hfew : ((backTo cpos (starEach (e :: es) X.env)).all (fun x => !x.1) && (backToKw cpos (keywordEach [] X.env)).all (fun x => x.1.isSome)
      && decide ((e :: es).length + ([] : List Keyword).length + (if ([] : List Keyword).isEmpty then 0 else 1) < 30)) = true := by rfl)
    (hline : (apos.endLine == cpos.line) = true := by rfl) (hs : starEach (e :: es) X.env = (false, eval e X.env) :: starEach es X.env := by rfl) (hplain : (backTo cpos (starEach es X.env)).any (·.1) = false := by rfl) :
    AE X G (.Call (.Attribute o name apos) (e :: es) [] cpos) (aLm f to t) :=
  ⟨aLm.mono lm ho.mono ha.mono, PE.imp (pe_bm pa slot hty hm ho.pe ha.pa hbase hfew hline hs hplain) fun _ _ _ q => lm_core gk lm ho.mono ha.mono q⟩
theorem ae_lm0 (gk : G.K = X.K) (lm : LmOk G.K r f) (pa : PlainAttrs "list") (slot : Slot "list" name id) (hty : typeOf (.builtin id) = pure (.type "method_descriptor")) (hm : MtR X id r) (ho : AE X G o to)
    (hbase : attributeBase o name X.env (eval o X.env) = eval o X.env := by rfl) (hline : (apos.endLine == cpos.line) = true := by rfl) :
    AE X G (.Call (.Attribute o name apos) [] [] cpos) (aLm f to aNil) := by
  refine ⟨aLm.mono lm ho.mono aNil.mono, PE.imp (pe_bm0 pa slot hty hm ho.pe hbase hline) fun σ H Q q => ?_⟩
  obtain ⟨env, h, S, q⟩ := q
  have z := lm_core (X := X) (t := aNil) gk lm ho.mono aNil.mono ⟨env, h, S, q⟩
  obtain ⟨env, h, S, z⟩ := z
  refine ⟨env, h, S, ho.mono env h _ _ (fun ro env1 h1 z x H1 S1 x1 r1 f1 => ?_) z⟩
  obtain ⟨ty, env2, h2, S2, q2⟩ := z x H1 S1 x1 r1 f1
  exact ⟨ty, q2 [] H1 S2 .refl .nil⟩
end
section
variable {K : PySem.W.Frag}
def fAppend : LmT := fun xs ws Q => match ws with
  | [y] => xs.length < sizeLine ∧ Q (xs ++ [y]) .non
  | _ => False
theorem lm_append : LmOk K rAppend fAppend :=
  ⟨fun xs ws Q Q' k q => by
    unfold fAppend at q ⊢
    split at q
    · exact ⟨q.1, k _ _ q.2⟩
    · exact q, fun H p xs vs ws us Qf Q l rl rw0 q k => by
    unfold fAppend at q
    split at q
    · obtain ⟨v, t, rfl, rv, rt⟩ := rw0.of_cons
      rw [rt.of_nil]
      exact ⟨p, vs, v, rfl, rfl, l, by rw [← rl.length]; exact q.1, k _ _ _ _ q.2 (rl.append (.cons rv .nil)) .non⟩
    · exact q.elim⟩
def fPop : LmT := fun xs ws Q => match ws with
  | [] => ∃ y, xs[xs.length - 1]? = some y ∧ Q xs.dropLast y
  | _ => False
theorem RepL.dropLast {H : Hp} : ∀ {ws : List W} {vs : List V}, RepL K H ws vs → RepL K H ws.dropLast vs.dropLast
  | [], vs, h => by rw [h.of_nil]; exact .nil
  | [w], vs, h => by
    obtain ⟨v, t, rfl, a, b⟩ := h.of_cons
    rw [b.of_nil]; exact .nil
  | w :: x :: ws, vs, h => by
    obtain ⟨v, t, rfl, a, b⟩ := h.of_cons
    obtain ⟨v2, t2, rfl, a2, b2⟩ := b.of_cons
    exact .cons a (RepL.dropLast (.cons a2 b2))
theorem lm_pop : LmOk K rPop fPop :=
  ⟨fun xs ws Q Q' k q => by
    unfold fPop at q ⊢
    split at q
    · obtain ⟨y, e, q⟩ := q; exact ⟨y, e, k _ _ q⟩
    · exact q, fun H p xs vs ws us Qf Q l rl rw0 q k => by
    unfold fPop at q
    split at q
    · rw [rw0.of_nil]
      obtain ⟨y, e, q⟩ := q
      obtain ⟨v, ev, rv⟩ := rl.get e
      exact ⟨p, vs, v, rfl, rfl, l, by rw [← rl.length]; exact ev, k _ _ _ _ q rl.dropLast rv⟩
    · exact q.elim⟩
def fPopAt : LmT := fun xs ws Q => match ws with
  | [.int i] => -(2 ^ 63) ≤ i ∧ i < 2 ^ 63 ∧ ∃ k y, seqIndex? i xs.length = some k ∧ xs[k]? = some y ∧ Q (xs.eraseIdx k) y
  | _ => False
theorem lm_popAt : LmOk K rPopAt fPopAt :=
  ⟨fun xs ws Q Q' k q => by
    unfold fPopAt at q ⊢
    split at q
    · obtain ⟨a, b, j, y, e, f, q⟩ := q; exact ⟨a, b, j, y, e, f, k _ _ q⟩
    · exact q, fun H p xs vs ws us Qf Q l rl rw0 q k => by
    unfold fPopAt at q
    split at q
    · obtain ⟨v, t, rfl, rv, rt⟩ := rw0.of_cons
      rw [rt.of_nil, Rep.of_int (K := K) (H := H) rv]
      obtain ⟨a, b, j, y, e, f, q⟩ := q
      obtain ⟨v, ev, rv⟩ := rl.get f
      exact ⟨p, vs, _, j, v, rfl, rfl, l, a, b, by rw [← rl.length]; exact e, ev, k _ _ _ _ q (rl.eraseIdx j) rv⟩
    · exact q.elim⟩
end
/-! ### x[i] = e of a list -/
def gSet (to ti : AT) : AGT := fun w env h Q => to env h fun ro env1 h1 => ti env1 h1 fun ri env2 h2 => match view env2 h2 ri with
  | .wv (.int k) => match plc env2 h2 ro with
    | some (.seq xs) => ∃ j, ixN xs.length k = some j ∧ Q (putE env2 ro (.seq (xs.set j w))) (putH h2 ro (.seq (xs.set j w)))
    | _ => False
  | _ => False
section
variable {X : Cx} {G : Gx} {o i : Expr} {to ti : AT} {pos : Pos}
theorem ag_set (ho : AE X G o to) (hi : AE X G i ti)
    (ha : PG X (.Subscript o i pos) (gSub (cE G to) (cE G ti) rSetL)) : AG X G (.Subscript o i pos) [] (gSet to ti) := by
  refine ⟨fun w env h Q Q' k q => ho.mono env h _ _ (fun ro e g z => hi.mono e g _ _ (fun ri e g z => ?_) z) q, PG.imp ha fun v σ H Q ⟨w, env, h, rv, S, q⟩ => ?_⟩
  · split at z
    · split at z
      · obtain ⟨j, e, z⟩ := z; exact ⟨j, e, k _ _ z⟩
      · exact z
    · exact z
  · refine ⟨env, h, S, ho.mono env h _ _ (fun ro env1 h1 z x H1 S1 x1 r1 f1 => ?_) q⟩
    refine ⟨env1, h1, S1, hi.mono env1 h1 _ _ (fun ri env2 h2 z y H2 S2 x2 r2 f2 => ?_) z⟩
    have ry := r2.vr S2
    split at z
    · rename_i k ek
      rw [ek] at ry
      split at z
      · rename_i xs e
        obtain ⟨j, ej, z⟩ := z
        obtain ⟨p, rfl, ⟨us, l, rl⟩, put⟩ := put_ok S2 (r1.xt S1 x2) e
        have rv2 : Rep G.K H2 w v := Rep.mono ((x1.keeps S).trans (x2.keeps S1)) w v rv
        refine ⟨p, us, k, j, rfl, ry.int, l, by rw [← rl.length]; exact ej, ?_⟩
        obtain ⟨S3, x3⟩ := put (.lst (us.set j v)) (.seq (xs.set j w)) fun kk => ⟨_, upd_same, RepL.mono kk _ _ (rl.set j rv2)⟩
        exact z σ _ S3 (x1.trans (x2.trans x3)).xg
      · exact z.elim
    · exact z.elim
end
/-! ### target = e -/
section
variable {X : Cx} {G : Gx} {tg e : Expr} {tv : AVT} {g : AGT} {sl : List Nat} {pos : Pos} {st : Stmt} {t : ATS}
def aAsg (tv : AVT) (g : AGT) : ATS := fun D env h => tv env h fun w env1 h1 => g w env1 h1 D.nx
theorem as_asg (he : AV X G e tv) (hg : AG X G tg sl g) (hs : swapsWithSole [tg] e pos.line X.env = pure false := by rfl) (hw : swappedStores [tg] e X.env = pure none := by rfl) (h1 : (assignEach [tg] X.env).map (·.2) = [assign tg X.env] := by rfl) : AS X G (.Assign [tg] e pos) (aAsg tv g) := by
  refine ⟨fun D D' env h l q => he.mono env h _ _ (fun w e g z => hg.mono _ _ _ _ _ l.nx z) q, PS.imp (ps_asg he.pe hg.pg hs hw h1) fun D σ H ⟨env, h, Da, S, q, l⟩ => ?_⟩
  refine ⟨env, h, S, he.mono env h _ _ (fun w env1 h1 z v H1 S1 x1 r1 => ?_) q⟩
  exact ⟨w, env1, h1, r1, S1, hg.mono _ _ _ _ _ (fun env2 h2 z σ2 H2 S2 x2 => l.nx _ _ _ _ S2 ((x1.keeps S).trans (x2.keeps S1)) z) z⟩
/-! ### steps of the ghost -/
/-- the slot's own list or dict is shared from here on: it lies in the abstract heap -/
def aProm (i : Nat) (t : ATS) : ATS := fun D env h => match env[i]? with
  | some (some (.own c)) => ∀ p, h p = none → t D (env.set i (some (.val (.ref p)))) (updA h p (.cont c))
  | _ => False
theorem as_prom (i : Nat) (a : AS X G st t) : AS X G st (aProm i t) := by
  refine ⟨fun D D' env h l q => ?_, PS.imp a.ps fun D σ H ⟨env, h, Da, S, q, l⟩ => ?_⟩
  · unfold aProm at q ⊢
    split at q
    · exact fun p n => a.mono _ _ _ _ l (q p n)
    · exact q
  · unfold aProm at q
    split at q
    · rename_i c e
      obtain ⟨p, es, cr, n, n0⟩ := S.own i c e
      refine ⟨_, _, Da, ?_, q p n, l⟩
      have at_ : ∀ (j : Nat) (sv : SV), (env.set i (some (SV.val (.ref p))))[j]? = some (some sv) → (j = i ∧ sv = .val (.ref p)) ∨ (j ≠ i ∧ env[j]? = some (some sv)) := fun j sv z => by
        rw [set_slot e] at z
        by_cases hj : j = i
        · rw [if_pos hj] at z; cases z; exact .inl ⟨hj, rfl⟩
        · rw [if_neg hj] at z; exact .inr ⟨hj, z⟩
      refine ⟨by rw [List.length_set]; exact S.len, fun j w z => ?_, fun j d z => ?_, fun j k d d' q z1 z2 f1 f2 => ?_, fun a o z => ?_, S.fr, fun a o z y => ?_, S.tr⟩
      · rcases at_ j _ z with ⟨hj, z⟩ | ⟨_, z⟩
        · cases z; exact ⟨_, hj ▸ es, .ref⟩
        · exact S.val j w z
      · rcases at_ j _ z with ⟨_, z⟩ | ⟨hj, z⟩
        · cases z
        · obtain ⟨q, a, b, x, y⟩ := S.own j d z
          have nq : q ≠ p := fun z2 => hj (S.uni j i d c p z e (z2 ▸ a) es)
          exact ⟨q, a, b, by rw [updA_ne nq]; exact x, y⟩
      · rcases at_ j _ z1 with ⟨_, y⟩ | ⟨_, y1⟩
        · cases y
        · rcases at_ k _ z2 with ⟨_, y⟩ | ⟨_, y2⟩
          · cases y
          · exact S.uni j k d d' q y1 y2 f1 f2
      · by_cases ha : a = p
        · subst ha; rw [updA_same] at z; cases z; exact cr
        · rw [updA_ne ha] at z; exact S.hp a o z
      · by_cases ha : a = p
        · subst ha; exact n0
        · rw [updA_ne ha] at z; exact S.ext a o z y
    · exact q.elim
end
/-! ### a def's body keeps its promise -/
def startA (n : Nat) (ws : List W) : AEnv := ws.map (fun w => some (.val w)) ++ List.replicate (n - ws.length) none
def AH.Le (h h' : AH) : Prop := ∀ a o, h a = some o → h' a = some o
/-- what is wanted where the body ends: parts of the abstract heap may be forgotten -/
def endsOf (Qa : RR → AH → Prop) : AEnds where
  nx := fun _ h => ∃ h', AH.Le h' h ∧ Qa (.val .non) h'
  rt := fun r env h => ∃ h', AH.Le h' h ∧ match r with
    | .val w => Qa (.val w) h'
    | .own c => Qa (.own c) h'
    | .slot i => match env[i]? with
      | some (some (.val w)) => Qa (.val w) h'
      | some (some (.own c)) => Qa (.own c) h'
      | _ => False
def excOf (Ea : AExc → AH → Prop) : AExc → AEnv → AH → Prop := fun x _ h => ∃ h', AH.Le h' h ∧ Ea x h'
theorem BS.begin {K : PySem.W.Frag} {h : AH} {H : Hp} {ws : List W} {vs : List V} {N : List Str} (hp : ∀ a o, h a = some o → ORep K H a o) (r : RepL K H ws vs) (hl : ws.length ≤ N.length) : BS ⟨K, h, H⟩ (startA N.length ws) h (L2.start N vs) H := by
  have e1 : (startA N.length ws).length = N.length := by simp [startA]; omega
  have e2 : (L2.start N vs).length = N.length := by simp [L2.start, ← r.length]; omega
  have at_ : ∀ (i : Nat) (sv : SV), (startA N.length ws)[i]? = some (some sv) → ∃ w, sv = .val w ∧ ws[i]? = some w := fun i sv e => by
    unfold startA at e
    by_cases hi : i < ws.length
    · rw [List.getElem?_append_left (by simpa using hi), List.getElem?_map] at e
      cases q : ws[i]? with
      | none => rw [q] at e; cases e
      | some w => rw [q] at e; cases e; exact ⟨w, rfl, rfl⟩
    · rw [List.getElem?_append_right (by simpa using hi), List.getElem?_replicate] at e
      split at e <;> cases e
  refine ⟨by rw [e1, e2], fun i w e => ?_, fun i c e => ?_, fun i j c c' p e => ?_, hp, fun p o e _ => e, fun a o e n => (by have n : h a = none := n; rw [n] at e; cases e), fun p o e => ⟨o, e⟩⟩
  · obtain ⟨w', z, y⟩ := at_ i _ e
    cases z
    obtain ⟨v, ev, rv⟩ := r.get y
    refine ⟨v, ?_, rv⟩
    have hi : i < vs.length := (List.getElem?_eq_some_iff.mp ev).1
    unfold L2.start
    rw [List.getElem?_append_left (by simpa using hi), List.getElem?_map, ev]
    rfl
  · obtain ⟨w', z, _⟩ := at_ i _ e; cases z
  · obtain ⟨w', z, _⟩ := at_ i _ e; cases z
section
variable {P : Program} {w : World} {K : PySem.W.Frag} {mg : Str → Option Value} {base : Heap} {x qual : Str} {params : Arguments} {body : List Stmt} {scope : Scope} {f : Addr} {fd : FuncData} {N ps : List Str} {k n : Nat} {sp : ASp}
/-- the context of the def's body -/
abbrev bx (P : Program) (w : World) (K : PySem.W.Frag) (mg : Str → Option Value) (base : Heap) (N : List Str) (qual : Str) (scope : Scope) (f : Addr) (cdv : Value) (A : Around) (outer : List Env) (s : Shared) (H : Hp) (E : XK) : Cx :=
  cxOf (L2.CX P w) P w K mg base N qual scope f cdv A outer s H E
theorem HS.le {G : Gx} {h h' : AH} {H : Hp} (a : HS G h H) (l : AH.Le h' h) : HS G h' H := ⟨fun p o e => a.hp p o (l p o e), a.fr, fun p o e => a.ext p o (l p o e), a.tr⟩
theorem def_ok {t : (AExc → AEnv → AH → Prop) → ATS} (dvs : List V) (kws : List (Str × V)) (F : FunD K x qual params body scope dvs kws f fd) (S : FnScope N ps scope) (hn : ps.length = n)
    (hb : ∀ (cdv : Value) (A : Around) (outer : List Env) (s : Shared) (H : Hp) (E : XK) (G : Gx) (E' : AExc → AEnv → AH → Prop), Room k (A.deeper (envOfC qual scope s.heap.objs.size f cdv)) → G.K = K → Takes (bx P w K mg base N qual scope f cdv A outer s H E) (cW G E') →
      ASs (bx P w K mg base N qual scope f cdv A outer s H E) G body (t E'))
    (hq : ∀ ws h Qa Ea, ws.length = n → sp ws h Qa Ea → t (excOf Ea) (endsOf Qa) (startA N.length ws) h) :
    FnOk P w K mg base (L2.CX P w) (k + 1) f fd ps (cSp K n sp) := by
  refine F.ok S (fun vs H Q E ⟨ws, h, Qa, Ea, hl, _, r, _⟩ => by rw [← r.length, hl, hn]) (fun cdv A outer s H vs Q E hr ⟨ws, h, Qa, Ea, hl, hp, r, q, kq, ke⟩ => ?_)
  have hwN : ws.length ≤ N.length := by
    have z := congrArg List.length S.pre
    rw [List.length_take] at z
    omega
  have tk : Takes (bx P w K mg base N qual scope f cdv A outer s H E) (cW ⟨K, h, H⟩ (excOf Ea)) := Takes.imp (W := fun cls d _ H' => E cls d H') (takes_of rfl rfl rfl rfl) fun cls d σ H' ⟨x, env, h', SB, xr, h'', le, e⟩ =>
    ke x h'' cls d H' e (HS.le (G := ⟨K, h, H⟩) ⟨SB.hp, SB.fr, SB.ext, SB.tr⟩ le) xr
  refine ⟨_, (hb cdv A outer s H E ⟨K, h, H⟩ (excOf Ea) hr rfl tk).ps, startA N.length ws, h, endsOf Qa, BS.begin hp r hwN, hq ws h Qa Ea hl q, ?_⟩
  have hs : ∀ {env h' σ' H'}, BS ⟨K, h, H⟩ env h' σ' H' → HS ⟨K, h, H⟩ h' H' := fun SB => ⟨SB.hp, SB.fr, SB.ext, SB.tr⟩
  refine ⟨fun env h' σ' H' SB _ ⟨h'', le, e⟩ => kq (.val .non) h'' .non H' e ((hs SB).le le) (show Rep K H' .non .non from .non), fun r0 env h' σ' H' v SB _ rr ⟨h'', le, e⟩ => ?_, fun _ _ _ _ _ _ z => z.elim, fun _ _ _ _ _ _ z => z.elim⟩
  have own_end : ∀ {p : Addr} {c : Cont}, v = .ref p → CRep K H' p c → h' p = none → H p = none → RrRep ⟨K, h, H⟩ h'' H' (.own c) v := fun {p c} e1 e2 e3 e4 => by
    have e5 : h'' p = none := by
      cases z : h'' p with
      | none => rfl
      | some u => rw [le p u z] at e3; cases e3
    exact ⟨p, e1, e2, e5, e4⟩
  cases r0 with
  | val w0 => exact kq (.val w0) h'' v H' e ((hs SB).le le) rr
  | own c =>
    obtain ⟨p, e1, cr, a, b, _⟩ := rr
    exact kq (.own c) h'' v H' e ((hs SB).le le) (own_end e1 cr a b)
  | slot i =>
    have es : σ'[i]? = some (some v) := rr
    have e : match env[i]? with
      | some (some (.val w)) => Qa (.val w) h''
      | some (some (.own c)) => Qa (.own c) h''
      | _ => False := e
    split at e
    · rename_i w0 ei
      obtain ⟨u, e3, rv⟩ := SB.val i w0 ei
      rw [es] at e3; cases e3
      exact kq (.val w0) h'' v H' e ((hs SB).le le) rv
    · rename_i c ei
      obtain ⟨p, e3, cr, a, b⟩ := SB.own i c ei
      rw [es] at e3; cases e3
      exact kq (.own c) h'' _ H' e ((hs SB).le le) (own_end rfl cr a b)
    · exact e.elim
end
end Ab

namespace Ab
open PySem PySem.Spec PyProof.Rows L2 RZ
/-! ### and, or, not as values -/
def aAndV (ta tb : AT) : AT := fun env h Q => ta env h fun r env1 h1 => match view env1 h1 r with
  | .wv (.bl c) => if c = true then tb env1 h1 Q else Q (.val (.bl false)) env1 h1
  | _ => False
def aOrV (ta tb : AT) : AT := fun env h Q => ta env h fun r env1 h1 => match view env1 h1 r with
  | .wv (.bl c) => if c = true then Q (.val (.bl true)) env1 h1 else tb env1 h1 Q
  | _ => False
def aNotV (ta : AT) : AT := fun env h Q => ta env h fun r env1 h1 => match view env1 h1 r with
  | .wv (.bl c) => Q (.val (.bl (!c))) env1 h1
  | _ => False
section
variable {X : Cx} {G : Gx} {a b : Expr} {ta tb : AT} {pos : Pos} {rest : List Expr}
theorem fsh_from {env env1 : AEnv} {h h1 : AH} {σ : L2.St} {H H1 : Hp} (x1 : Xt env h σ H env1 h1 H1) {r : RV} {v : V} (f : Fsh H1 r v) : Fsh H r v := by
  cases r with
  | own c => exact fun p e => x1.fresh (f p e)
  | _ => trivial
/-- go on with another expression in the same state -/
theorem on_with {t : AT} {env env1 : AEnv} {h h1 : AH} {σ : L2.St} {H H1 : Hp} {Q : VK} (m : Mono t) (S1 : BS G env1 h1 σ H1) (x1 : Xt env h σ H env1 h1 H1)
    (z : t env1 h1 fun r env' h' => ∀ v H', BS G env' h' σ H' → Xt env h σ H env' h' H' → RvRep G env' h' σ H' r v → Fsh H r v → Q v H') : cE G t σ H1 Q :=
  ⟨env1, h1, S1, m env1 h1 _ _ (fun r env2 h2 z2 v H2 S2 x2 r2 f2 => z2 v H2 S2 (x1.trans x2) r2 (fsh_from x1 f2)) z⟩
theorem ae_and1 (ha : AE X G a ta) : AE X G (.BoolOp .And [a] pos) ta := ⟨ha.mono, pe_one ha.pe⟩
theorem ae_or1 (ha : AE X G a ta) : AE X G (.BoolOp .Or [a] pos) ta := ⟨ha.mono, pe_one ha.pe⟩
theorem ae_and (ha : AE X G a ta) (hb : AE X G (.BoolOp .And (b :: rest) pos) tb) : AE X G (.BoolOp .And (a :: b :: rest) pos) (aAndV ta tb) := by
  refine ⟨fun env h Q Q' k q => ha.mono env h _ _ (fun r e g z => ?_) q, PE.imp (pe_and ha.pe hb.pe) fun σ H Q ⟨env, h, S, q⟩ => ⟨env, h, S, ha.mono env h _ _ (fun r e g z v H1 S1 x1 r1 f1 => ?_) q⟩⟩
  · split at z
    · rename_i c _
      cases c with
      | true => exact iteT (hb.mono e g _ _ k (by simpa using z))
      | false => exact iteF (k _ _ _ (by simpa using z))
    · exact z
  · have rv := r1.vr S1
    split at z
    · rename_i c ec
      rw [ec] at rv
      refine ⟨c, rv.bl, ?_⟩
      cases c with
      | true => rw [if_pos rfl] at z; exact iteT (on_with hb.mono S1 x1 z)
      | false => rw [if_neg Bool.false_ne_true] at z; exact iteF (z (.bl false) H1 S1 x1 (show Rep G.K H1 (.bl false) (.bl false) from .bl) trivial)
    · exact z.elim
theorem ae_or (ha : AE X G a ta) (hb : AE X G (.BoolOp .Or (b :: rest) pos) tb) : AE X G (.BoolOp .Or (a :: b :: rest) pos) (aOrV ta tb) := by
  refine ⟨fun env h Q Q' k q => ha.mono env h _ _ (fun r e g z => ?_) q, PE.imp (pe_or ha.pe hb.pe) fun σ H Q ⟨env, h, S, q⟩ => ⟨env, h, S, ha.mono env h _ _ (fun r e g z v H1 S1 x1 r1 f1 => ?_) q⟩⟩
  · split at z
    · rename_i c _
      cases c with
      | true => exact iteT (k _ _ _ (by simpa using z))
      | false => exact iteF (hb.mono e g _ _ k (by simpa using z))
    · exact z
  · have rv := r1.vr S1
    split at z
    · rename_i c ec
      rw [ec] at rv
      refine ⟨c, rv.bl, ?_⟩
      cases c with
      | true => rw [if_pos rfl] at z; exact iteT (z (.bl true) H1 S1 x1 (show Rep G.K H1 (.bl true) (.bl true) from .bl) trivial)
      | false => rw [if_neg Bool.false_ne_true] at z; exact iteF (on_with hb.mono S1 x1 z)
    · exact z.elim
theorem ae_not (ha : AE X G a ta) : AE X G (.UnaryOp .Not a pos) (aNotV ta) := by
  refine ⟨fun env h Q Q' k q => ha.mono env h _ _ (fun r e g z => ?_) q, PE.imp (pe_not ha.pe) fun σ H Q ⟨env, h, S, q⟩ => ⟨env, h, S, ha.mono env h _ _ (fun r e g z v H1 S1 x1 r1 f1 => ?_) q⟩⟩
  · split at z
    · exact k _ _ _ z
    · exact z
  · have rv := r1.vr S1
    split at z
    · rename_i c ec
      rw [ec] at rv
      exact ⟨c, rv.bl, z (.bl (!c)) H1 S1 x1 (show Rep G.K H1 (.bl (!c)) (.bl (!c)) from .bl) trivial⟩
    · exact z.elim
theorem ae_mulI (ha : AE X G a ta) (hb : AE X G b tb) : AE X G (.BinOp a .Mult b pos) (aOp2 (oII CMulW fun i j => .int (i * j)) ta tb) := ae_op op_mulW (opa_int fun _ _ _ => .int) ha hb
theorem ae_pow (ha : AE X G a ta) (hb : AE X G b tb) : AE X G (.BinOp a .Pow b pos) (aOp2 (oII CPow fun i j => .int (i ^ j.toNat)) ta tb) := ae_op op_pow (opa_int fun _ _ _ => .int) ha hb
/-! ### x, y = a, b -/
def aPar (i j : Nat) (t : AAT) : ATS := fun D env h => t env h fun ws env1 h1 => match ws with
  | [v, w] => D.nx ((env1.set i (some (.val v))).set j (some (.val w))) h1
  | _ => False
theorem as_par {i j : Nat} {x y : Str} {t : AAT} {px py pt : Pos} {kt k2 pt2} (hc : X.calm = true) (hN : X.N.Nodup) (hi : X.N[i]? = some x) (hj : X.N[j]? = some y) (hij : i ≠ j)
    (hx : X.env.scope.names.lookup x = some .local) (hy : X.env.scope.names.lookup y = some .local) (ha : AA X G [a, b] t)
    (hw : swappedStores [.Tuple [.Name x px, .Name y py] kt pt] (.Tuple [a, b] k2 pt2) X.env = pure (some [x, y]))
    (hs : swapsWithSole [.Tuple [.Name x px, .Name y py] kt pt] (.Tuple [a, b] k2 pt2) pos.line X.env = pure false := by rfl) :
    AS X G (.Assign [.Tuple [.Name x px, .Name y py] kt pt] (.Tuple [a, b] k2 pt2) pos) (aPar i j t) := by
  refine ⟨fun D D' env h l q => ha.mono env h _ _ (fun ws e g z => ?_) q, PS.imp (ps_par hc hN hi hj hij hx hy ha.pa hw hs) fun D σ H ⟨env, h, Da, S, q, l⟩ => ⟨env, h, S, ha.mono env h _ _ (fun ws env1 h1 z vs H1 S1 x1 r1 => ?_) q⟩⟩
  · split at z
    · exact l.nx _ _ z
    · exact z
  · split at z
    · rename_i v w
      obtain ⟨v', t, rfl, a1, b1⟩ := r1.of_cons
      obtain ⟨w', t, rfl, a2, b2⟩ := b1.of_cons
      rw [b2.of_nil]
      exact ⟨v', w', rfl, l.nx _ _ _ _ ((S1.set (r := .val v) i a1 trivial).set (r := .val w) j a2 trivial) (x1.keeps S) z⟩
    · exact z.elim
/-! ### zip -/
theorem zipWith_get {ws us : List W} {i : Nat} {w : W} (e : (List.zipWith (fun a b => W.tup [a, b]) ws us)[i]? = some w) : ∃ a b, ws[i]? = some a ∧ us[i]? = some b ∧ w = .tup [a, b] := by
  rw [List.getElem?_zipWith] at e
  cases q : ws[i]? with
  | none => rw [q] at e; cases e
  | some a =>
    cases q2 : us[i]? with
    | none => rw [q, q2] at e; cases e
    | some b => rw [q, q2] at e; cases e; exact ⟨a, b, rfl, rfl, rfl⟩
theorem gives_zipT {K : PySem.W.Frag} {H : Hp} {a b : Addr} {ws us : List W} {vs xs : List V} (l : SqT K H a vs) (l' : SqT K H b xs) (r : RepL K H ws vs) (r' : RepL K H us xs) : Gives K (ItzT K a b) H (List.zipWith (fun a b => W.tup [a, b]) ws us) := fun H' k i => by
  have l := k.sqT l
  have l' := k.sqT l'
  have r := RepL.mono k _ _ r
  have r' := RepL.mono k _ _ r'
  refine ⟨fun h => ⟨vs, xs, l, l', ?_⟩, fun w e => ?_⟩
  · rw [List.length_zipWith, r.length, r'.length] at h; omega
  · obtain ⟨x, y, e1, e2, rfl⟩ := zipWith_get e
    obtain ⟨v, ev, rv⟩ := r.get e1
    obtain ⟨u, eu, ru⟩ := r'.get e2
    refine ⟨⟨vs, xs, v, u, l, l', ev, eu⟩, fun z H2 ⟨T, v', u', e3, n, e4, q1, q2⟩ => ?_⟩
    have z1 := q1 vs l
    have z2 := q2 xs l'
    rw [ev] at z1; rw [eu] at z2
    cases z1; cases z2
    subst e3; subst e4
    have nw : New H' (upd H' T (.tup [v, u])) := New.upd n
    exact ⟨nw, .tup (.inl (.inl upd_same)) (.cons (Rep.mono nw.keeps _ _ rv) (.cons (Rep.mono nw.keeps _ _ ru) .nil))⟩
theorem gives_zipL {K : PySem.W.Frag} {H : Hp} {a b : Addr} {ws us : List W} {vs xs : List V} (l : LsF H a vs) (l' : LsF H b xs) (r : RepL K H ws vs) (r' : RepL K H us xs) : Gives K (Itz K a b) H (List.zipWith (fun a b => W.tup [a, b]) ws us) := fun H' k i => by
  have l := (k.lsF l).sq (K := K)
  have l' := (k.lsF l').sq (K := K)
  have r := RepL.mono k _ _ r
  have r' := RepL.mono k _ _ r'
  refine ⟨fun h => ⟨vs, xs, l, l', ?_⟩, fun w e => ?_⟩
  · rw [List.length_zipWith, r.length, r'.length] at h; omega
  · obtain ⟨x, y, e1, e2, rfl⟩ := zipWith_get e
    obtain ⟨v, ev, rv⟩ := r.get e1
    obtain ⟨u, eu, ru⟩ := r'.get e2
    refine ⟨⟨vs, xs, v, u, l, l', ev, eu⟩, fun z H2 ⟨T, v', u', e3, n, e4, q1, q2⟩ => ?_⟩
    have z1 := q1 vs l
    have z2 := q2 xs l'
    rw [ev] at z1; rw [eu] at z2
    cases z1; cases z2
    subst e3; subst e4
    have nw : New H' (upd H' T (.tup [v, u])) := New.upd n
    exact ⟨nw, .tup (.inl (.inl upd_same)) (.cons (Rep.mono nw.keeps _ _ rv) (.cons (Rep.mono nw.keeps _ _ ru) .nil))⟩
def iZp (t : AAT) : AIT := fun env h Q => t env h fun ws env' h' => match ws with
  | [.tup xs, .tup ys] => Q (List.zipWith (fun a b => W.tup [a, b]) xs ys) env' h'
  | [.lst xs, .lst ys] => Q (List.zipWith (fun a b => W.tup [a, b]) xs ys) env' h'
  | _ => False
theorem ai_zip {e e2 : Expr} {ta : AAT} {p pos tpos : Pos} {elts : List Expr} {kk : Nat} (gk : G.K = X.K) (hg : Gl X "zip") (hm : X.mg "zip" = none) (ha : AA X G [e, e2] ta)
    (hs : starEach [e, e2] X.env = (false, eval e X.env) :: starEach [e2] X.env := by rfl) (hpl : (backTo pos (starEach [e2] X.env)).any (·.1) = false := by rfl) : AI X G (.Tuple elts kk tpos) (.Call (.Name "zip" p) [e, e2] [] pos) (iZp ta) := by
  refine ⟨fun env h Q Q' k q => ha.mono env h _ _ (fun ws e g z => ?_) q, PI.imp (pi_zipA hg hm ha.pa hs hpl) fun σ H R ⟨env, h, S, q⟩ => ⟨env, h, S, ha.mono env h _ _ (fun ws env1 h1 z vs H1 S1 x1 r1 => ?_) q⟩⟩
  · split at z
    · exact k _ _ _ z
    · exact k _ _ _ z
    · exact z
  · split at z
    · obtain ⟨v', t, rfl, a1, b1⟩ := r1.of_cons
      obtain ⟨w', t, rfl, a2, b2⟩ := b1.of_cons
      rw [b2.of_nil]
      obtain ⟨p1, u1, rfl, l1, q1⟩ := Rep.of_tup a1
      obtain ⟨p2, u2, rfl, l2, q2⟩ := Rep.of_tup a2
      exact ⟨p1, p2, u1, u2, rfl, .inr ⟨gk ▸ l1, gk ▸ l2, z _ H1 S1 x1 (gk ▸ gives_zipT l1 l2 q1 q2)⟩⟩
    · obtain ⟨v', t, rfl, a1, b1⟩ := r1.of_cons
      obtain ⟨w', t, rfl, a2, b2⟩ := b1.of_cons
      rw [b2.of_nil]
      obtain ⟨p1, u1, rfl, l1, q1⟩ := Rep.of_lst a1
      obtain ⟨p2, u2, rfl, l2, q2⟩ := Rep.of_lst a2
      exact ⟨p1, p2, u1, u2, rfl, .inl ⟨l1.sq, l2.sq, z _ H1 S1 x1 (gk ▸ gives_zipL l1 l2 q1 q2)⟩⟩
    · exact z.elim
end
/-! ### keywords -/
structure AK (X : Cx) (G : Gx) (kws : List Keyword) (t : AAT) : Prop where
  mono : Mono t
  pk : PK X kws (cA G t)
theorem PK.imp {X : Cx} {e : List Keyword} {t t' : TA} (h : PK X e t) (i : ∀ σ H Q, t' σ H Q → t σ H Q) : PK X e t' := ⟨fun pos pins s σ H Q I q => h.run pos pins s σ H Q I (i σ H Q q)⟩
section
variable {X : Cx} {G : Gx} {k n : Nat} {f : Addr} {fd : FuncData} {ps ks : List Str} {sp : ASp} {x : Str} {p pos kpos : Pos} {e : Expr} {es : List Expr} {kws : List Keyword} {nm : Option Str} {t tk : AAT} {tv : AVT} {E : AExc → AEnv → AH → Prop}
theorem ak_nil : AK X G [] aNil := ⟨aNil.mono, PK.imp pk_nil fun σ H Q ⟨env, h, S, q⟩ => q [] H S .refl .nil⟩
theorem ak_cons (a : AV X G e tv) (b : AK X G kws tk) : AK X G (⟨nm, e, kpos⟩ :: kws) (aCons tv tk) := by
  refine ⟨aCons.mono a.mono b.mono, PK.imp (pk_cons a.pe b.pk) fun σ H Q ⟨env, h, S, q⟩ => ?_⟩
  refine ⟨env, h, S, a.mono env h _ _ (fun w env1 h1 z v H1 S1 x1 r1 => ?_) q⟩
  refine ⟨env1, h1, S1, b.mono env1 h1 _ _ (fun ws env2 h2 z vs H2 S2 x2 r2 => ?_) z⟩
  exact z (v :: vs) H2 S2 (x1.trans x2) (.cons (Rep.mono (x2.keeps S1) w v r1) r2)
/-- how a call with keywords puts what it has in the parameters' order: gW on data, gV on values, g on the machine's -/
structure AKB (K : PySem.W.Frag) (fd : FuncData) (ps ks : List Str) (n : Nat) (gW : List W → List W → List W) where
  g : List Value → List Value → List Value
  gV : List V → List V → List V
  kb : KBinds K fd ps ks g gV
  rep : ∀ (H : Hp) (ws zs : List W) (vs us : List V), (gW ws zs).length = n → RepL K H ws vs → RepL K H zs us → RepL K H (gW ws zs) (gV vs us)
theorem run_kw {CX : CXT} {sp : Sp} {g : List Value → List Value → List Value} {gV : List V → List V → List V} {pins : List (Addr × Obj)} {σ : L2.St} {H : Hp} {s : Shared} {Q : VK} {E : XK} {us ws : List Value} {vs zs : List V} (F : FnOk X.prog X.w X.K X.mg X.base CX k f fd ps sp) (hr : Room k X.A) (hb : KBinds X.K fd ps ks g gV)
    (hx : PassesAt CX X σ E) (I : Inv X pins σ H s) (r : Vals vs us) (rz : Vals zs ws) (h : sp (gV vs zs) H Q E) : wpAny (model X.prog X.w) X.A (call (.ref f) us (ks.zip ws)) (EP X pins σ Q) X.xe s := by
  have r2 := hb.rel r rz
  have hl : (g us ws).length = ps.length := r2.length.symm.trans (F.len _ _ _ _ h)
  refine wpAny_call (codeAny_mono (F.run X.A X.stack s H ⟨us, ks.zip ws⟩ _ _ Q E hr I.env0 (hb.to s us ws I.kIn hl) r2 h) fun r s' hq => ?_)
  cases r with
  | error e => exact hx pins H s e s' I hq
  | ok fl => cases fl <;> first | exact I.after hq | exact False.elim hq
def aCallK (E : AExc → AEnv → AH → Prop) (sp : ASp) (n : Nat) (gW : List W → List W → List W) (t tk : AAT) : AT := fun env h Q => t env h fun ws env1 h1 => tk env1 h1 fun zs env2 h2 => (gW ws zs).length = n ∧ sp (gW ws zs) h2 (fun r h3 => match r with
  | .val w => Q (.val w) env2 h3
  | .own c => Q (.own c) env2 h3) fun x h3 => E x env2 h3
theorem aCallK.mono {gW : List W → List W → List W} (m : SpMono sp) (a : Mono t) (b : Mono tk) : Mono (aCallK E sp n gW t tk) := fun env h Q Q' k q => a env h _ _ (fun ws e g z => b e g _ _ (fun zs e g z => ⟨z.1, m _ _ _ _ _ _ (fun r f y => by
  cases r with
  | val w => exact k _ _ _ y
  | own c => exact k _ _ _ y) (fun x f y => y) z.2⟩) z) q
/-- behind the arguments -/
theorem callK_end {gW : List W → List W → List W} {g : List V → List V → List V} {env env2 : AEnv} {h h2 : AH} {σ : L2.St} {H H2 : Hp} {ws zs : List W} {vs us : List V} {Q : VK} (S2 : BS G env2 h2 σ H2) (x2 : Xt env h σ H env2 h2 H2) (r : RepL G.K H2 (gW ws zs) (g vs us))
    (z : (gW ws zs).length = n ∧ sp (gW ws zs) h2 (fun r h3 => match r with
      | .val w => ∀ v H', BS G env2 h3 σ H' → Xt env h σ H env2 h3 H' → RvRep G env2 h3 σ H' (.val w) v → Fsh H (.val w) v → Q v H'
      | .own c => ∀ v H', BS G env2 h3 σ H' → Xt env h σ H env2 h3 H' → RvRep G env2 h3 σ H' (.own c) v → Fsh H (.own c) v → Q v H') fun x h3 => E x env2 h3) : cSp G.K n sp (g vs us) H2 Q (WE (cW G E) σ) := by
  refine ⟨_, h2, _, _, z.1, S2.hp, r, z.2, fun r h' v H' y c rr => ?_, fun x h' cls d H' y c xr => ?_⟩
  · obtain ⟨S3, x3⟩ := S2.after c
    cases r with
    | val w => exact y v H' S3 (x2.trans x3) rr trivial
    | own c0 =>
      obtain ⟨p, e, cr, a, b⟩ := rr
      have nw : H2 p = none := b
      obtain ⟨_, g0, no⟩ := S2.noAt nw
      exact y v H' S3 (x2.trans x3) ⟨p, e, cr, a, g0, no⟩ fun p' e' => by
        rw [e] at e'; cases e'; exact x2.fresh nw
  · obtain ⟨S3, x3⟩ := S2.after c
    exact ⟨x, env2, h', S3, xr, y⟩
theorem repL_k {K K' : PySem.W.Frag} {H : Hp} {ws : List W} {vs : List V} (e : K = K') (r : RepL K H ws vs) : RepL K' H ws vs := e ▸ r
/-- f(k = v, ..) -/
theorem ae_callK0 {gW : List W → List W → List W} (gk : G.K = X.K) (F : FnOk X.prog X.w X.K X.mg X.base (L2.CX X.prog X.w) k f fd ps (cSp G.K n sp)) (sm : SpMono sp) (hr : Room k X.A) (hg : Gl X x) (hm : X.mg x = some (.ref f)) (hk : PySem.W.keepIn X.K (.ref f) = true) (kb : AKB X.K fd ps ks n gW) (tkk : Takes X (cW G E))
    (hkw : AK X G kws tk) (hall : (backToKw pos (keywordEach kws X.env)).all (·.1.isSome) = true := by rfl) (hks : (backToKw pos (keywordEach kws X.env)).filterMap (·.1) = ks := by rfl) (hdb : (x == ("__debug__" : Str)) = false := by decide)
    (hpl : ((backTo pos (starEach [] X.env)).any (·.1) || (backToKw pos (keywordEach kws X.env)).any (·.1.isNone)) = false := by rfl) :
    AE X G (.Call (.Name x p) [] kws pos) (aCallK E sp n gW aNil tk) := by
  refine ⟨aCallK.mono sm aNil.mono hkw.mono, ⟨fun pins s σ H Q I ⟨env, h, S, q⟩ => ?_⟩⟩
  refine wpAny_Call_Name_kw (ld_glob I hg hm ?_ hdb)
  refine PySem.W.callWith_KW0 (h₀ := X.base) I.ok.mod.kin hk hall ?_ hpl
  refine thn (hkw.pk.run pos pins s σ H (fun zs H2 => cSp G.K n sp (kb.gV [] zs) H2 Q (WE (cW G E) σ)) I ⟨env, h, S, hkw.mono env h _ _ (fun zs env2 h2 z us H2 S2 x2 r2 => ?_) q⟩) fun ws s2 ⟨zs, H2, I2, rz, q2⟩ => ⟨I2.kIn, ?_⟩
  · have rr := kb.rep H2 [] zs [] us z.1 .nil (repL_k gk r2)
    exact callK_end (g := kb.gV) S2 x2 (repL_k gk.symm rr) z
  · rw [hks, List.append_nil]
    exact run_kw F hr kb.kb (passAt tkk σ) I2 .nil rz q2
end
end Ab

namespace Ab
open PySem PySem.Spec PyProof.Rows L2 RZ
section
variable {X : Cx} {G : Gx} {a b c : Expr} {ta tb tc : AT} {t : ABT} {pos p : Pos}
/-! ### tests -/
theorem ap_v (h : AE X G a ta) (he : ∀ whole, isTrue a X.env whole = (do let v ← whole; standAt a.pos; holding [v] (truthy v)) := by intro _; rfl) : AP X G a (aTst ta) := ap_val h fun t k => pt_val k he
theorem ap_lt (ha : AE X G a ta) (hb : AE X G b tb) : AP X G (.Compare a [.Lt] [b] pos) (aTst (aOp2 (oII (fun _ _ => True) fun i j => .bl (decide (i < j))) ta tb)) := ap_cmp op_lt (opa_int0 fun _ _ _ => .bl) ha hb (nomark _)
theorem ap_le (ha : AE X G a ta) (hb : AE X G b tb) : AP X G (.Compare a [.LtE] [b] pos) (aTst (aOp2 (oII (fun _ _ => True) fun i j => .bl (decide (i ≤ j))) ta tb)) := ap_cmp op_le (opa_int0 fun _ _ _ => .bl) ha hb (nomark _)
theorem ap_gt (ha : AE X G a ta) (hb : AE X G b tb) : AP X G (.Compare a [.Gt] [b] pos) (aTst (aOp2 (oII (fun _ _ => True) fun i j => .bl (decide (j < i))) ta tb)) := ap_cmp op_gt (opa_int0 fun _ _ _ => .bl) ha hb (nomark _)
theorem ap_ge (ha : AE X G a ta) (hb : AE X G b tb) : AP X G (.Compare a [.GtE] [b] pos) (aTst (aOp2 (oII (fun _ _ => True) fun i j => .bl (decide (j ≤ i))) ta tb)) := ap_cmp op_ge (opa_int0 fun _ _ _ => .bl) ha hb (nomark _)
theorem ap_eq (gk : G.K = X.K) (hu : X.A.units + 64 < cLine) (ha : AE X G a ta) (hb : AE X G b tb) : AP X G (.Compare a [.Eq] [b] pos) (aTst (aOp2 (oEq false) ta tb)) := ap_cmp (op_eqP hu) (gk ▸ opa_eq) ha hb (nomark _)
theorem ap_ne (gk : G.K = X.K) (hu : X.A.units + 64 < cLine) (ha : AE X G a ta) (hb : AE X G b tb) : AP X G (.Compare a [.NotEq] [b] pos) (aTst (aOp2 (oEq true) ta tb)) := ap_cmp (op_neP hu) (gk ▸ opa_eq) ha hb (nomark _)
theorem ae_isN (ha : AE X G a ta) (hb : AE X G b tb) : AE X G (.Compare a [.Is] [b] pos) (aOp2 (oIsN false) ta tb) := ae_cmp op_isN opa_isN ha hb (nomark _)
theorem ae_notN (ha : AE X G a ta) (hb : AE X G b tb) : AE X G (.Compare a [.IsNot] [b] pos) (aOp2 (oIsN true) ta tb) := ae_cmp op_notN opa_notN ha hb (nomark _)
theorem ap_isN (ha : AE X G a ta) (hb : AE X G b tb) : AP X G (.Compare a [.Is] [b] pos) (aTst (aOp2 (oIsN false) ta tb)) := ap_cmp op_isN opa_isN ha hb (nomark _)
theorem ap_notN (ha : AE X G a ta) (hb : AE X G b tb) : AP X G (.Compare a [.IsNot] [b] pos) (aTst (aOp2 (oIsN true) ta tb)) := ap_cmp op_notN opa_notN ha hb (nomark _)
theorem ae_in (gk : G.K = X.K) (hu : X.A.units + 64 < cLine) (ha : AE X G a ta) (hb : AE X G b tb) (hm : behindInMarks .In b = false := by rfl) : AE X G (.Compare a [.In] [b] pos) (aOp2 (oInL false) ta tb) := ae_cmp (op_inP hu) (gk ▸ opa_inL) ha hb hm
theorem ae_nin (gk : G.K = X.K) (hu : X.A.units + 64 < cLine) (ha : AE X G a ta) (hb : AE X G b tb) (hm : behindInMarks .NotIn b = false := by rfl) : AE X G (.Compare a [.NotIn] [b] pos) (aOp2 (oInL true) ta tb) := ae_cmp (op_notInP hu) (gk ▸ opa_inL) ha hb hm
theorem ap_in (gk : G.K = X.K) (hu : X.A.units + 64 < cLine) (ha : AE X G a ta) (hb : AE X G b tb) (hm : behindInMarks .In b = false := by rfl) : AP X G (.Compare a [.In] [b] pos) (aTst (aOp2 (oInL false) ta tb)) := ap_cmp (op_inP hu) (gk ▸ opa_inL) ha hb hm
theorem ap_nin (gk : G.K = X.K) (hu : X.A.units + 64 < cLine) (ha : AE X G a ta) (hb : AE X G b tb) (hm : behindInMarks .NotIn b = false := by rfl) : AP X G (.Compare a [.NotIn] [b] pos) (aTst (aOp2 (oInL true) ta tb)) := ap_cmp (op_notInP hu) (gk ▸ opa_inL) ha hb hm
/-! ### -a -/
def aNeg (ta : AT) : AT := fun env h Q => ta env h fun r env1 h1 => match view env1 h1 r with
  | .wv (.int i) => Q (.val (.int (-i))) env1 h1
  | _ => False
theorem ae_neg (ha : AE X G a ta) : AE X G (.UnaryOp .USub a pos) (aNeg ta) := by
  refine ⟨fun env h Q Q' k q => ha.mono env h _ _ (fun r e g z => ?_) q, PE.imp (pe_un un_neg ha.pe) fun σ H Q ⟨env, h, S, q⟩ => ⟨env, h, S, ha.mono env h _ _ (fun r e g z v H1 S1 x1 r1 f1 => ?_) q⟩⟩
  · split at z
    · exact k _ _ _ z
    · exact z
  · have rv := r1.vr S1
    split at z
    · rename_i i ei
      rw [ei] at rv
      exact ⟨i, rv.int, z _ H1 S1 x1 (show Rep G.K H1 _ _ from .int) trivial⟩
    · exact z.elim
/-! ### chains of two comparisons of ints -/
def aChn (P P' : Int → Int → Bool) (ta tb tc : AT) : AT := fun env h Q => ta env h fun ra env1 h1 => tb env1 h1 fun rb env2 h2 => match view env2 h2 ra, view env2 h2 rb with
  | .wv (.int i), .wv (.int j) => if P i j = true then tc env2 h2 fun rc env3 h3 => (match view env3 h3 rc with
      | .wv (.int k) => Q (.val (.bl (P' j k))) env3 h3
      | _ => False) else Q (.val (.bl false)) env2 h2
  | _, _ => False
theorem aChn.mono {P P' : Int → Int → Bool} (ma : Mono ta) (mb : Mono tb) (mc : Mono tc) : Mono (aChn P P' ta tb tc) := fun env h Q Q' k q => ma env h _ _ (fun ra e g z => mb e g _ _ (fun rb e g z => by
  split at z
  · refine ite2 (fun y => ?_) fun y => k _ _ _ (by rw [if_neg y] at z; exact z)
    rw [if_pos y] at z
    refine mc _ _ _ _ (fun rc e g z => ?_) z
    split at z
    · exact k _ _ _ z
    · exact z
  · exact z) z) q
theorem chn_step {P P' : Int → Int → Bool} {σ : L2.St} {H : Hp} {Q : VK} (ma : Mono ta) (mb : Mono tb) (mc : Mono tc) (q : cE G (aChn P P' ta tb tc) σ H Q) :
    tChain (rI0 fun i j => .bl (P i j)) (rI0 fun i j => .bl (P' i j)) (cE G ta) (cE G tb) (cE G tc) σ H Q := by
  obtain ⟨env, h, S, q⟩ := q
  refine ⟨env, h, S, ma env h _ _ (fun ra env1 h1 z v H1 S1 x1 r1 f1 => ?_) q⟩
  refine ⟨env1, h1, S1, mb env1 h1 _ _ (fun rb env2 h2 z u H2 S2 x2 r2 f2 => ?_) z⟩
  have va := (r1.xt S1 x2).vr S2
  have vb := r2.vr S2
  split at z
  · rename_i i j ei ej
    rw [ei] at va
    rw [ej] at vb
    refine ⟨i, j, va.int, vb.int, P i j, rfl, ite2 (fun y => ?_) fun y => ?_⟩
    · rw [if_pos y] at z
      refine ⟨env2, h2, S2, mc env2 h2 _ _ (fun rc env3 h3 z w H3 S3 x3 r3 f3 => ?_) z⟩
      have vc := r3.vr S3
      split at z
      · rename_i k ek
        rw [ek] at vc
        exact ⟨j, k, vb.int, vc.int, z _ H3 S3 (x1.trans (x2.trans x3)) (show Rep G.K H3 _ _ from .bl) trivial⟩
      · exact z.elim
    · rw [if_neg y] at z
      exact z _ H2 S2 (x1.trans x2) (show Rep G.K H2 _ _ from .bl) trivial
  · exact z.elim
theorem ae_chn {op op' : CmpOp} {P P' : Int → Int → Bool} (ho : OpR X (compareOp op) (rI0 fun i j => .bl (P i j))) (ho' : OpR X (compareOp op') (rI0 fun i j => .bl (P' i j))) (ha : AE X G a ta) (hb : AE X G b tb) (hc : AE X G c tc)
    (hm : lastMarks [op, op'] [b, c] = false := by with_unfolding_all rfl) : AE X G (.Compare a [op, op'] [b, c] pos) (aChn P P' ta tb tc) :=
  ⟨aChn.mono ha.mono hb.mono hc.mono, PE.imp (pe_chain ho ho' ha.pe hb.pe hc.pe hm) fun _ _ _ q => chn_step ha.mono hb.mono hc.mono q⟩
theorem ap_chn {op op' : CmpOp} {P P' : Int → Int → Bool} (ho : OpR X (compareOp op) (rI0 fun i j => .bl (P i j))) (ho' : OpR X (compareOp op') (rI0 fun i j => .bl (P' i j))) (ha : AE X G a ta) (hb : AE X G b tb) (hc : AE X G c tc)
    (hm : lastMarks [op, op'] [b, c] = false := by with_unfolding_all rfl) : AP X G (.Compare a [op, op'] [b, c] pos) (aTst (aChn P P' ta tb tc)) := by
  refine ⟨aTst.mono (aChn.mono ha.mono hb.mono hc.mono), PT.imp (pt_chain ho ho' ha.pe hb.pe hc.pe hm) fun σ H Q ⟨env, k, S, q⟩ => ?_⟩
  refine chn_step ha.mono hb.mono hc.mono ⟨env, k, S, aChn.mono ha.mono hb.mono hc.mono env k _ _ (fun r env1 h1 z v H1 S1 x1 r1 f1 => ?_) q⟩
  have r2 := r1.vr S1
  split at z
  · rename_i b e
    rw [e] at r2
    exact ⟨b, r2.bl, z H1 S1 x1⟩
  · exact z.elim
end
/-! ### a def that keeps a promise -/
structure Ok (P : Program) (w : World) (K : PySem.W.Frag) (mg : Str → Option Value) (base : Heap) (x : Str) (st : Stmt) (k n : Nat) (ps : List Str) (sp : ASp) : Prop where
  m : SpMono sp
  ex : ∃ f fd, mg x = some (.ref f) ∧ FunD K x x (defArgs st) (defBody st) (defScope st) [] [] f fd ∧ FnOk P w K mg base (L2.CX P w) k f fd ps (cSp K n sp)
def BindsAll (x : Str) (st : Stmt) (ps : List Str) : Prop := ∀ (kV doc pm : Value) (an : Option Addr) (cdv ct : Value) (us : List Value), us.length = ps.length → bindArgs (PySem.W.fnOf x x (defArgs st) (defBody st) (defScope st) .none kV doc pm an cdv ct) ⟨us, []⟩ = pure (ps.zip us)
section
variable {X : Cx} {G : Gx} {sp : ASp} {st : Stmt} {k j n : Nat} {ps : List Str} {x : Str} {p pos : Pos} {e : Expr} {es : List Expr} {t : AAT} {E : AExc → AEnv → AH → Prop}
theorem ae_callO0 (gk : G.K = X.K) (O : Ok X.prog X.w X.K X.mg X.base x st k n ps sp) (bd : BindsAll x st ps) (hr : Room j X.A) (kj : k ≤ j) (hg : Gl X x) (tk : Takes X (cW G E))
    (ha : AA X G (e :: es) t) (hn : ∀ env h (R : List W → AEnv → AH → Prop), t env h R → t env h fun ws e g => ws.length = n ∧ R ws e g)
    (hdb : (x == ("__debug__" : Str)) = false := by decide) (he : starEach (e :: es) X.env = (false, eval e X.env) :: starEach es X.env := by rfl) (hpl : (backTo pos (starEach es X.env)).any (·.1) = false := by rfl) :
    AE X G (.Call (.Name x p) (e :: es) [] pos) (aCall E sp t) := by
  obtain ⟨f, fd, hm, FD, F⟩ := O.ex
  exact ae_call (G := G) (gk ▸ F) O.m (hr.mono kj) hg hm FD.kp (FD.bindsN bd) tk ha hn hdb he hpl
/-- a call's arguments, counted -/
structure AN (X : Cx) (G : Gx) (es : List Expr) (n : Nat) (t : AAT) : Prop where
  aa : AA X G es t
  ln : ∀ env h (R : List W → AEnv → AH → Prop), t env h R → t env h fun ws e g => ws.length = n ∧ R ws e g
theorem an_nil : AN X G [] 0 aNil := ⟨aa_nil, len_nil⟩
theorem an_cons {tv : AVT} (a : AV X G e tv) (b : AN X G es n t) (hs : starEach (e :: es) X.env = (false, eval e X.env) :: starEach es X.env := by rfl) : AN X G (e :: es) (n + 1) (aCons tv t) :=
  ⟨aa_cons a b.aa hs, len_cons a.mono b.ln b.aa.mono⟩
theorem ae_callO (gk : G.K = X.K) (O : Ok X.prog X.w X.K X.mg X.base x st k n ps sp) (bd : BindsAll x st ps) (hr : Room j X.A) (kj : k ≤ j) (hg : Gl X x) (tk : Takes X (cW G E))
    (ha : AN X G (e :: es) n t) (hdb : (x == ("__debug__" : Str)) = false := by decide) (he : starEach (e :: es) X.env = (false, eval e X.env) :: starEach es X.env := by rfl) (hpl : (backTo pos (starEach es X.env)).any (·.1) = false := by rfl) :
    AE X G (.Call (.Name x p) (e :: es) [] pos) (aCall E sp t) := ae_callO0 gk O bd hr kj hg tk ha.aa ha.ln hdb he hpl
end
abbrev E0 : AExc → AEnv → AH → Prop := fun _ _ _ => False
theorem ok_none {P : Program} {w : World} {K : PySem.W.Frag} {mg : Str → Option Value} {base : Heap} {x : Str} {st : Stmt} {f : Addr} {fd : FuncData} {ps : List Str} {n : Nat} (hm : mg x = some (.ref f)) (F : FunD K x x (defArgs st) (defBody st) (defScope st) [] [] f fd) : Ok P w K mg base x st 0 n ps (fun _ _ _ _ => False) :=
  ⟨fun _ _ _ _ _ _ _ _ z => z, f, fd, hm, F, ⟨fun _ _ _ _ ⟨_, _, _, _, _, _, _, z, _⟩ => z.elim, fun _ _ _ _ _ _ _ _ _ _ _ _ _ ⟨_, _, _, _, _, _, _, z, _⟩ => z.elim⟩⟩
section
variable {P : Program} {w : World} {K : PySem.W.Frag} {mg : Str → Option Value} {base : Heap} {x : Str} {st : Stmt} {f : Addr} {fd : FuncData} {N ps : List Str} {k n : Nat} {sp : ASp}
theorem Ok.mk' {t : (AExc → AEnv → AH → Prop) → ATS} (sm : SpMono sp) (hm : mg x = some (.ref f)) (F : FunD K x x (defArgs st) (defBody st) (defScope st) [] [] f fd) (S : FnScope N ps (defScope st)) (hn : ps.length = n)
    (hb : ∀ (cdv : Value) (A : Around) (outer : List Env) (s : Shared) (H : Hp) (E : XK) (G : Gx) (E' : AExc → AEnv → AH → Prop), Room k (A.deeper (envOfC x (defScope st) s.heap.objs.size f cdv)) → G.K = K → Takes (bx P w K mg base N x (defScope st) f cdv A outer s H E) (cW G E') →
      ASs (bx P w K mg base N x (defScope st) f cdv A outer s H E) G (defBody st) (t E'))
    (hq : ∀ ws h Qa Ea, ws.length = n → sp ws h Qa Ea → t (excOf Ea) (endsOf Qa) (startA N.length ws) h) : Ok P w K mg base x st (k + 1) n ps sp :=
  ⟨sm, f, fd, hm, F, def_ok [] [] F S hn hb hq⟩
end
end Ab

namespace Ab
open PySem PySem.Spec PyProof.Rows L2 RZ
theorem bo_len : bootBuiltins "len" = some (.builtin "len") := by decide +kernel
theorem bo_sum : bootBuiltins "sum" = some (.builtin "sum") := by decide +kernel
theorem bo_min : bootBuiltins "min" = some (.builtin "min") := by decide +kernel
theorem bo_max : bootBuiltins "max" = some (.builtin "max") := by decide +kernel
theorem bo_abs : bootBuiltins "abs" = some (.builtin "abs") := by decide +kernel
theorem bo_any : bootBuiltins "any" = some (.builtin "any") := by decide +kernel
theorem bo_all : bootBuiltins "all" = some (.builtin "all") := by decide +kernel
theorem bo_isinstance : bootBuiltins "isinstance" = some (.builtin "isinstance") := by decide +kernel
theorem bo_sorted : bootBuiltins "sorted" = some (.builtin "sorted") := by decide +kernel
theorem bo_tuple : bootBuiltins "tuple" = some (.type "tuple") := by decide +kernel
theorem bo_list : bootBuiltins "list" = some (.type "list") := by decide +kernel
theorem bo_bool : bootBuiltins "bool" = some (.type "bool") := by decide +kernel
theorem bo_int : bootBuiltins "int" = some (.type "int") := by decide +kernel
theorem bo_str : bootBuiltins "str" = some (.type "str") := by decide +kernel
section
variable {X : Cx} {G : Gx}
theorem ae_ty {x : Str} {T : String} {pos : Pos} (hg : Gl X x) (hm : X.mg x = none) (hv : bootBuiltins x = some (.type T)) (hn : x ≠ "__name__" := by decide) (hd : (x == ("__debug__" : Str)) = false := by decide) : AE X G (.Name x pos) (aC (.ty T)) :=
  ae_c (v := V.ty T) (pe_bltn (v := V.ty T) hg hm hv (show _ = _ from rfl) hn hd) fun _ => .ty
variable {elt tg iter : Expr} {ifs : List Expr} {scope : Scope} {own : List (Str × Nat)} {pos : Pos} {ti : AIT} {g : AGT} {tt : ABT} {te : AVT} {sl : List Nat}
theorem ae_lcO (hc : X.calm = true) (hN : X.N.Nodup) (hi : AI X G tg iter ti) (ok : BlkOk X.N X.env.scope scope own) (hsl : ∀ i ∈ sl, i ∈ own.map (·.2))
    (hg : ∀ (s : Shared) (H : Hp) (C : Addr) (cl : List (Str × Addr)) (fp : List Addr), AG (X.blk s H scope (compEnvC scope cl C X.env) fp) G tg sl g) (ht : ∀ (s : Shared) (H : Hp) (C : Addr) (cl : List (Str × Addr)) (fp : List Addr), APs (X.blk s H scope (compEnvC scope cl C X.env) fp) G ifs tt)
    (he : ∀ (s : Shared) (H : Hp) (C : Addr) (cl : List (Str × Addr)) (fp : List Addr), AV (X.blk s H scope (compEnvC scope cl C X.env) fp) G elt te) (hs : ∀ x, foldedSetIterable iter X.env x = pure x := by intro _; rfl) :
    AE X G (.ListComp elt [⟨tg, iter, ifs, 0⟩] scope pos) (aLc (own.map (·.2)) ti g tt te) :=
  ae_lc hc hN hi ok hsl hg ht he (hg X.s_0 X.H_0 0 [] []).mono (ht X.s_0 X.H_0 0 [] []).mono (he X.s_0 X.H_0 0 [] []).mono hs
end
/-! ### all by keywords -/
def gKwG {α : Type} (d : α) (perm : List Nat) (us ws : List α) : List α := if us.isEmpty && ws.length == perm.length then perm.map fun i => ws.getD i d else []
abbrev gKw (perm : List Nat) : List W → List W → List W := gKwG W.non perm
def KwAll (x : Str) (st : Stmt) (ps ks : List Str) (perm : List Nat) : Prop := ∀ (kV doc pm : Value) (an : Option Addr) (cdv ct : Value) (ws : List Value), ws.length = perm.length →
  bindArgs (PySem.W.fnOf x x (defArgs st) (defBody st) (defScope st) .none kV doc pm an cdv ct) ⟨[], ks.zip ws⟩ = pure (ps.zip (perm.map fun i => ws.getD i .none))
theorem RepL.getD' {K : PySem.W.Frag} {H : Hp} : ∀ {ws : List W} {vs : List V} (i : Nat), RepL K H ws vs → Rep K H (ws.getD i .non) (vs.getD i .non)
  | [], vs, i, r => by rw [r.of_nil]; simpa using Rep.non
  | w :: ws, vs, i, r => by
    obtain ⟨v, t, rfl, a, b⟩ := r.of_cons
    cases i with
    | zero => simpa using a
    | succ i => simpa using b.getD' i
theorem Vals.getD' : ∀ {vs : List V} {us : List Value} (i : Nat), Vals vs us → RelV (vs.getD i .non) (us.getD i .none)
  | _, _, i, .nil => by cases i <;> rfl
  | _, _, 0, .cons a b => by simpa using a
  | _, _, i + 1, .cons a b => by simpa using Vals.getD' i b
theorem gKwG_rep {K : PySem.W.Frag} {H : Hp} {perm : List Nat} {ws zs : List W} {vs us : List V} (r : RepL K H ws vs) (q : RepL K H zs us) : RepL K H (gKwG .non perm ws zs) (gKwG .non perm vs us) := by
  unfold gKwG
  have e1 : ws.isEmpty = vs.isEmpty := by
    have := r.length
    cases ws <;> cases vs <;> simp_all
  rw [e1, q.length]
  split
  · clear e1
    induction perm with
    | nil => exact .nil
    | cons i t ih =>
      rename_i hh
      refine .cons (q.getD' i) ?_
      have : ∀ t : List Nat, RepL K H (t.map fun i => zs.getD i .non) (t.map fun i => us.getD i .non) := fun t => by
        induction t with
        | nil => exact .nil
        | cons i t ih => exact .cons (q.getD' i) ih
      exact this t
  · exact .nil
theorem gKwG_vals {perm : List Nat} {vs : List V} {us : List Value} {zs : List V} {ws : List Value} (r : Vals vs us) (q : Vals zs ws) : Vals (gKwG .non perm vs zs) (gKwG .none perm us ws) := by
  unfold gKwG
  have e1 : vs.isEmpty = us.isEmpty := by cases r <;> rfl
  rw [e1, q.length]
  split
  · have : ∀ t : List Nat, Vals (t.map fun i => zs.getD i .non) (t.map fun i => ws.getD i .none) := fun t => by
      induction t with
      | nil => exact .nil
      | cons i t ih => exact .cons (Vals.getD' i q) ih
    exact this perm
  · exact .nil
theorem AKB.all {K : PySem.W.Frag} {x : Str} {st : Stmt} {f : Addr} {fd : FuncData} {ps ks : List Str} {perm : List Nat} (F : FunD K x x (defArgs st) (defBody st) (defScope st) [] [] f fd) (hp : ps.length = perm.length) (h0 : 0 < perm.length) (h : KwAll x st ps ks perm) : Nonempty (AKB K fd ps ks perm.length (gKw perm)) := by
  refine ⟨⟨gKwG .none perm, gKwG .non perm, ⟨fun s us ws X hl => ?_, fun r q => gKwG_vals r q⟩, fun H ws zs vs us _ r q => gKwG_rep r q⟩⟩
  obtain ⟨oc, od, dV, kV, doc, pm, an, cdv, ct, osl, rfl, lk, hcd, hD, hK⟩ := F.ex
  rcases hD with ⟨_, rfl⟩ | ⟨e, _⟩
  · unfold gKwG at hl ⊢
    split at hl
    · rename_i hc
      rw [if_pos hc]
      simp only [Bool.and_eq_true, List.isEmpty_iff, beq_iff_eq] at hc
      rw [hc.1]
      exact .of_eq (h kV doc pm an cdv ct ws hc.2)
    · rw [hp] at hl
      exact absurd hl (by simp; omega)
  · exact absurd rfl e
section
variable {X : Cx} {G : Gx} {sp : ASp} {st : Stmt} {k j : Nat} {ps ks : List Str} {x : Str} {p pos : Pos} {kws : List Keyword} {tk : AAT} {E : AExc → AEnv → AH → Prop} {perm : List Nat}
theorem ae_callKO (gk : G.K = X.K) (O : Ok X.prog X.w X.K X.mg X.base x st k perm.length ps sp) (kw : KwAll x st ps ks perm) (hr : Room j X.A) (kj : k ≤ j) (hg : Gl X x) (tkk : Takes X (cW G E)) (hkw : AK X G kws tk)
    (hp : ps.length = perm.length := by rfl) (h0 : 0 < perm.length := by decide) (hall : (backToKw pos (keywordEach kws X.env)).all (·.1.isSome) = true := by rfl) (hks : (backToKw pos (keywordEach kws X.env)).filterMap (·.1) = ks := by rfl) (hdb : (x == ("__debug__" : Str)) = false := by decide)
    (hpl : ((backTo pos (starEach [] X.env)).any (·.1) || (backToKw pos (keywordEach kws X.env)).any (·.1.isNone)) = false := by rfl) :
    AE X G (.Call (.Name x p) [] kws pos) (aCallK E sp perm.length (gKw perm) aNil tk) := by
  obtain ⟨f, fd, hm, FD, F⟩ := O.ex
  obtain ⟨kb⟩ := AKB.all FD hp h0 kw
  exact ae_callK0 (G := G) gk (gk ▸ F) O.m (hr.mono kj) hg hm FD.kp kb tkk hkw hall hks hdb hpl
end
theorem Ok.up {P : Program} {w : World} {K : PySem.W.Frag} {mg : Str → Option Value} {base : Heap} {x : Str} {st : Stmt} {ps : List Str} {k k' n : Nat} {sp sp' : ASp} (O : Ok P w K mg base x st k n ps sp) (h : k ≤ k') (m : SpMono sp') (i : ∀ ws h Q E, sp' ws h Q E → sp ws h Q E) : Ok P w K mg base x st k' n ps sp' := by
  obtain ⟨f, fd, hm, FD, F⟩ := O.ex
  exact ⟨m, f, fd, hm, FD, (F.imp fun vs H Q E ⟨ws, h, Qa, Ea, hl, hp, r, q, z⟩ => ⟨ws, h, Qa, Ea, hl, hp, r, i _ _ _ _ q, z⟩).mono h⟩
end Ab

namespace Ab
open PySem PySem.Spec PyProof.Rows L2 RZ
/-! ### a, *b = v -/
section
variable {P : Program} {w : World} {A : Around} {E : Value → Shared → Prop}
/-- an iterator's rest, from the k-th item -/
theorem walks_rest {I : Addr} {fp : List Addr} {n k : Nat} {Pv : Nat → Value → Prop} {St : Nat → Heap → Prop} (W : Walks P w A I fp [I] n Pv St) (hk : k ≤ n) (tp : Nat) :
    WalksS P w A I fp [I] (fun x y => x = y) (n - k) (fun i v => Pv (k + i) v) (fun i s => St (k + i) s.heap ∧ tp ≤ s.toks) where
  sub := W.sub
  grefl := fun _ => rfl
  gtrans := fun _ _ _ x y => x.trans y
  frame := fun i s h' tk ⟨x, t⟩ y z => ⟨W.frame _ _ _ x z, Nat.le_trans t y⟩
  item := fun i s Q E hi ⟨x, t⟩ hQ => wpAny_with_toks (n := s.toks) (Nat.le_refl _) (W.item (k + i) s _ _ (by omega) x fun v h' tk pv x' same ht => hQ v _ pv ⟨x', Nat.le_trans t ht⟩ ⟨same, rfl, rfl, rfl, ht⟩)
  done := fun s Q E ⟨x, t⟩ hQ => wpAny_with_toks (n := s.toks) (Nat.le_refl _) (W.done s _ _ (by rwa [show k + (n - k) = n by omega] at x) fun h' tk same ht => hQ _ ⟨same, rfl, rfl, rfl, ht⟩)
  self := fun i s Q E ⟨x, _⟩ q => W.self _ s Q E x q
theorem items_of {xs : Array Value} {acc : Array Value} {k : Nat} (h : ItemsOf (fun i v => xs[k + i]? = some v) acc (xs.size - k)) : acc.toList = xs.toList.drop k := by
  obtain ⟨l, g⟩ := h
  refine List.ext_getElem? fun i => ?_
  rw [List.getElem?_drop]
  by_cases hi : i < acc.size
  · have e : acc[i]? = some acc[i] := by simp [hi]
    have e2 := g i _ e
    simpa using e.trans e2.symm
  · rw [List.getElem?_eq_none (by simpa using hi), List.getElem?_eq_none (by simp; omega)]
/-- x, *rest: what the unpacking tells -/
theorem star_items {s : Shared} {a : Addr} {xs : Array Value} {T : String} {St : Nat → Heap → Prop} {h1 : Heap} {x : Value} {Q : List Value → Shared → Prop}
    (hT : T = "str_ascii_iterator" ∨ T = "str_iterator" ∨ T = "list_iterator" ∨ T = "tuple_iterator")
    (hN : ∀ (Q : Bool → Shared → Prop), Q false s → wpAny (model P w) A (notIterableAtAll (.ref a)) Q E s)
    (hI : ∀ (Q : Value → Shared → Prop), Q (.ref s.heap.objs.size) { s with heap := h1 } → wpAny (model P w) A (pyIter (.ref a)) Q E s)
    (W : ∀ B : Around, B.handled = none → Walks P w B s.heap.objs.size [s.heap.objs.size, a] [s.heap.objs.size] xs.size (fun i v => xs[i]? = some v) St)
    (ty : ∀ i h (t : Shared), t.heap = h → St i h → t.TypeIs (.ref s.heap.objs.size) T) (h0 : St 0 h1) (hh : A.handled = none) (hh1 : A.in1.handled = none) (big : xs.size ≤ sizeLine) (old : ∀ b o, s.heap.get? b = some o → h1.get? b = some o) (ha : a < s.heap.objs.size)
    (hx : xs[0]? = some x) (sz : s.heap.objs.size < h1.objs.size)
    (hQ : ∀ (hp : Heap) (tk : Nat), (∀ b o, s.heap.get? b = some o → hp.get? b = some o) → s.toks ≤ tk → Q [x, .ref hp.objs.size] { s with heap := hp.push { cls := .type "list", data := .seq (xs.toList.drop 1).toArray }, toks := tk }) :
    wpAny (model P w) A (unpackItems (.ref a) 2 (some 1)) Q E s := by
  have h0' : 0 < xs.size := (Array.getElem?_eq_some_iff.mp hx).1
  unfold unpackItems
  refine wpAny_bind (hN _ ?_)
  rw [if_neg Bool.false_ne_true]
  refine wpAny_bind (wpAny_holding (hI _ ?_))
  show wpAny _ _ (holding [Value.ref s.heap.objs.size] (draw (.ref s.heap.objs.size) 1) >>= _) _ _ _
  refine wpAny_bind (wpAny_holding ?_)
  show wpAny _ _ (pyNext (.ref s.heap.objs.size) >>= _) _ _ _
  refine wpAny_bind (wpAny_with_toks (n := s.toks) (Nat.le_refl _) ((W A hh).item 0 _ _ _ h0' h0 fun v h2 tk pv st2 same ht => ?_))
  have ev : v = x := Option.some.inj (pv.symm.trans hx)
  subst ev
  show wpAny _ _ (holding [v] (draw (.ref s.heap.objs.size) 0) >>= _) _ _ _
  refine wpAny_bind (wpAny_holding (show wpAny _ _ (pure []) _ _ _ from wpAny_pure (wpAny_pure ?_)))
  rw [if_neg (by simp)]
  have old2 : ∀ b o, s.heap.get? b = some o → h2.get? b = some o := fun b o e => same b o (fun z => by
    have lt := Heap.lt_size e
    have e3 : b = s.heap.objs.size := by simpa using z
    rw [e3] at lt
    exact Nat.lt_irrefl _ lt) (old b o e)
  have g0 : s.heap.objs.size < h2.objs.size := by
    obtain ⟨o, e, _⟩ := ty (0 + 1) h2 { s with heap := h2 } rfl st2
    exact Heap.lt_size e
  refine wpAny_bind (wpAny_holding (wpAny_collect_iter hT (walks_rest (W A.in1 hh1) h0' tk) (fun i t ⟨y, _⟩ => ty _ _ t rfl y) ⟨st2, Nat.le_refl _⟩ (fun b hb => ?_) (by simp) (fun s' acc mv it => ?_) (Nat.le_trans (Nat.sub_le _ _) big)))
  · have e : b = s.heap.objs.size ∨ b = a := by simpa using hb
    rcases e with e | e
    · rw [e]; exact g0
    · rw [e]; exact Nat.lt_trans ha g0
  · have e : acc.toList = xs.toList.drop 1 := items_of it
    rw [e]
    rw [if_neg (by omega)]
    show wpAny _ _ (newList (List.take ((List.drop 1 xs.toList).length - 0) (List.drop 1 xs.toList)) >>= fun l => pure ([v] ++ [l] ++ List.drop ((List.drop 1 xs.toList).length - 0) (List.drop 1 xs.toList))) Q E s'
    rw [Nat.sub_zero, List.take_length, List.drop_length]
    obtain ⟨hp, ge, dr, tk2, os⟩ := s'
    obtain ⟨m1, m2, m3, m4, m5⟩ := mv
    cases m2
    cases m3
    cases m4
    refine wpAny_bind (wpAny_newObj_type (wpAny_pure ?_) (by show (List.drop 1 xs.toList).toArray.size ≤ sizeLine; simp; omega))
    have old3 : ∀ b o, s.heap.get? b = some o → hp.get? b = some o := fun b o e => m1 b o (fun z => by
      have lt := Heap.lt_size e
      have e3 : b = s.heap.objs.size := by simpa using z
      rw [e3] at lt
      exact Nat.lt_irrefl _ lt) (old2 b o e)
    exact hQ hp tk2 old3 (Nat.le_trans ht m5)
/-- the same of a tuple, of a list -/
theorem star_tuple {s : Shared} {a : Addr} {xs : Array Value} {x : Value} {Q : List Value → Shared → Prop} (hs : s.heap.IsTuple a xs) (hh : A.handled = none) (hh1 : A.in1.handled = none) (big : xs.size ≤ sizeLine) (hx : xs[0]? = some x)
    (hQ : ∀ (hp : Heap) (tk : Nat), (∀ b o, s.heap.get? b = some o → hp.get? b = some o) → s.toks ≤ tk → Q [x, .ref hp.objs.size] { s with heap := hp.push { cls := .type "list", data := .seq (xs.toList.drop 1).toArray }, toks := tk }) :
    wpAny (model P w) A (unpackItems (.ref a) 2 (some 1)) Q E s := by
  have la : a < s.heap.objs.size := by obtain ⟨o, e, _⟩ := hs; exact Heap.lt_size e
  refine star_items (T := "tuple_iterator") (St := fun i h => h.IsTupleIter s.heap.objs.size a i ∧ h.IsTuple a xs) (h1 := s.heap.push { cls := .type "tuple_iterator", data := .fields #[.ref a, .int 0 0] }) (.inr (.inr (.inr rfl))) (fun Q q => ?_) (fun Q q => wpAny_pyIter_tuple hs q)
    (fun B hB => Walks.tuple hB _ a (Nat.ne_of_lt la) xs) (fun i h t e y => by subst e; exact y.1.typeIs) ⟨⟨_, Heap.get?_push_size _ rfl, rfl, rfl⟩, hs.push _⟩ hh hh1 big (fun b o e => Heap.get?_push_of_some _ e) la hx (by rw [Heap.size_push]; exact Nat.lt_succ_self _) hQ
  unfold notIterableAtAll
  refine wpAny_bind (wpAny_specialOf hs.typeIs F.slot_tuple_iter.lookup ?_)
  exact wpAny_pure q
theorem star_list {s : Shared} {a : Addr} {xs : Array Value} {x : Value} {Q : List Value → Shared → Prop} (hs : s.heap.IsList a xs) (hh : A.handled = none) (hh1 : A.in1.handled = none) (big : xs.size ≤ sizeLine) (hx : xs[0]? = some x)
    (hQ : ∀ (hp : Heap) (tk : Nat), (∀ b o, s.heap.get? b = some o → hp.get? b = some o) → s.toks ≤ tk → Q [x, .ref hp.objs.size] { s with heap := hp.push { cls := .type "list", data := .seq (xs.toList.drop 1).toArray }, toks := tk }) :
    wpAny (model P w) A (unpackItems (.ref a) 2 (some 1)) Q E s := by
  have la : a < s.heap.objs.size := by obtain ⟨o, e, _⟩ := hs; exact Heap.lt_size e
  refine star_items (T := "list_iterator") (St := fun i h => h.IsListIter s.heap.objs.size a i ∧ h.IsList a xs) (h1 := s.heap.push { cls := .type "list_iterator", data := .fields #[.ref a, .int 0 0] }) (.inr (.inr (.inl rfl))) (fun Q q => ?_) (fun Q q => wpAny_pyIter_list hs q)
    (fun B hB => Walks.list hB _ a (Nat.ne_of_lt la) xs) (fun i h t e y => by subst e; exact y.1.typeIs) ⟨⟨_, Heap.get?_push_size _ rfl, rfl, rfl⟩, hs.push _⟩ hh hh1 big (fun b o e => Heap.get?_push_of_some _ e) la hx (by rw [Heap.size_push]; exact Nat.lt_succ_self _) hQ
  unfold notIterableAtAll
  refine wpAny_bind (wpAny_specialOf hs.typeIs F.slot_list_iter.lookup ?_)
  exact wpAny_pure q
end
section
variable {X : Cx} {G : Gx} {e t1 t2 : Expr} {sp pos tpos : Pos} {kk : Nat}
/-- first, *rest = a tuple or a list: rest is a new list -/
def gStarH (K : PySem.W.Frag) (g1 g2 : TG) : TG := fun v σ H Q => ∃ a x r, v = .ref a ∧ (SqT K H a (x :: r) ∨ SqL K H a (x :: r)) ∧ ∀ l, H l = none → g1 x σ (upd H l (.lst r)) fun σ1 H1 => g2 (.ref l) σ1 H1 Q
theorem pg_star {g1 g2 : TG} (hc : X.calm = true) (h1 : PG X t1 g1) (h2 : PG X t2 g2) (hs : (assignEach [t1, .Starred t2 sp] X.env) = [(false, assign t1 X.env), (true, assign t2 X.env)] := by rfl) : PG X (.Tuple [t1, .Starred t2 sp] kk tpos) (gStarH X.K g1 g2) := by
  refine ⟨fun pins s σ H v u Q I rv h => ?_⟩
  obtain ⟨a, x, r, rfl, hq, h⟩ := h
  obtain rfl : u = .ref a := rv
  rw [assign_Tuple]
  refine wpAny_bind (wpAny_standAt ?_)
  unfold unpack
  rw [hs]
  have hh := I.ok.hd hc
  have go : ∀ (vv : Value) (us : List Value), RelV x vv → Vals r us → us.length ≤ sizeLine → ∀ (hp : Heap) (tk : Nat), (∀ b o, s.heap.get? b = some o → hp.get? b = some o) → s.toks ≤ tk →
      wpAny (model X.prog X.w) X.A (assignInOrder [assign t1 X.env, assign t2 X.env] [vv, .ref hp.objs.size]) (fun _ s' => ∃ σ' H', Inv X pins σ' H' s' ∧ Q σ' H') X.xe { s with heap := hp.push { cls := .type "list", data := .seq us.toArray }, toks := tk } := fun vv us rx rr hz hp tk old ht => by
    have I1 : Inv X pins σ H { s with heap := hp, toks := tk } := I.kept old
    have I2 : Inv X pins σ (upd H hp.objs.size (.lst r)) { s with heap := hp.push { cls := .type "list", data := .seq us.toArray }, toks := tk } :=
      I1.laid (fun b o e => Heap.get?_push_of_some _ e) (Nat.le_refl _) (show ObjOk X.prog X.w _ _ _ (.lst r) from ⟨by rw [rr.length]; exact hz, us, 0, rr, Heap.get?_push_size _ rfl⟩)
    refine assignInOrder_cons (thn (h1.run pins _ σ _ _ _ _ I2 rx (h _ I1.fresh)) fun _ s2 ⟨σ2, H2, I3, q3⟩ => ?_)
    refine assignInOrder_cons (thn (h2.run pins _ σ2 _ _ _ _ I3 (show RelV (.ref hp.objs.size) (.ref hp.objs.size) from rfl) q3) fun _ s3 ⟨σ3, H3, I4, q4⟩ => ?_)
    exact assignInOrder_nil ⟨σ3, H3, I4, q4⟩
  rcases hq with hq | hq
  · obtain ⟨its, rr, pl, hz⟩ := I.tuple hq
    cases rr with
    | cons rx rr =>
      rename_i vv us
      refine wpAny_bind (wpAny_holding (star_tuple pl hh hh (by have := rr.length; simp at hz ⊢; omega) (x := vv) (by simp) fun hp tk old ht => ?_))
      exact go vv us rx rr (by have := rr.length; simp at hz; omega) hp tk old ht
  · obtain ⟨its, rr, pl, hz⟩ := I.list hq
    cases rr with
    | cons rx rr =>
      rename_i vv us
      refine wpAny_bind (wpAny_holding (star_list pl.isList hh hh (by have := rr.length; simp at hz ⊢; omega) (x := vv) (by simp) fun hp tk old ht => ?_))
      exact go vv us rx rr (by have := rr.length; simp at hz; omega) hp tk old ht
end
end Ab

namespace Ab
open PySem PySem.Spec PyProof.Rows L2 RZ
/-! ### first, *rest = e -/
def aStar (i j : Nat) (tv : AVT) : ATS := fun D env h => tv env h fun w env1 h1 => match w with
  | .tup (x :: r) => D.nx ((env1.set i (some (.val x))).set j (some (.own (.seq r)))) h1
  | .lst (x :: r) => D.nx ((env1.set i (some (.val x))).set j (some (.own (.seq r)))) h1
  | _ => False
section
variable {X : Cx} {G : Gx} {e : Expr} {tv : AVT} {px py sp pos tpos : Pos} {kk i j : Nat} {x y : Str}
theorem aStar.mono (m : Mono tv) : MonoS (aStar i j tv) := fun D D' env h l q => m env h _ _ (fun w env1 h1 z => by
  split at z
  · exact l.nx _ _ z
  · exact l.nx _ _ z
  · exact z) q
theorem as_star (gk : G.K = X.K) (hc : X.calm = true) (hN : X.N.Nodup) (hi : X.N[i]? = some x) (hj : X.N[j]? = some y) (hx : Loc X.env.scope x) (hy : Loc X.env.scope y) (he : AV X G e tv)
    (fx : X.fn x = true ∨ X.env.scope.names.lookup x = some .local := by first | exact .inl rfl | exact .inr rfl) (fy : X.fn y = true ∨ X.env.scope.names.lookup y = some .local := by first | exact .inl rfl | exact .inr rfl)
    (hs : swapsWithSole [.Tuple [.Name x px, .Starred (.Name y py) sp] kk tpos] e pos.line X.env = pure false := by rfl) (hw : swappedStores [.Tuple [.Name x px, .Starred (.Name y py) sp] kk tpos] e X.env = pure none := by rfl)
    (h1 : (assignEach [.Tuple [.Name x px, .Starred (.Name y py) sp] kk tpos] X.env).map (·.2) = [assign (.Tuple [.Name x px, .Starred (.Name y py) sp] kk tpos) X.env] := by rfl)
    (h2 : (assignEach [.Name x px, .Starred (.Name y py) sp] X.env) = [(false, assign (.Name x px) X.env), (true, assign (.Name y py) X.env)] := by rfl) :
    AS X G (.Assign [.Tuple [.Name x px, .Starred (.Name y py) sp] kk tpos] e pos) (aStar i j tv) := by
  refine ⟨aStar.mono he.mono, PS.imp (ps_asg he.pe (pg_star hc (pg_name hN hi hx fx) (pg_name hN hj hy fy) h2) hs hw h1) fun D σ H ⟨env, h, Da, S, q, l⟩ => ?_⟩
  refine ⟨env, h, S, he.mono env h _ _ (fun w env1 h1 z v H1 S1 x1 r1 => ?_) q⟩
  have kp := x1.keeps S
  have go : ∀ (a : Addr) (x0 : W) (r : List W) (vs : List V), v = .ref a → (SqT X.K H1 a vs ∨ SqL X.K H1 a vs) → RepL G.K H1 (x0 :: r) vs → Da.nx ((env1.set i (some (.val x0))).set j (some (.own (.seq r)))) h1 → gStarH X.K (gName i) (gName j) v σ H1 D.nx := fun a x0 r vs ev hq rl z => by
    obtain ⟨u, us, rfl, ru, rr⟩ := rl.of_cons
    refine ⟨a, u, us, ev, hq, fun p hp => ?_⟩
    have nw : New H1 (upd H1 p (.lst us)) := New.upd hp
    have S2 := nw.bs S1
    obtain ⟨g1, g2, g3⟩ := S1.noAt hp
    have S3 : BS G (env1.set i (some (.val x0))) h1 (σ.set i (some u)) (upd H1 p (.lst us)) := S2.set (r := .val x0) i (Rep.mono nw.keeps _ _ ru) trivial
    have no : ¬ OwnAt (env1.set i (some (.val x0))) (σ.set i (some u)) p := fun ⟨m, c, e1, e2⟩ => by
      by_cases hm : i = m
      · subst hm
        by_cases hl : i < env1.length
        · rw [List.getElem?_set_self hl] at e1; cases e1
        · rw [List.getElem?_eq_none (by rw [List.length_set]; omega)] at e1; cases e1
      · rw [List.getElem?_set_ne hm] at e1 e2
        exact g3 ⟨m, c, e1, e2⟩
    have S4 := S3.set (r := .own (.seq r)) j (v := .ref p) ⟨p, rfl, ⟨us, upd_same, RepL.mono nw.keeps _ _ rr⟩, g1, g2, no⟩ trivial
    exact l.nx _ _ _ _ S4 (kp.trans nw.keeps) z
  split at z
  · rename_i x0 r
    obtain ⟨a, vs, ev, hq, rl⟩ := Rep.of_tup (K := G.K) (H := H1) r1
    exact go a x0 r vs ev (.inl (gk ▸ hq)) rl z
  · rename_i x0 r
    obtain ⟨a, vs, ev, hq, rl⟩ := Rep.of_lst (K := G.K) (H := H1) r1
    exact go a x0 r vs ev (.inr hq.sq) rl z
  · exact z.elim
end
/-- what the proof never comes to -/
def aNever : ATS := fun _ _ _ => False
theorem as_never {X : Cx} {G : Gx} {st : Stmt} : AS X G st aNever := ⟨fun _ _ _ _ _ z => z, PS.imp ps_never fun _ _ _ ⟨_, _, _, _, z, _⟩ => z.elim⟩
/-! ### globals -/
theorem ae_gint {X : Cx} {G : Gx} {x : Str} {i : Int} {pos : Pos} (hg : Gl X x) (hm : ∃ t, X.mg x = some (.int i t)) (hd : (x == ("__debug__" : Str)) = false := by decide) : AE X G (.Name x pos) (aC (.int i)) := by
  obtain ⟨t, hm⟩ := hm
  exact ae_c (v := .int i) (pe_glob (v := .int i) hg hm ⟨t, rfl⟩ hd) fun _ => .int
theorem ae_gtup {X : Cx} {G : Gx} {x : Str} {ws : List W} {pos : Pos} (gk : G.K = X.K) (hg : Gl X x) (hm : ∃ a vs, X.mg x = some (.ref a) ∧ (∀ H, SqT X.K H a vs) ∧ ∀ H, RepL X.K H ws vs) (hd : (x == ("__debug__" : Str)) = false := by decide) : AE X G (.Name x pos) (aC (.tup ws)) := by
  obtain ⟨a, vs, hm, hq, hr⟩ := hm
  exact ae_c (v := .ref a) (pe_glob (v := .ref a) hg hm rfl hd) fun H => gk ▸ .tup (hq H) (hr H)
end Ab

namespace Ab
open PySem PySem.Spec PyProof.Rows L2 RZ
open Sem (wp)
/-! ### enumerate of anything whose iterator is known -/
/-- iter(v): the iterator it hp, in the heap nx hp -/
structure Itr (v : Value) (C : Heap → Prop) (at_ : Heap → Addr) (nx : Heap → Heap) : Prop where
  go : ∀ (P : Program) (w : World) (A : Around) (E : Value → Shared → Prop) (s : Shared) (Q : Value → Shared → Prop), C s.heap → Q (.ref (at_ s.heap)) { s with heap := nx s.heap } → wpAny (model P w) A (pyIter v) Q E s
abbrev enObj (it : Addr) : Obj := { cls := .type "enumerate", data := .fields #[.none, .bool false, .ref it, rawInt 0, .none, .none] }
theorem en_meets {v : Value} {C : Heap → Prop} {at_ : Heap → Addr} {nx : Heap → Heap} (B : Itr v C at_ nx) :
    Meets (Builtin.«enumerate.__new__» ⟨[.type "enumerate", v], []⟩) (fun _ R s => C s.heap ∧ R (.ok (.ret (.ref (nx s.heap).objs.size))) { s with heap := (nx s.heap).push (enObj (at_ s.heap)) }) :=
  .of_wp fun P w A R s h => by
    obtain ⟨hp, gs, dr, tk, os⟩ := s
    obtain ⟨c1, h⟩ := h
    have hsub := sub_enumerate
    have step : ∀ {B' : Around} {E : Value → Shared → Prop} {Q : Value → Shared → Prop}, Q (.ref (at_ hp)) ⟨nx hp, gs, dr, tk, os⟩ → wpAny (model P w) B' (pyIter v) Q E ⟨hp, gs, dr, tk, os⟩ :=
      fun q => B.go P w _ _ ⟨hp, gs, dr, tk, os⟩ _ c1 q
    wp_walk using step
    refine wpAny_stack_any fun st => wpAny_pure ?_
    split
    · rename_i c _ _ _ _ _
      cases (c == Value.type "enumerate") <;> (wp_walk using step; exact ⟨_, rfl, h⟩)
    · wp_walk using step
      exact ⟨_, rfl, h⟩
section
variable {P : Program} {w : World} {A : Around} {E : Value → Shared → Prop} {s : Shared}
theorem en_call {v : Value} {C : Heap → Prop} {at_ : Heap → Addr} {nx : Heap → Heap} (B : Itr v C at_ nx) (c : C s.heap) {Q : Value → Shared → Prop}
    (h : ∀ h', h' = (nx s.heap).push (enObj (at_ s.heap)) → IsEnum h' (nx s.heap).objs.size (at_ s.heap) 0 .none → Q (.ref (nx s.heap).objs.size) { s with heap := h' }) :
    wpAny (model P w) A (call (.type "enumerate") [v]) Q E s := by
  refine callType_new F.called_enumerate (by decide) (F.typeCall_enumerate_1 _) (F.newCall_enumerate_1 _) (fun obj => F.args_object_init_2 obj _) F.entry_enumerate_new (en_meets B) ⟨c, ?_⟩
  have g : IsEnum ((nx s.heap).push (enObj (at_ s.heap))) (nx s.heap).objs.size (at_ s.heap) 0 .none := Heap.get?_push_size _ rfl
  exact ⟨⟨_, g, rfl⟩, h _ rfl g⟩
end
theorem itr_tuple (a : Addr) (xs : Array Value) : Itr (.ref a) (fun h => h.IsTuple a xs) (fun h => h.objs.size) (fun h => h.push { cls := .type "tuple_iterator", data := .fields #[.ref a, .int 0 0] }) :=
  ⟨fun P w A E s Q c q => wpAny_pyIter_tuple c q⟩
theorem itr_list (a : Addr) (xs : Array Value) : Itr (.ref a) (fun h => h.IsList a xs) (fun h => h.objs.size) (fun h => h.push { cls := .type "list_iterator", data := .fields #[.ref a, .int 0 0] }) :=
  ⟨fun P w A E s Q c q => wpAny_pyIter_list c q⟩
/-- the tuple's items, each in a new pair with its number -/
def IteT (K : PySem.W.Frag) (a : Addr) : It :=
  ⟨fun i H => ∃ (xs : List V) (x : V), SqT K H a xs ∧ xs[i]? = some x, fun i H v H' => ∃ T x, v = .ref T ∧ H T = none ∧ H' = upd H T (.tup [.int (i : Nat), x]) ∧ ∀ xs, SqT K H a xs → xs[i]? = some x, fun i H => ∃ xs : List V, SqT K H a xs ∧ xs.length ≤ i⟩
theorem turn_enT {P : Program} {w : World} {K : PySem.W.Frag} {elts : List Expr} {kk : Nat} {tpos : Pos} (a en it : Addr) :
    Turn P w K (.Tuple elts kk tpos) (IteT K a) [en, it] en (fun i h => (∃ old, IsEnum h en it ((i : Nat) : Int) old) ∧ h.IsTupleIter it a i ∧ en ≠ it) where
  mem := by simp
  obj := fun i h st b hb => by
    obtain ⟨⟨old, g⟩, ⟨o, ho, hc, hd⟩, _⟩ := st
    rcases (show b = en ∨ b = it by simpa using hb) with z | z
    · rw [z]; exact ⟨_, g, fun v q => nomatch q⟩
    · rw [z]; exact ⟨o, ho, fun v q => by rw [hd] at q; cases q⟩
  keep := fun i h h' ⟨⟨old, g⟩, hi, ne⟩ k => ⟨⟨old, k en (by simp) _ g⟩, hi.at fun o q => k it (by simp) o q, ne⟩
  item := by
    intro X hP hw hK hc i pins s σ H E I hf ⟨⟨old, g⟩, hit, ne⟩ ⟨xs, x, hq, hx⟩
    subst hP hw hK
    obtain ⟨its, rv, tp, hz⟩ := I.tuple hq
    obtain ⟨u, hu, ru⟩ := rv.get hx
    have hel : en < s.heap.objs.size := Heap.lt_size g
    have hil : it < s.heap.objs.size := by obtain ⟨_, q, _⟩ := hit; exact Heap.lt_size q
    have ai : a ≠ it := fun z => by
      obtain ⟨o1, e1, c1, _⟩ := tp
      obtain ⟨o2, e2, c2, _⟩ := hit
      rw [z, e2] at e1
      cases e1
      rw [c2] at c1
      exact absurd (Value.type.inj c1) (by decide)
    have ae : en ∉ [it, a] := fun z => by
      rcases (show en = it ∨ en = a by simpa using z) with z | z
      · exact ne z
      · obtain ⟨o1, e1, c1, _⟩ := tp
        rw [← z] at e1
        rw [show s.heap.get? en = _ from g] at e1
        cases e1
        exact absurd (Value.type.inj c1) (by decide)
    have hlt : i < its.toArray.size := by
      have := (List.getElem?_eq_some_iff.mp hu).1
      simpa using this
    refine wpAny_pyNext_enum_itemD (Draws.tuple (show X.A.in1.handled = none from I.ok.hd hc) it a ai its.toArray) g ⟨hit, tp⟩ hlt ne ae fun y h1 tk py out st2 hT hsz keep => ?_
    have ey : y = u := by
      have py : its.toArray[i]? = some y := py
      have : its[i]? = some y := by simpa using py
      rw [hu] at this
      exact (Option.some.inj this).symm
    subst ey
    refine ⟨_, rfl, wpAny_letOwnedTupleGo_enum (s := { s with heap := h1, toks := tk + 1 }) out fun h2 g2 sb => ?_⟩
    have hT2 : h2.get? s.heap.objs.size = some { cls := .type "tuple", data := .seq #[.int i tk, y] } := (sb.2 _ (Nat.ne_of_gt hel)).trans hT
    have new : ObjOk X.prog X.w (upd H s.heap.objs.size (.tup [.int (i : Nat), x])) h2 s.heap.objs.size (.tup [.int (i : Nat), x]) :=
      ⟨by show 2 ≤ sizeLine; decide, [.int i tk, y], .cons ⟨_, rfl⟩ (.cons ru .nil), ⟨_, hT2, rfl, _, rfl⟩⟩
    have I1 : Inv X pins σ (upd H s.heap.objs.size (.tup [.int (i : Nat), x])) { s with heap := h2, toks := tk + 1 } :=
      I.turnedNew (ch := [en, it]) (fun b ob hb q => (sb.2 b (fun z => hb (by simp [z]))).trans (keep b ob (fun z => hb (by simp [z])) (fun z => hb (by simp [z])) q)) hf (Nat.le_refl _) new
    refine ⟨.ref s.heap.objs.size, _, I1, rfl, ⟨_, x, rfl, I.hok.fresh (Nat.le_refl _), rfl, fun ys hy => by rw [I.tuple_inj hy hq]; exact hx⟩, ⟨⟨y, ?_⟩, st2.1.at fun o q => (sb.2 it (Ne.symm ne)).trans q, ne⟩, fun b hb => ?_⟩
    · rw [show ((i + 1 : Nat) : Int) = (i : Int) + 1 by omega]; exact g2
    · have lt : b < s.heap.objs.size := by
        rcases (show b = en ∨ b = it by simpa using hb) with z | z
        · rw [z]; exact hel
        · rw [z]; exact hil
      rw [upd_ne (Nat.ne_of_lt lt)]
      exact (hf b hb).1
  done := by
    intro X hP hw hK hc i pins s σ H E I hf ⟨⟨old, g⟩, hit, ne⟩ ⟨xs, hq, hx⟩
    subst hP hw hK
    obtain ⟨its, rv, tp, hz⟩ := I.tuple hq
    obtain ⟨f0, f1, f2, f3, f4, f5⟩ := hf it (by simp)
    have ai : a ≠ it := fun z => by
      obtain ⟨o1, e1, c1, _⟩ := tp
      obtain ⟨o2, e2, c2, _⟩ := hit
      rw [z, e2] at e1
      cases e1
      rw [c2] at c1
      exact absurd (Value.type.inj c1) (by decide)
    have hn : its.toArray[i]? = none := by
      have := rv.length
      rw [Array.getElem?_eq_none_iff]
      simp
      omega
    have D : Draws X.prog X.w X.A.in1 it [it, a] i (fun _ _ => False) (fun j h => j = i ∧ h.IsTupleIter it a i ∧ h.IsTuple a its.toArray) :=
      ⟨fun j h ⟨_, ⟨o, ho, _⟩, _⟩ => ⟨o, ho⟩, fun j h h' ⟨e, x1, x2⟩ k => ⟨e, x1.at fun o q => k it (by simp) o q, x2.at fun o q => k a (by simp) o q⟩, fun j t Q E lt ⟨e, _⟩ => absurd lt (by rw [e]; exact Nat.lt_irrefl _),
        fun t Q E ⟨_, x1, x2⟩ hE => wpAny_nextOf_tuple_end (show X.A.in1.handled = none from I.ok.hd hc) x1 x2 hn hE⟩
    exact wpAny_pyNext_enum_endD D g ⟨rfl, hit, tp⟩ fun h' eb => ⟨rfl, I.turned (t' := s.toks) (fun b o hb q => eb b o hb q) f0 f1 f3 f4 f5⟩
  self := fun A i s Q E ⟨⟨_, g⟩, _⟩ q => wpAny_pyIter_enum g q
def iEnA (K : PySem.W.Frag) (ta : TA) : TI := fun σ H R => ta σ H fun vs H1 => ∃ a xs, vs = [.ref a] ∧ ((SqT K H1 a xs ∧ R (IteT K a) H1) ∨ (SqL K H1 a xs ∧ R (Ite K a) H1))
theorem pi_enA {X : Cx} {e : Expr} {ta : TA} {p pos tpos : Pos} {elts : List Expr} {kk : Nat} (hg : Gl X "enumerate") (hm : X.mg "enumerate" = none) (ha : PA X [e] ta) (hs : starEach [e] X.env = [(false, eval e X.env)] := by rfl) :
    PI X (.Tuple elts kk tpos) (.Call (.Name "enumerate" p) [e] [] pos) (iEnA X.K ta) := by
  refine ⟨fun pins s σ H R I h => ?_⟩
  refine Call_ (ld_blt I hg hm boot_enumerate (PyProof.Rows.callWith_type1 (thn (ha.run pos pins s σ H _ I h) fun us s1 ⟨vs, H1, I1, r1, a, xs, ex, hqq⟩ => ?_) hs rfl))
  subst ex
  cases r1 with
  | cons r rr =>
    cases rr
    cases r
    rcases hqq with ⟨hq, q⟩ | ⟨hq, q⟩
    · obtain ⟨its, rv, tp, hz⟩ := I1.tuple hq
      refine en_call (itr_tuple a its.toArray) tp fun h' eh g => wpAny_pyIter_enum g ?_
      have sz : (s1.heap.push { cls := .type "tuple_iterator", data := .fields #[.ref a, .int 0 0] }).objs.size = s1.heap.objs.size + 1 := Heap.size_push ..
      have I2 : Inv X pins σ H1 { s1 with heap := h' } := I1.kept (t' := s1.toks) fun b o y => by rw [eh]; exact Heap.get?_push_of_some _ (Heap.get?_push_of_some _ y)
      have hit : h'.IsTupleIter s1.heap.objs.size a 0 := ⟨_, by rw [eh]; exact Heap.get?_push_of_some _ (Heap.get?_push_size _ rfl), rfl, rfl⟩
      rw [sz] at g ⊢
      refine ⟨s1.heap.objs.size + 1, [s1.heap.objs.size + 1, s1.heap.objs.size], _, _, H1, rfl, I2, turn_enT a (s1.heap.objs.size + 1) s1.heap.objs.size, ⟨⟨.none, g⟩, hit, Nat.succ_ne_self _⟩, fun b hb => ?_, q⟩
      have le : s1.heap.objs.size ≤ b := by
        rcases (show b = s1.heap.objs.size + 1 ∨ b = s1.heap.objs.size by simpa using hb) with z | z
        · rw [z]; exact Nat.le_succ _
        · rw [z]; exact Nat.le_refl _
      exact I1.fpOk le (I1.hok.fresh le)
    · obtain ⟨its, rv, tp, hz⟩ := I1.list hq
      refine en_call (itr_list a its.toArray) tp.isList fun h' eh g => wpAny_pyIter_enum g ?_
      have sz : (s1.heap.push { cls := .type "list_iterator", data := .fields #[.ref a, .int 0 0] }).objs.size = s1.heap.objs.size + 1 := Heap.size_push ..
      have I2 : Inv X pins σ H1 { s1 with heap := h' } := I1.kept (t' := s1.toks) fun b o y => by rw [eh]; exact Heap.get?_push_of_some _ (Heap.get?_push_of_some _ y)
      have hit : h'.IsListIter s1.heap.objs.size a 0 := ⟨_, by rw [eh]; exact Heap.get?_push_of_some _ (Heap.get?_push_size _ rfl), rfl, rfl⟩
      rw [sz] at g ⊢
      refine ⟨s1.heap.objs.size + 1, [s1.heap.objs.size + 1, s1.heap.objs.size], _, _, H1, rfl, I2, turn_enum a (s1.heap.objs.size + 1) s1.heap.objs.size, ⟨⟨.none, g⟩, hit, Nat.succ_ne_self _⟩, fun b hb => ?_, q⟩
      have le : s1.heap.objs.size ≤ b := by
        rcases (show b = s1.heap.objs.size + 1 ∨ b = s1.heap.objs.size by simpa using hb) with z | z
        · rw [z]; exact Nat.le_succ _
        · rw [z]; exact Nat.le_refl _
      exact I1.fpOk le (I1.hok.fresh le)
/-! ### the abstract rule -/
section
variable {K : PySem.W.Frag}
def enW (ws : List W) : List W := (List.range ws.length).map fun (i : Nat) => W.tup [.int (i : Int), ws.getD i .non]
theorem enW_get {ws : List W} {i : Nat} {w : W} (h : (enW ws)[i]? = some w) : ∃ u, ws[i]? = some u ∧ w = .tup [.int i, u] := by
  unfold enW at h
  rw [List.getElem?_map] at h
  cases q : (List.range ws.length)[i]? with
  | none => rw [q] at h; cases h
  | some j =>
    rw [q] at h
    obtain ⟨hj, e⟩ := List.getElem?_eq_some_iff.mp q
    simp at hj e
    subst e
    cases h
    exact ⟨ws[i], List.getElem?_eq_getElem hj, by simp [List.getD_eq_getElem?_getD, hj]⟩
theorem enW_len {ws : List W} : (enW ws).length = ws.length := by simp [enW]
theorem gives_enT {H : Hp} {a : Addr} {ws : List W} {vs : List V} (l : SqT K H a vs) (r : RepL K H ws vs) : Gives K (IteT K a) H (enW ws) := fun H' k i => by
  refine ⟨fun h => ⟨vs, k.sqT l, by rw [← r.length]; rw [enW_len] at h; exact h⟩, fun w e => ?_⟩
  obtain ⟨u, eu, rfl⟩ := enW_get e
  obtain ⟨v, ev, rv⟩ := r.get eu
  refine ⟨⟨vs, v, k.sqT l, ev⟩, fun x H2 ⟨T, y, ex, nT, e2, f⟩ => ?_⟩
  subst ex e2
  have ey : y = v := Option.some.inj ((f vs (k.sqT l)).symm.trans ev)
  subst ey
  have nw : New H' (upd H' T (.tup [.int (i : Nat), y])) := New.upd nT
  exact ⟨nw, .tup (.inl (.inl upd_same)) (.cons .int (.cons (Rep.mono (k.trans nw.keeps) _ _ rv) .nil))⟩
theorem gives_enL {H : Hp} {a : Addr} {ws : List W} {vs : List V} (l : LsF H a vs) (r : RepL K H ws vs) : Gives K (Ite K a) H (enW ws) := fun H' k i => by
  have l' := (k.lsF l).sq (K := K)
  refine ⟨fun h => ⟨vs, l', by rw [← r.length]; rw [enW_len] at h; exact h⟩, fun w e => ?_⟩
  obtain ⟨u, eu, rfl⟩ := enW_get e
  obtain ⟨v, ev, rv⟩ := r.get eu
  refine ⟨⟨vs, v, l', ev⟩, fun x H2 ⟨T, y, ex, nT, e2, f⟩ => ?_⟩
  subst ex e2
  have ey : y = v := Option.some.inj ((f vs l').symm.trans ev)
  subst ey
  have nw : New H' (upd H' T (.tup [.int (i : Nat), y])) := New.upd nT
  exact ⟨nw, .tup (.inl (.inl upd_same)) (.cons .int (.cons (Rep.mono (k.trans nw.keeps) _ _ rv) .nil))⟩
end
def iEn (t : AVT) : AIT := fun env h Q => t env h fun w env' h' => match w with
  | .tup ws => Q (enW ws) env' h'
  | .lst ws => Q (enW ws) env' h'
  | _ => False
section
variable {X : Cx} {G : Gx} {e : Expr} {tv : AVT} {p pos tpos : Pos} {elts : List Expr} {kk : Nat}
theorem iEn.mono (m : Mono tv) : Mono (iEn tv) := fun env h Q Q' k q => m env h _ _ (fun w e g z => by
  split at z
  · exact k _ _ _ z
  · exact k _ _ _ z
  · exact z) q
theorem ai_enum (gk : G.K = X.K) (hg : Gl X "enumerate") (hm : X.mg "enumerate" = none) (ha : AV X G e tv) (hs : starEach [e] X.env = [(false, eval e X.env)] := by rfl) : AI X G (.Tuple elts kk tpos) (.Call (.Name "enumerate" p) [e] [] pos) (iEn tv) := by
  have pa : PA X [e] (cA G (aCons tv aNil)) := (aa_cons (es := []) ha aa_nil hs).pa
  refine ⟨iEn.mono ha.mono, PI.imp (pi_enA hg hm pa hs) fun σ H R ⟨env, h, S, q⟩ => ⟨env, h, S, ha.mono env h _ _ (fun w e g z vs H1 S1 x1 r1 => ?_) q⟩⟩
  obtain ⟨v, t, rfl, r2, r3⟩ := r1.of_cons
  rw [r3.of_nil]
  split at z
  · obtain ⟨a, xs, ev, hq, rl⟩ := Rep.of_tup (K := G.K) (H := H1) r2
    subst ev
    exact ⟨a, xs, rfl, .inl ⟨gk ▸ hq, z _ H1 S1 x1 (gk ▸ gives_enT hq rl)⟩⟩
  · obtain ⟨a, xs, ev, hq, rl⟩ := Rep.of_lst (K := G.K) (H := H1) r2
    subst ev
    exact ⟨a, xs, rfl, .inr ⟨hq.sq, z _ H1 S1 x1 (gk ▸ gives_enL hq rl)⟩⟩
  · exact z.elim
end
end Ab

namespace Ab
open PySem PySem.Spec PyProof.Rows L2 RZ
open Sem (wp)
/-! ### a zip whose pair may still be held by another -/
abbrev ZpAt (h : Heap) (z TI TO : Addr) (f0 f1 : Value) : Prop := h.get? z = some { cls := .type "zip", dict := none, data := .fields #[f0, f1, .bool false, .ref TI, .ref TO], slots := #[] }
def ZpF (f0 f1 : Value) : Prop := (f0 = .none ∨ ∃ T : Nat, f0 = rawInt T) ∧ (f1 = .bool false ∨ f1 = .bool true)
section
variable {P : Program} {w : World} {A : Around} {E : Value → Shared → Prop} {s : Shared} {z TI TO i1 i2 : Addr} {fp1 fp2 : List Addr} {n1 n2 i : Nat} {P1 P2 : Nat → Value → Prop} {St1 St2 : Nat → Heap → Prop} {a1 a2 f0 f1 : Value}
theorem zp_free {Q : Bool → Shared → Prop} (hz : ZpAt s.heap z TI TO f0 f1) (hf : ZpF f0 f1) (yes : Q true s) (no : ∀ h' f, ZpAt h' z TI TO f0 f → ZpF f0 f → Heap.SameBut z s.heap h' → Q false { s with heap := h' }) :
    wpAny (model P w) A (Builtin.SmallTypes.ownedTupleIsFree (.ref z)) Q E s := by
  obtain ⟨hp, gs, dr, tk, os⟩ := s
  unfold Builtin.SmallTypes.ownedTupleIsFree
  obtain ⟨e0, e1⟩ := hf
  rcases e0 with rfl | ⟨T, rfl⟩
  · exact wpAny_bind (wpAny_field hz rfl (x := .none) rfl (wpAny_pure yes))
  · refine wpAny_bind (wpAny_field hz rfl (x := rawInt T) rfl ?_)
    show wpAny _ _ (loadIfAlive (Int.toNat (T : Int)) >>= _) _ _ _
    rw [Int.toNat_natCast]
    have alive : ∀ {R : Option Obj → Shared → Prop}, R (hp.get? T) ⟨hp, gs, dr, tk, os⟩ → wpAny (model P w) A (loadIfAlive T) R E ⟨hp, gs, dr, tk, os⟩ := fun r _ _ _ => r
    refine wpAny_bind (alive ?_)
    cases hp.get? T with
    | none =>
      show wpAny _ _ (pure true) _ _ _
      exact wpAny_pure yes
    | some o =>
      show wpAny _ _ (field (.ref z) 1 >>= fun f => _) _ _ _
      refine wpAny_bind (wpAny_field hz rfl (x := f1) rfl ?_)
      rcases e1 with rfl | rfl
      · rw [if_pos (show (Value.bool false != Value.bool true) = true from rfl)]
        exact wpAny_bind (wpAny_setField_rec hz (by simp) fun h' hz' sb => wpAny_pure (no h' _ hz' ⟨.inr ⟨T, rfl⟩, .inr rfl⟩ sb))
      · rw [if_neg (show ¬ ((Value.bool true != Value.bool true) = true) from Bool.false_ne_true)]
        exact wpAny_pure (no hp _ hz ⟨.inr ⟨T, rfl⟩, .inr rfl⟩ (Heap.SameBut.refl _ _))
theorem zn_item {Q : Value → Shared → Prop} (S : ZipSep2 z TI TO i1 i2 fp1 fp2) (D1 : Draws P w A i1 fp1 n1 P1 St1) (D2 : Draws P w A i2 fp2 n2 P2 St2)
    (hz : ZpAt s.heap z TI TO f0 f1) (hf : ZpF f0 f1) (hTI : IsTupOf2 s.heap TI (.ref i1) (.ref i2)) (hTO : IsTupOf2 s.heap TO a1 a2) (st1 : St1 i s.heap) (st2 : St2 i s.heap) (lt1 : i < n1) (lt2 : i < n2)
    (hQ : ∀ x1 x2 h' tk g0 g1 b1 b2, P1 i x1 → P2 i x2 → ZpAt h' z TI TO g0 g1 → ZpF g0 g1 → IsTupOf2 h' TO b1 b2 → St1 (i + 1) h' → St2 (i + 1) h' → IsTupOf2 h' s.heap.objs.size x1 x2 → h'.objs.size = s.heap.objs.size + 1 →
      (∀ c o, c ≠ z → c ≠ TO → c ≠ i1 → c ≠ i2 → s.heap.get? c = some o → h'.get? c = some o) → Q (.ref s.heap.objs.size) { s with heap := h', toks := tk }) :
    wpAny (model P w) A (Builtin.«zip.__next__» ⟨[.ref z], []⟩) (fun fin s' => ∃ v, fin = .done (.ret v) ∧ Q v s') E s := by
  obtain ⟨hp, gs, dr, tk0, os⟩ := s
  show wpAny _ _ (field (.ref z) 2 >>= _) _ _ _
  refine wpAny_bind (wpAny_field hz rfl (x := .bool false) rfl ?_)
  show wpAny _ _ (field (.ref z) 3 >>= _) _ _ _
  refine wpAny_bind (wpAny_field hz rfl (x := .ref TI) rfl ?_)
  refine wpAny_bind (wpAny_seqItems hTI rfl ?_)
  show wpAny _ _ (Builtin.SmallTypes.ownedTupleIsFree (.ref z) >>= _) _ _ _
  refine wpAny_bind (zp_free hz hf ?_ fun k0 f kz kf sb => ?_)
  · simp only [if_true]
    refine wpAny_bind (wpAny_rule ?_)
    refine wpAny_bind (wpAny_field hz rfl (x := .ref TO) rfl ?_)
    refine wpAny_bind (wpAny_setField_rec hz (by simp) fun q0 zq0 sq0 => ?_)
    replace zq0 : ZpAt q0 z TI TO .ellipsis f1 := zq0
    replace sq0 : Heap.SameBut z hp q0 := sq0
    refine wpAny_bind ?_
    simp only [List.zipIdx_cons, List.zipIdx_nil, List.forIn_cons, List.forIn_nil]
    refine wpAny_bind (wpAny_bind (wpAny_onRaise ?_))
    show wpAny _ _ (Builtin.SmallTypes.nextOf (.ref i1) >>= _) _ _ ⟨q0, gs, dr, tk0, os⟩
    refine wpAny_bind (D1.item i _ _ _ lt1 (D1.over st1 sq0 S.zf1) fun x1 r1 tk1 px1 n1 sr1 => wpAny_pure ?_)
    replace sr1 : Heap.SameBut i1 q0 r1 := sr1
    have u1 : IsTupOf2 r1 TO a1 a2 := sr1.extBut _ _ S.Ti1 (sq0.extBut _ _ S.TOz hTO)
    refine wpAny_bind (wpAny_seqItems (s := ⟨r1, gs, dr, tk1, os⟩) u1 rfl ?_)
    refine wpAny_bind (updateSeq_IsTupOf2 (s := ⟨r1, gs, dr, tk1, os⟩) u1 fun q1 w1 sq1 => ?_)
    replace w1 : IsTupOf2 q1 TO x1 a2 := w1
    replace sq1 : Heap.SameBut TO r1 q1 := sq1
    refine wpAny_bind (wpAny_letGo (wpAny_pure ?_))
    refine wpAny_bind (wpAny_bind (wpAny_onRaise ?_))
    show wpAny _ _ (Builtin.SmallTypes.nextOf (.ref i2) >>= _) _ _ ⟨q1, gs, dr, tk1, os⟩
    refine wpAny_bind (D2.item i _ _ _ lt2 (D2.over (D2.over (D2.over st2 sq0 S.zf2) sr1 S.sep1_2) sq1 S.Tf2) fun x2 r2 tk2 px2 n2 sr2 => wpAny_pure ?_)
    replace sr2 : Heap.SameBut i2 q1 r2 := sr2
    have u2 : IsTupOf2 r2 TO x1 a2 := sr2.extBut _ _ S.Ti2 w1
    refine wpAny_bind (wpAny_seqItems (s := ⟨r2, gs, dr, tk2, os⟩) u2 rfl ?_)
    refine wpAny_bind (updateSeq_IsTupOf2 (s := ⟨r2, gs, dr, tk2, os⟩) u2 fun q2 w2 sq2 => ?_)
    replace w2 : IsTupOf2 q2 TO x1 x2 := w2
    replace sq2 : Heap.SameBut TO r2 q2 := sq2
    refine wpAny_bind (wpAny_letGo (wpAny_pure (wpAny_pure ?_)))
    refine wpAny_bind (wpAny_seqItems (s := ⟨q2, gs, dr, tk2, os⟩) w2 rfl ?_)
    refine wpAny_bind (wpAny_newTuple ?_)
    have sz2 : q2.objs.size = hp.objs.size := by rw [sq2.1, sr2.1, sq1.1, sr1.1, sq0.1]
    have zz2 : ZpAt q2 z TI TO .ellipsis f1 := (sq2.extBut _ _ S.TOz.symm (sr2.extBut _ _ S.zi2 (sq1.extBut _ _ S.TOz.symm (sr1.extBut _ _ S.zi1 zq0))))
    have kept : ∀ c o, c ≠ z → c ≠ TO → c ≠ i1 → c ≠ i2 → hp.get? c = some o → q2.get? c = some o := fun c o cz cT c1 c2 e =>
      (sq2.extBut _ _ cT (sr2.extBut _ _ c2 (sq1.extBut _ _ cT (sr1.extBut _ _ c1 (sq0.extBut _ _ cz e)))))
    have j1 : St1 (i + 1) q2 := (D1.over (D1.over (D1.over n1 sq1 S.Tf1) sr2 S.sep2_1) sq2 S.Tf1)
    have j2 : St2 (i + 1) q2 := (D2.over n2 sq2 S.Tf2)
    have zlt : z < q2.objs.size := Heap.lt_size zz2
    show wpAny _ _ (Builtin.SmallTypes.ownedTupleHandOut (.ref z) (.ref q2.objs.size) >>= _) _ _ ⟨q2.push { cls := .type "tuple", data := .seq #[x1, x2] }, gs, dr, tk2, os⟩
    refine wpAny_bind ?_
    unfold Builtin.SmallTypes.ownedTupleHandOut
    have z6 : ZpAt (q2.push { cls := .type "tuple", data := .seq #[x1, x2] }) z TI TO .ellipsis f1 := Heap.get?_push_of_some _ zz2
    refine wpAny_bind (wpAny_setField_rec z6 (by simp) fun q7 z7 s7 => ?_)
    replace z7 : ZpAt q7 z TI TO (rawInt q2.objs.size) f1 := z7
    refine wpAny_setField_rec z7 (by simp) fun q8 z8 s8 => ?_
    replace z8 : ZpAt q8 z TI TO (rawInt q2.objs.size) (.bool false) := z8
    replace s7 : Heap.SameBut z (q2.push { cls := .type "tuple", data := .seq #[x1, x2] }) q7 := s7
    replace s8 : Heap.SameBut z q7 q8 := s8
    have up : ∀ c o, c ≠ z → q2.get? c = some o → q8.get? c = some o := fun c o c1 e => s8.extBut _ _ c1 (s7.extBut _ _ c1 (Heap.get?_push_of_some _ e))
    have t8 : IsTupOf2 q8 q2.objs.size x1 x2 := s8.extBut _ _ (Nat.ne_of_gt zlt) (s7.extBut _ _ (Nat.ne_of_gt zlt) (Heap.get?_push_size _ rfl))
    have sz8 : q8.objs.size = q2.objs.size + 1 := by rw [s8.1, s7.1, Heap.size_push]
    rw [sz2] at z8 t8 sz8
    refine wpAny_pure ⟨_, rfl, ?_⟩
    show Q (.ref q2.objs.size) ⟨q8, gs, dr, tk2, os⟩
    rw [sz2]
    exact hQ x1 x2 q8 tk2 _ _ _ _ px1 px2 z8 ⟨.inr ⟨_, rfl⟩, .inl rfl⟩ (up _ _ S.TOz w2) (D1.frame _ _ _ j1 fun b hb o e => up b o (fun q => S.zf1 (q ▸ hb)) e) (D2.frame _ _ _ j2 fun b hb o e => up b o (fun q => S.zf2 (q ▸ hb)) e) t8 sz8 fun c o cz cT c1 c2 e => up c o cz (kept c o cz cT c1 c2 e)
  · simp only [Bool.false_eq_true, if_false]
    simp only [List.forIn_toArray, List.forIn_cons, List.forIn_nil]
    replace sb : Heap.SameBut z hp k0 := sb
    refine wpAny_bind (wpAny_bind (wpAny_bind (wpAny_holding ?_)))
    show wpAny _ _ (Builtin.SmallTypes.nextOf (.ref i1) >>= _) _ _ ⟨k0, gs, dr, tk0, os⟩
    refine wpAny_bind (D1.item i _ _ _ lt1 (D1.over st1 sb S.zf1) fun x1 r1 tk1 px1 n1 sr1 => wpAny_pure (wpAny_pure ?_))
    replace sr1 : Heap.SameBut i1 k0 r1 := sr1
    refine wpAny_bind (wpAny_bind (wpAny_holding ?_))
    show wpAny _ _ (Builtin.SmallTypes.nextOf (.ref i2) >>= _) _ _ ⟨r1, gs, dr, tk1, os⟩
    refine wpAny_bind (D2.item i _ _ _ lt2 (D2.over (D2.over st2 sb S.zf2) sr1 S.sep1_2) fun x2 r2 tk2 px2 n2 sr2 => wpAny_pure (wpAny_pure (wpAny_pure ?_)))
    replace sr2 : Heap.SameBut i2 r1 r2 := sr2
    refine wpAny_bind (wpAny_newTuple (hsz := (by show (2 : Nat) ≤ sizeLine; decide)) (wpAny_pure ⟨_, rfl, ?_⟩))
    have sz2 : r2.objs.size = hp.objs.size := by rw [sr2.1, sr1.1, sb.1]
    have zz : ZpAt r2 z TI TO f0 f := sr2.extBut _ _ S.zi2 (sr1.extBut _ _ S.zi1 kz)
    have t2 : IsTupOf2 r2 TO a1 a2 := sr2.extBut _ _ S.Ti2 (sr1.extBut _ _ S.Ti1 (sb.extBut _ _ S.TOz hTO))
    have kept : ∀ c o, c ≠ z → c ≠ i1 → c ≠ i2 → hp.get? c = some o → r2.get? c = some o := fun c o cz c1 c2 e => sr2.extBut _ _ c2 (sr1.extBut _ _ c1 (sb.extBut _ _ cz e))
    show Q (.ref r2.objs.size) ⟨r2.push { cls := .type "tuple", data := .seq #[x1, x2] }, gs, dr, tk2, os⟩
    rw [sz2]
    have t8 : IsTupOf2 (r2.push { cls := .type "tuple", data := .seq #[x1, x2] }) r2.objs.size x1 x2 := Heap.get?_push_size _ rfl
    rw [sz2] at t8
    exact hQ x1 x2 _ tk2 _ _ _ _ px1 px2 (Heap.get?_push_of_some _ zz) kf (Heap.get?_push_of_some _ t2) (D1.frame _ _ _ (D1.over n1 sr2 S.sep2_1) fun b hb o e => Heap.get?_push_of_some _ e) (D2.frame _ _ _ n2 fun b hb o e => Heap.get?_push_of_some _ e) t8 (by rw [Heap.size_push, sz2]) fun c o cz _ c1 c2 e => Heap.get?_push_of_some _ (kept c o cz c1 c2 e)
theorem zn_end {Q : Fin → Shared → Prop} (S : ZipSep2 z TI TO i1 i2 fp1 fp2) (D1 : Draws P w A i1 fp1 n1 P1 St1) (D2 : Draws P w A i2 fp2 n2 P2 St2)
    (hz : ZpAt s.heap z TI TO f0 f1) (hf : ZpF f0 f1) (hTI : IsTupOf2 s.heap TI (.ref i1) (.ref i2)) (hTO : IsTupOf2 s.heap TO a1 a2) (st1 : St1 i s.heap) (st2 : St2 i s.heap) (le1 : i ≤ n1) (le2 : i ≤ n2) (fin : i = n1 ∨ i = n2)
    (hE : ∀ h' tk e, (∀ c o, c ≠ z → c ≠ TO → c ≠ i1 → c ≠ i2 → s.heap.get? c = some o → h'.get? c = some o) → (∃ o, h'.get? e = some o ∧ o.cls = .type "StopIteration") → E (.ref e) { s with heap := h', toks := tk }) :
    wpAny (model P w) A (Builtin.«zip.__next__» ⟨[.ref z], []⟩) Q E s := by
  obtain ⟨hp, gs, dr, tk0, os⟩ := s
  show wpAny _ _ (field (.ref z) 2 >>= _) _ _ _
  refine wpAny_bind (wpAny_field hz rfl (x := .bool false) rfl ?_)
  show wpAny _ _ (field (.ref z) 3 >>= _) _ _ _
  refine wpAny_bind (wpAny_field hz rfl (x := .ref TI) rfl ?_)
  refine wpAny_bind (wpAny_seqItems hTI rfl ?_)
  show wpAny _ _ (Builtin.SmallTypes.ownedTupleIsFree (.ref z) >>= _) _ _ _
  refine wpAny_bind (zp_free hz hf ?_ fun k0 f kz kf sb => ?_)
  · simp only [if_true]
    refine wpAny_bind (wpAny_rule ?_)
    refine wpAny_bind (wpAny_field hz rfl (x := .ref TO) rfl ?_)
    refine wpAny_bind (wpAny_setField_rec hz (by simp) fun q0 zq0 sq0 => ?_)
    replace zq0 : ZpAt q0 z TI TO .ellipsis f1 := zq0
    replace sq0 : Heap.SameBut z hp q0 := sq0
    refine wpAny_bind ?_
    simp only [List.zipIdx_cons, List.zipIdx_nil, List.forIn_cons, List.forIn_nil]
    refine wpAny_bind (wpAny_bind (wpAny_onRaise ?_))
    show wpAny _ _ (Builtin.SmallTypes.nextOf (.ref i1) >>= _) _ _ ⟨q0, gs, dr, tk0, os⟩
    by_cases h1 : i = n1
    · subst h1
      refine wpAny_bind (D1.done _ _ _ (D1.over st1 sq0 S.zf1) fun r1 e x1 ⟨oe, ho, hc⟩ => ?_)
      replace x1 : Heap.ExtBut i1 q0 r1 := x1
      have zr : ZpAt r1 z TI TO .ellipsis f1 := x1 _ _ S.zi1 zq0
      have ez : e ≠ z := fun y => by
        rw [y] at ho
        rw [show r1.get? z = _ from zr] at ho
        cases ho
        exact absurd (Value.type.inj hc) (by decide)
      refine wpAny_setField_rec zr (by simp) fun q1 _ sq1 => hE q1 tk0 e (fun c o cz _ c1 _ y => sq1.extBut _ _ cz (x1 _ _ c1 (sq0.extBut _ _ cz y))) ⟨oe, sq1.extBut _ _ ez ho, hc⟩
    · have h2 : i = n2 := fin.resolve_left h1
      subst h2
      refine wpAny_bind (D1.item i _ _ _ (by omega) (D1.over st1 sq0 S.zf1) fun x1 r1 tk1 px1 m1 sr1 => wpAny_pure ?_)
      replace sr1 : Heap.SameBut i1 q0 r1 := sr1
      have u1 : IsTupOf2 r1 TO a1 a2 := sr1.extBut _ _ S.Ti1 (sq0.extBut _ _ S.TOz hTO)
      refine wpAny_bind (wpAny_seqItems (s := ⟨r1, gs, dr, tk1, os⟩) u1 rfl ?_)
      refine wpAny_bind (updateSeq_IsTupOf2 (s := ⟨r1, gs, dr, tk1, os⟩) u1 fun q1 w1 sq1 => ?_)
      replace sq1 : Heap.SameBut TO r1 q1 := sq1
      refine wpAny_bind (wpAny_letGo (wpAny_pure ?_))
      refine wpAny_bind (wpAny_bind (wpAny_onRaise ?_))
      show wpAny _ _ (Builtin.SmallTypes.nextOf (.ref i2) >>= _) _ _ ⟨q1, gs, dr, tk1, os⟩
      refine wpAny_bind (D2.done _ _ _ (D2.over (D2.over (D2.over st2 sq0 S.zf2) sr1 S.sep1_2) sq1 S.Tf2) fun r2 e x2 ⟨oe, ho, hc⟩ => ?_)
      replace x2 : Heap.ExtBut i2 q1 r2 := x2
      have zr : ZpAt r2 z TI TO .ellipsis f1 := x2 _ _ S.zi2 (sq1.extBut _ _ S.TOz.symm (sr1.extBut _ _ S.zi1 zq0))
      have ez : e ≠ z := fun y => by
        rw [y] at ho
        rw [show r2.get? z = _ from zr] at ho
        cases ho
        exact absurd (Value.type.inj hc) (by decide)
      refine wpAny_setField_rec zr (by simp) fun q3 _ sq3 => hE q3 tk1 e (fun c o cz cT c1 c2 y => sq3.extBut _ _ cz (x2 _ _ c2 (sq1.extBut _ _ cT (sr1.extBut _ _ c1 (sq0.extBut _ _ cz y))))) ⟨oe, sq3.extBut _ _ ez ho, hc⟩
  · simp only [Bool.false_eq_true, if_false]
    simp only [List.forIn_toArray, List.forIn_cons, List.forIn_nil]
    replace sb : Heap.SameBut z hp k0 := sb
    refine wpAny_bind (wpAny_bind (wpAny_bind (wpAny_holding ?_)))
    show wpAny _ _ (Builtin.SmallTypes.nextOf (.ref i1) >>= _) _ _ ⟨k0, gs, dr, tk0, os⟩
    by_cases h1 : i = n1
    · subst h1
      exact wpAny_bind (D1.done _ _ _ (D1.over st1 sb S.zf1) fun r1 e x1 he => hE r1 tk0 e (fun c o cz _ c1 _ y => x1 _ _ c1 (sb.extBut _ _ cz y)) he)
    · have h2 : i = n2 := fin.resolve_left h1
      subst h2
      refine wpAny_bind (D1.item i _ _ _ (by omega) (D1.over st1 sb S.zf1) fun x1 r1 tk1 px1 m1 sr1 => wpAny_pure (wpAny_pure ?_))
      replace sr1 : Heap.SameBut i1 k0 r1 := sr1
      refine wpAny_bind (wpAny_bind (wpAny_holding ?_))
      show wpAny _ _ (Builtin.SmallTypes.nextOf (.ref i2) >>= _) _ _ ⟨r1, gs, dr, tk1, os⟩
      exact wpAny_bind (D2.done _ _ _ (D2.over (D2.over st2 sb S.zf2) sr1 S.sep1_2) fun r2 e x2 he => hE r2 tk1 e (fun c o cz _ c1 c2 y => x2 _ _ c2 (sr1.extBut _ _ c1 (sb.extBut _ _ cz y))) he)
end
end Ab

namespace Ab
open PySem PySem.Spec PyProof.Rows L2 RZ
open Sem (wp)
/-! ### enumerate over an iterator that may write and make things -/
section
variable {P : Program} {w : World} {A : Around} {E : Value → Shared → Prop} {s : Shared} {en it : Addr} {old : Value} {ch : List Addr}
theorem en_next {c : Int} {Gd : Value → Heap → Prop} {Q : Option Value → Shared → Prop} (g : IsEnum s.heap en it c old) (ne : en ∉ ch)
    (hn : ∀ (R : Value → Shared → Prop) (E' : Value → Shared → Prop), (∀ x h1 tk, Gd x h1 → (∀ b o, b ∉ ch → s.heap.get? b = some o → h1.get? b = some o) → R x { s with heap := h1, toks := tk }) → wpAny (model P w) A.in1 (Builtin.SmallTypes.nextOf (.ref it)) R E' s)
    (hQ : ∀ x h1 h2 tk, Gd x h1 → (∀ b o, b ∉ ch → s.heap.get? b = some o → h1.get? b = some o) → IsEnumOut h2 en it (c + 1) x h1.objs.size → h2.get? h1.objs.size = some { cls := .type "tuple", data := .seq #[.int c tk, x] } → h2.objs.size = h1.objs.size + 1 →
      (∀ b o, b ≠ en → h1.get? b = some o → h2.get? b = some o) → Q (some (.ref h1.objs.size)) { s with heap := h2, toks := tk + 1 }) :
    wpAny (model P w) A (pyNext (.ref en)) Q E s := by
  have hT : s.TypeIs (.ref en) "enumerate" := ⟨_, g, rfl⟩
  unfold pyNext
  refine wpAny_bind (wpAny_attempt (wpAny_callSpecial?_slot (name := Str.ofString "__next__") hT F.slot_enumerate_next (wpAny_call_entry F.slot_enumerate_next hT F.entry_enumerate_next ?_ (F.args_enumerate_next_1 _))))
  obtain ⟨hp, gs, dr, tk0, os⟩ := s
  show wpAny _ _ (field (.ref en) 2 >>= _) _ _ _
  refine wpAny_bind (wpAny_field g rfl (x := .ref it) rfl ?_)
  refine wpAny_bind (hn _ _ fun x h1 tk gd kp => ?_)
  replace kp : ∀ b o, b ∉ ch → hp.get? b = some o → h1.get? b = some o := kp
  have g1 : IsEnum h1 en it c old := kp _ _ ne g
  show wpAny _ _ (field (.ref en) 3 >>= _) _ _ ⟨h1, gs, dr, tk, os⟩
  refine wpAny_bind (wpAny_field g1 rfl (x := rawInt c) rfl ?_)
  show wpAny _ _ (field (.ref en) 4 >>= _) _ _ ⟨h1, gs, dr, tk, os⟩
  refine wpAny_bind (wpAny_field g1 rfl (x := .none) rfl ?_)
  show wpAny _ _ (mkInt c >>= _) _ _ ⟨h1, gs, dr, tk, os⟩
  refine wpAny_bind (wpAny_mkInt ?_)
  show wpAny _ _ (setField (.ref en) 3 (rawInt (c + 1)) >>= _) _ _ ⟨h1, gs, dr, tk + 1, os⟩
  refine wpAny_bind (wpAny_setField_rec g1 (by simp) fun h2 g2 s2 => ?_)
  replace s2 : Heap.SameBut en h1 h2 := s2
  replace g2 : IsEnum h2 en it (c + 1) old := g2
  show wpAny _ _ (setField (.ref en) 4 .none >>= _) _ _ ⟨h2, gs, dr, tk + 1, os⟩
  refine wpAny_bind (wpAny_setField_rec g2 (by simp) fun h3 g3 s3 => ?_)
  replace s3 : Heap.SameBut en h2 h3 := s3
  replace g3 : IsEnum h3 en it (c + 1) old := g3
  show wpAny _ _ (newTuple [.int c tk, x] >>= _) _ _ ⟨h3, gs, dr, tk + 1, os⟩
  refine wpAny_bind (wpAny_newTuple (hsz := (by show (2 : Nat) ≤ sizeLine; decide)) ?_)
  have g4 : IsEnum (h3.push { cls := .type "tuple", data := .seq #[.int c tk, x] }) en it (c + 1) old := Heap.get?_push_of_some _ g3
  have sz3 : h3.objs.size = h1.objs.size := by rw [s3.1, s2.1]
  have lt : en < h1.objs.size := Heap.lt_size g1
  have t4 : (h3.push { cls := .type "tuple", data := .seq #[.int c tk, x] }).get? h1.objs.size = some { cls := .type "tuple", data := .seq #[.int c tk, x] } := by rw [← sz3]; exact Heap.get?_push_size _ rfl
  have z4 : (h3.push { cls := .type "tuple", data := .seq #[.int c tk, x] }).objs.size = h1.objs.size + 1 := by rw [Heap.size_push, sz3]
  have k4 : ∀ b o, b ≠ en → h1.get? b = some o → (h3.push { cls := .type "tuple", data := .seq #[.int c tk, x] }).get? b = some o := fun b o n e => Heap.get?_push_of_some _ (s3.extBut b o n (s2.extBut b o n e))
  generalize h3.push { cls := .type "tuple", data := .seq #[.int c tk, x] } = h4 at g4 t4 z4 k4
  show wpAny _ _ (Builtin.SmallTypes.ownedTupleIsFree (.ref en) >>= _) _ _ ⟨h4, gs, dr, tk + 1, os⟩
  rw [sz3]
  refine wpAny_bind ?_
  unfold Builtin.SmallTypes.ownedTupleIsFree
  refine wpAny_bind (wpAny_field g4 rfl (x := .none) rfl (wpAny_pure ?_))
  simp only [if_true]
  refine wpAny_bind (wpAny_rule ?_)
  refine wpAny_bind (wpAny_field g4 rfl (x := old) rfl ?_)
  refine wpAny_bind (wpAny_setField_rec g4 (by simp) fun h5 g5 s5 => ?_)
  replace s5 : Heap.SameBut en h4 h5 := s5
  replace g5 : IsEnum h5 en it (c + 1) x := g5
  show wpAny _ _ (Builtin.SmallTypes.ownedTupleHandOut (.ref en) (.ref h1.objs.size) >>= _) _ _ ⟨h5, gs, dr, tk + 1, os⟩
  refine wpAny_bind ?_
  unfold Builtin.SmallTypes.ownedTupleHandOut
  refine wpAny_bind (wpAny_setField_rec g5 (by simp) fun h6 g6 s6 => ?_)
  replace s6 : Heap.SameBut en h5 h6 := s6
  replace g6 : IsEnumOut h6 en it (c + 1) x h1.objs.size := g6
  refine wpAny_setField_rec g6 (by simp) fun h7 g7 s7 => ?_
  replace s7 : Heap.SameBut en h6 h7 := s7
  replace g7 : IsEnumOut h7 en it (c + 1) x h1.objs.size := g7
  have up : ∀ b o, b ≠ en → h4.get? b = some o → h7.get? b = some o := fun b o n e => s7.extBut b o n (s6.extBut b o n (s5.extBut b o n e))
  refine wpAny_bind (wpAny_letGo (wpAny_pure ⟨_, rfl, wpAny_pure (hQ x h1 h7 tk gd kp g7 (up _ _ (Nat.ne_of_gt lt) t4) ?_ fun b o n e => up b o n (k4 b o n e))⟩))
  rw [s7.1, s6.1, s5.1, z4]
theorem en_stop {c : Int} {Q : Option Value → Shared → Prop} (g : IsEnum s.heap en it c old)
    (hn : ∀ (R : Value → Shared → Prop) (E' : Value → Shared → Prop), (∀ h1 tk e, (∀ b o, b ∉ ch → s.heap.get? b = some o → h1.get? b = some o) → (∃ o, h1.get? e = some o ∧ o.cls = .type "StopIteration") → E' (.ref e) { s with heap := h1, toks := tk }) → wpAny (model P w) A.in1 (Builtin.SmallTypes.nextOf (.ref it)) R E' s)
    (hQ : ∀ h1 tk, (∀ b o, b ∉ ch → s.heap.get? b = some o → h1.get? b = some o) → Q none { s with heap := h1, toks := tk }) : wpAny (model P w) A (pyNext (.ref en)) Q E s := by
  have hT : s.TypeIs (.ref en) "enumerate" := ⟨_, g, rfl⟩
  unfold pyNext
  refine wpAny_bind (wpAny_attempt (wpAny_callSpecial?_slot (name := Str.ofString "__next__") hT F.slot_enumerate_next (wpAny_call_entry F.slot_enumerate_next hT F.entry_enumerate_next ?_ (F.args_enumerate_next_1 _))))
  show wpAny _ _ (field (.ref en) 2 >>= _) _ _ _
  refine wpAny_bind (wpAny_field g rfl (x := .ref it) rfl ?_)
  refine wpAny_bind (hn _ _ fun h1 tk e kp ⟨o, ho, hc⟩ => ?_)
  refine wpAny_bind (wpAny_isInstance (T := "StopIteration") (b := true) ⟨o, ho, hc⟩ isSubtype_stop ?_)
  exact wpAny_pure (hQ h1 tk kp)
end
section
variable {P : Program} {w : World} {A : Around} {E : Value → Shared → Prop} {s : Shared} {z TI TO i1 i2 : Addr} {fp1 fp2 : List Addr} {n1 n2 i : Nat} {P1 P2 : Nat → Value → Prop} {St1 St2 : Nat → Heap → Prop} {a1 a2 f0 f1 : Value}
theorem nz_item {Q : Value → Shared → Prop} (S : ZipSep2 z TI TO i1 i2 fp1 fp2) (D1 : Draws P w A.in1 i1 fp1 n1 P1 St1) (D2 : Draws P w A.in1 i2 fp2 n2 P2 St2)
    (hz : ZpAt s.heap z TI TO f0 f1) (hf : ZpF f0 f1) (hTI : IsTupOf2 s.heap TI (.ref i1) (.ref i2)) (hTO : IsTupOf2 s.heap TO a1 a2) (st1 : St1 i s.heap) (st2 : St2 i s.heap) (lt1 : i < n1) (lt2 : i < n2)
    (hQ : ∀ x1 x2 h' tk g0 g1 b1 b2, P1 i x1 → P2 i x2 → ZpAt h' z TI TO g0 g1 → ZpF g0 g1 → IsTupOf2 h' TO b1 b2 → St1 (i + 1) h' → St2 (i + 1) h' → IsTupOf2 h' s.heap.objs.size x1 x2 → h'.objs.size = s.heap.objs.size + 1 →
      (∀ c o, c ≠ z → c ≠ TO → c ≠ i1 → c ≠ i2 → s.heap.get? c = some o → h'.get? c = some o) → Q (.ref s.heap.objs.size) { s with heap := h', toks := tk }) :
    wpAny (model P w) A (Builtin.SmallTypes.nextOf (.ref z)) Q E s := by
  have hT : s.TypeIs (.ref z) "zip" := ⟨_, hz, rfl⟩
  unfold Builtin.SmallTypes.nextOf
  exact wpAny_bind (wpAny_callSpecial?_slot (name := Str.ofString "__next__") hT F.slot_zip_next (wpAny_call_entry F.slot_zip_next hT F.entry_zip_next
    (zn_item S D1 D2 hz hf hTI hTO st1 st2 lt1 lt2 fun x1 x2 h' tk g0 g1 b1 b2 p q u1 u2 u3 u4 u5 u6 u7 u8 => wpAny_pure (hQ x1 x2 h' tk g0 g1 b1 b2 p q u1 u2 u3 u4 u5 u6 u7 u8)) (F.args_zip_next_1 _)))
theorem nz_end {Q : Value → Shared → Prop} (S : ZipSep2 z TI TO i1 i2 fp1 fp2) (D1 : Draws P w A.in1 i1 fp1 n1 P1 St1) (D2 : Draws P w A.in1 i2 fp2 n2 P2 St2)
    (hz : ZpAt s.heap z TI TO f0 f1) (hf : ZpF f0 f1) (hTI : IsTupOf2 s.heap TI (.ref i1) (.ref i2)) (hTO : IsTupOf2 s.heap TO a1 a2) (st1 : St1 i s.heap) (st2 : St2 i s.heap) (le1 : i ≤ n1) (le2 : i ≤ n2) (fin : i = n1 ∨ i = n2)
    (hE : ∀ h' tk e, (∀ c o, c ≠ z → c ≠ TO → c ≠ i1 → c ≠ i2 → s.heap.get? c = some o → h'.get? c = some o) → (∃ o, h'.get? e = some o ∧ o.cls = .type "StopIteration") → E (.ref e) { s with heap := h', toks := tk }) :
    wpAny (model P w) A (Builtin.SmallTypes.nextOf (.ref z)) Q E s := by
  have hT : s.TypeIs (.ref z) "zip" := ⟨_, hz, rfl⟩
  unfold Builtin.SmallTypes.nextOf
  exact wpAny_bind (wpAny_callSpecial?_slot (name := Str.ofString "__next__") hT F.slot_zip_next (wpAny_call_entry F.slot_zip_next hT F.entry_zip_next (zn_end S D1 D2 hz hf hTI hTO st1 st2 le1 le2 fin hE) (F.args_zip_next_1 _)))
end
end Ab

namespace Ab
open PySem PySem.Spec PyProof.Rows L2 RZ
open Sem (wp)
/-! ### a list or a tuple, as a source -/
def SqK (k : Bool) (K : PySem.W.Frag) (H : Hp) (a : Addr) (xs : List V) : Prop := if k = true then SqT K H a xs else SqL K H a xs
def ItAt (k : Bool) (h : Heap) (it a : Addr) (i : Nat) : Prop := if k = true then h.IsTupleIter it a i else h.IsListIter it a i
def HpAt (k : Bool) (h : Heap) (a : Addr) (xs : Array Value) : Prop := if k = true then h.IsTuple a xs else h.IsList a xs
def itObj (k : Bool) (a : Addr) : Obj := if k = true then { cls := .type "tuple_iterator", data := .fields #[.ref a, .int 0 0] } else { cls := .type "list_iterator", data := .fields #[.ref a, .int 0 0] }
theorem ItAt.keep {k : Bool} {h h' : Heap} {it a : Addr} {i : Nat} (x : ItAt k h it a i) (y : ∀ o, h.get? it = some o → h'.get? it = some o) : ItAt k h' it a i := by
  cases k with
  | true => exact Heap.IsTupleIter.at (show h.IsTupleIter it a i from x) y
  | false => exact Heap.IsListIter.at (show h.IsListIter it a i from x) y
theorem ItAt.obj {k : Bool} {h : Heap} {it a : Addr} {i : Nat} (x : ItAt k h it a i) : ∃ o, h.get? it = some o ∧ ∀ v, o.data ≠ .cell v := by
  cases k with
  | true =>
    obtain ⟨o, e, _, d⟩ : h.IsTupleIter it a i := x
    exact ⟨o, e, fun v q => by rw [d] at q; cases q⟩
  | false =>
    obtain ⟨o, e, _, d⟩ : h.IsListIter it a i := x
    exact ⟨o, e, fun v q => by rw [d] at q; cases q⟩
theorem HpAt.keep {k : Bool} {h h' : Heap} {a : Addr} {xs : Array Value} (x : HpAt k h a xs) (y : ∀ o, h.get? a = some o → h'.get? a = some o) : HpAt k h' a xs := by
  cases k with
  | true => exact Heap.IsTuple.at (show h.IsTuple a xs from x) y
  | false => exact Heap.IsList.at (show h.IsList a xs from x) y
theorem HpAt.lt {k : Bool} {h : Heap} {a : Addr} {xs : Array Value} (x : HpAt k h a xs) : a < h.objs.size := by
  cases k with
  | true => obtain ⟨o, e, _⟩ : h.IsTuple a xs := x; exact Heap.lt_size e
  | false => obtain ⟨o, e, _⟩ : h.IsList a xs := x; exact Heap.lt_size e
theorem src_get {X : Cx} {pins : List (Addr × Obj)} {σ : L2.St} {H : Hp} {s : Shared} {k : Bool} {a : Addr} {xs : List V} (I : Inv X pins σ H s) (h : SqK k X.K H a xs) : ∃ its : List Value, Vals xs its ∧ HpAt k s.heap a its.toArray := by
  cases k with
  | true =>
    obtain ⟨its, r, p, _⟩ := I.tuple (show SqT X.K H a xs from h)
    exact ⟨its, r, p⟩
  | false =>
    obtain ⟨its, r, p, _⟩ := I.list (show SqL X.K H a xs from h)
    exact ⟨its, r, p.isList⟩
theorem src_inj {X : Cx} {pins : List (Addr × Obj)} {σ : L2.St} {H : Hp} {s : Shared} {k : Bool} {a : Addr} {xs ys : List V} (I : Inv X pins σ H s) (h : SqK k X.K H a xs) (h' : SqK k X.K H a ys) : xs = ys := by
  cases k with
  | true => exact I.tuple_inj (show SqT X.K H a xs from h) (show SqT X.K H a ys from h')
  | false => exact I.list_inj (show SqL X.K H a xs from h) (show SqL X.K H a ys from h')
theorem src_begins (k : Bool) (a : Addr) (xs : Array Value) : Begins (.ref a) (itObj k a) fun h => HpAt k h a xs := by
  cases k with
  | true => exact begins_tuple a xs
  | false => exact begins_list a xs
theorem src_draws {P : Program} {w : World} {A : Around} (hh : A.handled = none) (k : Bool) (it a : Addr) (ne : a ≠ it) (xs : Array Value) : Draws P w A it [it, a] xs.size (fun i v => xs[i]? = some v) (fun i h => ItAt k h it a i ∧ HpAt k h a xs) := by
  cases k with
  | true => exact Draws.tuple hh it a ne xs
  | false => exact Draws.list hh it a ne xs
/-- an iterator at its i-th place, whether it has ended or not -/
theorem src_any {P : Program} {w : World} {A : Around} (hh : A.handled = none) {k : Bool} {it a : Addr} {i : Nat} {h : Heap} {xs : Array Value} (ne : a ≠ it) (x1 : ItAt k h it a i) (x2 : HpAt k h a xs) :
    ∃ (n : Nat) (Pv : Nat → Value → Prop) (St : Nat → Heap → Prop), Draws P w A it [it, a] n Pv St ∧ St i h ∧ i ≤ n ∧ (xs.size ≤ i → i = n) := by
  by_cases lt : i < xs.size
  · exact ⟨_, _, _, src_draws hh k it a ne xs, ⟨x1, x2⟩, Nat.le_of_lt lt, fun z => absurd lt (Nat.not_lt.mpr z)⟩
  · have hn : xs[i]? = none := Array.getElem?_eq_none_iff.mpr (Nat.not_lt.mp lt)
    refine ⟨i, fun _ _ => False, fun j h => j = i ∧ ItAt k h it a i ∧ HpAt k h a xs, ⟨fun j h ⟨_, y1, _⟩ => let ⟨o, ho, _⟩ := y1.obj; ⟨o, ho⟩, fun j h h' ⟨e, y1, y2⟩ kp => ⟨e, y1.keep fun o q => kp it (by simp) o q, y2.keep fun o q => kp a (by simp) o q⟩,
      fun j t Q E lj ⟨e, _⟩ => absurd lj (by rw [e]; exact Nat.lt_irrefl _), fun t Q E ⟨_, y1, y2⟩ hE => ?_⟩, ⟨rfl, x1, x2⟩, Nat.le_refl _, fun _ => rfl⟩
    cases k with
    | true => exact wpAny_nextOf_tuple_end hh y1 y2 hn hE
    | false => exact wpAny_nextOf_list_end hh y1 y2 hn hE
/-- for (i, (x, y)) in enumerate(zip(a, b)) -/
def IteZ (K : PySem.W.Frag) (k l : Bool) (a b : Addr) : It :=
  ⟨fun i H => ∃ (xs ys : List V) (x y : V), SqK k K H a xs ∧ SqK l K H b ys ∧ xs[i]? = some x ∧ ys[i]? = some y,
    fun i H v H' => ∃ T U x y, v = .ref U ∧ H T = none ∧ upd H T (.tup [x, y]) U = none ∧ H' = upd (upd H T (.tup [x, y])) U (.tup [.int (i : Nat), .ref T]) ∧ (∀ xs, SqK k K H a xs → xs[i]? = some x) ∧ ∀ ys, SqK l K H b ys → ys[i]? = some y,
    fun i H => ∃ xs ys : List V, SqK k K H a xs ∧ SqK l K H b ys ∧ (xs.length ≤ i ∨ ys.length ≤ i)⟩
structure EzSep (en z TI TO i1 i2 a b : Addr) : Prop where
  S : ZipSep2 z TI TO i1 i2 [i1, a] [i2, b]
  ez : en ≠ z
  eT : en ≠ TI
  eO : en ≠ TO
  e1 : en ≠ i1
  e2 : en ≠ i2
  a1 : a ≠ i1
  b2 : b ≠ i2
def EzAt (k l : Bool) (en z TI TO i1 i2 a b : Addr) (i : Nat) (h : Heap) : Prop :=
  (∃ old, IsEnum h en z ((i : Nat) : Int) old) ∧ (∃ f0 f1, ZpAt h z TI TO f0 f1 ∧ ZpF f0 f1) ∧ IsTupOf2 h TI (.ref i1) (.ref i2) ∧ (∃ b1 b2, IsTupOf2 h TO b1 b2) ∧ ItAt k h i1 a i ∧ ItAt l h i2 b i
theorem turn_enZ {P : Program} {w : World} {K : PySem.W.Frag} {elts : List Expr} {kk : Nat} {tpos : Pos} {k l : Bool} {en z TI TO i1 i2 a b : Addr} (D : EzSep en z TI TO i1 i2 a b) :
    Turn P w K (.Tuple elts kk tpos) (IteZ K k l a b) [en, z, TI, TO, i1, i2] en (EzAt k l en z TI TO i1 i2 a b) where
  mem := by simp
  obj := fun i h ⟨⟨old, g⟩, ⟨f0, f1, hz, _⟩, hT, ⟨b1, b2, hO⟩, h1, h2⟩ c hc => by
    rcases (show c = en ∨ c = z ∨ c = TI ∨ c = TO ∨ c = i1 ∨ c = i2 by simpa using hc) with q | q | q | q | q | q
    · rw [q]; exact ⟨_, g, fun v y => nomatch y⟩
    · rw [q]; exact ⟨_, hz, fun v y => nomatch y⟩
    · rw [q]; exact ⟨_, hT, fun v y => nomatch y⟩
    · rw [q]; exact ⟨_, hO, fun v y => nomatch y⟩
    · rw [q]; exact h1.obj
    · rw [q]; exact h2.obj
  keep := fun i h h' ⟨⟨old, g⟩, ⟨f0, f1, hz, hf⟩, hT, ⟨b1, b2, hO⟩, h1, h2⟩ kp =>
    ⟨⟨old, kp en (by simp) _ g⟩, ⟨f0, f1, kp z (by simp) _ hz, hf⟩, kp TI (by simp) _ hT, ⟨b1, b2, kp TO (by simp) _ hO⟩, h1.keep fun o q => kp i1 (by simp) o q, h2.keep fun o q => kp i2 (by simp) o q⟩
  item := by
    intro X hP hw hK hc i pins s σ H E I hf ⟨⟨old, g⟩, ⟨f0, f1, hz, hf01⟩, hT, ⟨b1, b2, hO⟩, h1, h2⟩ ⟨xs, ys, x, y, qx, qy, hx, hy⟩
    subst hP hw hK
    obtain ⟨its, rv, p1⟩ := src_get I qx
    obtain ⟨its2, rv2, p2⟩ := src_get I qy
    obtain ⟨u, hu, ru⟩ := rv.get hx
    obtain ⟨u2, hu2, ru2⟩ := rv2.get hy
    have hh : X.A.in1.in1.handled = none := I.ok.hd hc
    have d1 := src_draws (P := X.prog) (w := X.w) hh k i1 a D.a1 its.toArray
    have d2 := src_draws (P := X.prog) (w := X.w) hh l i2 b D.b2 its2.toArray
    have l1 : i < its.toArray.size := by simpa using (List.getElem?_eq_some_iff.mp hu).1
    have l2 : i < its2.toArray.size := by simpa using (List.getElem?_eq_some_iff.mp hu2).1
    have lte : en < s.heap.objs.size := Heap.lt_size g
    have none_of : ∀ c ∈ [en, z, TI, TO, i1, i2], H c = none := fun c hc => (hf c hc).1
    refine en_next (ch := [z, TO, i1, i2]) (Gd := fun v h' => v = .ref s.heap.objs.size ∧ (∃ g0 g1, ZpAt h' z TI TO g0 g1 ∧ ZpF g0 g1) ∧ (∃ c1 c2, IsTupOf2 h' TO c1 c2) ∧ ItAt k h' i1 a (i + 1) ∧ ItAt l h' i2 b (i + 1) ∧ IsTupOf2 h' s.heap.objs.size u u2 ∧ h'.objs.size = s.heap.objs.size + 1) g
      (by simp [D.ez, D.eO, D.e1, D.e2]) (fun R E' r => ?_) fun v q1 q2 tk ⟨ev, ⟨g0, g1, zz, zf⟩, ⟨c1, c2, zO⟩, t1, t2, tt, sz⟩ kp out tup sz2 kp2 => ?_
    · exact nz_item D.S d1 d2 hz hf01 hT hO ⟨h1, p1⟩ ⟨h2, p2⟩ l1 l2 fun x1 x2 h' tk g0 g1 c1 c2 px py w1 w2 w3 w4 w5 w6 w7 w8 => by
        have ex : x1 = u := by
          have px : its.toArray[i]? = some x1 := px
          have : its[i]? = some x1 := by simpa using px
          rw [hu] at this; exact (Option.some.inj this).symm
        have ey : x2 = u2 := by
          have py : its2.toArray[i]? = some x2 := py
          have : its2[i]? = some x2 := by simpa using py
          rw [hu2] at this; exact (Option.some.inj this).symm
        subst ex ey
        exact r _ h' tk ⟨rfl, ⟨g0, g1, w1, w2⟩, ⟨c1, c2, w3⟩, w4.1, w5.1, w6, w7⟩ fun c o nc e => w8 c o (fun q => nc (by simp [q])) (fun q => nc (by simp [q])) (fun q => nc (by simp [q])) (fun q => nc (by simp [q])) e
    · subst ev
      refine ⟨_, rfl, wpAny_letOwnedTupleGo_enum (s := { s with heap := q2, toks := tk + 1 }) out fun q3 g3 sb => ?_⟩
      have new1 : ObjOk X.prog X.w (upd H s.heap.objs.size (.tup [x, y])) q1 s.heap.objs.size (.tup [x, y]) :=
        ⟨by show 2 ≤ sizeLine; decide, [u, u2], .cons ru (.cons ru2 .nil), ⟨_, tt, rfl, _, rfl⟩⟩
      have I1 : Inv X pins σ (upd H s.heap.objs.size (.tup [x, y])) { s with heap := q1, toks := tk } :=
        I.turnedNew (ch := [z, TO, i1, i2]) kp (fun c hc => hf c (by
          rcases (show c = z ∨ c = TO ∨ c = i1 ∨ c = i2 by simpa using hc) with q | q | q | q <;> simp [q])) (Nat.le_refl _) new1
      have tup3 : q3.get? q1.objs.size = some { cls := .type "tuple", data := .seq #[.int i tk, .ref s.heap.objs.size] } := (sb.2 _ (by rw [sz]; exact fun q => by rw [← q] at lte; exact Nat.lt_irrefl _ (Nat.lt_of_succ_lt lte))).trans tup
      have new2 : ObjOk X.prog X.w (upd (upd H s.heap.objs.size (.tup [x, y])) q1.objs.size (.tup [.int (i : Nat), .ref s.heap.objs.size])) q3 q1.objs.size (.tup [.int (i : Nat), .ref s.heap.objs.size]) :=
        ⟨by show 2 ≤ sizeLine; decide, [.int i tk, .ref s.heap.objs.size], .cons ⟨_, rfl⟩ (.cons rfl .nil), ⟨_, tup3, rfl, _, rfl⟩⟩
      have fe : FpOk X pins (upd H s.heap.objs.size (.tup [x, y])) en := by
        obtain ⟨e0, er⟩ := hf en (by simp)
        exact ⟨by rw [upd_ne (Nat.ne_of_lt lte)]; exact e0, er⟩
      have to3 : ∀ c o, c ≠ en → q1.get? c = some o → q3.get? c = some o := fun c o nc e => (sb.2 c nc).trans (kp2 c o nc e)
      have I2 := I1.turnedNew (t' := tk + 1) (h' := q3) (ch := [en]) (T := q1.objs.size) (fun c o nc e => to3 c o (fun q => nc (by simp [q])) e) (fun c hc => by
        have e : c = en := by simpa using hc
        rw [e]; exact fe) (Nat.le_refl _) new2
      refine ⟨.ref q1.objs.size, _, I2, rfl, ⟨s.heap.objs.size, q1.objs.size, x, y, rfl, I.hok.fresh (Nat.le_refl _), I1.hok.fresh (Nat.le_refl _), rfl, fun zs hz => by rw [src_inj I hz qx]; exact hx, fun zs hz => by rw [src_inj I hz qy]; exact hy⟩, ⟨⟨.ref s.heap.objs.size, ?_⟩, ⟨g0, g1, to3 _ _ D.ez.symm zz, zf⟩, to3 _ _ D.eT.symm (kp _ _ (by simp [D.S.TIz, D.S.TITO, D.S.TIi1, D.S.TIi2]) hT), ⟨c1, c2, to3 _ _ D.eO.symm zO⟩, t1.keep fun o e => to3 _ o D.e1.symm e, t2.keep fun o e => to3 _ o D.e2.symm e⟩, fun c hc => ?_⟩
      · rw [show ((i + 1 : Nat) : Int) = (i : Int) + 1 by omega]; exact g3
      · have lc : c < s.heap.objs.size := by
          rcases (show c = en ∨ c = z ∨ c = TI ∨ c = TO ∨ c = i1 ∨ c = i2 by simpa using hc) with q | q | q | q | q | q
          · rw [q]; exact lte
          · rw [q]; exact Heap.lt_size hz
          · rw [q]; exact Heap.lt_size hT
          · rw [q]; exact Heap.lt_size hO
          · rw [q]; obtain ⟨o, e, _⟩ := h1.obj; exact Heap.lt_size e
          · rw [q]; obtain ⟨o, e, _⟩ := h2.obj; exact Heap.lt_size e
        rw [upd_ne (by rw [sz]; exact Nat.ne_of_lt (Nat.lt_succ_of_lt lc)), upd_ne (Nat.ne_of_lt lc)]
        exact (hf c hc).1
  done := by
    intro X hP hw hK hc i pins s σ H E I hf ⟨⟨old, g⟩, ⟨f0, f1, hz, hf01⟩, hT, ⟨b1, b2, hO⟩, h1, h2⟩ ⟨xs, ys, qx, qy, he⟩
    subst hP hw hK
    obtain ⟨its, rv, p1⟩ := src_get I qx
    obtain ⟨its2, rv2, p2⟩ := src_get I qy
    have hh : X.A.in1.in1.handled = none := I.ok.hd hc
    obtain ⟨n1, P1, St1, d1, t1, le1, f1'⟩ := src_any (P := X.prog) (w := X.w) hh D.a1 h1 p1
    obtain ⟨n2, P2, St2, d2, t2, le2, f2'⟩ := src_any (P := X.prog) (w := X.w) hh D.b2 h2 p2
    have z1 : its.toArray.size = xs.length := by have := rv.length; simp; omega
    have z2 : its2.toArray.size = ys.length := by have := rv2.length; simp; omega
    refine en_stop (ch := [z, TO, i1, i2]) g (fun R E' r => nz_end D.S d1 d2 hz hf01 hT hO t1 t2 le1 le2 (he.imp (fun q => f1' (by rw [z1]; exact q)) fun q => f2' (by rw [z2]; exact q)) fun h' tk e kp st =>
      r h' tk e (fun c o nc y => kp c o (fun q => nc (by simp [q])) (fun q => nc (by simp [q])) (fun q => nc (by simp [q])) (fun q => nc (by simp [q])) y) st) fun h' tk kp => ⟨rfl, ?_⟩
    exact I.turnedL (ch := [z, TO, i1, i2]) kp fun c hc => hf c (by
      rcases (show c = z ∨ c = TO ∨ c = i1 ∨ c = i2 by simpa using hc) with q | q | q | q <;> simp [q])
  self := fun A i s Q E ⟨⟨_, g⟩, _⟩ q => wpAny_pyIter_enum g q
theorem itr_zip (z TI TO : Addr) (f0 : Value) : Itr (.ref z) (fun h => IsZip h z TI TO f0) (fun _ => z) (fun h => h) := ⟨fun P w A E s Q c q => wpAny_pyIter_zip c q⟩
theorem itAt0 {k : Bool} {h : Heap} {it a : Addr} (e : h.get? it = some (itObj k a)) : ItAt k h it a 0 := by
  cases k with
  | true => exact (⟨_, e, rfl, rfl⟩ : h.IsTupleIter it a 0)
  | false => exact (⟨_, e, rfl, rfl⟩ : h.IsListIter it a 0)
def iEnZ (K : PySem.W.Frag) (ta : TA) : TI := fun σ H R => ta σ H fun vs H1 => ∃ a b xs ys k l, vs = [.ref a, .ref b] ∧ SqK k K H1 a xs ∧ SqK l K H1 b ys ∧ R (IteZ K k l a b) H1
theorem pi_enZ {X : Cx} {e e2 : Expr} {ta : TA} {p p2 pos pos2 tpos : Pos} {elts : List Expr} {kk : Nat} (hg : Gl X "enumerate") (hm : X.mg "enumerate" = none) (hgz : Gl X "zip") (hmz : X.mg "zip" = none) (ha : PA X [e, e2] ta)
    (hs : starEach [.Call (.Name "zip" p2) [e, e2] [] pos2] X.env = [(false, eval (.Call (.Name "zip" p2) [e, e2] [] pos2) X.env)] := by rfl) (hs2 : starEach [e, e2] X.env = (false, eval e X.env) :: starEach [e2] X.env := by rfl) (hpl : (backTo pos2 (starEach [e2] X.env)).any (·.1) = false := by rfl) :
    PI X (.Tuple elts kk tpos) (.Call (.Name "enumerate" p) [.Call (.Name "zip" p2) [e, e2] [] pos2] [] pos) (iEnZ X.K ta) := by
  refine ⟨fun pins s σ H R I h => ?_⟩
  refine Call_ (ld_blt I hg hm boot_enumerate (PyProof.Rows.callWith_type1 ?_ hs rfl))
  rw [hs]
  refine Calls.spliced_cons ?_
  refine Call_ (ld_blt I hgz hmz PyProof.Rows.boot_zip (PyProof.Rows.callWith_type1 (thn (ha.run pos2 pins s σ H _ I h) fun us s1 ⟨vs, H1, I1, r1, a, b, xs, ys, k, l, ex, qa, qb, q⟩ => ?_) hs2 hpl))
  subst ex
  cases r1 with
  | cons r rr =>
    cases rr with
    | cons r' rr =>
      cases rr
      cases r
      cases r'
      obtain ⟨its, rv, p1⟩ := src_get I1 qa
      obtain ⟨its2, rv2, p2'⟩ := src_get I1 qb
      refine zip_begins2 (src_begins k a its.toArray) (src_begins l b its2.toArray) p1 p2' fun h' hz hT hO o1 o2 sz old => ?_
      refine Calls.spliced_nil ?_
      refine en_call (itr_zip (s1.heap.objs.size + 4) (s1.heap.objs.size + 2) (s1.heap.objs.size + 3) .none) hz fun h2 eh g => wpAny_pyIter_enum g ?_
      have up : ∀ c o, h'.get? c = some o → h2.get? c = some o := fun c o y => by rw [eh]; exact Heap.get?_push_of_some _ y
      have I2 : Inv X pins σ H1 { s1 with heap := h2 } := I1.kept (t' := s1.toks) fun c o y => up c o (old c o y)
      have la : a < s1.heap.objs.size := p1.lt
      have lb : b < s1.heap.objs.size := p2'.lt
      replace g : IsEnum h2 h'.objs.size (s1.heap.objs.size + 4) 0 .none := g
      rw [sz] at g
      show PIE X pins σ (.Tuple elts kk tpos) R (.ref h'.objs.size) { s1 with heap := h2 }
      rw [sz]
      have D : EzSep (s1.heap.objs.size + 5) (s1.heap.objs.size + 4) (s1.heap.objs.size + 2) (s1.heap.objs.size + 3) s1.heap.objs.size (s1.heap.objs.size + 1) a b :=
        ⟨zip_sep2 (fun c hc => by rw [List.mem_singleton.mp hc]; exact la) (fun c hc => by rw [List.mem_singleton.mp hc]; exact lb), by simp, by simp, by simp, by simp, by simp, Nat.ne_of_lt la, Nat.ne_of_lt (Nat.lt_succ_of_lt lb)⟩
      refine ⟨s1.heap.objs.size + 5, [s1.heap.objs.size + 5, s1.heap.objs.size + 4, s1.heap.objs.size + 2, s1.heap.objs.size + 3, s1.heap.objs.size, s1.heap.objs.size + 1], _, _, H1, rfl, I2, turn_enZ D,
        ⟨⟨.none, g⟩, ⟨.none, .bool false, up _ _ hz, .inl rfl, .inl rfl⟩, up _ _ hT, ⟨_, _, up _ _ hO⟩, itAt0 (up _ _ o1), itAt0 (up _ _ o2)⟩, fun c hc => ?_, q⟩
      have le : s1.heap.objs.size ≤ c := by
        rcases (show c = s1.heap.objs.size + 5 ∨ c = s1.heap.objs.size + 4 ∨ c = s1.heap.objs.size + 2 ∨ c = s1.heap.objs.size + 3 ∨ c = s1.heap.objs.size ∨ c = s1.heap.objs.size + 1 by simpa using hc) with z | z | z | z | z | z
        · rw [z]; exact Nat.le_add_right _ _
        · rw [z]; exact Nat.le_add_right _ _
        · rw [z]; exact Nat.le_add_right _ _
        · rw [z]; exact Nat.le_add_right _ _
        · rw [z]; exact Nat.le_refl _
        · rw [z]; exact Nat.le_add_right _ _
      exact I1.fpOk le (I1.hok.fresh le)
/-! ### the abstract rule -/
def ezW (ws us : List W) : List W := enW (List.zipWith (fun a b => W.tup [a, b]) ws us)
theorem RepL.at2 {K : PySem.W.Frag} {H : Hp} {ws us : List W} {vs xs : List V} {i : Nat} {w : W} (r : RepL K H ws vs) (r' : RepL K H us xs) (e : (ezW ws us)[i]? = some w) : ∃ a b x y, w = .tup [.int i, .tup [a, b]] ∧ vs[i]? = some x ∧ xs[i]? = some y ∧ Rep K H a x ∧ Rep K H b y := by
  obtain ⟨u, eu, rfl⟩ := enW_get e
  rw [List.getElem?_zipWith] at eu
  cases ea : ws[i]? with
  | none => rw [ea] at eu; simp at eu
  | some a =>
    cases eb : us[i]? with
    | none => rw [ea, eb] at eu; simp at eu
    | some b =>
      rw [ea, eb] at eu
      have eu : W.tup [a, b] = u := by simpa using eu
      obtain ⟨x, ex, rx⟩ := r.get ea
      obtain ⟨y, ey, ry⟩ := r'.get eb
      exact ⟨a, b, x, y, by rw [← eu], ex, ey, rx, ry⟩
theorem gives_enZ {K : PySem.W.Frag} {H : Hp} {k l : Bool} {a b : Addr} {ws us : List W} {vs xs : List V} (ka : ∀ H', Keeps H H' → SqK k K H' a vs) (kb : ∀ H', Keeps H H' → SqK l K H' b xs) (r : RepL K H ws vs) (r' : RepL K H us xs) : Gives K (IteZ K k l a b) H (ezW ws us) := fun H' kk i => by
  refine ⟨fun h => ⟨vs, xs, ka _ kk, kb _ kk, ?_⟩, fun w e => ?_⟩
  · have z : (ezW ws us).length = min ws.length us.length := by unfold ezW; rw [enW_len, List.length_zipWith]
    rw [z] at h
    rw [← r.length, ← r'.length]
    omega
  · obtain ⟨wa, wb, x, y, rfl, ex, ey, rx, ry⟩ := r.at2 r' e
    refine ⟨⟨vs, xs, x, y, ka _ kk, kb _ kk, ex, ey⟩, fun v H2 ⟨T, U, x', y', ev, nT, nU, e2, fx, fy⟩ => ?_⟩
    have e3 : x' = x := Option.some.inj ((fx _ (ka _ kk)).symm.trans ex)
    have e4 : y' = y := Option.some.inj ((fy _ (kb _ kk)).symm.trans ey)
    subst e3 e4 ev e2
    have n1 : New H' (upd H' T (.tup [x', y'])) := New.upd nT
    have n2 : New (upd H' T (.tup [x', y'])) (upd (upd H' T (.tup [x', y'])) U (.tup [.int (i : Nat), .ref T])) := New.upd nU
    have n3 : New H' (upd (upd H' T (.tup [x', y'])) U (.tup [.int (i : Nat), .ref T])) := fun p o q => n2 p o (n1 p o q)
    refine ⟨n3, .tup (.inl (.inl upd_same)) (.cons .int (.cons (.tup (.inl (.inl (n2 _ _ upd_same))) (.cons (Rep.mono (kk.trans n3.keeps) _ _ rx) (.cons (Rep.mono (kk.trans n3.keeps) _ _ ry) .nil))) .nil))⟩
def W.items : W → Option (List W)
  | .tup xs => some xs
  | .lst xs => some xs
  | _ => none
def iEz (t : AAT) : AIT := fun env h Q => t env h fun ws env' h' => match ws with
  | [a, b] => match a.items, b.items with
    | some xs, some ys => Q (ezW xs ys) env' h'
    | _, _ => False
  | _ => False
theorem Rep.sqk {K : PySem.W.Frag} {H : Hp} : ∀ {w : W} {ws : List W} {v : V}, Rep K H w v → w.items = some ws → ∃ k a vs, v = .ref a ∧ (∀ H', Keeps H H' → SqK k K H' a vs) ∧ RepL K H ws vs
  | .tup xs, ws, v, r, e => by
    cases e
    obtain ⟨a, vs, ev, hq, rl⟩ := Rep.of_tup r
    exact ⟨true, a, vs, ev, fun H' k => k.sqT hq, rl⟩
  | .lst xs, ws, v, r, e => by
    cases e
    obtain ⟨a, vs, ev, hq, rl⟩ := Rep.of_lst r
    exact ⟨false, a, vs, ev, fun H' k => (k.lsF hq).sq, rl⟩
  | .non, _, _, _, e => by cases e
  | .bl _, _, _, _, e => by cases e
  | .int _, _, _, _, e => by cases e
  | .str _, _, _, _, e => by cases e
  | .dct _ _, _, _, _, e => by cases e
  | .ref _, _, _, _, e => by cases e
  | .ty _, _, _, _, e => by cases e
section
variable {X : Cx} {G : Gx} {e e2 : Expr} {ta : AAT} {p p2 pos pos2 tpos : Pos} {elts : List Expr} {kk : Nat}
theorem iEz.mono (m : Mono ta) : Mono (iEz ta) := fun env h Q Q' k q => m env h _ _ (fun ws e g z => by
  split at z
  · split at z
    · exact k _ _ _ z
    · exact z
  · exact z) q
theorem ai_enz (gk : G.K = X.K) (hg : Gl X "enumerate") (hm : X.mg "enumerate" = none) (hgz : Gl X "zip") (hmz : X.mg "zip" = none) (ha : AA X G [e, e2] ta)
    (hs : starEach [.Call (.Name "zip" p2) [e, e2] [] pos2] X.env = [(false, eval (.Call (.Name "zip" p2) [e, e2] [] pos2) X.env)] := by rfl) (hs2 : starEach [e, e2] X.env = (false, eval e X.env) :: starEach [e2] X.env := by rfl) (hpl : (backTo pos2 (starEach [e2] X.env)).any (·.1) = false := by rfl) :
    AI X G (.Tuple elts kk tpos) (.Call (.Name "enumerate" p) [.Call (.Name "zip" p2) [e, e2] [] pos2] [] pos) (iEz ta) := by
  refine ⟨iEz.mono ha.mono, PI.imp (pi_enZ hg hm hgz hmz ha.pa hs hs2 hpl) fun σ H R ⟨env, h, S, q⟩ => ⟨env, h, S, ha.mono env h _ _ (fun ws env1 h1 z vs H1 S1 x1 r1 => ?_) q⟩⟩
  split at z
  · rename_i wa wb
    split at z
    · rename_i xs ys ea eb
      obtain ⟨v1, t, rfl, a1, b1⟩ := r1.of_cons
      obtain ⟨v2, t, rfl, a2, b2⟩ := b1.of_cons
      rw [b2.of_nil]
      obtain ⟨k, a, us1, rfl, q1, rl1⟩ := Rep.sqk a1 ea
      obtain ⟨l, b, us2, rfl, q2, rl2⟩ := Rep.sqk a2 eb
      exact ⟨a, b, us1, us2, k, l, rfl, gk ▸ q1 _ (Keeps.refl _), gk ▸ q2 _ (Keeps.refl _), z _ H1 S1 x1 (gk ▸ gives_enZ q1 q2 rl1 rl2)⟩
    · exact z.elim
  · exact z.elim
end
end Ab

namespace Ab
open PySem PySem.Spec PyProof.Rows L2 RZ
/-! ### a product of ints, or a new list so many times -/
def oMul : Op2 := fun a b Q => match b with
  | .wv (.int j) => match a with
    | .wv (.int i) => CMulW i j ∧ Q (.val (.int (i * j)))
    | .cv (.seq xs) => (-(2 ^ 63) ≤ j ∧ j < 2 ^ 63 ∧ xs.length * j.toNat ≤ sizeLine) ∧ Q (.own (.seq (List.replicate j.toNat xs).flatten))
    | _ => False
  | _ => False
theorem opa_mul {K : PySem.W.Frag} : OpA K (fun x y H Q => rI CMulW (fun i j => .int (i * j)) x y H Q ∨ rRep x y H Q) oMul :=
  ⟨fun a b Q Q' k q => by
    unfold oMul at q ⊢
    split at q
    · split at q
      · exact ⟨q.1, k _ q.2⟩
      · exact ⟨q.1, k _ q.2⟩
      · exact q
    · exact q, fun a b x y H Q0 Q ra rb q k => by
    unfold oMul at q
    split at q
    · rename_i j
      have ey : y = .int j := rb.int
      split at q
      · rename_i i
        have ex : x = .int i := ra.int
        exact .inl ⟨i, j, ex, ey, q.1, k _ _ (.val q.2 .int)⟩
      · rename_i xs
        obtain ⟨p, ex, vs, l, rl⟩ := ra
        refine .inr ⟨p, j, vs, ex, ey, l, q.1.1, q.1.2.1, by rw [← rl.length]; exact q.1.2.2, fun p' n => k _ _ (.lst n q.2 (rl.rep _))⟩
      · exact q.elim
    · exact q.elim⟩
section
variable {X : Cx} {G : Gx} {a b : Expr} {ta tb : AT} {pos : Pos}
theorem ae_mul (ha : AE X G a ta) (hb : AE X G b tb) : AE X G (.BinOp a .Mult b pos) (aOp2 oMul ta tb) := ae_op (op_mulW.or op_rep) opa_mul ha hb
end
/-! ### x[i] += e -/
def rGetN (K : PySem.W.Frag) : V → V → Hp → VK → Prop := fun x y H Q => ∃ p xs k z, x = .ref p ∧ y = .int k ∧ SqL K H p xs ∧ 0 ≤ k ∧ k < 2 ^ 63 ∧ xs[k.toNat]? = some z ∧ Q z H
theorem get_listN {X : Cx} : PGet X (rGetN X.K) := by
  intro pins s σ H o i ov iv Q I ro ri h
  obtain ⟨p, xs, k, z, rfl, rfl, hq, k0, k1, he, q⟩ := h
  cases ro
  obtain ⟨t, rfl⟩ := ri
  obtain ⟨its, r, pl, hz⟩ := I.list hq
  obtain ⟨w, ew, rw'⟩ := r.get he
  exact wpAny_getItem_list pl.isList k0 k1 (by simpa using ew) ⟨z, H, I, rw', q⟩
def aAugS (f : Int → Int → Int) (to ti te : AT) : ATS := fun D env h => to env h fun ro env1 h1 => ti env1 h1 fun ri env2 h2 => match view env2 h2 ri with
  | .wv (.int k) => (0 ≤ k ∧ k < 2 ^ 62) ∧ (match plc env2 h2 ro with
    | some (.seq xs) => (match xs[k.toNat]? with
      | some (.int x) => te env2 h2 fun re env3 h3 => (match view env3 h3 re with
        | .wv (.int y) => (match plc env3 h3 ro with
          | some (.seq ys) => k.toNat < ys.length ∧ D.nx (putE env3 ro (.seq (ys.set k.toNat (.int (f x y))))) (putH h3 ro (.seq (ys.set k.toNat (.int (f x y)))))
          | _ => False)
        | _ => False)
      | _ => False)
    | _ => False)
  | _ => False
section
variable {X : Cx} {G : Gx} {o i e : Expr} {to ti te : AT} {tpos pos : Pos} {op : Operator} {f : Int → Int → Int}
theorem aAugS.mono (mo : Mono to) (mi : Mono ti) (me : Mono te) : MonoS (aAugS f to ti te) := fun D D' env h l q => mo env h _ _ (fun ro e g z => mi e g _ _ (fun ri e g z => by
  split at z
  · refine ⟨z.1, ?_⟩
    have z := z.2
    split at z
    · split at z
      · refine me e g _ _ (fun re e g z => ?_) z
        split at z
        · split at z
          · exact ⟨z.1, l.nx _ _ z.2⟩
          · exact z
        · exact z
      · exact z
    · exact z
  · exact z) z) q
theorem as_augS (hp : PIp X op (ipI f)) (ho : AE X G o to) (hi : AE X G i ti) (he : AE X G e te)
    (ha : ∀ ov iv new, augStore i ov iv new = (do holding [new, ov, iv] (setItem ov iv new); release [new, ov, iv] []; pure .next) := by intros; rfl) : AS X G (.AugAssign (.Subscript o i tpos) op e pos) (aAugS f to ti te) := by
  refine ⟨aAugS.mono ho.mono hi.mono he.mono, PS.imp (ps_augS ho.pe hi.pe get_listN he.pe hp set_list ha) fun D σ H ⟨env, h, Da, S, q, l⟩ => ?_⟩
  refine ⟨env, h, S, ho.mono env h _ _ (fun ro env1 h1 z x H1 S1 x1 r1 f1 => ?_) q⟩
  refine ⟨env1, h1, S1, hi.mono env1 h1 _ _ (fun ri env2 h2 z y H2 S2 x2 r2 f2 => ?_) z⟩
  have ry := r2.vr S2
  split at z
  · rename_i k ek
    rw [ek] at ry
    obtain ⟨⟨k0, k1⟩, z⟩ := z
    have ey : y = .int k := ry.int
    split at z
    · rename_i xs ex
      obtain ⟨p, rfl, ⟨us, lu, rl⟩, _⟩ := put_ok S2 (r1.xt S1 x2) ex
      split at z
      · rename_i a ea
        obtain ⟨va, eva, rva⟩ := rl.get ea
        refine ⟨p, us, k, va, rfl, ey, .inl (.inl lu), k0, by omega, eva, env2, h2, S2, he.mono env2 h2 _ _ (fun re env3 h3 z w H3 S3 x3 r3 f3 => ?_) z⟩
        have rw3 := r3.vr S3
        split at z
        · rename_i y3 ey3
          rw [ey3] at rw3
          split at z
          · rename_i ys eys
            obtain ⟨p', ep, ⟨us3, lu3, rl3⟩, put⟩ := put_ok S3 (((r1.xt S1 x2)).xt S2 x3) eys
            cases ep
            obtain ⟨lt, z⟩ := z
            refine ⟨a, y3, rva.of_int, rw3.int, p, us3, k, k.toNat, rfl, ey, lu3, ?_, ?_⟩
            · have e1 : us3.length = ys.length := rl3.length.symm
              unfold ixN
              rw [if_pos k0, if_pos (by rw [e1]; omega)]
            · obtain ⟨S4, x4⟩ := put (.lst (us3.set k.toNat (.int (f a y3)))) (.seq (ys.set k.toNat (.int (f a y3)))) fun kk => ⟨_, upd_same, RepL.mono kk _ _ (rl3.set _ .int)⟩
              exact l.nx _ _ _ _ S4 ((x1.keeps S).trans ((x2.keeps S1).trans ((x3.keeps S2).trans (x4.keeps S3)))) z
          · exact z.elim
        · exact z.elim
      · exact z.elim
    · exact z.elim
  · exact z.elim
end
/-! ### list(range(..)) -/
section
variable {X : Cx} {G : Gx} {a b : Expr} {ta tb : AT} {pos p p2 pos2 : Pos}
def aLRg1 (ta : AT) : AT := fun env h Q => ta env h fun r env1 h1 => match view env1 h1 r with
  | .wv (.int n) => (0 ≤ n ∧ n ≤ 16777216) ∧ Q (.own (.seq (rngW 0 n.toNat))) env1 h1
  | _ => False
theorem ints_rep {K : PySem.W.Frag} {H : Hp} : ∀ is : List Nat, RepL K H (is.map fun (i : Nat) => W.int (0 + (i : Int))) (is.map fun (i : Nat) => V.int (0 + (i : Int)))
  | [] => .nil
  | i :: is => .cons .int (ints_rep is)
theorem rgV_rep {K : PySem.W.Frag} {H : Hp} {n : Int} : RepL K H (rngW 0 n.toNat) (rgV 0 n) := by
  unfold rngW rgV
  rw [Int.sub_zero]
  exact ints_rep _
theorem ae_lrg1 (hc : X.calm = true) (hg : Gl X "list") (hm : X.mg "list" = none) (hgr : Gl X "range") (hmr : X.mg "range" = none) (ha : AE X G a ta)
    (na : starEach [.Call (.Name "range" p2) [a] [] pos2] X.env = (false, eval (.Call (.Name "range" p2) [a] [] pos2) X.env) :: starEach [] X.env := by rfl) (na2 : starEach [a] X.env = (false, eval a X.env) :: starEach [] X.env := by rfl) :
    AE X G (.Call (.Name "list" p) [.Call (.Name "range" p2) [a] [] pos2] [] pos) (aLRg1 ta) := by
  refine ⟨fun env h Q Q' k q => ha.mono env h _ _ (fun r e g z => ?_) q, PE.imp (pe_listRg hc hg hm (prg_1 hgr hmr ha.pe na2) na) fun σ H Q ⟨env, h, S, q⟩ => ⟨env, h, S, ha.mono env h _ _ (fun r env1 h1 z v H1 S1 x1 r1 f1 => ?_) q⟩⟩
  · split at z
    · exact ⟨z.1, k _ _ _ z.2⟩
    · exact z
  · have rv := r1.vr S1
    split at z
    · rename_i n en
      rw [en] at rv
      obtain ⟨⟨n0, n1⟩, z⟩ := z
      refine ⟨n, rv.int, .of_le (by omega) (by omega) (by omega) n0, fun p hp => ?_⟩
      have nw : New H1 (upd H1 p (.lst (rgV 0 n))) := New.upd hp
      obtain ⟨g1, g2, g3⟩ := S1.noAt hp
      exact z (.ref p) _ (nw.bs S1) (x1.trans nw.xt) ⟨p, rfl, ⟨_, upd_same, rgV_rep⟩, g1, g2, g3⟩ fun p' e' => by cases e'; exact x1.fresh hp
    · exact z.elim
end
/-! ### xs.extend(a new list) -/
def aExt (to te : AT) : AT := fun env h Q => to env h fun ro env1 h1 => isSeq (plc env1 h1 ro) ∧ te env1 h1 fun re env2 h2 => match view env2 h2 re with
  | .cv (.seq ys) => (match plc env2 h2 ro with
    | some (.seq xs) => xs.length + ys.length ≤ sizeLine ∧ Q (.val .non) (putE env2 ro (.seq (xs ++ ys))) (putH h2 ro (.seq (xs ++ ys)))
    | _ => False)
  | _ => False
section
variable {X : Cx} {G : Gx} {o e : Expr} {to te : AT} {apos cpos : Pos}
theorem aExt.mono (mo : Mono to) (me : Mono te) : Mono (aExt to te) := fun env h Q Q' k q => mo env h _ _ (fun ro e g ⟨i, z⟩ => ⟨i, me e g _ _ (fun re e g z => by
  split at z
  · split at z
    · exact ⟨z.1, k _ _ _ z.2⟩
    · exact z
  · exact z) z⟩) q
theorem ae_ext (ho : AE X G o to) (he : AE X G e te)
    (hbase : attributeBase o "extend" X.env (eval o X.env) = eval o X.env := by rfl)
    (hfew : ((backTo cpos (starEach [e] X.env)).all (fun x => !x.1) && (backToKw cpos (keywordEach [] X.env)).all (fun x => x.1.isSome)
      && decide ([e].length + ([] : List Keyword).length + (if ([] : List Keyword).isEmpty then 0 else 1) < 30)) = true := by rfl)
    (hline : (apos.endLine == cpos.line) = true := by rfl) (hs : starEach [e] X.env = (false, eval e X.env) :: starEach [] X.env := by rfl) (hplain : (backTo cpos (starEach [] X.env)).any (·.1) = false := by rfl) :
    AE X G (.Call (.Attribute o "extend" apos) [e] [] cpos) (aExt to te) := by
  refine ⟨aExt.mono ho.mono he.mono, PE.imp (pe_bm PySem.F.plainAttrs_list PySem.F.slot_list_extend PySem.F.type_list_extend mt_extend ho.pe (ar_cons (es := []) he ar_nil hs).pa hbase hfew hline hs hplain) fun σ H Q ⟨env, h, S, q⟩ => ?_⟩
  refine ⟨env, h, S, ho.mono env h _ _ (fun ro env1 h1 ⟨is, z⟩ x H1 S1 x1 r1 f1 => ?_) q⟩
  have ty : tyV X.K "list" x H1 := by
    cases e : plc env1 h1 ro with
    | none => rw [e] at is; exact is.elim
    | some c =>
      cases c with
      | map _ => rw [e] at is; exact is.elim
      | seq xs =>
        obtain ⟨p, rfl, ⟨vs, l, _⟩, _⟩ := put_ok S1 r1 e
        exact .inl ⟨rfl, _, .inl (.inl l)⟩
  refine ⟨ty, env1, h1, S1, he.mono env1 h1 _ _ (fun re env2 h2 z vs H2 S2 x2 r2 => ?_) z⟩
  cases r2 with
  | cons rb rr =>
    cases rr
    have rv := rb.vr S2
    split at z
    · rename_i ys ey
      rw [ey] at rv
      obtain ⟨b, rfl, vb, lb, rlb⟩ := rv
      split at z
      · rename_i xs ex
        obtain ⟨p, rfl, ⟨us, lu, rlu⟩, put⟩ := put_ok S2 (r1.xt S1 x2) ex
        refine ⟨p, b, us, vb, rfl, rfl, lu, lb, by rw [← rlu.length, ← rlb.length]; exact z.1, ?_⟩
        obtain ⟨S3, x3⟩ := put (.lst (us ++ vb)) (.seq (xs ++ ys)) fun kk => ⟨_, upd_same, RepL.mono kk _ _ (rlu.append rlb)⟩
        exact z.2 .non _ S3 (x1.trans (x2.trans x3)) (show Rep G.K _ _ _ from .non) trivial
      · exact z.elim
    · exact z.elim
end
end Ab

namespace Ab
open PySem PySem.Spec PyProof.Rows L2 RZ
/-! ### name = [..] on one line, the name a local -/
def aSetLc (i : Nat) (t : AT) : ATS := fun D env h => t env h fun r env1 h1 => match r with
  | .own c => D.nx (env1.set i (some (.own c))) h1
  | _ => False
section
variable {X : Cx} {G : Gx} {i : Nat} {y : Str} {py : Pos} {elt tg iter : Expr} {ifs : List Expr} {scope : Scope} {own : List (Str × Nat)} {pos spos : Pos} {ti : AIT} {g : AGT} {tt : ABT} {te : AVT} {sl : List Nat}
theorem as_setLc (hc : X.calm = true) (hN : X.N.Nodup) (hy : X.N[i]? = some y) (hk : X.env.scope.kind = .function) (hyl : X.env.scope.names.lookup y = some .local) (hi : AI X G tg iter ti) (ok : BlkOk X.N X.env.scope scope own) (hsl : ∀ i ∈ sl, i ∈ own.map (·.2))
    (hg : ∀ (s : Shared) (H : Hp) (C : Addr) (cl : List (Str × Addr)) (fp : List Addr), AG (X.blk s H scope (compEnvC scope cl C X.env) fp) G tg sl g) (ht : ∀ (s : Shared) (H : Hp) (C : Addr) (cl : List (Str × Addr)) (fp : List Addr), APs (X.blk s H scope (compEnvC scope cl C X.env) fp) G ifs tt)
    (he : ∀ (s : Shared) (H : Hp) (C : Addr) (cl : List (Str × Addr)) (fp : List Addr), AV (X.blk s H scope (compEnvC scope cl C X.env) fp) G elt te)
    (hl : (py.line == pos.line) = true := by rfl) (hany : (scope.names.any fun (n, k) => n == y && (k == .local || k == .cell)) = false := by rfl) (hs : ∀ x, foldedSetIterable iter X.env x = pure x := by intro _; rfl) :
    AS X G (.Assign [.Name y py] (.ListComp elt [⟨tg, iter, ifs, 0⟩] scope pos) spos) (aSetLc i (aLc (own.map (·.2)) ti g tt te)) := by
  have mg := (hg X.s_0 X.H_0 0 [] []).mono
  have mt := (ht X.s_0 X.H_0 0 [] []).mono
  have me := (he X.s_0 X.H_0 0 [] []).mono
  have mo : Mono (aLc (own.map (·.2)) ti g tt te) := fun env h Q Q' k q => hi.mono env h _ _ (fun ws e1 h1 z => lcLoop.mono mg mt me (fun a e h q => k _ _ _ q) ws [] e1 h1 z) q
  refine ⟨fun D D' env h l q => mo env h _ _ (fun r e k z => ?_) q, PS.imp (ps_setLc hc hN hy hyl (sw_true hk hyl hl hany) hi.pi ok (fun s H C cl fp => (hg s H C cl fp).pg) (fun s H C cl fp => (ht s H C cl fp).pts) (fun s H C cl fp => (he s H C cl fp).pe) hs) fun D σ H ⟨env, h, Da, S, q, l⟩ => ?_⟩
  · split at z
    · exact l.nx _ _ z
    · exact z
  · refine lc_step hi hsl mg mt me ⟨env, h, S, mo env h _ _ (fun r env1 h1 z v H1 S1 x1 r1 f1 => ?_) q⟩
    split at z
    · exact l.nx _ _ _ _ (S1.set i r1 trivial) (x1.keeps S) z
    · exact z.elim
end
end Ab

namespace Ab
open PySem PySem.Spec PyProof.Rows L2 RZ
/-! ### (a, b, ..) = a tuple or a list of that length -/
def gUn (n : Nat) (u : AGTs) : AGT := fun w env h Q => match w with
  | .tup ws => ws.length = n ∧ u ws env h Q
  | .lst ws => ws.length = n ∧ u ws env h Q
  | _ => False
section
variable {X : Cx} {G : Gx} {es : List Expr} {k n : Nat} {u : AGTs} {sl : List Nat} {pos : Pos}
theorem PG.or {tg : Expr} {t t' : TG} (a : PG X tg t) (b : PG X tg t') : PG X tg (fun v σ H Q => t v σ H Q ∨ t' v σ H Q) := ⟨fun pins s σ H v u Q I r q => q.elim (fun z => a.run pins s σ H v u Q I r z) fun z => b.run pins s σ H v u Q I r z⟩
theorem ag_un (gk : G.K = X.K) (hc : X.calm = true) (b : AGs X G es sl u)
    (hn : (assignEach es X.env).length = n := by rfl) (hst : (assignEach es X.env).findIdx? (·.1) = none := by rfl) : AG X G (.Tuple es k pos) sl (gUn n u) := by
  refine ⟨fun w env h Q Q' k q => ?_, PG.imp (PG.or (pg_tup hc b.pg hn hst) (pg_lst hc b.pg hn hst)) fun v σ H Q ⟨w, env, h, r, S, q⟩ => ?_⟩
  · unfold gUn at q ⊢
    split at q
    · exact ⟨q.1, b.mono _ _ _ _ _ k q.2⟩
    · exact ⟨q.1, b.mono _ _ _ _ _ k q.2⟩
    · exact q
  · unfold gUn at q
    split at q
    · rename_i ws
      obtain ⟨a, vs, rfl, hq, rl⟩ := Rep.of_tup (K := G.K) (H := H) r
      exact .inl ⟨a, vs, rfl, gk ▸ hq, by rw [← rl.length]; exact q.1, ws, env, h, rl, S, q.2⟩
    · rename_i ws
      obtain ⟨a, vs, rfl, hq, rl⟩ := Rep.of_lst (K := G.K) (H := H) r
      exact .inr ⟨a, vs, rfl, hq.sq, by rw [← rl.length]; exact q.1, ws, env, h, rl, S, q.2⟩
    · exact q.elim
end
end Ab

/-! Ab24: a tuple so many times, also once and not at all. -/
namespace Ab
open PySem PySem.Spec PyProof.Rows L2 RZ
section
variable (l : Addr) (items : Array Value) (n : Nat) (dd : Option Addr) (sl : Array (Option Value)) (x : Int) (u : Tok)
abbrev tupO : Obj := { cls := .type "tuple", dict := dd, data := .seq items n, slots := sl }
theorem tup_once (u : Tok) : Meets (Builtin.«tuple.__mul__» ⟨[.ref l, .int 1 u], []⟩)
    (fun _ R s => s.heap.get? l = some (tupO items n dd sl) ∧ R (.ok (.ret (Value.ref l))) s) :=
  .of_wp fun prog w A R s h => by
    obtain ⟨hp, g, d, tk, os⟩ := s
    obtain ⟨hl, h⟩ := h
    have f1 := AutoSeq1.idx_int
    have c0 : (decide ((1 : Int) < -(2 ^ 63)) || decide ((1 : Int) ≥ 2 ^ 63)) = false := by decide
    have c1 : (items.isEmpty || (1 : Int) == 1) = true := by simp
    wp_walk using wpAny_loadPart' hl
    repeat (first
      | (apply wpAny_ite_false (decide_eq_false (by rw [c0]; decide)); wp_walk using wpAny_loadPart' hl)
      | (apply wpAny_ite_true (decide_eq_true c1); wp_walk using wpAny_loadPart' hl))
    all_goals first | exact ⟨_, rfl, h⟩ | skip
theorem tup_none (hx : x ≤ 0) (hx2 : -(2 ^ 63) ≤ x) (hi : items.isEmpty = false) : Meets (Builtin.«tuple.__mul__» ⟨[.ref l, .int x u], []⟩)
    (fun _ R s => s.heap.get? l = some (tupO items n dd sl) ∧
      R (.ok (.ret (Value.ref s.heap.objs.size))) { s with heap := s.heap.push { cls := Value.type "tuple", data := Data.seq #[] }, toks := s.toks }) :=
  .of_wp fun prog w A R s h => by
    obtain ⟨hp, g, d, tk, os⟩ := s
    obtain ⟨hl, h⟩ := h
    have f1 := AutoSeq1.idx_int
    have c0 : (decide (x < -(2 ^ 63)) || decide (x ≥ 2 ^ 63)) = false := by
      rw [decide_eq_false (by omega), decide_eq_false (by omega)]
      rfl
    have c1 : (items.isEmpty || x == 1) = false := by
      rw [hi, Bool.false_or]
      exact beq_eq_false_iff_ne.mpr (by omega)
    have c2 : (decide (x ≤ 0) || items.isEmpty) = true := by
      rw [decide_eq_true hx]
      rfl
    wp_walk using wpAny_loadPart' hl
    repeat (first
      | (apply wpAny_ite_false (decide_eq_false (by rw [c0]; decide)); wp_walk using wpAny_loadPart' hl)
      | (apply wpAny_ite_false (decide_eq_false (by rw [c1]; decide)); wp_walk using wpAny_loadPart' hl)
      | (apply wpAny_ite_true (decide_eq_true c2); wp_walk using wpAny_loadPart' hl))
    all_goals first | exact ⟨_, rfl, h⟩ | skip
end
def rRepA (K : PySem.W.Frag) : R2 := fun x y H Q => ∃ l k xs, x = .ref l ∧ y = .int k ∧ SqT K H l xs ∧ xs ≠ [] ∧ -(2 ^ 63) ≤ k ∧ k ≤ 1000 ∧ xs.length ≤ 1000 ∧
  (k = 1 → Q (.ref l) H) ∧ (k ≠ 1 → ∀ p, H p = none → Q (.ref p) (upd H p (.tup (List.replicate k.toNat xs).flatten)))
theorem op_repA {X : Cx} : OpR X (binaryOp .Mult) (rRepA X.K) := by
  intro pins s σ H x y v u Q I rx ry h
  obtain ⟨l, k, xs, rfl, rfl, hT, hne, h1, h2, hz, q1, q⟩ := h
  by_cases k2 : 2 ≤ k
  · exact op_repT pins s σ H _ _ v u Q I rx ry ⟨l, k, xs, rfl, rfl, hT, hne, k2, h2, hz, q (by omega)⟩
  cases rx
  obtain ⟨t, rfl⟩ := ry
  obtain ⟨its, r, ⟨⟨cls, dd, data, sl⟩, ho, hc, n, hd⟩, hs⟩ := I.tuple hT
  simp only at hc hd
  subst hc hd
  have hle : its.length = xs.length := r.length.symm
  have hi : its.toArray.isEmpty = false := by
    cases its with
    | nil => exact absurd (List.eq_nil_of_length_eq_zero hle.symm) hne
    | cons a b => rfl
  have road : ∀ {R : Value → Shared → Prop} {E : Value → Shared → Prop}, wpAny (model X.prog X.w) X.A (call (.builtin "tuple.__mul__") [.ref l, .int k t]) R E s → wpAny (model X.prog X.w) X.A (binaryOp .Mult (.ref l) (.int k t)) R E s := fun {R E} z =>
    wpAny_binaryOp_repeat_ref (T := "tuple") (U := "int") (by decide) ⟨_, ho, rfl⟩ (fun s' => typeIs_int s' k t) noFill_tuple_mul F.fills_int_mul F.slot_int_rmul repeat_tuple F.slot_int_index.lookup
      (call_meets F.slot_int_rmul (typeIs_int s k t) F.entry_int_rmul (F.args_int_rmul_2 _ _) (int_rmul_tuple k t l its.toArray n dd sl) ⟨ho, rfl, ⟨_, ho, rfl⟩, z⟩)
  by_cases k1 : k = 1
  · subst k1
    exact road (call_meets F.slot_tuple_mul ⟨_, ho, rfl⟩ F.entry_tuple_mul (F.args_tuple_mul_2 _ _) (tup_once l its.toArray n dd sl t) ⟨ho, .ref l, H, I, rfl, q1 rfl⟩)
  · refine road (call_meets F.slot_tuple_mul ⟨_, ho, rfl⟩ F.entry_tuple_mul (F.args_tuple_mul_2 _ _) (tup_none l its.toArray n dd sl k t (by omega) h1 hi) ⟨ho, ?_⟩)
    have ek : k.toNat = 0 := by omega
    have z := q k1 s.heap.objs.size (I.hok.fresh (Nat.le_refl _))
    rw [ek] at z
    exact ⟨.ref s.heap.objs.size, _, I.laid (t' := s.toks) (o := .tup []) (fun b ob q => Heap.get?_push_of_some _ q) (Nat.le_refl _) ⟨by decide, _, .nil, IsTup.new _ _⟩, rfl, z⟩
/-! * of ints, of new lists, of tuples -/
def oMulT : Op2 := fun a b Q => match b with
  | .wv (.int j) => match a with
    | .wv (.int i) => CMulW i j ∧ Q (.val (.int (i * j)))
    | .cv (.seq xs) => (-(2 ^ 63) ≤ j ∧ j < 2 ^ 63 ∧ xs.length * j.toNat ≤ sizeLine) ∧ Q (.own (.seq (List.replicate j.toNat xs).flatten))
    | .wv (.tup xs) => (-(2 ^ 63) ≤ j ∧ j ≤ 1000 ∧ 1 ≤ xs.length ∧ xs.length ≤ 1000) ∧ Q (.val (.tup (List.replicate j.toNat xs).flatten))
    | _ => False
  | _ => False
theorem oMulT.mono (a b : Vw) (Q Q' : RV → Prop) (k : ∀ r, Q r → Q' r) (q : oMulT a b Q) : oMulT a b Q' := by
  unfold oMulT at q ⊢
  split at q
  · split at q
    · exact ⟨q.1, k _ q.2⟩
    · exact ⟨q.1, k _ q.2⟩
    · exact ⟨q.1, k _ q.2⟩
    · exact q
  · exact q
theorem opa_mulT {K : PySem.W.Frag} : OpA K (fun x y H Q => (rI CMulW (fun i j => .int (i * j)) x y H Q ∨ rRep x y H Q) ∨ rRepA K x y H Q) oMulT :=
  ⟨oMulT.mono, fun a b x y H Q0 Q ra rb q k => by
    unfold oMulT at q
    split at q
    · rename_i j
      have ey : y = .int j := rb.int
      split at q
      · rename_i i
        have ex : x = .int i := ra.int
        exact .inl (.inl ⟨i, j, ex, ey, q.1, k _ _ (.val q.2 .int)⟩)
      · rename_i xs
        obtain ⟨p, ex, vs, l, rl⟩ := ra
        exact .inl (.inr ⟨p, j, vs, ex, ey, l, q.1.1, q.1.2.1, by rw [← rl.length]; exact q.1.2.2, fun p' n => k _ _ (.lst n q.2 (rl.rep _))⟩)
      · rename_i xs
        obtain ⟨p, vs, ex, l, rl⟩ := Rep.of_tup (K := K) (H := H) ra
        refine .inr ⟨p, j, vs, ex, ey, l, fun e => ?_, q.1.1, q.1.2.1, by rw [← rl.length]; exact q.1.2.2.2, fun e => ?_, fun _ p' n => k _ _ (.tup n q.2 (rl.rep _))⟩
        · have := rl.length
          rw [e] at this
          have := q.1.2.2.1
          simp_all
        · subst e
          have q2 := q.2
          rw [show (1 : Int).toNat = 1 from rfl] at q2
          simp only [List.replicate, List.flatten_cons, List.flatten_nil, List.append_nil] at q2
          exact k _ _ (.val q2 (.tup l rl))
      · exact q.elim
    · exact q.elim⟩
theorem ae_mulT {X : Cx} {G : Gx} {a b : Expr} {ta tb : AT} {pos : Pos} (gk : G.K = X.K) (ha : AE X G a ta) (hb : AE X G b tb) : AE X G (.BinOp a .Mult b pos) (aOp2 oMulT ta tb) := ae_op ((op_mulW.or op_rep).or op_repA) (gk ▸ opa_mulT) ha hb
end Ab

namespace Ab
open PySem PySem.Spec PyProof.Rows L2 RZ
/-! ### promises in short -/
/-- nothing is written: what is handed in, what is told -/
def pureSp (P : List W → RR → Prop) : ASp := fun ws h Q _ => ∃ r, P ws r ∧ Q r h
theorem pureSp.m {P : List W → RR → Prop} : SpMono (pureSp P) := fun _ _ _ _ _ _ k _ ⟨r, p, q⟩ => ⟨r, p, k _ _ q⟩
/-- alike but at p -/
def Bt (p : Addr) (h h' : AH) : Prop := ∀ q, q ≠ p → h' q = h q
theorem Bt.refl {p : Addr} {h : AH} : Bt p h h := fun _ _ => rfl
theorem Bt.trans {p : Addr} {h h1 h2 : AH} (a : Bt p h h1) (b : Bt p h1 h2) : Bt p h h2 := fun q n => (b q n).trans (a q n)
theorem Bt.upd {p : Addr} {h : AH} {o : AO} : Bt p h (updA h p o) := fun q n => by unfold updA; rw [if_neg n]
/-! ### loops -/
section
variable {vs : List Nat} {g : AGT} {tt : ABT} {te : AVT} {env : AEnv} {h : AH} {Q : List W → AEnv → AH → Prop}
theorem lc_map (f : W → W) : ∀ (ws acc : List W), acc.length + ws.length ≤ sizeLine →
    (∀ w ∈ ws, ∀ R : W → AEnv → AH → Prop, R (f w) env h → g w (wipeA env vs) h fun e1 h1 => te e1 h1 fun y e3 h3 => R y (mend env e3 vs) h3) →
    Q (acc ++ ws.map f) env h → lcLoop vs g aYes te Q ws acc env h
  | [], acc, _, _, q => by
    show Q acc env h
    simpa using q
  | w :: ws, acc, hl, hs, q => by
    have hl' : acc.length + ws.length + 1 ≤ sizeLine := by rw [List.length_cons] at hl; omega
    exact hs w (by simp) (fun y e3 h3 => acc.length < sizeLine ∧ lcLoop vs g aYes te Q ws (acc ++ [y]) e3 h3) ⟨by omega, lc_map f ws (acc ++ [f w]) (by rw [List.length_append, List.length_singleton]; omega) (fun w hw => hs w (by simp [hw])) (by simpa using q)⟩
theorem lc_fmap (f : W → Option W) : ∀ (ws acc : List W), acc.length + ws.length ≤ sizeLine →
    (∀ w ∈ ws, ∀ (R : W → AEnv → AH → Prop) (R0 : AEnv → AH → Prop), (match f w with
        | some y => R y env h
        | none => R0 env h) → g w (wipeA env vs) h fun e1 h1 => tt e1 h1 fun b e2 h2 => if b = true then te e2 h2 (fun y e3 h3 => R y (mend env e3 vs) h3) else R0 (mend env e2 vs) h2) →
    Q (acc ++ ws.filterMap f) env h → lcLoop vs g tt te Q ws acc env h
  | [], acc, _, _, q => by
    show Q acc env h
    simpa using q
  | w :: ws, acc, hl, hs, q => by
    have hl' : acc.length + ws.length + 1 ≤ sizeLine := by rw [List.length_cons] at hl; omega
    refine hs w (by simp) (fun y e3 h3 => acc.length < sizeLine ∧ lcLoop vs g tt te Q ws (acc ++ [y]) e3 h3) (fun e3 h3 => lcLoop vs g tt te Q ws acc e3 h3) ?_
    cases e : f w with
    | none => exact lc_fmap f ws acc (by omega) (fun w hw => hs w (by simp [hw])) (by rw [List.filterMap_cons_none e] at q; exact q)
    | some y => exact ⟨by omega, lc_fmap f ws (acc ++ [y]) (by rw [List.length_append, List.length_singleton]; omega) (fun w hw => hs w (by simp [hw])) (by rw [List.filterMap_cons_some e] at q; simpa using q)⟩
/-- pairs in order -/
inductive All2 {α β : Type} (P : α → β → Prop) : List α → List β → Prop where
  | nil : All2 P [] []
  | cons {a : α} {b : β} {as : List α} {bs : List β} : P a b → All2 P as bs → All2 P (a :: as) (b :: bs)
theorem All2.length {α β : Type} {P : α → β → Prop} {as : List α} {bs : List β} (r : All2 P as bs) : as.length = bs.length := by
  induction r with
  | nil => rfl
  | cons _ _ ih => rw [List.length_cons, List.length_cons, ih]
/-- something is drawn at each turn -/
theorem lc_draw (J : Nat → AH → Prop) (P : W → W → Prop) : ∀ (ws acc : List W) (i : Nat) (h : AH), acc.length + ws.length ≤ sizeLine → J i h →
    (∀ w ∈ ws, ∀ j h, j < i + ws.length → J j h → ∀ R : W → AEnv → AH → Prop, (∀ y h', P w y → J (j + 1) h' → R y env h') → g w (wipeA env vs) h fun e1 h1 => te e1 h1 fun y e3 h3 => R y (mend env e3 vs) h3) →
    (∀ ys h', All2 P ws ys → J (i + ws.length) h' → Q (acc ++ ys) env h') → lcLoop vs g aYes te Q ws acc env h
  | [], acc, i, h, _, j, _, q => by
    show Q acc env h
    have z := q [] h .nil (by simpa using j)
    simpa using z
  | w :: ws, acc, i, h, hl, j, hs, q => by
    have hl' : acc.length + ws.length + 1 ≤ sizeLine := by rw [List.length_cons] at hl; omega
    exact hs w (by simp) i h (by rw [List.length_cons]; omega) j (fun y e3 h3 => acc.length < sizeLine ∧ lcLoop vs g aYes te Q ws (acc ++ [y]) e3 h3) fun y h' py j' => ⟨by omega, lc_draw J P ws (acc ++ [y]) (i + 1) h' (by rw [List.length_append, List.length_singleton]; omega) j' (fun w hw j h lt => hs w (by simp [hw]) j h (by rw [List.length_cons]; omega)) fun ys h2 ay j2 => by
      have z := q (y :: ys) h2 (.cons py ay) (by rw [List.length_cons]; rwa [show i + (ws.length + 1) = i + 1 + ws.length by omega])
      simpa using z⟩
end
section
variable {g : AGT} {tb : ATS} {D : AEnds}
theorem loop_ind (I : List W → AEnv → AH → Prop) (h0 : ∀ e h, I [] e h → D.nx e h)
    (hs : ∀ w ws e h (N : AEnv → AH → Prop), I (w :: ws) e h → (∀ e' h', I ws e' h' → N e' h') → g w e h fun e1 h1 => tb { D with nx := N, ct := N, bk := D.nx } e1 h1) : ∀ ws e h, I ws e h → aLoop g tb D ws e h
  | [], e, h, i => h0 e h i
  | w :: ws, e, h, i => hs w ws e h _ i fun e' h' i' => loop_ind I h0 hs ws e' h' i'
end
end Ab

namespace Ab
open PySem PySem.Spec PyProof.Rows L2 RZ
/-! ### readings, reckoned -/
section
variable {xs ys : List W} {i j : Int} {Q : RV → Prop} {v : Vw} {a b c d e w : W} {n : String}
def ixK (v : Vw) (i : Int) (Q : RV → Prop) : Prop := match v.items.bind fun xs => atI xs i with
  | some w => Q (.val w)
  | none => False
theorem ixK_eq {v : Vw} : (∃ xs w, v.items = some xs ∧ atI xs i = some w ∧ Q (.val w)) = ixK v i Q := by
  unfold ixK
  refine propext ⟨fun ⟨xs, w, e, f, q⟩ => ?_, fun q => ?_⟩
  · rw [e]
    show match atI xs i with
      | some w => Q (.val w)
      | none => False
    rw [f]; exact q
  · split at q
    · rename_i w e
      obtain ⟨xs, e1, e2⟩ := Option.bind_eq_some_iff.mp e
      exact ⟨xs, w, e1, e2, q⟩
    · exact q.elim
theorem y_ix {v b : Vw} : oIx v b Q = (match b with
  | .wv (.int i) => match v with
    | .wv (.str x) => x.length ≤ sizeLine ∧ ∃ c, L2.atI x.cps.toList i = some c ∧ Q (.val (.str ⟨#[c]⟩))
    | v => ixK v i Q
  | _ => False) := by
  cases b with
  | wv w => cases w with
    | int i => cases v with
      | wv u => cases u <;> first | rfl | exact ixK_eq
      | cv c => exact ixK_eq
      | bad => exact ixK_eq
    | _ => rfl
  | _ => rfl
theorem y_len : oLen [v] Q = (match v with
  | .wv (.str x) => x.length ≤ sizeLine ∧ Q (.val (.int x.length))
  | v => match v.items with
    | some xs => Q (.val (.int xs.length))
    | none => False) := by
  cases v with
  | wv w => cases w <;> simp [oLen, Vw.items]
  | cv c => cases c <;> simp [oLen, Vw.items]
  | bad => simp [oLen, Vw.items]
theorem y_tupC : oTupC [v] Q = (match v.items with
    | some xs => Q (.val (.tup xs))
    | none => False) := by
  unfold oTupC
  cases e : v.items <;> simp [e]
theorem y_lstC : oLstC [v] Q = (match v.items with
    | some xs => Q (.own (.seq xs))
    | none => False) := by
  unfold oLstC
  cases e : v.items <;> simp [e]
theorem y_set {v : Vw} {ro : RV} {w : W} {env : AEnv} {h : AH} {R : AEnv → AH → Prop} : (match v with
  | .wv (.int k) => match plc env h ro with
    | some (.seq xs) => ∃ j, ixN xs.length k = some j ∧ R (putE env ro (.seq (xs.set j w))) (putH h ro (.seq (xs.set j w)))
    | _ => False
  | _ => False) = (match v with
  | .wv (.int k) => match plc env h ro with
    | some (.seq xs) => match ixN xs.length k with
      | some j => R (putE env ro (.seq (xs.set j w))) (putH h ro (.seq (xs.set j w)))
      | none => False
    | _ => False
  | _ => False) := by
  cases v with
  | wv u => cases u with
    | int k =>
      show (match plc env h ro with
        | some (.seq xs) => ∃ j, ixN xs.length k = some j ∧ R (putE env ro (.seq (xs.set j w))) (putH h ro (.seq (xs.set j w)))
        | _ => False) = (match plc env h ro with
        | some (.seq xs) => match ixN xs.length k with
          | some j => R (putE env ro (.seq (xs.set j w))) (putH h ro (.seq (xs.set j w)))
          | none => False
        | _ => False)
      cases plc env h ro with
      | none => rfl
      | some c => cases c with
        | seq xs =>
          show (∃ j, ixN xs.length k = some j ∧ R (putE env ro (.seq (xs.set j w))) (putH h ro (.seq (xs.set j w)))) = (match ixN xs.length k with
            | some j => R (putE env ro (.seq (xs.set j w))) (putH h ro (.seq (xs.set j w)))
            | none => False)
          cases ixN xs.length k <;> simp
        | map kvs => rfl
    | _ => rfl
  | _ => rfl
theorem y_gSet {to ti : AT} : gSet to ti = fun w env h Q => to env h fun ro env1 h1 => ti env1 h1 fun ri env2 h2 => match view env2 h2 ri with
  | .wv (.int k) => match plc env2 h2 ro with
    | some (.seq xs) => match ixN xs.length k with
      | some j => Q (putE env2 ro (.seq (xs.set j w))) (putH h2 ro (.seq (xs.set j w)))
      | none => False
    | _ => False
  | _ => False := by
  funext w env h Q
  unfold gSet
  congr 1
  funext ro env1 h1
  congr 1
  funext ri env2 h2
  exact y_set
theorem at5_0 : atI [a, b, c, d, e] 0 = some a := rfl
theorem at5_1 : atI [a, b, c, d, e] 1 = some b := rfl
theorem at5_2 : atI [a, b, c, d, e] 2 = some c := rfl
theorem at5_3 : atI [a, b, c, d, e] 3 = some d := rfl
theorem at5_4 : atI [a, b, c, d, e] 4 = some e := rfl
theorem ix5_0 : ixN 5 0 = some 0 := rfl
theorem ix5_1 : ixN 5 1 = some 1 := rfl
theorem ix5_2 : ixN 5 2 = some 2 := rfl
theorem ix5_3 : ixN 5 3 = some 3 := rfl
theorem ix5_4 : ixN 5 4 = some 4 := rfl
theorem y_isN {v : Vw} {neg : Bool} : oIsN neg v (.wv .non) Q = (v ≠ .bad ∧ Q (.val (.bl (if neg then !v.isNon else v.isNon)))) := by
  simp only [oIsN, true_and]
theorem eqw_int : eqw (.int i) (.int j) = decide (i = j) := rfl
/-! isinstance -/
def isW (w : W) (T : String) : Bool := match w.tyName with
  | some n => (isiB n T).getD false
  | none => false
end
theorem at_ints {ns : List Int} {i : Int} (h0 : 0 ≤ i) (h1 : i < ns.length) : ∃ v ∈ ns, atI (ns.map W.int) i = some (.int v) := by
  obtain ⟨k, rfl⟩ := Int.eq_ofNat_of_zero_le h0
  have hk : k < ns.length := by omega
  exact ⟨ns[k], List.getElem_mem hk, atI_nat (by rw [List.getElem?_map, List.getElem?_eq_getElem hk]; rfl)⟩
theorem at_mem {xs : List W} {i : Int} (h0 : 0 ≤ i) (h1 : i < xs.length) : ∃ v ∈ xs, atI xs i = some v := by
  obtain ⟨k, rfl⟩ := Int.eq_ofNat_of_zero_le h0
  have hk : k < xs.length := by omega
  exact ⟨xs[k], List.getElem_mem hk, atI_nat (List.getElem?_eq_getElem hk)⟩
theorem mul_ok {i j : Int} (h0 : 0 ≤ i) (h1 : i < 2 ^ 200) (g0 : 0 ≤ j) (g1 : j < 2 ^ 200) : CMulW i j :=
  wide_mul (a := 200) (b := 200) (by omega) (by omega) (by decide) (by decide) (by decide)
theorem cut_to {xs : List W} {k : Nat} : cutW xs none (some (k : Int)) = xs.take k := by
  unfold cutW
  rw [HT.sIx_none, HT.sIx_nat]
  simp only [List.drop_zero, Nat.sub_zero]
  rcases Nat.le_total k xs.length with h | h
  · rw [Nat.min_eq_left h]
  · rw [Nat.min_eq_right h, List.take_of_length_le (Nat.le_refl _), List.take_of_length_le h]
theorem isi_NoneType_bool : isiB "NoneType" "bool" = some false := rfl
theorem isi_NoneType_int : isiB "NoneType" "int" = some false := rfl
theorem isi_NoneType_str : isiB "NoneType" "str" = some false := rfl
theorem isi_NoneType_tuple : isiB "NoneType" "tuple" = some false := rfl
theorem isi_NoneType_list : isiB "NoneType" "list" = some false := rfl
theorem isi_bool_bool : isiB "bool" "bool" = some true := rfl
theorem isi_bool_int : isiB "bool" "int" = some true := rfl
theorem isi_bool_str : isiB "bool" "str" = some false := rfl
theorem isi_bool_tuple : isiB "bool" "tuple" = some false := rfl
theorem isi_bool_list : isiB "bool" "list" = some false := rfl
theorem isi_int_bool : isiB "int" "bool" = some false := rfl
theorem isi_int_int : isiB "int" "int" = some true := rfl
theorem isi_int_str : isiB "int" "str" = some false := rfl
theorem isi_int_tuple : isiB "int" "tuple" = some false := rfl
theorem isi_int_list : isiB "int" "list" = some false := rfl
theorem isi_str_bool : isiB "str" "bool" = some false := rfl
theorem isi_str_int : isiB "str" "int" = some false := rfl
theorem isi_str_str : isiB "str" "str" = some true := rfl
theorem isi_str_tuple : isiB "str" "tuple" = some false := rfl
theorem isi_str_list : isiB "str" "list" = some false := rfl
theorem isi_tuple_bool : isiB "tuple" "bool" = some false := rfl
theorem isi_tuple_int : isiB "tuple" "int" = some false := rfl
theorem isi_tuple_str : isiB "tuple" "str" = some false := rfl
theorem isi_tuple_tuple : isiB "tuple" "tuple" = some true := rfl
theorem isi_tuple_list : isiB "tuple" "list" = some false := rfl
theorem isi_list_bool : isiB "list" "bool" = some false := rfl
theorem isi_list_int : isiB "list" "int" = some false := rfl
theorem isi_list_str : isiB "list" "str" = some false := rfl
theorem isi_list_tuple : isiB "list" "tuple" = some false := rfl
theorem isi_list_list : isiB "list" "list" = some true := rfl
theorem y_isi {v : Vw} {T : String} {Q : RV → Prop} : oIsi [v, .wv (.ty T)] Q = (match v.tyName with
  | some n => match isiB n T with
    | some b => Q (.val (.bl b))
    | none => False
  | none => False) := by
  refine propext ⟨fun q => ?_, fun q => ?_⟩
  · obtain ⟨n, b, e, f, q⟩ : ∃ n b, v.tyName = some n ∧ isiB n T = some b ∧ Q (.val (.bl b)) := q
    simp only [e, f]
    exact q
  · show ∃ n b, v.tyName = some n ∧ isiB n T = some b ∧ Q (.val (.bl b))
    split at q
    · rename_i n e
      split at q
      · rename_i b f
        exact ⟨n, b, e, f, q⟩
      · exact q.elim
    · exact q.elim
mutual
/-- data that is not too long anywhere, nested at most so deep -/
def W.fit : Nat → W → Bool
  | _, .non => true
  | _, .bl _ => true
  | _, .int _ => true
  | _, .str _ => true
  | n + 1, .tup xs => decide (xs.length ≤ 100000) && W.fitL n xs
  | n + 1, .lst xs => decide (xs.length ≤ 100000) && W.fitL n xs
  | _, _ => false
def W.fitL : Nat → List W → Bool
  | _, [] => true
  | n, x :: xs => W.fit n x && W.fitL n xs
end
theorem W.fitL_mem {n : Nat} : ∀ {xs : List W}, W.fitL n xs = true → ∀ x ∈ xs, x.fit n = true
  | [], _, x, h => by cases h
  | y :: ys, e, x, h => by
    simp only [W.fitL, Bool.and_eq_true] at e
    rcases List.mem_cons.mp h with rfl | h
    · exact e.1
    · exact W.fitL_mem e.2 x h
theorem W.fitL_of {n : Nat} : ∀ {xs : List W}, (∀ x ∈ xs, x.fit n = true) → W.fitL n xs = true
  | [], _ => rfl
  | y :: ys, h => by
    simp only [W.fitL, Bool.and_eq_true]
    exact ⟨h y (by simp), W.fitL_of fun x hx => h x (by simp [hx])⟩
theorem eqw_self_int {i : Int} : eqw (.int i) (.int i) = true := by simp [eqw, W.pd, PyData.eqv]
theorem eqw_self_bl {i : Bool} : eqw (.bl i) (.bl i) = true := by simp [eqw, W.pd, PyData.eqv]
theorem eqw_self_str {i : Str} : eqw (.str i) (.str i) = true := by simp [eqw, W.pd, PyData.eqv]
theorem rngW_mem {n : Nat} {w : W} (h : w ∈ rngW 0 n) : ∃ i : Nat, i < n ∧ w = .int i := by
  unfold rngW at h
  obtain ⟨i, hi, rfl⟩ := List.mem_map.mp h
  exact ⟨i, List.mem_range.mp hi, by simp⟩
theorem rngW_len {lo : Int} {n : Nat} : (rngW lo n).length = n := by simp [rngW]
theorem y_blsT {ws : List W} {g : List Bool → Bool} {Q : RV → Prop} (f : W → Bool) (q : Q (.val (.bl (g (ws.map f))))) : oBls g [Vw.cv (Cont.seq ([] ++ ws.map fun w => .bl (f w)))] Q :=
  ⟨ws.map f, by simp [Vw.seq], q⟩
theorem y_gsCons {t : AGT} {u : AGTs} : gsCons t u = fun ws env h Q => match ws with
  | w :: r => t w env h fun env' h' => u r env' h' Q
  | [] => False := by
  funext ws env h Q
  cases ws with
  | nil => simp [gsCons]
  | cons w r => exact propext ⟨fun ⟨a, b, e, q⟩ => by cases e; exact q, fun q => ⟨w, r, rfl, q⟩⟩
theorem y_gsNil : gsNil = fun ws env h Q => match ws with
  | [] => Q env h
  | _ => False := by
  funext ws env h Q
  cases ws with
  | nil => simp [gsNil]
  | cons w r => simp [gsNil]
theorem fitL_ints {d : Nat} {xs : List Int} : W.fitL d (xs.map .int) = true := W.fitL_of fun x hx => by
  obtain ⟨i, _, rfl⟩ := List.mem_map.mp hx
  cases d <;> rfl
theorem dat_ints60 {as : List Int} : W.dat 60 (.tup (as.map W.int)) = true := by
  show (as.map W.int).all (W.dat 59) = true
  rw [List.all_eq_true]
  intro x hx
  obtain ⟨i, _, rfl⟩ := List.mem_map.mp hx
  rfl
theorem eqv_ints : ∀ as bs : List Int, PyData.eqvAll (W.pds (as.map W.int)) (W.pds (bs.map W.int)) = decide (as = bs)
  | [], [] => rfl
  | [], _ :: _ => rfl
  | _ :: _, [] => rfl
  | a :: as, b :: bs => by
    show (PyData.eqv (.int a) (.int b) && PyData.eqvAll (W.pds (as.map W.int)) (W.pds (bs.map W.int))) = _
    rw [eqv_ints as bs]
    show (a == b && decide (as = bs)) = _
    by_cases h : a = b <;> by_cases h2 : as = bs <;> simp [h, h2]
theorem eqw_ints {as bs : List Int} : eqw (.tup (as.map W.int)) (.tup (bs.map W.int)) = decide (as = bs) := eqv_ints as bs
/-- a plain step: what comes behind it -/
theorem seq_step {t u : ATS} {D : AEnds} {env e1 : AEnv} {h h1 : AH} (k : ∀ N : AEnv → AH → Prop, N e1 h1 → t { D with nx := N } env h) (q : u D e1 h1) : aSeq t u D env h := k (u D) q
theorem seq_post {t u : ATS} {D : AEnds} {env : AEnv} {h : AH} (P : AEnv → AH → Prop) (k : ∀ N : AEnv → AH → Prop, (∀ e1 h1, P e1 h1 → N e1 h1) → t { D with nx := N } env h) (q : ∀ e1 h1, P e1 h1 → u D e1 h1) : aSeq t u D env h := k (u D) q
end Ab

namespace Ab
open PySem PySem.Spec PyProof.Rows L2 RZ
theorem y_inL {a b : Vw} {neg : Bool} {Q : RV → Prop} : oInL neg a b Q = (match b.items with
  | some xs => a.ok = true ∧ xs.all (W.dat 60) = true ∧ Q (.val (.bl (if neg then !memw a.toW xs else memw a.toW xs)))
  | none => False) := by
  unfold oInL
  cases b.items <;> simp
theorem memw_ints {c : Int} : ∀ {cs : List Int}, memw (.int c) (cs.map W.int) = decide (c ∈ cs)
  | [] => rfl
  | x :: cs => by
    show (eqw (.int x) (.int c) || memw (.int c) (cs.map W.int)) = _
    rw [memw_ints, eqw_int]
    by_cases h : x = c
    · simp [h]
    · have h' : ¬ c = x := fun e => h e.symm
      by_cases h2 : c ∈ cs <;> simp [h, h', h2]
theorem eqw_str {a b : Str} : eqw (.str a) (.str b) = decide (a = b) := by
  show (a == b) = _
  by_cases h : a = b <;> simp [h]
theorem memw_cons {x y : W} {ys : List W} : memw x (y :: ys) = (eqw y x || memw x ys) := rfl
theorem memw_nil {x : W} : memw x [] = false := rfl
theorem rtv {Qa : RR → AH → Prop} {w : W} {e : AEnv} {k : AH} (q : Qa (.val w) k) : (endsOf Qa).rt (.val w) e k := ⟨k, fun _ _ e => e, q⟩
theorem rto {Qa : RR → AH → Prop} {c : Cont} {e : AEnv} {k : AH} (q : Qa (.own c) k) : (endsOf Qa).rt (.own c) e k := ⟨k, fun _ _ e => e, q⟩
theorem allDat_ints {d : Nat} {cs : List Int} : (cs.map W.int).all (W.dat d) = true := by
  rw [List.all_eq_true]
  intro x hx
  obtain ⟨i, _, rfl⟩ := List.mem_map.mp hx
  cases d <;> rfl
theorem cut_ints {cs : List Int} {k : Nat} : cutW (cs.map W.int) none (some (k : Int)) = (cs.take k).map W.int := by
  rw [cut_to, List.map_take]
theorem enW_ints {cs : List Int} {n : Nat} {w : W} {ws : List W} (e : w :: ws = (enW (cs.map W.int)).drop n) : ∃ c, cs[n]? = some c ∧ w = .tup [.int n, .int c] ∧ ws = (enW (cs.map W.int)).drop (n + 1) := by
  have e1 : (enW (cs.map W.int))[n]? = some w := by
    have z := congrArg (fun l : List W => l[0]?) e
    rw [List.getElem?_drop] at z
    simpa using z.symm
  have e2 : ws = (enW (cs.map W.int)).drop (n + 1) := by
    have z := congrArg List.tail e
    rw [List.tail_drop] at z
    simpa using z
  obtain ⟨u, eu, rfl⟩ := enW_get e1
  rw [List.getElem?_map] at eu
  cases es : cs[n]? with
  | none => rw [es] at eu; cases eu
  | some c => rw [es] at eu; cases eu; exact ⟨c, rfl, rfl, e2⟩
theorem enW_end {cs : List Int} {n : Nat} (e : [] = (enW (cs.map W.int)).drop n) : cs.length ≤ n := by
  have z := congrArg List.length e
  rw [List.length_drop, enW_len, List.length_map] at z
  simp at z
  omega
/-- None or a number -/
def oW : Option Int → W
  | none => .non
  | some i => .int i
/-- the first bad one of a row of casks -/
def badFrom (casks : Int) : List Int → List Int → Int → Option Int
  | _, [], _ => none
  | seen, c :: r, k => if ¬ (0 ≤ c ∧ c < casks) ∨ c ∈ seen then some k else badFrom casks (seen ++ [c]) r (k + 1)
theorem ne_over_down : (("over" : Str) = ("down" : Str)) = False := eq_false (by decide)
theorem ne_over_swap : (("over" : Str) = ("swap" : Str)) = False := eq_false (by decide)
theorem ne_over_tap : (("over" : Str) = ("tap" : Str)) = False := eq_false (by decide)
theorem ne_over_drain : (("over" : Str) = ("drain" : Str)) = False := eq_false (by decide)
theorem ne_down_over : (("down" : Str) = ("over" : Str)) = False := eq_false (by decide)
theorem ne_down_swap : (("down" : Str) = ("swap" : Str)) = False := eq_false (by decide)
theorem ne_down_tap : (("down" : Str) = ("tap" : Str)) = False := eq_false (by decide)
theorem ne_down_drain : (("down" : Str) = ("drain" : Str)) = False := eq_false (by decide)
theorem ne_swap_over : (("swap" : Str) = ("over" : Str)) = False := eq_false (by decide)
theorem ne_swap_down : (("swap" : Str) = ("down" : Str)) = False := eq_false (by decide)
theorem ne_swap_tap : (("swap" : Str) = ("tap" : Str)) = False := eq_false (by decide)
theorem ne_swap_drain : (("swap" : Str) = ("drain" : Str)) = False := eq_false (by decide)
theorem ne_tap_over : (("tap" : Str) = ("over" : Str)) = False := eq_false (by decide)
theorem ne_tap_down : (("tap" : Str) = ("down" : Str)) = False := eq_false (by decide)
theorem ne_tap_swap : (("tap" : Str) = ("swap" : Str)) = False := eq_false (by decide)
theorem ne_tap_drain : (("tap" : Str) = ("drain" : Str)) = False := eq_false (by decide)
theorem ne_drain_over : (("drain" : Str) = ("over" : Str)) = False := eq_false (by decide)
theorem ne_drain_down : (("drain" : Str) = ("down" : Str)) = False := eq_false (by decide)
theorem ne_drain_swap : (("drain" : Str) = ("swap" : Str)) = False := eq_false (by decide)
theorem ne_drain_tap : (("drain" : Str) = ("tap" : Str)) = False := eq_false (by decide)
theorem at_0 {x : W} {xs : List W} : atI (x :: xs) 0 = some x := atI_nat (j := 0) rfl
theorem at_1 {x y : W} {xs : List W} : atI (x :: y :: xs) 1 = some y := atI_nat (j := 1) rfl
theorem at_2 {x y z : W} {xs : List W} : atI (x :: y :: z :: xs) 2 = some z := atI_nat (j := 2) rfl
end Ab

namespace Ab
open PySem PySem.Spec PyProof.Rows L2 RZ
/-! ### what the head keeps of the top's heap: no lists -/
def isLs (o : Obj) : Bool := match o.cls with
  | .type c => decide (c = "list")
  | _ => false
def frK (g : Addr → Option Obj) (as : List Addr) : PySem.W.Frag := He.frG (fun a => (g a).bind fun o => if isLs o = true then none else some o) as
theorem frK_in {as : List Addr} {h : Heap} : (frK h.get? as).In h := fun a o e => by
  have z := He.frG_at (g := fun a => (h.get? a).bind fun o => if isLs o = true then none else some o) as e
  cases q : h.get? a with
  | none => rw [q] at z; cases z
  | some u =>
    rw [q] at z
    have z : (if isLs u = true then none else some u) = some o := z
    split at z
    · cases z
    · exact z
def NoLs (K : PySem.W.Frag) : Prop := ∀ a o, K.lookup a = some o → o.cls ≠ .type "list"
theorem frK_no {g : Addr → Option Obj} {as : List Addr} : NoLs (frK g as) := fun a o e c => by
  have z := He.frG_at (g := fun a => (g a).bind fun o => if isLs o = true then none else some o) as e
  cases q : g a with
  | none => rw [q] at z; cases z
  | some u =>
    rw [q] at z
    have z : (if isLs u = true then none else some u) = some o := z
    split at z
    · cases z
    · rename_i n
      cases z
      exact n (by unfold isLs; rw [c]; rfl)
def refsK (g : Addr → Option Obj) (a : Addr) : List Addr := match g a with
  | some o => match o.data with
    | .seq its _ => its.toList.flatMap He.refV
    | .dict es _ => es.toList.flatMap fun e => He.refV e.val
    | .func fd => He.refV fd.code ++ He.refV fd.defaults ++ He.refV fd.kwdefaults ++ fd.closure.map (·.2)
    | .cls cd => [cd.ns]
    | .cell (some v) => He.refV v
    | _ => []
  | none => []
/-- the module's names; what they name; a class's names; its methods; their codes -/
def asK (g : Addr → Option Obj) : List Addr :=
  let l1 := refsK g mainGlobals
  let l2 := l1.flatMap (refsK g)
  let l3 := l2.flatMap (refsK g)
  let l4 := l3.flatMap (refsK g)
  mainGlobals :: (l1 ++ l2 ++ l3 ++ l4)
abbrev AlK : Type := He.AlD × Bool
def obsK (fa : List He.Fa) (fn : List He.DefD) (ex : PySem.W.Frag → Bool) (g : Addr → Option Obj) : AlK :=
  let K := frK g (asK g)
  (He.obsD fa fn K, ex K)
def hookK (fa : List He.Fa) (fn : List He.DefD) (ex : PySem.W.Frag → Bool) : PySem.W.Hook where
  α := AlK
  obs := fun s => obsK fa fn ex s.heap.get?
  val := fun _ => (He.valD fn, true)
  says := fun _ h => ∃ K : PySem.W.Frag, K.In h ∧ (He.SaysD fa fn K ∧ ex K = true) ∧ NoLs K
  of := fun _ _ e => ⟨_, frK_in, ⟨congrArg Prod.fst e, congrArg Prod.snd e⟩, frK_no⟩
  keeps := fun _ _ _ ⟨K, hK, c⟩ k => ⟨K, PySem.W.Frag.In.keeps hK k, c⟩
theorem obsK_eq {fa : List He.Fa} {fn : List He.DefD} {ex : PySem.W.Frag → Bool} {g : Addr → Option Obj} {s : Shared} (h : ∀ a, g a = s.heap.get? a) : obsK fa fn ex g = (hookK fa fn ex).obs s := by
  have e : g = s.heap.get? := funext h
  rw [e] <;> rfl
theorem FunD.one {K : PySem.W.Frag} {x q x' q' : Str} {a a' : Arguments} {b b' : List Stmt} {sc sc' : Scope} {d d' : List V} {k k' : List (Str × V)} {f : Addr} {fd fd' : FuncData} (F : FunD K x q a b sc d k f fd) (F' : FunD K x' q' a' b' sc' d' k' f fd') : fd = fd' := by
  obtain ⟨oc, od, dV, kV, doc, pm, an, cdv, ct, osl, _, lk, _⟩ := F.ex
  obtain ⟨oc', od', dV', kV', doc', pm', an', cdv', ct', osl', _, lk', _⟩ := F'.ex
  rw [lk] at lk'
  cases lk'
  rfl
/-! ### the law's call -/
theorem script_rep {K : PySem.W.Frag} {H : Hp} {a : Addr} {ns : List Int} (no : NoLs K) (hO : Only H) (hS : SqL K H a (ns.map V.int)) : RepL K H [W.lst (ns.map .int)] [V.ref a] := by
  refine .cons (.lst ?_ .ints) .nil
  rcases hS with (h | h) | ⟨o, its, n, l, c, _⟩
  · rcases hO a with e | ⟨o, xs, e⟩
    · rw [e] at h; cases h
    · rw [e] at h; cases h
  · exact h
  · exact absurd c (no a o l)
def LawSp (sp : ASp) : Prop := ∀ (ns : List Int), ns.length ≤ 63 → sp [W.lst (ns.map .int)] (fun _ => none) (fun r _ => r = .val (.bl true)) fun _ _ => False
theorem law_sp {K : PySem.W.Frag} {sp : ASp} (ls : LawSp sp) (no : NoLs K) (H : Hp) (a : Addr) (ns : List Int) (hl : ns.length ≤ 63) (hO : Only H) (hS : SqL K H a (ns.map V.int)) : cSp K 1 sp [.ref a] H (fun v _ => v = .bl true) fun _ _ _ => False :=
  ⟨[.lst (ns.map .int)], fun _ => none, _, _, rfl, (fun _ _ e => nomatch e), script_rep no hO hS, ls ns hl, fun r h' v H' e _ rr => by
    subst e
    exact Rep.of_bl (K := K) (H := H') rr, fun _ _ _ _ _ z _ _ => z⟩
theorem cx_no {P : Program} {w : World} (H : Hp) (s : Shared) (e : Value) (s' : Shared) (z : L2.CX P w [] H s (fun _ _ _ => False) e s') : False := by
  obtain ⟨_, _, _, _, _, _, _, _, _, _, _, _, z⟩ := z
  exact z
/-- the end of a head whose law may hold exceptions within -/
theorem walk_end {l : PySem.W.OpenLaw} {m j : Nat} {vw : Program} {lo : List Str} {A : (Str → Option Value) → Heap → Prop} {B : World → Heap → Prop} {d : DefRec} {y : Str} (h1 : l.most = some m) (h2 : m ≤ sizeLine) (h3 : d.params.defaults = []) (h4 : Room j callerA)
    (F : ∀ (u : World) (g : Str → Option Value) (at_ : Addr) (hp : Heap), B u hp → hp.Ns mainGlobals g → g d.name = some (.ref at_) → ∃ (K : PySem.W.Frag) (fd : FuncData) (sp : Sp), K.In hp ∧ (∀ (t : Shared) (z : Value), BindsTo t fd ⟨[z], []⟩ [(y, z)]) ∧
      (∀ (H : Hp) (b : Addr) (is : List Int), is.length ≤ m → Only H → SqL K H b (is.map V.int) → sp [.ref b] H (fun v _ => v = .bl true) fun _ _ _ => False) ∧ ∀ base : Heap, FnOk l.prog u K g base (L2.CX l.prog u) j at_ fd [y] sp) :
    PySem.W.WalkO vw lo A B l.row.toRowW d [] (fun f vs => PySem.call f vs) :=
  Att.attach_call h1 h3 fun u t0 t1 g gb at_ o1 o2 o3 o4 b vals is G yb c1 c2 c3 named obj iv few gens =>
    let ⟨K, fd, sp, inK, bind, prom, ok⟩ := F u g at_ _ yb G.T.g named
    law_call inK G.T.g G.T.b G.T.builtins G.T.nolimit gens obj iv (Nat.le_trans few h2) h4 (fun base _ _ => ok base) bind (fun H only seq => prom H b is few only seq) fun H e t' => cx_no H t1 e t'
 end Ab

/-! Mc0: two rules more of the layer: a list or a tuple is walked; a slot's list is frozen ahead of a statement. -/
namespace Ab
open PySem PySem.Spec PyProof.Rows L2 RZ
def iSqV (K : PySem.W.Frag) (tl : TE) : TI := fun σ H R => tl σ H fun x H1 =>
  ∃ a, x = .ref a ∧ (((∃ xs, SqL K H1 a xs) ∧ R (Itl K a) H1) ∨ ((∃ xs, SqT K H1 a xs) ∧ R (Itt K a) H1))
theorem pi_sq {X : Cx} {tg l : Expr} {tl : TE} (hl : PE X l tl) : PI X tg l (iSqV X.K tl) := by
  constructor
  intro pins s σ H R I h
  refine thn (hl.run pins s σ H _ I h) ?_
  rintro v s1 ⟨x, H1, I1, r1, a, rfl, q⟩
  cases r1
  have fp : ∀ b ∈ [s1.heap.objs.size], FpOk X pins H1 b := by
    intro b hb
    obtain rfl : b = s1.heap.objs.size := by simpa using hb
    exact I1.fpOk (Nat.le_refl _) (I1.hok.fresh (Nat.le_refl _))
  rcases q with ⟨⟨xs, hq⟩, q⟩ | ⟨⟨xs, hq⟩, q⟩
  · obtain ⟨its, rv, p, hz⟩ := I1.list hq
    apply wpAny_pyIter_list p.isList
    exact ⟨_, [s1.heap.objs.size], _, _, H1, rfl,
      I1.kept (t' := s1.toks) fun b o e => Heap.get?_push_of_some _ e, turn_list a _, ⟨_, Heap.get?_push_size _ rfl, rfl, rfl⟩, fp, q⟩
  · obtain ⟨its, rv, p, hz⟩ := I1.tuple hq
    apply wpAny_pyIter_tuple (show s1.heap.IsTuple a its.toArray from p)
    exact ⟨_, [s1.heap.objs.size], _, _, H1, rfl,
      I1.kept (t' := s1.toks) fun b o e => Heap.get?_push_of_some _ e, turn_tuple a _, ⟨_, Heap.get?_push_size _ rfl, rfl, rfl⟩, fp, q⟩
/-- a list or a tuple, walked -/
def iSq (t : AVT) : AIT := fun env h Q => t env h fun w env' h' => match w with
  | .lst ws => Q ws env' h'
  | .tup ws => Q ws env' h'
  | _ => False
theorem iSq.mono {t : AVT} (m : Mono t) : Mono (iSq t) := fun env h Q Q' k q => m env h _ _ (fun w e g z => by
  split at z
  · exact k _ _ _ z
  · exact k _ _ _ z
  · exact z) q
section
variable {X : Cx} {G : Gx} {tg e : Expr} {st : Stmt}
theorem ai_sq {t : AVT} (gk : G.K = X.K) (a : AV X G e t) : AI X G tg e (iSq t) := by
  refine ⟨iSq.mono a.mono, PI.imp (pi_sq a.pe) fun σ H R ⟨env, h, S, q⟩ => ?_⟩
  refine ⟨env, h, S, a.mono env h _ _ (fun w env1 h1 z v H1 S1 x1 r1 => ?_) q⟩
  cases w with
  | lst ws =>
    obtain ⟨p, vs, rfl, l, r⟩ := Rep.of_lst r1
    exact ⟨p, rfl, .inl ⟨⟨vs, l.sq⟩, z _ H1 S1 x1 (gk ▸ gives_list l r)⟩⟩
  | tup ws =>
    obtain ⟨p, vs, rfl, l, r⟩ := Rep.of_tup r1
    exact ⟨p, rfl, .inr ⟨⟨vs, gk ▸ l⟩, z _ H1 S1 x1 (gk ▸ gives_tup l r)⟩⟩
  | _ => exact z.elim
/-- a slot's own list is frozen ahead of the statement -/
def aFrz (i : Nat) (t : ATS) : ATS := fun D env h => match env[i]? with
  | some (some (.own c)) => t D (env.set i (some (.val c.fz))) h
  | some (some (.val _)) => t D env h
  | _ => False
theorem aFrz.mono {i : Nat} {t : ATS} (m : MonoS t) : MonoS (aFrz i t) := fun D D' env h l q => by
  unfold aFrz at q ⊢
  split at q
  · exact m _ _ _ _ l q
  · exact m _ _ _ _ l q
  · exact q
theorem as_frz (i : Nat) {t : ATS} (a : AS X G st t) : AS X G st (aFrz i t) := by
  refine ⟨aFrz.mono a.mono, ⟨fun pins s σ H Q I ⟨env, h, Da, S, q, l⟩ => ?_⟩⟩
  unfold aFrz at q
  split at q
  · rename_i c e
    obtain ⟨p, H2, es, I2, S2, x2, r2⟩ := slot_freeze (env := env) (env' := env) (H := H) (H1 := H) S .refl I e
    exact a.ps.run pins s σ H2 Q I2 ⟨_, h, Da, S2, q, l.from (x2.keeps S)⟩
  · exact a.ps.run pins s σ H Q I ⟨env, h, Da, S, q, l⟩
  · exact q.elim
end
/-! sum(t) of a tuple of ints -/
theorem sum_rawT {prog : Program} {w : World} {A : Around} {E : Value → Shared → Prop} {s : Shared} {l : Addr} {its : List Value} {ns : List Int} {Q : Value → Shared → Prop} (hh : A.handled = none)
    (hl : s.heap.IsTuple l its.toArray) (hi : IntsAre its ns)
    (hq : ∀ h' tk t', (∀ b o, s.heap.get? b = some o → h'.get? b = some o) → Q (.int ns.sum t') { s with heap := h', toks := tk }) :
    wpAny (model prog w) A (call (.builtin "sum") [.ref l]) Q E s := by
  obtain ⟨xs, e⟩ := hi.allInts.items
  have hn := hi.numsOf
  have hn2 : numsOf (intItems xs).toList = ns := by rw [← e]; exact hn
  rw [nums_intItems] at hn2
  rw [e] at hl
  have lt : l < s.heap.objs.size := by
    obtain ⟨_, e, _⟩ := hl
    exact Heap.lt_size e
  refine call_sum_walkG (wpAny_pyIter_tuple hl ?_)
  refine ⟨_, _, _, _, _, _, numAt xs, rfl, Walks.tuple (A := A.in1) hh s.heap.objs.size l (Nat.ne_of_lt lt) (intItems xs), ⟨⟨_, Heap.get?_push_size _ rfl, rfl, rfl⟩, hl.push _⟩, fun b hb => ?_, fun _ _ => intItems_at, fun h' tk t' hk => ?_⟩
  · show b < (s.heap.push _).objs.size
    rw [Heap.size_push]
    simp only [List.mem_cons, List.not_mem_nil, or_false] at hb
    rcases hb with rfl | rfl
    · exact Nat.lt_succ_self _
    · exact Nat.lt_succ_of_lt lt
  · have k : ∀ b o, s.heap.get? b = some o → h'.get? b = some o := fun b o e => hk b o (fun hm => by
      have : b = s.heap.objs.size := by simpa using hm
      have h2 := Heap.lt_size e
      rw [this] at h2
      exact Nat.lt_irrefl _ h2) (Heap.get?_push_of_some _ e)
    have z := hq h' tk t' k
    rw [preSum_eq, List.take_of_length_le (by simp [intItems]), hn2]
    exact z
section
variable {X : Cx}
def rSumT (K : PySem.W.Frag) : List V → Hp → VK → Prop := fun vs H Q => ∃ (a : Addr) (ns : List Int), vs = [V.ref a] ∧ (SqL K H a (ns.map V.int) ∨ SqT K H a (ns.map V.int)) ∧ Q (.int ns.sum) H
theorem cr_sumT (hc : X.calm = true) : CallR X (.builtin "sum") (rSumT X.K) := by
  intro pins s σ H vs us Q I r h
  obtain ⟨a, ns, rfl, hs | hs, q⟩ := h
  · exact cr_sum hc pins s σ H _ us Q I r ⟨a, ns, rfl, hs, q⟩
  · obtain ⟨its, rv, hl, _⟩ := I.tuple hs
    rw [Vals.ref1 r]
    exact sum_rawT (I.ok.hd hc) (show s.heap.IsTuple a its.toArray from hl) rv.ints fun h' tk t' hk => ⟨.int _, H, I.kept hk, ⟨_, rfl⟩, q⟩
/-- sum of a list or a tuple -/
def oSumA : OpN := fun as Q => match as with
  | [a] => ∃ ns : List Int, a.items = some (ns.map W.int) ∧ Q (.val (.int ns.sum))
  | _ => False
theorem ca_sumA {K : PySem.W.Frag} : CallA K (rSumT K) oSumA :=
  ⟨fun as Q Q' k q => by
    unfold oSumA at q ⊢
    split at q
    · obtain ⟨ns, e, q⟩ := q
      exact ⟨ns, e, k _ q⟩
    · exact q, fun as vs H Q0 Q r q k => by
    unfold oSumA at q
    split at q
    · obtain ⟨ns, e, q⟩ := q
      obtain ⟨v, rfl, r1⟩ := r.one
      obtain ⟨p, us, rfl, hs, rl⟩ := r1.items e
      rw [rl.of_ints] at hs
      exact ⟨p, ns, rfl, hs.imp_left rd_sq, k _ _ (.val q .int)⟩
    · exact q.elim⟩
end
end Ab

/-! Mc1: a def as a function of its arguments, in continuation style; its local names are Lean's own. -/
namespace Ab
open PySem PySem.Spec PyProof.Rows L2 RZ
abbrev MC := AH → (RR → AH → Prop) → (AExc → AH → Prop) → Prop
abbrev CE := (SV → MC) → MC
abbrev CW := (W → MC) → MC
abbrev CB := (Bool → MC) → MC
abbrev CS := (List SV → MC) → MC
abbrev CWs := (List W → MC) → MC
abbrev CO := (Option Int → MC) → MC
def SV.fz : SV → W
  | .val w => w
  | .own c => c.fz
def SV.rr : SV → RR
  | .val w => .val w
  | .own c => .own c
def SV.rv : SV → RV
  | .val w => .val w
  | .own c => .own c
def RR.sv : RR → SV
  | .val w => .val w
  | .own c => .own c
def svw (h : AH) : SV → Vw
  | .val w => viewW h w
  | .own c => .cv c
def bad : MC := fun _ _ _ => False
def req (p : Prop) (m : MC) : MC := fun h Q E => p ∧ m h Q E
def ret (x : SV) : MC := fun h Q _ => Q x.rr h
def kRv (k : SV → MC) : RV → MC
  | .val w => k (.val w)
  | .own c => k (.own c)
  | .slot _ => bad
/-! ### operators' names -/
def oSub : Op2 := oII (fun _ _ => True) fun i j => .int (i - j)
def oMod : Op2 := oII CMod fun i j => .int (i % j)
def oFdiv : Op2 := oII CDivW fun i j => .int (i / j)
def oPow : Op2 := oII CPow fun i j => .int (i ^ j.toNat)
def oLt : Op2 := oII (fun _ _ => True) fun i j => .bl (decide (i < j))
def oLe : Op2 := oII (fun _ _ => True) fun i j => .bl (decide (i ≤ j))
def oGt : Op2 := oII (fun _ _ => True) fun i j => .bl (decide (j < i))
def oGe : Op2 := oII (fun _ _ => True) fun i j => .bl (decide (j ≤ i))
def oAny : OpN := oBls fun bs => bs.any id
def oAll : OpN := oBls fun bs => bs.all id
def oAbs : OpN := o1I fun i => if i < 0 then -i else i
def oMin2 : OpN := o2I fun i j => if j < i then j else i
def oMax2 : OpN := o2I fun i j => if j > i then j else i
/-! ### expressions -/
def eV (x : SV) : CE := fun k => k x
def eC (w : W) : CE := fun k => k (.val w)
def op2 (o : Op2) (x y : SV) (k : SV → MC) : MC := fun h Q E => o (svw h x) (svw h y) fun r => kRv k r h Q E
def eOp2 (o : Op2) (a b : CE) : CE := fun k => a fun x => b fun y => op2 o x y k
def eFz (a : CE) : CW := fun k => a fun x => k x.fz
def wNil : CWs := fun k => k []
def wCons (a : CW) (b : CWs) : CWs := fun k => a fun w => b fun ws => k (w :: ws)
def eTup (a : CWs) : CE := fun k => a fun ws => req (ws.length ≤ sizeLine) (k (.val (.tup ws)))
def eLst (a : CWs) : CE := fun k => a fun ws => req (ws.length ≤ sizeLine) (k (.own (.seq ws)))
def asI (x : SV) (k : Int → MC) : MC := fun h Q E => match svw h x with
  | .wv (.int i) => k i h Q E
  | _ => False
def asB (x : SV) (k : Bool → MC) : MC := fun h Q E => match svw h x with
  | .wv (.bl i) => k i h Q E
  | _ => False
def oNo : CO := fun k => k none
def oPart (a : CE) : CO := fun k => a fun x => asI x fun i => k (some i)
def slc (x : SV) (l u : Option Int) (k : SV → MC) : MC := fun h Q E => oSl (svw h x) l u fun r => kRv k r h Q E
def eSl (a : CE) (lo hi : CO) : CE := fun k => a fun x => lo fun l => hi fun u => slc x l u k
def sNil : CS := fun k => k []
def sCons (a : CE) (b : CS) : CS := fun k => a fun x => b fun xs => k (x :: xs)
def cb (o : OpN) (xs : List SV) (k : SV → MC) : MC := fun h Q E => o (xs.map (svw h)) fun r => kRv k r h Q E
def eCB (o : OpN) (a : CS) : CE := fun k => a fun xs => cb o xs k
def tYes : CB := fun k => k true
def tTst (a : CE) : CB := fun k => a fun x => asB x k
def tAnd (a b : CB) : CB := fun k => a fun x => if x = true then b k else k false
def tOr (a b : CB) : CB := fun k => a fun x => if x = true then k true else b k
def tNot (a : CB) : CB := fun k => a fun x => k (!x)
def eIf (c : CB) (a b : CE) : CE := fun k => c fun x => if x = true then a k else b k
def eAnd (a b : CE) : CE := fun k => a fun x => asB x fun c => if c = true then b k else k (.val (.bl false))
def eOr (a b : CE) : CE := fun k => a fun x => asB x fun c => if c = true then k (.val (.bl true)) else b k
def eNot (a : CE) : CE := fun k => a fun x => asB x fun c => k (.val (.bl (!c)))
def eNeg (a : CE) : CE := fun k => a fun x => asI x fun i => k (.val (.int (-i)))
def eChn (P P' : Int → Int → Bool) (a b c : CE) : CE := fun k => a fun x => b fun y => asI x fun i => asI y fun j =>
  if P i j = true then c fun z => asI z fun l => k (.val (.bl (P' j l))) else k (.val (.bl false))
def call (m : MC) (k : SV → MC) : MC := fun h Q E => m h (fun r h' => k r.sv h' Q E) E
def eCall (f : List W → MC) (a : CWs) : CE := fun k => a fun ws => call (f ws) k
/-- .. that raises nothing -/
def call0 (m : MC) (k : SV → MC) : MC := fun h Q E => m h (fun r h' => k r.sv h' Q E) fun _ _ => False
def eCall0 (f : List W → MC) (a : CWs) : CE := fun k => a fun ws => call0 (f ws) k
def raise (x : AExc) : MC := fun h _ E => E x h
/-- keywords: in the order of the parameters -/
def perm (p : List Nat) (ws : List W) (k : List W → MC) : MC := req (ws.length = p.length) (k (p.map fun i => ws.getD i .non))
def wPerm (p : List Nat) (a : CWs) : CWs := fun k => a fun ws => perm p ws k
/-! ### what is walked -/
def items (w : W) (k : List W → MC) : MC := match w with
  | .tup ws => k ws
  | .lst ws => k ws
  | _ => bad
def iItems (a : CW) : CWs := fun k => a fun w => items w k
def rng1 (xs : List SV) (k : List W → MC) : MC := match xs with
  | [x] => asI x fun j => req (-(2 ^ 62) ≤ j ∧ j < 2 ^ 62) (k (rngW 0 j.toNat))
  | _ => bad
def rng2 (xs : List SV) (k : List W → MC) : MC := match xs with
  | [x, y] => asI x fun i => asI y fun j => req (-(2 ^ 62) ≤ i ∧ i < 2 ^ 62 ∧ -(2 ^ 62) ≤ j ∧ j < 2 ^ 62) (k (rngW i (j - i).toNat))
  | _ => bad
def iRng1 (a : CS) : CWs := fun k => a fun xs => rng1 xs k
def iRng2 (a : CS) : CWs := fun k => a fun xs => rng2 xs k
def zip2 (ws : List W) (k : List W → MC) : MC := match ws with
  | [.tup xs, .tup ys] => k (List.zipWith (fun a b => W.tup [a, b]) xs ys)
  | [.lst xs, .lst ys] => k (List.zipWith (fun a b => W.tup [a, b]) xs ys)
  | _ => bad
def iZip (a : CWs) : CWs := fun k => a fun ws => zip2 ws k
def iEnum (a : CW) : CWs := fun k => a fun w => items w fun ws => k (enW ws)
def enz (ws : List W) (k : List W → MC) : MC := match ws with
  | [a, b] => items a fun xs => items b fun ys => k (ezW xs ys)
  | _ => bad
def iEnz (a : CWs) : CWs := fun k => a fun ws => enz ws k
/-! ### targets -/
def un2 (w : W) (k : W → W → MC) : MC := match w with
  | .tup [a, b] => k a b
  | _ => bad
def un3 (w : W) (k : W → W → W → MC) : MC := match w with
  | .tup [a, b, c] => k a b c
  | _ => bad
def un5 (w : W) (k : W → W → W → W → W → MC) : MC := match w with
  | .tup [a, b, c, d, e] => k a b c d e
  | _ => bad
/-- a tuple or a list -/
def uq2 (w : W) (k : W → W → MC) : MC := items w fun ws => match ws with
  | [a, b] => k a b
  | _ => bad
def uq3 (w : W) (k : W → W → W → MC) : MC := items w fun ws => match ws with
  | [a, b, c] => k a b c
  | _ => bad
def uq4 (w : W) (k : W → W → W → W → MC) : MC := items w fun ws => match ws with
  | [a, b, c, d] => k a b c d
  | _ => bad
def uq5 (w : W) (k : W → W → W → W → W → MC) : MC := items w fun ws => match ws with
  | [a, b, c, d, e] => k a b c d e
  | _ => bad
def star (w : W) (k : W → SV → MC) : MC := items w fun ws => match ws with
  | x :: r => k x (.own (.seq r))
  | _ => bad
/-! ### comprehensions, loops -/
def lcL (body : W → (Option W → MC) → MC) (k : List W → MC) : List W → List W → MC
  | [], acc => k acc
  | w :: ws, acc => body w fun o => match o with
    | some y => req (acc.length < sizeLine) (lcL body k ws (acc ++ [y]))
    | none => lcL body k ws acc
def eLc (it : CWs) (body : W → (Option W → MC) → MC) : CE := fun k => it fun ws => lcL body (fun acc => k (.own (.seq acc))) ws []
def forL {σ : Type} (body : W → σ → (σ → MC) → (σ → MC) → MC) (k : σ → MC) : List W → σ → MC
  | [], s => k s
  | w :: ws, s => body w s (forL body k ws) k
def join {σ : Type} (k : σ → MC) (f : (σ → MC) → MC) : MC := f k
/-! ### stores, methods of lists -/
def SV.isSq (h : AH) : SV → Prop
  | .own (.seq _) => True
  | .val (.ref a) => ∃ xs, h a = some (.cont (.seq xs))
  | _ => False
def isq (x : SV) (m : MC) : MC := fun h Q E => x.isSq h ∧ m h Q E
def lm (f : LmT) (x : SV) (ws : List W) (k : SV → W → MC) : MC := fun h Q E => match x with
  | .own (.seq xs) => f xs ws fun xs' w => k (.own (.seq xs')) w h Q E
  | .val (.ref a) => (match h a with
    | some (.cont (.seq xs)) => f xs ws fun xs' w => k (.val (.ref a)) w (updA h a (.cont (.seq xs'))) Q E
    | _ => False)
  | _ => False
def ext (x y : SV) (k : SV → MC) : MC := fun h Q E => match svw h y with
  | .cv (.seq ys) => (match x with
    | .own (.seq xs) => xs.length + ys.length ≤ sizeLine ∧ k (.own (.seq (xs ++ ys))) h Q E
    | .val (.ref a) => (match h a with
      | some (.cont (.seq xs)) => xs.length + ys.length ≤ sizeLine ∧ k (.val (.ref a)) (updA h a (.cont (.seq (xs ++ ys)))) Q E
      | _ => False)
    | _ => False)
  | _ => False
def setIx (x y : SV) (w : W) (k : SV → MC) : MC := fun h Q E => match svw h y with
  | .wv (.int i) => (match x with
    | .own (.seq xs) => ∃ j, ixN xs.length i = some j ∧ k (.own (.seq (xs.set j w))) h Q E
    | .val (.ref a) => (match h a with
      | some (.cont (.seq xs)) => ∃ j, ixN xs.length i = some j ∧ k (.val (.ref a)) (updA h a (.cont (.seq (xs.set j w)))) Q E
      | _ => False)
    | _ => False)
  | _ => False
def augIx (f : Int → Int → Int) (x y : SV) (e : CE) (k : SV → MC) : MC := asI y fun i => req (0 ≤ i ∧ i < 2 ^ 62) fun h Q E => match x with
  | .own (.seq xs) => (match xs[i.toNat]? with
    | some (.int a) => e (fun z => asI z fun b => k (.own (.seq (xs.set i.toNat (.int (f a b)))))) h Q E
    | _ => False)
  | .val (.ref p) => (match h p with
    | some (.cont (.seq xs)) => (match xs[i.toNat]? with
      | some (.int a) => e (fun z => asI z fun b => fun h' Q E => match h' p with
        | some (.cont (.seq ys)) => i.toNat < ys.length ∧ k (.val (.ref p)) (updA h' p (.cont (.seq (ys.set i.toNat (.int (f a b)))))) Q E
        | _ => False) h Q E
      | _ => False)
    | _ => False)
  | _ => False
def lrg1 (x : SV) (k : SV → MC) : MC := asI x fun n => req (0 ≤ n ∧ n ≤ 16777216) (k (.own (.seq (rngW 0 n.toNat))))
def eLrg1 (a : CE) : CE := fun k => a fun x => lrg1 x k
def ifC (mc : CB) (m1 m2 : MC) : MC := mc fun b => if b = true then m1 else m2
def forC {σ : Type} (mi : CWs) (s0 : σ) (body : W → σ → (σ → MC) → (σ → MC) → MC) (k : σ → MC) : MC := mi fun ws => forL body k ws s0
def lmC (f : LmT) (x : SV) (ma : CWs) (k : SV → W → MC) : MC := isq x (ma fun ws => lm f x ws k)
def extC (x : SV) (m : CE) (k : SV → MC) : MC := isq x (m fun y => ext x y k)
def setC (mv : CW) (x : SV) (m : CE) (k : SV → MC) : MC := mv fun w => m fun y => setIx x y w k
def setC2 (mv : CW) (x : SV) (m : CE) (m2 : SV → CE) (k : SV → MC) : MC := mv fun w => un2 w fun a b => m fun y => setIx x y a fun x1 => m2 x1 fun y2 => setIx x1 y2 b k
def augC (f : Int → Int → Int) (x : SV) (m m2 : CE) (k : SV → MC) : MC := m fun y => augIx f x y m2 k
def pr2 (ws : List W) (k : W → W → MC) : MC := match ws with
  | [v, w] => k v w
  | _ => bad
def parC (ma : CWs) (k : W → W → MC) : MC := ma fun ws => pr2 ws k
def starC (mv : CW) (k : W → SV → MC) : MC := mv fun w => star w k
/-- what a name owns comes into the heap -/
def prom (x : SV) (k : W → MC) : MC := fun h Q E => match x with
  | .own c => ∀ p, h p = none → k (.ref p) (updA h p (.cont c)) Q E
  | _ => False
def upc (f : List W → MC) : ASp := fun ws h Q E => ∃ Q0 E0, (∀ r k, Q0 r k → Q r k) ∧ (∀ x k, E0 x k → E x k) ∧ f ws h Q0 E0
theorem upc.m {f : List W → MC} : SpMono (upc f) := fun ws h Q Q' E E' k k' ⟨Q0, E0, a, b, z⟩ => ⟨Q0, E0, fun r h q => k _ _ (a r h q), fun r h q => k' _ _ (b r h q), z⟩
end Ab

/-! Mc2: a reading follows from the function that mirrors it. -/
namespace Ab
open PySem PySem.Spec PyProof.Rows L2 RZ
def Rl (env : AEnv) : RV → SV → Prop
  | .val w, s => s = .val w
  | .own c, s => s = .own c
  | .slot i, s => ∃ c, s = .own c ∧ env[i]? = some (some (.own c))
theorem view_rl {env : AEnv} {h : AH} {r : RV} {s : SV} (a : Rl env r s) : view env h r = svw h s := by
  cases r with
  | val w => cases a; rfl
  | own c => cases a; rfl
  | slot i => obtain ⟨c, rfl, e⟩ := a; show viewS env[i]? = _; rw [e]; rfl
section
variable {Q : RR → AH → Prop} {E : AExc → AH → Prop} {env : AEnv}
def SE (Q : RR → AH → Prop) (E : AExc → AH → Prop) (env : AEnv) (t : AT) (m : CE) : Prop := ∀ h (k : SV → MC) (K : RV → AEnv → AH → Prop), (∀ r s h', Rl env r s → k s h' Q E → K r env h') → m k h Q E → t env h K
def SN (Q : RR → AH → Prop) (E : AExc → AH → Prop) (env : AEnv) (t : AT) (m : CE) : Prop := ∀ h (k : SV → MC) (K : RV → AEnv → AH → Prop), (∀ s h', k s h' Q E → K s.rv env h') → m k h Q E → t env h K
def SA {α : Type} (Q : RR → AH → Prop) (E : AExc → AH → Prop) (env : AEnv) (t : AEnv → AH → (α → AEnv → AH → Prop) → Prop) (m : (α → MC) → MC) : Prop := ∀ h (k : α → MC) (K : α → AEnv → AH → Prop), (∀ s h', k s h' Q E → K s env h') → m k h Q E → t env h K
inductive Rls (env : AEnv) : List RV → List SV → Prop where
  | nil : Rls env [] []
  | cons {r : RV} {rs : List RV} {s : SV} {ss : List SV} : Rl env r s → Rls env rs ss → Rls env (r :: rs) (s :: ss)
theorem views_rl {h : AH} {rs : List RV} {ss : List SV} (a : Rls env rs ss) : rs.map (view env h) = ss.map (svw h) := by
  induction a with
  | nil => rfl
  | cons a _ ih => rw [List.map_cons, List.map_cons, view_rl a, ih]
def SR (Q : RR → AH → Prop) (E : AExc → AH → Prop) (env : AEnv) (t : ART) (m : CS) : Prop := ∀ h (k : List SV → MC) (K : List RV → AEnv → AH → Prop), (∀ r s h', Rls env r s → k s h' Q E → K r env h') → m k h Q E → t env h K
theorem rl_rv {s : SV} : Rl env s.rv s := by cases s <;> rfl
variable {t t1 t2 t3 : AT} {m m1 m2 m3 : CE} {tv : AVT} {mv : CW} {ta ta2 : AAT} {ma ma2 : CWs} {tb tb2 : ABT} {mb mb2 : CB} {tr : ART} {mr : CS} {tl th : AOT} {ml mh : CO} {ti : AIT} {mi : CWs}
theorem SN.se (a : SN Q E env t m) : SE Q E env t m := fun h k K hk z => a h k K (fun s h' z => hk _ _ _ rl_rv z) z
theorem se_var {i : Nat} {x : SV} (e : env[i]? = some (some x)) : SE Q E env (aVar i) (eV x) := fun h k K hk z => by
  unfold aVar
  rw [e]
  cases x with
  | val w => exact hk (.val w) (.val w) h rfl z
  | own c => exact hk (.slot i) (.own c) h ⟨c, rfl, e⟩ z
theorem sn_var {i : Nat} {w : W} (e : env[i]? = some (some (.val w))) : SN Q E env (aVar i) (eV (.val w)) := fun h k K hk z => by
  unfold aVar
  rw [e]
  exact hk (.val w) h z
theorem sn_c {w : W} : SN Q E env (aC w) (eC w) := fun h k K hk z => hk _ _ z
def OpM (o : Op2) : Prop := ∀ a b Q Q', (∀ r, Q r → Q' r) → o a b Q → o a b Q'
def OpNM (o : OpN) : Prop := ∀ as Q Q', (∀ r, Q r → Q' r) → o as Q → o as Q'
theorem kRv_ok {k : SV → MC} {K : RV → AEnv → AH → Prop} {h : AH} (hk : ∀ s h', k s h' Q E → K s.rv env h') (r : RV) (z : kRv k r h Q E) : K r env h := by
  cases r with
  | val w => exact hk (.val w) h z
  | own c => exact hk (.own c) h z
  | slot i => exact z.elim
theorem sn_op2 {o : Op2} (om : OpM o) (a : SE Q E env t1 m1) (b : SE Q E env t2 m2) : SN Q E env (aOp2 o t1 t2) (eOp2 o m1 m2) := fun h k K hk z =>
  a h _ _ (fun rx x h1 r1 z => b h1 _ _ (fun ry y h2 r2 z => by rw [view_rl r1, view_rl r2]; exact om _ _ _ _ (fun r z => kRv_ok hk r z) z) z) z
theorem sw_fz (a : SN Q E env t m) : SA Q E env (aFz t) (eFz m) := fun h k K hk z => a h _ _ (fun s h' z => by
  cases s with
  | val w => exact hk _ _ z
  | own c => exact hk _ _ z) z
theorem sws_nil : SA Q E env aNil wNil := fun h k K hk z => hk _ _ z
theorem sws_cons (a : SA Q E env tv mv) (b : SA Q E env ta ma) : SA Q E env (aCons tv ta) (wCons mv ma) := fun h k K hk z => a h _ _ (fun w h1 z => b h1 _ _ (fun ws h2 z => hk _ _ z) z) z
theorem sn_tup (a : SA Q E env ta ma) : SN Q E env (aTup ta) (eTup ma) := fun h k K hk z => a h _ _ (fun ws h1 z => ⟨z.1, hk (.val _) _ z.2⟩) z
theorem sn_lst (a : SA Q E env ta ma) : SN Q E env (aLst ta) (eLst ma) := fun h k K hk z => a h _ _ (fun ws h1 z => ⟨z.1, hk (.own _) _ z.2⟩) z
theorem asI_ok {x : SV} {k : Int → MC} {h : AH} (z : asI x k h Q E) : ∃ i, svw h x = .wv (.int i) ∧ k i h Q E := by
  unfold asI at z
  split at z
  · rename_i i e; exact ⟨i, e, z⟩
  · exact z.elim
theorem asB_ok {x : SV} {k : Bool → MC} {h : AH} (z : asB x k h Q E) : ∃ i, svw h x = .wv (.bl i) ∧ k i h Q E := by
  unfold asB at z
  split at z
  · rename_i i e; exact ⟨i, e, z⟩
  · exact z.elim
theorem so_no : SA Q E env aNoPart oNo := fun h k K hk z => hk _ _ z
theorem so_part (a : SE Q E env t m) : SA Q E env (aPart t) (oPart m) := fun h k K hk z => a h _ _ (fun r s h1 rl z => by
  obtain ⟨i, e, z⟩ := asI_ok z
  rw [view_rl rl, e]
  exact hk _ _ z) z
theorem sn_sl (a : SE Q E env t m) (b : SA Q E env tl ml) (c : SA Q E env th mh) : SN Q E env (aSl t tl th) (eSl m ml mh) := fun h k K hk z =>
  a h _ _ (fun r s h1 rl z => b h1 _ _ (fun l h2 z => c h2 _ _ (fun u h3 z => by rw [view_rl rl]; exact oSl.mono (fun r z => kRv_ok hk r z) z) z) z) z
theorem sr_nil : SR Q E env rNil sNil := fun h k K hk z => hk _ _ _ .nil z
theorem sr_cons (a : SE Q E env t m) (b : SR Q E env tr mr) : SR Q E env (rCons t tr) (sCons m mr) := fun h k K hk z => a h _ _ (fun r s h1 rl z => b h1 _ _ (fun rs ss h2 rls z => hk _ _ _ (.cons rl rls) z) z) z
theorem sn_cb {o : OpN} (om : OpNM o) (a : SR Q E env tr mr) : SN Q E env (aCB o tr) (eCB o mr) := fun h k K hk z => a h _ _ (fun rs ss h1 rl z => by
  rw [views_rl rl]
  exact om _ _ _ (fun r z => kRv_ok hk r z) z) z
theorem st_yes : SA Q E env aYes tYes := fun h k K hk z => hk _ _ z
theorem st_tst (a : SE Q E env t m) : SA Q E env (aTst t) (tTst m) := fun h k K hk z => a h _ _ (fun r s h1 rl z => by
  obtain ⟨i, e, z⟩ := asB_ok z
  rw [view_rl rl, e]
  exact hk _ _ z) z
theorem ite_ok {b : Bool} {A B : MC} {P R : Prop} {h : AH} (x : A h Q E → P) (y : B h Q E → R) (z : (if b = true then A else B) h Q E) : if b = true then P else R := by
  cases b with
  | true => rw [if_pos rfl] at z ⊢; exact x z
  | false => rw [if_neg Bool.false_ne_true] at z ⊢; exact y z
theorem st_and (a : SA Q E env tb mb) (b : SA Q E env tb2 mb2) : SA Q E env (aAndT tb tb2) (tAnd mb mb2) := fun h k K hk z => a h _ _ (fun x h1 z => ite_ok (fun z => b h1 _ _ hk z) (fun z => hk _ _ z) z) z
theorem st_or (a : SA Q E env tb mb) (b : SA Q E env tb2 mb2) : SA Q E env (aOrT tb tb2) (tOr mb mb2) := fun h k K hk z => a h _ _ (fun x h1 z => ite_ok (fun z => hk _ _ z) (fun z => b h1 _ _ hk z) z) z
theorem st_not (a : SA Q E env tb mb) : SA Q E env (aNotT tb) (tNot mb) := fun h k K hk z => a h _ _ (fun x h1 z => hk _ _ z) z
theorem sn_if (c : SA Q E env tb mb) (a : SN Q E env t1 m1) (b : SN Q E env t2 m2) : SN Q E env (aIfE tb t1 t2) (eIf mb m1 m2) := fun h k K hk z => c h _ _ (fun x h1 z => ite_ok (fun z => a h1 _ _ hk z) (fun z => b h1 _ _ hk z) z) z
theorem se_if (c : SA Q E env tb mb) (a : SE Q E env t1 m1) (b : SE Q E env t2 m2) : SE Q E env (aIfE tb t1 t2) (eIf mb m1 m2) := fun h k K hk z => c h _ _ (fun x h1 z => ite_ok (fun z => a h1 _ _ hk z) (fun z => b h1 _ _ hk z) z) z
theorem sn_and (a : SE Q E env t1 m1) (b : SN Q E env t2 m2) : SN Q E env (aAndV t1 t2) (eAnd m1 m2) := fun h k K hk z => a h _ _ (fun r s h1 rl z => by
  obtain ⟨i, e, z⟩ := asB_ok z
  rw [view_rl rl, e]
  exact ite_ok (fun z => b h1 _ _ hk z) (fun z => hk (.val _) _ z) z) z
theorem sn_or (a : SE Q E env t1 m1) (b : SN Q E env t2 m2) : SN Q E env (aOrV t1 t2) (eOr m1 m2) := fun h k K hk z => a h _ _ (fun r s h1 rl z => by
  obtain ⟨i, e, z⟩ := asB_ok z
  rw [view_rl rl, e]
  exact ite_ok (fun z => hk (.val _) _ z) (fun z => b h1 _ _ hk z) z) z
theorem sn_not (a : SE Q E env t1 m1) : SN Q E env (aNotV t1) (eNot m1) := fun h k K hk z => a h _ _ (fun r s h1 rl z => by
  obtain ⟨i, e, z⟩ := asB_ok z
  rw [view_rl rl, e]
  exact hk (.val _) _ z) z
theorem sn_neg (a : SE Q E env t1 m1) : SN Q E env (aNeg t1) (eNeg m1) := fun h k K hk z => a h _ _ (fun r s h1 rl z => by
  obtain ⟨i, e, z⟩ := asI_ok z
  rw [view_rl rl, e]
  exact hk (.val _) _ z) z
theorem sn_chn {P P' : Int → Int → Bool} (a : SE Q E env t1 m1) (b : SE Q E env t2 m2) (c : SE Q E env t3 m3) : SN Q E env (aChn P P' t1 t2 t3) (eChn P P' m1 m2 m3) := fun h k K hk z =>
  a h _ _ (fun r s h1 rl z => b h1 _ _ (fun r2 s2 h2 rl2 z => by
    obtain ⟨i, e, z⟩ := asI_ok z
    obtain ⟨j, e2, z⟩ := asI_ok z
    rw [view_rl rl, view_rl rl2, e, e2]
    refine ite_ok (fun z => c h2 _ _ (fun r3 s3 h3 rl3 z => ?_) z) (fun z => hk (.val _) _ z) z
    obtain ⟨l, e3, z⟩ := asI_ok z
    rw [view_rl rl3, e3]
    exact hk (.val _) _ z) z) z
theorem call_ok {E' : AExc → AEnv → AH → Prop} {f : List W → MC} {ws : List W} {h : AH} {k : SV → MC} {K : RV → AEnv → AH → Prop} (hk : ∀ s h', k s h' Q E → K s.rv env h') (hE : ∀ x h, E x h → E' x env h) (z : call (f ws) k h Q E) :
    upc f ws h (fun r h2 => match r with
  | .val w => K (.val w) env h2
  | .own c => K (.own c) env h2) fun x h2 => E' x env h2 :=
  ⟨_, _, fun r h' z => by cases r <;> exact hk _ _ z, hE, z⟩
theorem sn_call {E' : AExc → AEnv → AH → Prop} {f : List W → MC} (hE : ∀ x h, E x h → E' x env h) (a : SA Q E env ta ma) : SN Q E env (aCall E' (upc f) ta) (eCall f ma) := fun h k K hk z => a h _ _ (fun ws h1 z => call_ok hk hE z) z
theorem sn_call0 {f : List W → MC} (a : SA Q E env ta ma) : SN Q E env (aCall E0 (upc f) ta) (eCall0 f ma) := fun h k K hk z => a h _ _ (fun ws h1 z => ⟨_, _, fun r h' z => by cases r <;> exact hk _ _ z, fun _ _ z => z, z⟩) z
theorem perm_ok {p : List Nat} {ws : List W} {h : AH} {k : List W → MC} (z : perm p ws k h Q E) : gKw p [] ws = p.map (fun i => ws.getD i .non) ∧ ws.length = p.length ∧ k (p.map fun i => ws.getD i .non) h Q E := by
  refine ⟨?_, z.1, z.2⟩
  show (if ([] : List W).isEmpty && ws.length == p.length then _ else _) = _
  rw [z.1]
  simp
theorem sn_callK {E' : AExc → AEnv → AH → Prop} {f : List W → MC} {p : List Nat} (hE : ∀ x h, E x h → E' x env h) (a : SA Q E env ta ma) : SN Q E env (aCallK E' (upc f) p.length (gKw p) aNil ta) (eCall f (wPerm p ma)) := fun h k K hk z => a h _ _ (fun ws h1 z => by
  obtain ⟨e, l, z⟩ := perm_ok z
  exact ⟨by rw [e, List.length_map], by rw [e]; exact call_ok hk hE z⟩) z
theorem sn_callK0 {f : List W → MC} {p : List Nat} (a : SA Q E env ta ma) : SN Q E env (aCallK E0 (upc f) p.length (gKw p) aNil ta) (eCall0 f (wPerm p ma)) := fun h k K hk z => a h _ _ (fun ws h1 z => by
  obtain ⟨e, l, z⟩ := perm_ok z
  exact ⟨by rw [e, List.length_map], by rw [e]; exact ⟨_, _, fun r h' z => by cases r <;> exact hk _ _ z, fun _ _ z => z, z⟩⟩) z
/-! ### what is walked -/
theorem items_ok {w : W} {k : List W → MC} {h : AH} (z : items w k h Q E) : ∃ ws, (w = .tup ws ∨ w = .lst ws) ∧ k ws h Q E := by
  unfold items at z
  split at z
  · exact ⟨_, .inl rfl, z⟩
  · exact ⟨_, .inr rfl, z⟩
  · exact z.elim
theorem si_items (a : SA Q E env tv mv) : SA Q E env (iSq tv) (iItems mv) := fun h k K hk z => a h _ _ (fun w h1 z => by
  obtain ⟨ws, e, z⟩ := items_ok z
  rcases e with rfl | rfl <;> exact hk _ _ z) z
theorem si_enum (a : SA Q E env tv mv) : SA Q E env (iEn tv) (iEnum mv) := fun h k K hk z => a h _ _ (fun w h1 z => by
  obtain ⟨ws, e, z⟩ := items_ok z
  rcases e with rfl | rfl <;> exact hk _ _ z) z
theorem si_rng1 (a : SR Q E env tr mr) : SA Q E env (iRg1 tr) (iRng1 mr) := fun h k K hk z => a h _ _ (fun rs ss h1 rl z => by
  rw [views_rl rl]
  unfold rng1 at z
  split at z
  · obtain ⟨j, e, z⟩ := asI_ok z
    rw [List.map_cons, List.map_nil, e]
    exact ⟨z.1.1, z.1.2, hk _ _ z.2⟩
  · exact z.elim) z
theorem si_rng2 (a : SR Q E env tr mr) : SA Q E env (iRg2 tr) (iRng2 mr) := fun h k K hk z => a h _ _ (fun rs ss h1 rl z => by
  rw [views_rl rl]
  unfold rng2 at z
  split at z
  · obtain ⟨i, e, z⟩ := asI_ok z
    obtain ⟨j, e2, z⟩ := asI_ok z
    rw [List.map_cons, List.map_cons, List.map_nil, e, e2]
    exact ⟨z.1, hk _ _ z.2⟩
  · exact z.elim) z
theorem si_zip (a : SA Q E env ta ma) : SA Q E env (iZp ta) (iZip ma) := fun h k K hk z => a h _ _ (fun ws h1 z => by
  unfold zip2 at z
  split at z
  · exact hk _ _ z
  · exact hk _ _ z
  · exact z.elim) z
theorem si_enz (a : SA Q E env ta ma) : SA Q E env (iEz ta) (iEnz ma) := fun h k K hk z => a h _ _ (fun ws h1 z => by
  unfold enz at z
  split at z
  · obtain ⟨xs, e, z⟩ := items_ok z
    obtain ⟨ys, e2, z⟩ := items_ok z
    rcases e with rfl | rfl <;> rcases e2 with rfl | rfl <;> exact hk _ _ z
  · exact z.elim) z
/-! ### targets -/
def Gd (g : AGT) (w : W) (env e1 : AEnv) : Prop := ∀ h (K : AEnv → AH → Prop), K e1 h → g w env h K
theorem gd_nm {i : Nat} {w : W} : Gd (gNm i) w env (env.set i (some (.val w))) := fun h K k => k
theorem gd_2 {g1 g2 : AGT} {a b : W} {e1 e2 : AEnv} (d1 : Gd g1 a env e1) (d2 : Gd g2 b e1 e2) : Gd (gTp 2 (gsCons g1 (gsCons g2 gsNil))) (.tup [a, b]) env e2 := fun h K k =>
  ⟨rfl, a, [b], rfl, d1 h _ ⟨b, [], rfl, d2 h _ ⟨rfl, k⟩⟩⟩
theorem gd_3 {g1 g2 g3 : AGT} {a b c : W} {e1 e2 e3 : AEnv} (d1 : Gd g1 a env e1) (d2 : Gd g2 b e1 e2) (d3 : Gd g3 c e2 e3) : Gd (gTp 3 (gsCons g1 (gsCons g2 (gsCons g3 gsNil)))) (.tup [a, b, c]) env e3 := fun h K k =>
  ⟨rfl, a, [b, c], rfl, d1 h _ ⟨b, [c], rfl, d2 h _ ⟨c, [], rfl, d3 h _ ⟨rfl, k⟩⟩⟩⟩
theorem gd_5 {g1 g2 g3 g4 g5 : AGT} {a b c d e : W} {e1 e2 e3 e4 e5 : AEnv} (d1 : Gd g1 a env e1) (d2 : Gd g2 b e1 e2) (d3 : Gd g3 c e2 e3) (d4 : Gd g4 d e3 e4) (d5 : Gd g5 e e4 e5) : Gd (gTp 5 (gsCons g1 (gsCons g2 (gsCons g3 (gsCons g4 (gsCons g5 gsNil)))))) (.tup [a, b, c, d, e]) env e5 := fun h K k =>
  ⟨rfl, a, _, rfl, d1 h _ ⟨b, _, rfl, d2 h _ ⟨c, _, rfl, d3 h _ ⟨d, _, rfl, d4 h _ ⟨e, [], rfl, d5 h _ ⟨rfl, k⟩⟩⟩⟩⟩⟩
theorem gq_2 {g1 g2 : AGT} {a b w : W} {e1 e2 : AEnv} (hw : w = .tup [a, b] ∨ w = .lst [a, b]) (d1 : Gd g1 a env e1) (d2 : Gd g2 b e1 e2) : Gd (gUn 2 (gsCons g1 (gsCons g2 gsNil))) w env e2 := fun h K k => by
  rcases hw with rfl | rfl <;> exact ⟨rfl, a, [b], rfl, d1 h _ ⟨b, [], rfl, d2 h _ ⟨rfl, k⟩⟩⟩
theorem gq_3 {g1 g2 g3 : AGT} {a b c w : W} {e1 e2 e3 : AEnv} (hw : w = .tup [a, b, c] ∨ w = .lst [a, b, c]) (d1 : Gd g1 a env e1) (d2 : Gd g2 b e1 e2) (d3 : Gd g3 c e2 e3) : Gd (gUn 3 (gsCons g1 (gsCons g2 (gsCons g3 gsNil)))) w env e3 := fun h K k => by
  rcases hw with rfl | rfl <;> exact ⟨rfl, a, [b, c], rfl, d1 h _ ⟨b, [c], rfl, d2 h _ ⟨c, [], rfl, d3 h _ ⟨rfl, k⟩⟩⟩⟩
theorem gq_4 {g1 g2 g3 g4 : AGT} {a b c d w : W} {e1 e2 e3 e4 : AEnv} (hw : w = .tup [a, b, c, d] ∨ w = .lst [a, b, c, d]) (d1 : Gd g1 a env e1) (d2 : Gd g2 b e1 e2) (d3 : Gd g3 c e2 e3) (d4 : Gd g4 d e3 e4) : Gd (gUn 4 (gsCons g1 (gsCons g2 (gsCons g3 (gsCons g4 gsNil))))) w env e4 := fun h K k => by
  rcases hw with rfl | rfl <;> exact ⟨rfl, a, _, rfl, d1 h _ ⟨b, _, rfl, d2 h _ ⟨c, _, rfl, d3 h _ ⟨d, [], rfl, d4 h _ ⟨rfl, k⟩⟩⟩⟩⟩
theorem gq_5 {g1 g2 g3 g4 g5 : AGT} {a b c d e w : W} {e1 e2 e3 e4 e5 : AEnv} (hw : w = .tup [a, b, c, d, e] ∨ w = .lst [a, b, c, d, e]) (d1 : Gd g1 a env e1) (d2 : Gd g2 b e1 e2) (d3 : Gd g3 c e2 e3) (d4 : Gd g4 d e3 e4) (d5 : Gd g5 e e4 e5) : Gd (gUn 5 (gsCons g1 (gsCons g2 (gsCons g3 (gsCons g4 (gsCons g5 gsNil)))))) w env e5 := fun h K k => by
  rcases hw with rfl | rfl <;> exact ⟨rfl, a, _, rfl, d1 h _ ⟨b, _, rfl, d2 h _ ⟨c, _, rfl, d3 h _ ⟨d, _, rfl, d4 h _ ⟨e, [], rfl, d5 h _ ⟨rfl, k⟩⟩⟩⟩⟩⟩
theorem un2_ok {w : W} {f : W → W → MC} {h : AH} (z : un2 w f h Q E) : ∃ a b, w = .tup [a, b] ∧ f a b h Q E := by
  unfold un2 at z
  split at z
  · exact ⟨_, _, rfl, z⟩
  · exact z.elim
theorem un3_ok {w : W} {f : W → W → W → MC} {h : AH} (z : un3 w f h Q E) : ∃ a b c, w = .tup [a, b, c] ∧ f a b c h Q E := by
  unfold un3 at z
  split at z
  · exact ⟨_, _, _, rfl, z⟩
  · exact z.elim
theorem un5_ok {w : W} {f : W → W → W → W → W → MC} {h : AH} (z : un5 w f h Q E) : ∃ a b c d e, w = .tup [a, b, c, d, e] ∧ f a b c d e h Q E := by
  unfold un5 at z
  split at z
  · exact ⟨_, _, _, _, _, rfl, z⟩
  · exact z.elim
theorem uq2_ok {w : W} {f : W → W → MC} {h : AH} (z : uq2 w f h Q E) : ∃ a b, (w = .tup [a, b] ∨ w = .lst [a, b]) ∧ f a b h Q E := by
  obtain ⟨ws, e, z⟩ := items_ok z
  split at z
  · exact ⟨_, _, e, z⟩
  · exact z.elim
theorem uq3_ok {w : W} {f : W → W → W → MC} {h : AH} (z : uq3 w f h Q E) : ∃ a b c, (w = .tup [a, b, c] ∨ w = .lst [a, b, c]) ∧ f a b c h Q E := by
  obtain ⟨ws, e, z⟩ := items_ok z
  split at z
  · exact ⟨_, _, _, e, z⟩
  · exact z.elim
theorem uq4_ok {w : W} {f : W → W → W → W → MC} {h : AH} (z : uq4 w f h Q E) : ∃ a b c d, (w = .tup [a, b, c, d] ∨ w = .lst [a, b, c, d]) ∧ f a b c d h Q E := by
  obtain ⟨ws, e, z⟩ := items_ok z
  split at z
  · exact ⟨_, _, _, _, e, z⟩
  · exact z.elim
theorem uq5_ok {w : W} {f : W → W → W → W → W → MC} {h : AH} (z : uq5 w f h Q E) : ∃ a b c d e, (w = .tup [a, b, c, d, e] ∨ w = .lst [a, b, c, d, e]) ∧ f a b c d e h Q E := by
  obtain ⟨ws, e, z⟩ := items_ok z
  split at z
  · exact ⟨_, _, _, _, _, e, z⟩
  · exact z.elim
theorem star_ok {w : W} {f : W → SV → MC} {h : AH} (z : star w f h Q E) : ∃ x r, (w = .tup (x :: r) ∨ w = .lst (x :: r)) ∧ f x (.own (.seq r)) h Q E := by
  obtain ⟨ws, e, z⟩ := items_ok z
  split at z
  · exact ⟨_, _, e, z⟩
  · exact z.elim
/-! ### comprehensions -/
def lcb (mt : CB) (me : CW) (kk : Option W → MC) : MC := mt fun b => if b = true then me fun y => kk (some y) else kk none
theorem lc_body {vs : List Nat} {g : AGT} {w : W} {e1 : AEnv} (gd : Gd g w (wipeA env vs) e1) (tst : SA Q E e1 tb mb) (elt : SA Q E e1 tv mv) (hm : mend env e1 vs = env) {h : AH} {kk : Option W → MC} {K1 : W → AEnv → AH → Prop} {K0 : AEnv → AH → Prop}
    (h1 : ∀ y h', kk (some y) h' Q E → K1 y env h') (h0 : ∀ h', kk none h' Q E → K0 env h') (z : lcb mb mv kk h Q E) :
    g w (wipeA env vs) h fun e1 h1 => tb e1 h1 fun b e2 h2 => if b = true then tv e2 h2 fun y e3 h3 => K1 y (mend env e3 vs) h3 else K0 (mend env e2 vs) h2 :=
  gd h _ (tst h _ _ (fun b h2 z => ite_ok (fun z => elt h2 _ _ (fun y h3 z => by rw [hm]; exact h1 y h3 z) z) (fun z => by rw [hm]; exact h0 h2 z) z) z)
def LcB (Q : RR → AH → Prop) (E : AExc → AH → Prop) (env : AEnv) (vs : List Nat) (g : AGT) (tt : ABT) (te : AVT) (mb : W → (Option W → MC) → MC) : Prop :=
  ∀ w h (kk : Option W → MC) (K1 : W → AEnv → AH → Prop) (K0 : AEnv → AH → Prop), (∀ y h', kk (some y) h' Q E → K1 y env h') → (∀ h', kk none h' Q E → K0 env h') → mb w kk h Q E →
    g w (wipeA env vs) h fun e1 h1 => tt e1 h1 fun b e2 h2 => if b = true then te e2 h2 fun y e3 h3 => K1 y (mend env e3 vs) h3 else K0 (mend env e2 vs) h2
def iLc (it : CWs) (body : W → (Option W → MC) → MC) (k : List W → MC) : MC := it fun ws => lcL body k ws []
theorem lc_go {vs : List Nat} {g : AGT} {body : W → (Option W → MC) → MC} {k : List W → MC} {K : List W → AEnv → AH → Prop} (hk : ∀ acc h', k acc h' Q E → K acc env h') (b : LcB Q E env vs g tb tv body) :
    ∀ (ws acc : List W) (h : AH), lcL body k ws acc h Q E → lcLoop vs g tb tv K ws acc env h
  | [], acc, h, z => hk acc h z
  | w :: ws, acc, h, z => b w h _ (fun y e3 h3 => acc.length < sizeLine ∧ lcLoop vs g tb tv K ws (acc ++ [y]) e3 h3) (fun e2 h2 => lcLoop vs g tb tv K ws acc e2 h2)
      (fun y h' z => ⟨z.1, lc_go hk b ws (acc ++ [y]) h' z.2⟩) (fun h' z => lc_go hk b ws acc h' z) z
theorem sn_lc {vs : List Nat} {g : AGT} {body : W → (Option W → MC) → MC} (it : SA Q E env ti mi) (b : LcB Q E env vs g tb tv body) : SN Q E env (aLc vs ti g tb tv) (eLc mi body) := fun h k K hk z =>
  it h _ _ (fun ws h1 z => lc_go (k := fun acc => k (.own (.seq acc))) (fun acc h' z => hk (.own (.seq acc)) h' z) b ws [] h1 z) z
theorem sn_lrg1 (a : SE Q E env t m) : SN Q E env (aLRg1 t) (eLrg1 m) := fun h k K hk z => a h _ _ (fun r s h1 rl z => by
  obtain ⟨i, e, z⟩ := asI_ok z
  rw [view_rl rl, e]
  exact ⟨z.1, hk (.own _) _ z.2⟩) z
/-! ### statements -/
variable {D : AEnds} {s u : ATS} {i j : Nat}
theorem ss_seq {mc : MC} (a : ∀ h, mc h Q E → s { D with nx := u D } env h) : ∀ h, mc h Q E → aSeq s u D env h := a
theorem nx_of {mc : MC} (a : ∀ h, mc h Q E → u D env h) : ∀ h, mc h Q E → ({ D with nx := u D } : AEnds).nx env h := a
theorem ss_ret (hr : ∀ r s env h, Rl env r s → Q s.rr h → D.rt r env h) (a : SE Q E env t m) : ∀ h, (m ret) h Q E → aRet t D env h := fun h z => a h _ _ (fun r s h' rl z => hr _ _ _ _ rl z) z
theorem ss_retK {mc : MC} (a : ∀ h, mc h Q E → t env h D.rt) : ∀ h, mc h Q E → aRet t D env h := a
theorem ss_retN (hr : ∀ r s env h, Rl env r s → Q s.rr h → D.rt r env h) : ∀ h, (ret (.val .non)) h Q E → aRetN D env h := fun h z => hr (.val .non) (.val .non) _ _ rfl z
theorem ss_drop {k : SV → MC} (a : SE Q E env t m) (n : ∀ s h, k s h Q E → D.nx env h) : ∀ h, (m k) h Q E → aDrop t D env h := fun h z => a h _ _ (fun r s h' rl z => n s h' z) z
theorem ss_set {k : SV → MC} (e' : SV → AEnv) (he : ∀ x, env.set i (some x) = e' x) (a : SN Q E env t m) (n : ∀ x h, k x h Q E → D.nx (e' x) h) : ∀ h, (m k) h Q E → aSet i t D env h := fun h z => a h _ _ (fun s h' z => by
  have q := n s h' z
  rw [← he] at q
  cases s <;> exact q) z
theorem ss_asg {k : W → MC} (e' : W → AEnv) (he : ∀ x, env.set i (some (.val x)) = e' x) (a : SA Q E env tv mv) (n : ∀ x h, k x h Q E → D.nx (e' x) h) : ∀ h, (mv k) h Q E → aAsg tv (gNm i) D env h := fun h z => a h _ _ (fun s h' z => by
  have q := n s h' z
  rw [← he] at q
  exact q) z
theorem yes_go {P R : AEnv → AH → Prop} {h : AH} (q : P env h) : aYes env h fun b e2 h2 => if b = true then P e2 h2 else R e2 h2 := by
  show (if true = true then P env h else R env h)
  rw [if_pos rfl]
  exact q
theorem go_at {P R : AH → Prop} (h : AH) (z : P h) (f : ∀ h, P h → R h) : R h := f h z
theorem gd_lit {g : AGT} {w : W} {e1 : AEnv} (e2 : AEnv) (gd : Gd g w env e1) (he : e1 = e2) : Gd g w env e2 := he ▸ gd
theorem ss_asgG {g : AGT} {k : W → MC} (a : SA Q E env tv mv) (n : ∀ x h, k x h Q E → g x env h D.nx) : ∀ h, (mv k) h Q E → aAsg tv g D env h := fun h z => a h _ _ (fun s h' z => n s h' z) z
theorem ss_setLc {vs : List Nat} {g : AGT} {body : W → (Option W → MC) → MC} {k : SV → MC} (e' : SV → AEnv) (he : ∀ x, env.set i (some x) = e' x) (it : SA Q E env ti mi) (b : LcB Q E env vs g tb tv body) (n : ∀ x h, k x h Q E → D.nx (e' x) h) : ∀ h, (eLc mi body k) h Q E → aSetLc i (aLc vs ti g tb tv) D env h := fun h z =>
  it h _ _ (fun ws h1 z => lc_go (k := fun acc => k (.own (.seq acc))) (fun acc h' z => by
    have q := n (.own (.seq acc)) h' z
    rw [← he] at q
    exact q) b ws [] h1 z) z
theorem ss_par {k : W → W → MC} (e' : W → W → AEnv) (he : ∀ v w, (env.set i (some (.val v))).set j (some (.val w)) = e' v w) (a : SA Q E env ta ma) (n : ∀ v w h, k v w h Q E → D.nx (e' v w) h) : ∀ h, parC ma k h Q E → aPar i j ta D env h := fun h z => a h _ _ (fun ws h' z => by
  unfold pr2 at z
  split at z
  · have q := n _ _ _ z
    rw [← he] at q
    exact q
  · exact z.elim) z
theorem ss_star {k : W → SV → MC} (e' : W → SV → AEnv) (he : ∀ v w, (env.set i (some (.val v))).set j (some w) = e' v w) (a : SA Q E env tv mv) (n : ∀ v w h, k v w h Q E → D.nx (e' v w) h) : ∀ h, starC mv k h Q E → aStar i j tv D env h := fun h z => a h _ _ (fun w h' z => by
  obtain ⟨x, r, e, z⟩ := star_ok z
  have q := n _ _ _ z
  rw [← he] at q
  rcases e with rfl | rfl <;> exact q) z
theorem ss_if {c : ABT} {mc : CB} {m1 m2 : MC} (a : SA Q E env c mc) (x : ∀ h, m1 h Q E → s D env h) (y : ∀ h, m2 h Q E → u D env h) : ∀ h, ifC mc m1 m2 h Q E → aIf c s u D env h := fun h z =>
  a h _ _ (fun b h' z => ite_ok (x h') (y h') z) z
theorem ss_nx {mc : MC} (n : ∀ h, mc h Q E → D.nx env h) : ∀ h, mc h Q E → aNext D env h := n
theorem ss_never : ∀ h, bad h Q E → aNever D env h := fun _ z => z
theorem ss_frz {x : SV} {mc : MC} (e' : AEnv) (he : env.set i (some (.val x.fz)) = e') (e : env[i]? = some (some x)) (a : ∀ h, mc h Q E → s D e' h) : ∀ h, mc h Q E → aFrz i s D env h := fun h z => by
  have q := a h z
  rw [← he] at q
  unfold aFrz
  rw [e]
  cases x with
  | own c => exact q
  | val w =>
    obtain ⟨hi, e'⟩ := List.getElem?_eq_some_iff.mp e
    have : env.set i (some (SV.val (SV.val w).fz)) = env := by
      conv => rhs; rw [← List.set_getElem_self (as := env) hi]
      rw [e']
      rfl
    rw [this] at q
    exact q
theorem ss_prom {x : SV} {k : W → MC} (e' : W → AEnv) (he : ∀ p, env.set i (some (.val p)) = e' p) (e : env[i]? = some (some x)) (a : ∀ p h, k p h Q E → s D (e' p) h) : ∀ h, prom x k h Q E → aProm i s D env h := fun h z => by
  unfold aProm
  rw [e]
  cases x with
  | val w => exact z.elim
  | own c =>
    intro p n
    have q := a _ _ (z p n)
    rw [← he] at q
    exact q
theorem ss_join {β J : Type} {kk : β → MC} {f : (β → MC) → MC} (envOf : β → J → AEnv) (r : ∀ b j h, kk b h Q E → u D (envOf b j) h)
    (b : (∀ b j h, kk b h Q E → ({ D with nx := u D } : AEnds).nx (envOf b j) h) → ∀ h, f kk h Q E → s { D with nx := u D } env h) : ∀ h, join kk f h Q E → aSeq s u D env h := b r
theorem loop_go {σ J : Type} {g : AGT} {tb : ATS} {body : W → σ → (σ → MC) → (σ → MC) → MC} {k : σ → MC} (envOf : σ → J → AEnv) (r : ∀ s j h, k s h Q E → D.nx (envOf s j) h)
    (b : ∀ w s j (kn : σ → MC) (N : AEnv → AH → Prop), (∀ s j h, kn s h Q E → N (envOf s j) h) → ∀ h, body w s kn k h Q E → g w (envOf s j) h fun e1 h1 => tb { D with nx := N, ct := N, bk := D.nx } e1 h1) :
    ∀ ws s j h, forL body k ws s h Q E → aLoop g tb D ws (envOf s j) h
  | [], s, j, h, z => r s j h z
  | w :: ws, s, j, h, z => b w s j (forL body k ws) (aLoop g tb D ws) (fun s j h z => loop_go envOf r b ws s j h z) h z
theorem ss_for {σ J : Type} {g : AGT} {tb : ATS} {body : W → σ → (σ → MC) → (σ → MC) → MC} {k : σ → MC} (envOf : σ → J → AEnv) (s0 : σ) (j0 : J) (he : envOf s0 j0 = env) (it : SA Q E env ti mi) (r : ∀ s j h, k s h Q E → D.nx (envOf s j) h)
    (b : (∀ s j h, k s h Q E → D.nx (envOf s j) h) → ∀ w s j (kn : σ → MC) (N : AEnv → AH → Prop), (∀ s j h, kn s h Q E → N (envOf s j) h) → ∀ h, body w s kn k h Q E → g w (envOf s j) h fun e1 h1 => tb { D with nx := N, ct := N, bk := D.nx } e1 h1) :
    ∀ h, forC mi s0 body k h Q E → aFor ti g tb D env h := fun h z => it h _ _ (fun ws h' z => he ▸ loop_go envOf r (b r) ws s0 j0 h' z) z
theorem ss_brk {mc : MC} (n : ∀ h, mc h Q E → D.bk env h) : ∀ h, mc h Q E → aBrk D env h := n
theorem ss_cnt {mc : MC} (n : ∀ h, mc h Q E → D.ct env h) : ∀ h, mc h Q E → aCnt D env h := n
/-! stores into what a name holds -/
theorem set_id {x : SV} (e : env[i]? = some (some x)) : env.set i (some x) = env := by
  obtain ⟨hi, e'⟩ := List.getElem?_eq_some_iff.mp e
  conv => rhs; rw [← List.set_getElem_self (as := env) hi]
  rw [e']
/-- how a name's list is read and put -/
theorem var_seq {x : SV} {h : AH} {K : RV → AEnv → AH → Prop} (e : env[i]? = some (some x)) (q : ∀ r, (∃ c, x = .own c ∧ r = .slot i) ∨ (∃ w, x = .val w ∧ r = .val w) → K r env h) : aVar i env h K := by
  unfold aVar
  rw [e]
  cases x with
  | val w => exact q _ (.inr ⟨w, rfl, rfl⟩)
  | own c => exact q _ (.inl ⟨c, rfl, rfl⟩)
theorem plc_slot {h : AH} {c : Cont} (e : env[i]? = some (some (.own c))) : plc env h (.slot i) = some c := by
  show (match env[i]? with
    | some (some (.own c)) => some c
    | _ => none) = _
  rw [e]
theorem plc_ref {h : AH} {p : Addr} {c : Cont} (e : h p = some (.cont c)) : plc env h (.val (.ref p)) = some c := by
  show (match h p with
    | some (.cont c) => some c
    | _ => none) = _
  rw [e]
def LmM (f : LmT) : Prop := ∀ xs ws Q Q', (∀ a b, Q a b → Q' a b) → f xs ws Q → f xs ws Q'
/-- x.f(..) as an expression: the name's list may be another behind it -/
theorem lm_go {f : LmT} {x : SV} {k : SV → W → MC} {K : RV → AEnv → AH → Prop} (fm : LmM f) (e : env[i]? = some (some x)) (a : SA Q E env ta ma) (n : ∀ x' w h, k x' w h Q E → K (.val w) (env.set i (some x')) h) :
    ∀ h, lmC f x ma k h Q E → aLm f (aVar i) ta env h K := fun h z => by
  refine var_seq e fun r hr => ?_
  obtain ⟨zi, z⟩ := z
  rcases hr with ⟨c, rfl, rfl⟩ | ⟨w, rfl, rfl⟩
  · have pl : plc env h (.slot i) = some c := plc_slot e
    cases c with
    | map kvs => exact zi.elim
    | seq xs =>
      refine ⟨by rw [pl]; trivial, a h _ _ (fun ws h2 z => ?_) z⟩
      have pl : plc env h2 (.slot i) = some (.seq xs) := plc_slot e
      rw [pl]
      exact fm _ _ _ _ (fun xs' w z => n _ _ _ z) z
  · cases w with
    | ref p =>
      obtain ⟨xs, ep⟩ := zi
      have pl : plc env h (.val (.ref p)) = some (.seq xs) := plc_ref ep
      refine ⟨by rw [pl]; trivial, a h _ _ (fun ws h2 z => ?_) z⟩
      have z : (match h2 p with
        | some (.cont (.seq xs)) => f xs ws fun xs' w => k (.val (.ref p)) w (updA h2 p (.cont (.seq xs'))) Q E
        | _ => False) := z
      split at z
      · rename_i xs2 e2
        have pl : plc env h2 (.val (.ref p)) = some (.seq xs2) := plc_ref e2
        rw [pl]
        refine fm _ _ _ _ (fun xs' w z => ?_) z
        have q := n _ _ _ z
        rw [set_id e] at q
        exact q
      · exact z.elim
    | _ => exact zi.elim
theorem ss_lm {f : LmT} {x : SV} {k : SV → W → MC} (e' : SV → AEnv) (he : ∀ x, env.set i (some x) = e' x) (fm : LmM f) (e : env[i]? = some (some x)) (a : SA Q E env ta ma) (n : ∀ x' w h, k x' w h Q E → D.nx (e' x') h) : ∀ h, lmC f x ma k h Q E → aDrop (aLm f (aVar i) ta) D env h :=
  lm_go (K := fun _ env1 h1 => D.nx env1 h1) fm e a (fun x' w h z => by rw [he]; exact n x' w h z)
theorem ss_lmAsg {f : LmT} {x : SV} {k : SV → W → MC} (e' : SV → W → AEnv) (he : ∀ x' w, (env.set i (some x')).set j (some (.val w)) = e' x' w) (fm : LmM f) (e : env[i]? = some (some x)) (a : SA Q E env ta ma) (n : ∀ x' w h, k x' w h Q E → D.nx (e' x' w) h) : ∀ h, lmC f x ma k h Q E → aAsg (aFz (aLm f (aVar i) ta)) (gNm j) D env h :=
  lm_go (K := fun r env' h' => match r with
    | .val w => D.nx (env'.set j (some (.val w))) h'
    | .own c => D.nx (env'.set j (some (.val c.fz))) h'
    | .slot i => match env'[i]? with
      | some (some (.val w)) => D.nx (env'.set j (some (.val w))) h'
      | some (some (.own c)) => D.nx ((env'.set i (some (.val c.fz))).set j (some (.val c.fz))) h'
      | _ => False) fm e a (fun x' w h z => by
    have q := n x' w h z
    rw [← he] at q
    exact q)
theorem ss_lmRet {f : LmT} {x : SV} {k : SV → W → MC} (fm : LmM f) (e : env[i]? = some (some x)) (a : SA Q E env ta ma) (hr : ∀ r s env h, Rl env r s → Q s.rr h → D.rt r env h) (n : ∀ x' w h, k x' w h Q E → Q (.val w) h) : ∀ h, lmC f x ma k h Q E → aRet (aLm f (aVar i) ta) D env h :=
  lm_go fm e a fun x' w h z => hr (.val w) (.val w) _ _ rfl (n _ _ _ z)
theorem ss_ext {x : SV} {k : SV → MC} (e' : SV → AEnv) (he : ∀ x, env.set i (some x) = e' x) (e : env[i]? = some (some x)) (a : SE Q E env t m) (n0 : ∀ x' h, k x' h Q E → D.nx (e' x') h) : ∀ h, extC x m k h Q E → aDrop (aExt (aVar i) t) D env h := fun h z => by
  have n : ∀ x' h, k x' h Q E → D.nx (env.set i (some x')) h := fun x' h z => by rw [he]; exact n0 x' h z
  refine var_seq (K := fun ro env1 h1 => isSeq (plc env1 h1 ro) ∧ t env1 h1 fun re env2 h2 => match view env2 h2 re with
    | .cv (.seq ys) => (match plc env2 h2 ro with
      | some (.seq xs) => xs.length + ys.length ≤ sizeLine ∧ D.nx (putE env2 ro (.seq (xs ++ ys))) (putH h2 ro (.seq (xs ++ ys)))
      | _ => False)
    | _ => False) e fun r hr => ?_
  obtain ⟨zi, z⟩ := z
  rcases hr with ⟨c, rfl, rfl⟩ | ⟨w, rfl, rfl⟩
  · cases c with
    | map kvs => exact zi.elim
    | seq xs =>
      have pl : ∀ h, plc env h (.slot i) = some (.seq xs) := fun h => plc_slot e
      refine ⟨by rw [pl]; trivial, a h _ _ (fun re y h2 rl z => ?_) z⟩
      rw [view_rl rl]
      unfold ext at z
      split at z
      · rename_i ys e1
        first | rw [pl, e1] | rw [pl]
        exact ⟨z.1, n _ _ z.2⟩
      · exact z.elim
  · cases w with
    | ref p =>
      obtain ⟨xs, ep⟩ := zi
      have pl : plc env h (.val (.ref p)) = some (.seq xs) := plc_ref ep
      refine ⟨by rw [pl]; trivial, a h _ _ (fun re y h2 rl z => ?_) z⟩
      rw [view_rl rl]
      unfold ext at z
      split at z
      · rename_i ys e1
        try rw [e1]
        have z : (match h2 p with
          | some (.cont (.seq xs)) => xs.length + ys.length ≤ sizeLine ∧ k (.val (.ref p)) (updA h2 p (.cont (.seq (xs ++ ys)))) Q E
          | _ => False) := z
        split at z
        · rename_i xs2 e2
          have pl : plc env h2 (.val (.ref p)) = some (.seq xs2) := plc_ref e2
          rw [pl]
          have q := n _ _ z.2
          rw [set_id e] at q
          exact ⟨z.1, q⟩
        · exact z.elim
      · exact z.elim
    | _ => exact zi.elim
theorem ss_setIx {x : SV} {k : SV → MC} (e' : SV → AEnv) (he : ∀ x, env.set i (some x) = e' x) (a : SA Q E env tv mv) (e : env[i]? = some (some x)) (b : SE Q E env t m) (n0 : ∀ x' h, k x' h Q E → D.nx (e' x') h) : ∀ h, setC mv x m k h Q E → aAsg tv (gSet (aVar i) t) D env h := fun h z => have n : ∀ x' h, k x' h Q E → D.nx (env.set i (some x')) h := fun x' h z => by rw [he]; exact n0 x' h z
  a h _ _ (fun w h1 z => by
  refine var_seq (K := fun ro env1 h1 => t env1 h1 fun ri env2 h2 => match view env2 h2 ri with
    | .wv (.int k) => match plc env2 h2 ro with
      | some (.seq xs) => ∃ j, ixN xs.length k = some j ∧ D.nx (putE env2 ro (.seq (xs.set j w))) (putH h2 ro (.seq (xs.set j w)))
      | _ => False
    | _ => False) e fun r hr => b h1 _ _ (fun ri y h2 rl z => ?_) z
  rw [view_rl rl]
  unfold setIx at z
  split at z
  · rename_i q e1
    try rw [e1]
    rcases hr with ⟨c, rfl, rfl⟩ | ⟨v, rfl, rfl⟩
    · cases c with
      | map kvs => exact z.elim
      | seq xs =>
        have pl : plc env h2 (.slot i) = some (.seq xs) := plc_slot e
        rw [pl]
        obtain ⟨j, ej, z⟩ := z
        exact ⟨j, ej, n _ _ z⟩
    · cases v with
      | ref p =>
        have z : (match h2 p with
          | some (.cont (.seq xs)) => ∃ j, ixN xs.length q = some j ∧ k (.val (.ref p)) (updA h2 p (.cont (.seq (xs.set j w)))) Q E
          | _ => False) := z
        split at z
        · rename_i xs2 e2
          have pl : plc env h2 (.val (.ref p)) = some (.seq xs2) := plc_ref e2
          rw [pl]
          obtain ⟨j, ej, z⟩ := z
          have q := n _ _ z
          rw [set_id e] at q
          exact ⟨j, ej, q⟩
        · exact z.elim
      | _ => exact z.elim
  · exact z.elim) z
theorem ss_augIx {f : Int → Int → Int} {x : SV} {k : SV → MC} {t2 : AT} {m2 : CE} (e' : SV → AEnv) (he : ∀ x, env.set i (some x) = e' x) (e : env[i]? = some (some x)) (b : SE Q E env t m) (c : SE Q E env t2 m2) (n0 : ∀ x' h, k x' h Q E → D.nx (e' x') h) : ∀ h, augC f x m m2 k h Q E → aAugS f (aVar i) t t2 D env h := fun h z => by
  have n : ∀ x' h, k x' h Q E → D.nx (env.set i (some x')) h := fun x' h z => by rw [he]; exact n0 x' h z
  refine var_seq e fun r hr => b h _ _ (fun ri y h2 rl z => ?_) z
  obtain ⟨q, e1, z0, z⟩ := asI_ok z
  rw [view_rl rl, e1]
  refine ⟨z0, ?_⟩
  rcases hr with ⟨c', rfl, rfl⟩ | ⟨v, rfl, rfl⟩
  · cases c' with
    | map kvs => exact z.elim
    | seq xs =>
      have pl : ∀ h, plc env h (.slot i) = some (.seq xs) := fun h => plc_slot e
      rw [pl]
      have z : (match xs[q.toNat]? with
        | some (.int a) => m2 (fun z => asI z fun b => k (.own (.seq (xs.set q.toNat (.int (f a b)))))) h2 Q E
        | _ => False) := z
      show (match xs[q.toNat]? with
        | some (.int x) => t2 env h2 fun re env3 h3 => (match view env3 h3 re with
          | .wv (.int y) => (match plc env3 h3 (.slot i) with
            | some (.seq ys) => q.toNat < ys.length ∧ D.nx (putE env3 (.slot i) (.seq (ys.set q.toNat (.int (f x y))))) (putH h3 (.slot i) (.seq (ys.set q.toNat (.int (f x y)))))
            | _ => False)
          | _ => False)
        | _ => False)
      split at z
      · rename_i a ea
        refine c h2 _ _ (fun re s3 h3 rl3 z => ?_) z
        obtain ⟨b', e3, z⟩ := asI_ok z
        rw [view_rl rl3, e3]
        show (match plc env h3 (.slot i) with
            | some (.seq ys) => q.toNat < ys.length ∧ D.nx (putE env (.slot i) (.seq (ys.set q.toNat (.int (f a b'))))) (putH h3 (.slot i) (.seq (ys.set q.toNat (.int (f a b')))))
            | _ => False)
        rw [pl]
        exact ⟨(List.getElem?_eq_some_iff.mp ea).1, n _ _ z⟩
      · exact z.elim
  · cases v with
    | ref p =>
      have z : (match h2 p with
        | some (.cont (.seq xs)) => (match xs[q.toNat]? with
          | some (.int a) => m2 (fun z => asI z fun b => fun h' Q E => match h' p with
            | some (.cont (.seq ys)) => q.toNat < ys.length ∧ k (.val (.ref p)) (updA h' p (.cont (.seq (ys.set q.toNat (.int (f a b)))))) Q E
            | _ => False) h2 Q E
          | _ => False)
        | _ => False) := z
      split at z
      · rename_i xs2 e2
        have pl : plc env h2 (.val (.ref p)) = some (.seq xs2) := plc_ref e2
        rw [pl]
        show (match xs2[q.toNat]? with
          | some (.int x) => t2 env h2 fun re env3 h3 => (match view env3 h3 re with
            | .wv (.int y) => (match plc env3 h3 (.val (.ref p)) with
              | some (.seq ys) => q.toNat < ys.length ∧ D.nx (putE env3 (.val (.ref p)) (.seq (ys.set q.toNat (.int (f x y))))) (putH h3 (.val (.ref p)) (.seq (ys.set q.toNat (.int (f x y)))))
              | _ => False)
            | _ => False)
          | _ => False)
        split at z
        · rename_i a ea
          refine c h2 _ _ (fun re s3 h3 rl3 z => ?_) z
          obtain ⟨b', e3, z⟩ := asI_ok z
          rw [view_rl rl3, e3]
          split at z
          · rename_i ys e4
            have pl : plc env h3 (.val (.ref p)) = some (.seq ys) := plc_ref e4
            show (match plc env h3 (.val (.ref p)) with
              | some (.seq ys) => q.toNat < ys.length ∧ D.nx (putE env (.val (.ref p)) (.seq (ys.set q.toNat (.int (f a b'))))) (putH h3 (.val (.ref p)) (.seq (ys.set q.toNat (.int (f a b')))))
              | _ => False)
            rw [pl]
            have q := n _ _ z.2
            rw [set_id e] at q
            exact ⟨z.1, q⟩
          · exact z.elim
        · exact z.elim
      · exact z.elim
    | _ => exact z.elim
/-- x[i], x[j] = a, b -/
theorem set_go {x : SV} {k : SV → MC} {K : AEnv → AH → Prop} {w : W} (e : env[i]? = some (some x)) (b : SE Q E env t m) (n : ∀ x' h, k x' h Q E → K (env.set i (some x')) h) : ∀ h, (m fun y => setIx x y w k) h Q E → gSet (aVar i) t w env h K :=
  fun h z => ss_setIx (fun x => env.set i (some x)) (fun _ => rfl) (tv := fun e h Q => Q w e h) (mv := fun k => k w) (D := ⟨K, fun _ _ _ => False, fun _ _ => False, fun _ _ => False⟩) (fun h k K hk z => hk w h z) e b n h z
theorem ss_setIx2 {x : SV} {k : SV → MC} {t2 : AT} {m2 : SV → CE} (e' : SV → AEnv) (he : ∀ x, env.set i (some x) = e' x) (a : SA Q E env tv mv) (e : env[i]? = some (some x)) (b : SE Q E env t m) (c : ∀ x1, SE Q E (e' x1) t2 (m2 x1)) (n : ∀ x' h, k x' h Q E → D.nx (e' x') h) :
    ∀ h, setC2 mv x m m2 k h Q E → aAsg tv (gTp 2 (gsCons (gSet (aVar i) t) (gsCons (gSet (aVar i) t2) gsNil))) D env h := fun h z => a h _ _ (fun w h1 z => by
  obtain ⟨a', b', rfl, z⟩ := un2_ok z
  refine ⟨rfl, a', [b'], rfl, set_go e b (fun x1 h2 z => ⟨b', [], rfl, ?_⟩) h1 z⟩
  have hi : i < env.length := (List.getElem?_eq_some_iff.mp e).1
  refine set_go (x := x1) (by rw [List.getElem?_set_self hi]) (by rw [he]; exact c x1) (fun x2 h3 z => ⟨rfl, ?_⟩) h2 z
  rw [List.set_set, he]
  exact n _ _ z) z
/-! monotone -/
theorem om_sub : OpM oSub := fun _ _ _ _ k q => oII.mono _ _ _ _ k q
theorem om_mod : OpM oMod := fun _ _ _ _ k q => oII.mono _ _ _ _ k q
theorem om_fdiv : OpM oFdiv := fun _ _ _ _ k q => oII.mono _ _ _ _ k q
theorem om_pow : OpM oPow := fun _ _ _ _ k q => oII.mono _ _ _ _ k q
theorem om_lt : OpM oLt := fun _ _ _ _ k q => oII.mono _ _ _ _ k q
theorem om_le : OpM oLe := fun _ _ _ _ k q => oII.mono _ _ _ _ k q
theorem om_gt : OpM oGt := fun _ _ _ _ k q => oII.mono _ _ _ _ k q
theorem om_ge : OpM oGe := fun _ _ _ _ k q => oII.mono _ _ _ _ k q
theorem om_add : OpM oAdd := oAdd.mono
theorem om_ix : OpM oIx := oIx.mono
theorem om_mul : OpM oMul := fun a b Q Q' k q => by
  unfold oMul at q ⊢
  split at q
  · split at q
    · exact ⟨q.1, k _ q.2⟩
    · exact ⟨q.1, k _ q.2⟩
    · exact q
  · exact q
theorem om_mulT : OpM oMulT := oMulT.mono
theorem om_eq {neg : Bool} : OpM (oEq neg) := fun a b Q Q' k q => ⟨q.1, q.2.1, k _ q.2.2⟩
theorem om_isN {neg : Bool} : OpM (oIsN neg) := fun a b Q Q' k q => ⟨q.1, q.2.1, k _ q.2.2⟩
theorem om_inL {neg : Bool} : OpM (oInL neg) := fun a b Q Q' k ⟨xs, x, y, z, q⟩ => ⟨xs, x, y, z, k _ q⟩
theorem on_len : OpNM oLen := fun as Q Q' k q => by
  unfold oLen at q ⊢
  split at q
  · exact ⟨q.1, k _ q.2⟩
  · obtain ⟨xs, e, q⟩ := q
    exact ⟨xs, e, k _ q⟩
  · exact q
theorem on_sum : OpNM oSum := oInts.mono fun _ _ _ k q => k _ q
theorem on_sumA : OpNM oSumA := fun as Q Q' k q => by
  unfold oSumA at q ⊢
  split at q
  · obtain ⟨ns, e, q⟩ := q
    exact ⟨ns, e, k _ q⟩
  · exact q
theorem on_min : OpNM oMin := oInts.mono fun _ _ _ k q => ⟨q.1, fun m a b => k _ (q.2 m a b)⟩
theorem on_max : OpNM oMax := oInts.mono fun _ _ _ k q => ⟨q.1, fun m a b => k _ (q.2 m a b)⟩
theorem on_bls {g : List Bool → Bool} : OpNM (oBls g) := oBls.mono
theorem on_1I {g : Int → Int} : OpNM (o1I g) := fun as Q Q' k q => by
  unfold o1I at q ⊢
  split at q
  · exact k _ q
  · exact q
theorem on_2I {g : Int → Int → Int} : OpNM (o2I g) := fun as Q Q' k q => by
  unfold o2I at q ⊢
  split at q
  · exact k _ q
  · exact q
theorem on_isi : OpNM oIsi := fun as Q Q' k q => by
  unfold oIsi at q ⊢
  split at q
  · obtain ⟨n, b, e, f, q⟩ := q
    exact ⟨n, b, e, f, k _ q⟩
  · exact q
theorem on_tupC : OpNM oTupC := fun as Q Q' k q => by
  unfold oTupC at q ⊢
  split at q
  · obtain ⟨xs, e, q⟩ := q
    exact ⟨xs, e, k _ q⟩
  · exact q
theorem on_lstC : OpNM oLstC := fun as Q Q' k q => by
  unfold oLstC at q ⊢
  split at q
  · obtain ⟨xs, e, q⟩ := q
    exact ⟨xs, e, k _ q⟩
  · exact q
theorem lm_mAppend : LmM fAppend := fun xs ws Q Q' k q => by
  unfold fAppend at q ⊢
  split at q
  · exact ⟨q.1, k _ _ q.2⟩
  · exact q
theorem lm_mPop : LmM fPop := fun xs ws Q Q' k q => by
  unfold fPop at q ⊢
  split at q
  · obtain ⟨y, e, q⟩ := q
    exact ⟨y, e, k _ _ q⟩
  · exact q
theorem lm_mPopAt : LmM fPopAt := fun xs ws Q Q' k q => by
  unfold fPopAt at q ⊢
  split at q
  · obtain ⟨a, b, j, y, e, f, q⟩ := q
    exact ⟨a, b, j, y, e, f, k _ _ q⟩
  · exact q
/-! ### the whole def -/
variable {Q' : RR → AH → Prop} {E' : AExc → AH → Prop}
theorem hr_top (hQ : ∀ r h, Q r h → Q' r h) : ∀ r s env h, Rl env r s → Q s.rr h → (endsOf Q').rt r env h := fun r s env h rl q => by
  refine ⟨h, fun _ _ e => e, ?_⟩
  cases r with
  | val w => cases rl; exact hQ _ _ q
  | own w => cases rl; exact hQ _ _ q
  | slot i =>
    obtain ⟨c, rfl, e⟩ := rl
    show (match env[i]? with
      | some (some (.val w)) => Q' (.val w) h
      | some (some (.own c)) => Q' (.own c) h
      | _ => False)
    rw [e]
    exact hQ _ _ q
theorem he_top (hE : ∀ x h, E x h → E' x h) (env : AEnv) : ∀ x h, E x h → excOf E' x env h := fun x h q => ⟨h, fun _ _ e => e, hE _ _ q⟩
theorem nx_top (hQ : ∀ r h, Q r h → Q' r h) (env : AEnv) : ∀ h, (ret (.val .non)) h Q E → (endsOf Q').nx env h := fun h z => ⟨h, fun _ _ e => e, hQ _ _ z⟩
end
end Ab

/-! Mc3: the mirrors' words, reckoned. -/
namespace Ab
open PySem PySem.Spec PyProof.Rows L2 RZ
section
variable {Q : RR → AH → Prop} {E : AExc → AH → Prop} {h : AH}
@[simp] theorem k_V {x : SV} {k : SV → MC} : eV x k = k x := rfl
@[simp] theorem k_C {x : W} {k : SV → MC} : eC x k = k (.val x) := rfl
@[simp] theorem k_Op2 {o : Op2} {a b : CE} {k : SV → MC} : eOp2 o a b k = a fun x => b fun y => op2 o x y k := rfl
@[simp] theorem k_Fz {a : CE} {k : W → MC} : eFz a k = a fun x => k x.fz := rfl
@[simp] theorem k_wNil {k : List W → MC} : wNil k = k [] := rfl
@[simp] theorem k_wCons {a : CW} {b : CWs} {k : List W → MC} : wCons a b k = a fun w => b fun ws => k (w :: ws) := rfl
@[simp] theorem k_Tup {a : CWs} {k : SV → MC} : eTup a k = a fun ws => req (ws.length ≤ sizeLine) (k (.val (.tup ws))) := rfl
@[simp] theorem k_Lst {a : CWs} {k : SV → MC} : eLst a k = a fun ws => req (ws.length ≤ sizeLine) (k (.own (.seq ws))) := rfl
@[simp] theorem k_oNo {k : Option Int → MC} : oNo k = k none := rfl
@[simp] theorem k_oPart {a : CE} {k : Option Int → MC} : oPart a k = a fun x => asI x fun i => k (some i) := rfl
@[simp] theorem k_Sl {a : CE} {l u : CO} {k : SV → MC} : eSl a l u k = a fun x => l fun l => u fun u => slc x l u k := rfl
@[simp] theorem k_sNil {k : List SV → MC} : sNil k = k [] := rfl
@[simp] theorem k_sCons {a : CE} {b : CS} {k : List SV → MC} : sCons a b k = a fun w => b fun ws => k (w :: ws) := rfl
@[simp] theorem k_CB {o : OpN} {a : CS} {k : SV → MC} : eCB o a k = a fun xs => cb o xs k := rfl
@[simp] theorem k_tYes {k : Bool → MC} : tYes k = k true := rfl
@[simp] theorem k_tTst {a : CE} {k : Bool → MC} : tTst a k = a fun x => asB x k := rfl
@[simp] theorem k_tAnd {a b : CB} {k : Bool → MC} : tAnd a b k = a fun x => if x = true then b k else k false := rfl
@[simp] theorem k_tOr {a b : CB} {k : Bool → MC} : tOr a b k = a fun x => if x = true then k true else b k := rfl
@[simp] theorem k_tNot {a : CB} {k : Bool → MC} : tNot a k = a fun x => k (!x) := rfl
@[simp] theorem k_If {c : CB} {a b : CE} {k : SV → MC} : eIf c a b k = c fun x => if x = true then a k else b k := rfl
@[simp] theorem k_And {a b : CE} {k : SV → MC} : eAnd a b k = a fun x => asB x fun c => if c = true then b k else k (.val (.bl false)) := rfl
@[simp] theorem k_Or {a b : CE} {k : SV → MC} : eOr a b k = a fun x => asB x fun c => if c = true then k (.val (.bl true)) else b k := rfl
@[simp] theorem k_Not {a : CE} {k : SV → MC} : eNot a k = a fun x => asB x fun c => k (.val (.bl (!c))) := rfl
@[simp] theorem k_Neg {a : CE} {k : SV → MC} : eNeg a k = a fun x => asI x fun i => k (.val (.int (-i))) := rfl
@[simp] theorem k_Chn {P P' : Int → Int → Bool} {a b c : CE} {k : SV → MC} : eChn P P' a b c k = a fun x => b fun y => asI x fun i => asI y fun j =>
  if P i j = true then c fun z => asI z fun l => k (.val (.bl (P' j l))) else k (.val (.bl false)) := rfl
@[simp] theorem k_Call {f : List W → MC} {a : CWs} {k : SV → MC} : eCall f a k = a fun ws => call (f ws) k := rfl
@[simp] theorem k_Call0 {f : List W → MC} {a : CWs} {k : SV → MC} : eCall0 f a k = a fun ws => call0 (f ws) k := rfl
@[simp] theorem k_wPerm {p : List Nat} {a : CWs} {k : List W → MC} : wPerm p a k = a fun ws => perm p ws k := rfl
theorem k_perm {p : List Nat} {ws : List W} {k : List W → MC} : perm p ws k = req (ws.length = p.length) (k (p.map fun i => ws.getD i .non)) := rfl
@[simp] theorem k_iItems {a : CW} {k : List W → MC} : iItems a k = a fun w => items w k := rfl
@[simp] theorem k_iRng1 {a : CS} {k : List W → MC} : iRng1 a k = a fun w => rng1 w k := rfl
@[simp] theorem k_iRng2 {a : CS} {k : List W → MC} : iRng2 a k = a fun w => rng2 w k := rfl
@[simp] theorem k_iZip {a : CWs} {k : List W → MC} : iZip a k = a fun w => zip2 w k := rfl
@[simp] theorem k_iEnum {a : CW} {k : List W → MC} : iEnum a k = a fun w => items w fun ws => k (enW ws) := rfl
@[simp] theorem k_iEnz {a : CWs} {k : List W → MC} : iEnz a k = a fun ws => enz ws k := rfl
@[simp] theorem k_ifC {mc : CB} {m1 m2 : MC} : ifC mc m1 m2 = mc fun b => if b = true then m1 else m2 := rfl
@[simp] theorem k_Lrg1 {a : CE} {k : SV → MC} : eLrg1 a k = a fun x => lrg1 x k := rfl
@[simp] theorem k_parC {a : CWs} {k : W → W → MC} : parC a k = a fun ws => pr2 ws k := rfl
@[simp] theorem k_starC {a : CW} {k : W → SV → MC} : starC a k = a fun w => star w k := rfl
@[simp] theorem k_setC {mv : CW} {x : SV} {m : CE} {k : SV → MC} : setC mv x m k = mv fun w => m fun y => setIx x y w k := rfl
@[simp] theorem k_setC2 {mv : CW} {x : SV} {m : CE} {m2 : SV → CE} {k : SV → MC} : setC2 mv x m m2 k = mv fun w => un2 w fun a b => m fun y => setIx x y a fun x1 => m2 x1 fun y2 => setIx x1 y2 b k := rfl
@[simp] theorem k_augC {f : Int → Int → Int} {x : SV} {m m2 : CE} {k : SV → MC} : augC f x m m2 k = m fun y => augIx f x y m2 k := rfl
@[simp] theorem k_lcb {mt : CB} {me : CW} {kk : Option W → MC} : lcb mt me kk = mt fun b => if b = true then me fun y => kk (some y) else kk none := rfl
@[simp] theorem k_Lc {it : CWs} {body : W → (Option W → MC) → MC} {k : SV → MC} : eLc it body k = it fun ws => lcL body (fun acc => k (.own (.seq acc))) ws [] := rfl
@[simp] theorem k_forC {σ : Type} {mi : CWs} {s0 : σ} {body : W → σ → (σ → MC) → (σ → MC) → MC} {k : σ → MC} : forC mi s0 body k = mi fun ws => forL body k ws s0 := rfl
@[simp] theorem k_join {σ : Type} {k : σ → MC} {f : (σ → MC) → MC} : join k f = f k := rfl
/-! ### words written out -/
theorem nats_inj : ∀ {as bs : List Char}, as.map Char.toNat = bs.map Char.toNat → as = bs
  | [], [], _ => rfl
  | [], _ :: _, h => by cases h
  | _ :: _, [], h => by cases h
  | a :: as, b :: bs, h => by
    rw [List.map_cons, List.map_cons] at h
    injection h with h1 h2
    rw [Char.toNat_inj.mp h1, nats_inj h2]
@[simp] theorem str_lit {a b : String} : (Str.ofString a = Str.ofString b) = (a = b) := by
  refine propext ⟨fun e => ?_, fun e => by rw [e]⟩
  rw [Str.ofString_eq_toList, Str.ofString_eq_toList] at e
  injection e with e
  have z := nats_inj (congrArg Array.toList e)
  exact String.toList_inj.mp z
/-! ### values -/
@[simp] theorem fz_val {w : W} : SV.fz (.val w) = w := rfl
@[simp] theorem fz_seq {ws : List W} : SV.fz (.own (.seq ws)) = .lst ws := rfl
@[simp] theorem rr_val {w : W} : SV.rr (.val w) = .val w := rfl
@[simp] theorem rr_own {c : Cont} : SV.rr (.own c) = .own c := rfl
@[simp] theorem sv_val {w : W} : RR.sv (.val w) = .val w := rfl
@[simp] theorem sv_own {c : Cont} : RR.sv (.own c) = .own c := rfl
theorem sizeL : sizeLine = 16777216 := rfl
@[simp] theorem asI_int {i : Int} {k : Int → MC} : asI (.val (.int i)) k = k i := rfl
@[simp] theorem asB_bl {i : Bool} {k : Bool → MC} : asB (.val (.bl i)) k = k i := rfl
@[simp] theorem items_tup {ws : List W} {k : List W → MC} : items (.tup ws) k = k ws := rfl
@[simp] theorem items_lst {ws : List W} {k : List W → MC} : items (.lst ws) k = k ws := rfl
@[simp] theorem un2_tup {a b : W} {k : W → W → MC} : un2 (.tup [a, b]) k = k a b := rfl
@[simp] theorem un3_tup {a b c : W} {k : W → W → W → MC} : un3 (.tup [a, b, c]) k = k a b c := rfl
@[simp] theorem un5_tup {a b c d e : W} {k : W → W → W → W → W → MC} : un5 (.tup [a, b, c, d, e]) k = k a b c d e := rfl
@[simp] theorem uq2_tup {a b : W} {k : W → W → MC} : uq2 (.tup [a, b]) k = k a b := rfl
@[simp] theorem uq3_tup {a b c : W} {k : W → W → W → MC} : uq3 (.tup [a, b, c]) k = k a b c := rfl
@[simp] theorem uq2_lst {a b : W} {k : W → W → MC} : uq2 (.lst [a, b]) k = k a b := rfl
@[simp] theorem uq3_lst {a b c : W} {k : W → W → W → MC} : uq3 (.lst [a, b, c]) k = k a b c := rfl
@[simp] theorem uq4_tup {a b c d : W} {k : W → W → W → W → MC} : uq4 (.tup [a, b, c, d]) k = k a b c d := rfl
@[simp] theorem uq5_tup {a b c d e : W} {k : W → W → W → W → W → MC} : uq5 (.tup [a, b, c, d, e]) k = k a b c d e := rfl
@[simp] theorem star_tup {x : W} {r : List W} {k : W → SV → MC} : star (.tup (x :: r)) k = k x (.own (.seq r)) := rfl
@[simp] theorem star_lst {x : W} {r : List W} {k : W → SV → MC} : star (.lst (x :: r)) k = k x (.own (.seq r)) := rfl
@[simp] theorem pr2_2 {x y : W} {k : W → W → MC} : pr2 [x, y] k = k x y := rfl
@[simp] theorem zip2_tup {xs ys : List W} {k : List W → MC} : zip2 [.tup xs, .tup ys] k = k (List.zipWith (fun a b => W.tup [a, b]) xs ys) := rfl
@[simp] theorem zip2_lst {xs ys : List W} {k : List W → MC} : zip2 [.lst xs, .lst ys] k = k (List.zipWith (fun a b => W.tup [a, b]) xs ys) := rfl
@[simp] theorem enz_2 {a b : W} {k : List W → MC} : enz [a, b] k = items a fun xs => items b fun ys => k (ezW xs ys) := rfl
@[simp] theorem rng1_int {j : Int} {k : List W → MC} : rng1 [.val (.int j)] k = req (-(2 ^ 62) ≤ j ∧ j < 2 ^ 62) (k (rngW 0 j.toNat)) := rfl
@[simp] theorem rng2_int {i j : Int} {k : List W → MC} : rng2 [.val (.int i), .val (.int j)] k = req (-(2 ^ 62) ≤ i ∧ i < 2 ^ 62 ∧ -(2 ^ 62) ≤ j ∧ j < 2 ^ 62) (k (rngW i (j - i).toNat)) := rfl
@[simp] theorem lrg1_int {n : Int} {k : SV → MC} : lrg1 (.val (.int n)) k = req (0 ≤ n ∧ n ≤ 16777216) (k (.own (.seq (rngW 0 n.toNat)))) := rfl
theorem req_of {p : Prop} {m : MC} (hp : p) : req p m = m := by funext h Q E; exact propext ⟨fun z => z.2, fun z => ⟨hp, z⟩⟩
@[simp] theorem req_T {m : MC} : req True m = m := req_of trivial
theorem req_at {p : Prop} {m : MC} : req p m h Q E = (p ∧ m h Q E) := rfl
@[simp] theorem ret_at {x : SV} : ret x h Q E = Q x.rr h := rfl
@[simp] theorem raise_at {x : AExc} : raise x h Q E = E x h := rfl
@[simp] theorem call_ret {x : SV} {k : SV → MC} : call (ret x) k = k x := by cases x <;> rfl
@[simp] theorem call0_ret {x : SV} {k : SV → MC} : call0 (ret x) k = k x := by cases x <;> rfl
@[simp] theorem call_raise {x : AExc} {k : SV → MC} : call (raise x) k = raise x := rfl
theorem tr_eq {p : Prop} : (True ∧ p) = p := by simp
/-! keywords -/
@[simp] theorem pm_0 {a : W} {k : List W → MC} : perm [0] [a] k = k [a] := req_of rfl
@[simp] theorem pm_01 {a b : W} {k : List W → MC} : perm [0, 1] [a, b] k = k [a, b] := req_of rfl
@[simp] theorem pm_10 {a b : W} {k : List W → MC} : perm [1, 0] [a, b] k = k [b, a] := req_of rfl
@[simp] theorem pm_012 {a b c : W} {k : List W → MC} : perm [0, 1, 2] [a, b, c] k = k [a, b, c] := req_of rfl
@[simp] theorem pm_021 {a b c : W} {k : List W → MC} : perm [0, 2, 1] [a, b, c] k = k [a, c, b] := req_of rfl
@[simp] theorem pm_102 {a b c : W} {k : List W → MC} : perm [1, 0, 2] [a, b, c] k = k [b, a, c] := req_of rfl
@[simp] theorem pm_120 {a b c : W} {k : List W → MC} : perm [1, 2, 0] [a, b, c] k = k [b, c, a] := req_of rfl
@[simp] theorem pm_201 {a b c : W} {k : List W → MC} : perm [2, 0, 1] [a, b, c] k = k [c, a, b] := req_of rfl
@[simp] theorem pm_210 {a b c : W} {k : List W → MC} : perm [2, 1, 0] [a, b, c] k = k [c, b, a] := req_of rfl
@[simp] theorem pm_0123 {a b c d : W} {k : List W → MC} : perm [0, 1, 2, 3] [a, b, c, d] k = k [a, b, c, d] := req_of rfl
@[simp] theorem pm_0132 {a b c d : W} {k : List W → MC} : perm [0, 1, 3, 2] [a, b, c, d] k = k [a, b, d, c] := req_of rfl
@[simp] theorem pm_0213 {a b c d : W} {k : List W → MC} : perm [0, 2, 1, 3] [a, b, c, d] k = k [a, c, b, d] := req_of rfl
@[simp] theorem pm_0231 {a b c d : W} {k : List W → MC} : perm [0, 2, 3, 1] [a, b, c, d] k = k [a, c, d, b] := req_of rfl
@[simp] theorem pm_0312 {a b c d : W} {k : List W → MC} : perm [0, 3, 1, 2] [a, b, c, d] k = k [a, d, b, c] := req_of rfl
@[simp] theorem pm_0321 {a b c d : W} {k : List W → MC} : perm [0, 3, 2, 1] [a, b, c, d] k = k [a, d, c, b] := req_of rfl
@[simp] theorem pm_1023 {a b c d : W} {k : List W → MC} : perm [1, 0, 2, 3] [a, b, c, d] k = k [b, a, c, d] := req_of rfl
@[simp] theorem pm_1032 {a b c d : W} {k : List W → MC} : perm [1, 0, 3, 2] [a, b, c, d] k = k [b, a, d, c] := req_of rfl
@[simp] theorem pm_1203 {a b c d : W} {k : List W → MC} : perm [1, 2, 0, 3] [a, b, c, d] k = k [b, c, a, d] := req_of rfl
@[simp] theorem pm_1230 {a b c d : W} {k : List W → MC} : perm [1, 2, 3, 0] [a, b, c, d] k = k [b, c, d, a] := req_of rfl
@[simp] theorem pm_1302 {a b c d : W} {k : List W → MC} : perm [1, 3, 0, 2] [a, b, c, d] k = k [b, d, a, c] := req_of rfl
@[simp] theorem pm_1320 {a b c d : W} {k : List W → MC} : perm [1, 3, 2, 0] [a, b, c, d] k = k [b, d, c, a] := req_of rfl
@[simp] theorem pm_2013 {a b c d : W} {k : List W → MC} : perm [2, 0, 1, 3] [a, b, c, d] k = k [c, a, b, d] := req_of rfl
@[simp] theorem pm_2031 {a b c d : W} {k : List W → MC} : perm [2, 0, 3, 1] [a, b, c, d] k = k [c, a, d, b] := req_of rfl
@[simp] theorem pm_2103 {a b c d : W} {k : List W → MC} : perm [2, 1, 0, 3] [a, b, c, d] k = k [c, b, a, d] := req_of rfl
@[simp] theorem pm_2130 {a b c d : W} {k : List W → MC} : perm [2, 1, 3, 0] [a, b, c, d] k = k [c, b, d, a] := req_of rfl
@[simp] theorem pm_2301 {a b c d : W} {k : List W → MC} : perm [2, 3, 0, 1] [a, b, c, d] k = k [c, d, a, b] := req_of rfl
@[simp] theorem pm_2310 {a b c d : W} {k : List W → MC} : perm [2, 3, 1, 0] [a, b, c, d] k = k [c, d, b, a] := req_of rfl
@[simp] theorem pm_3012 {a b c d : W} {k : List W → MC} : perm [3, 0, 1, 2] [a, b, c, d] k = k [d, a, b, c] := req_of rfl
@[simp] theorem pm_3021 {a b c d : W} {k : List W → MC} : perm [3, 0, 2, 1] [a, b, c, d] k = k [d, a, c, b] := req_of rfl
@[simp] theorem pm_3102 {a b c d : W} {k : List W → MC} : perm [3, 1, 0, 2] [a, b, c, d] k = k [d, b, a, c] := req_of rfl
@[simp] theorem pm_3120 {a b c d : W} {k : List W → MC} : perm [3, 1, 2, 0] [a, b, c, d] k = k [d, b, c, a] := req_of rfl
@[simp] theorem pm_3201 {a b c d : W} {k : List W → MC} : perm [3, 2, 0, 1] [a, b, c, d] k = k [d, c, a, b] := req_of rfl
@[simp] theorem pm_3210 {a b c d : W} {k : List W → MC} : perm [3, 2, 1, 0] [a, b, c, d] k = k [d, c, b, a] := req_of rfl
/-! operators -/
section
variable {i j : Int} {k : SV → MC} {xs ys : List W}
@[simp] theorem o_sub : op2 oSub (.val (.int i)) (.val (.int j)) k = k (.val (.int (i - j))) := by funext h Q E; exact tr_eq
@[simp] theorem o_lt : op2 oLt (.val (.int i)) (.val (.int j)) k = k (.val (.bl (decide (i < j)))) := by funext h Q E; exact tr_eq
@[simp] theorem o_le : op2 oLe (.val (.int i)) (.val (.int j)) k = k (.val (.bl (decide (i ≤ j)))) := by funext h Q E; exact tr_eq
@[simp] theorem o_gt : op2 oGt (.val (.int i)) (.val (.int j)) k = k (.val (.bl (decide (j < i)))) := by funext h Q E; exact tr_eq
@[simp] theorem o_ge : op2 oGe (.val (.int i)) (.val (.int j)) k = k (.val (.bl (decide (j ≤ i)))) := by funext h Q E; exact tr_eq
@[simp] theorem o_mod : op2 oMod (.val (.int i)) (.val (.int j)) k = req (0 < j) (k (.val (.int (i % j)))) := rfl
@[simp] theorem o_fdiv : op2 oFdiv (.val (.int i)) (.val (.int j)) k = req (CDivW i j) (k (.val (.int (i / j)))) := rfl
@[simp] theorem o_pow : op2 oPow (.val (.int i)) (.val (.int j)) k = req (CPow i j) (k (.val (.int (i ^ j.toNat)))) := rfl
@[simp] theorem o_mul : op2 oMulT (.val (.int i)) (.val (.int j)) k = req (CMulW i j) (k (.val (.int (i * j)))) := rfl
@[simp] theorem o_rep : op2 oMulT (.own (.seq xs)) (.val (.int j)) k = req (-(2 ^ 63) ≤ j ∧ j < 2 ^ 63 ∧ xs.length * j.toNat ≤ sizeLine) (k (.own (.seq (List.replicate j.toNat xs).flatten))) := rfl
@[simp] theorem o_repT : op2 oMulT (.val (.tup xs)) (.val (.int j)) k = req (-(2 ^ 63) ≤ j ∧ j ≤ 1000 ∧ 1 ≤ xs.length ∧ xs.length ≤ 1000) (k (.val (.tup (List.replicate j.toNat xs).flatten))) := rfl
@[simp] theorem o_add : op2 oAdd (.val (.int i)) (.val (.int j)) k = k (.val (.int (i + j))) := rfl
@[simp] theorem o_addS {x y : Str} : op2 oAdd (.val (.str x)) (.val (.str y)) k = req (x.length + y.length ≤ sizeLine) (k (.val (.str (x ++ y)))) := rfl
@[simp] theorem o_addT : op2 oAdd (.val (.tup xs)) (.val (.tup ys)) k = req (xs.length + ys.length ≤ sizeLine) (k (.val (.tup (xs ++ ys)))) := rfl
@[simp] theorem o_addLL : op2 oAdd (.val (.lst xs)) (.val (.lst ys)) k = req (xs.length + ys.length ≤ sizeLine) (k (.own (.seq (xs ++ ys)))) := rfl
@[simp] theorem o_addLO : op2 oAdd (.val (.lst xs)) (.own (.seq ys)) k = req (xs.length + ys.length ≤ sizeLine) (k (.own (.seq (xs ++ ys)))) := rfl
@[simp] theorem o_addOL : op2 oAdd (.own (.seq xs)) (.val (.lst ys)) k = req (xs.length + ys.length ≤ sizeLine) (k (.own (.seq (xs ++ ys)))) := rfl
@[simp] theorem o_addOO : op2 oAdd (.own (.seq xs)) (.own (.seq ys)) k = req (xs.length + ys.length ≤ sizeLine) (k (.own (.seq (xs ++ ys)))) := rfl
/-! items, slices -/
def atS (xs : List W) (i : Int) (k : W → MC) : MC := match L2.atI xs i with
  | some w => k w
  | none => bad
theorem ix_items {v : Vw} {i : Int} {Q : RV → Prop} (hv : v.items = some xs) (hs : ∀ x, v ≠ .wv (.str x)) : oIx v (.wv (.int i)) Q = match L2.atI xs i with
  | some w => Q (.val w)
  | none => False := by
  rw [y_ix]
  have z : ixK v i Q = match L2.atI xs i with
    | some w => Q (.val w)
    | none => False := by
    unfold ixK
    rw [hv]
    rfl
  cases v with
  | wv w => cases w with
    | str x => exact absurd rfl (hs x)
    | _ => exact z
  | _ => exact z
theorem op2_at {x : SV} {v : Vw} (e : ∀ h, svw h x = v) (hv : v.items = some xs) (hs : ∀ x, v ≠ .wv (.str x)) : op2 oIx x (.val (.int i)) k = atS xs i fun w => k (.val w) := by
  funext h Q E
  show oIx (svw h x) (.wv (.int i)) _ = _
  rw [e, ix_items hv hs]
  unfold atS
  cases L2.atI xs i <;> rfl
@[simp] theorem o_ixT : op2 oIx (.val (.tup xs)) (.val (.int i)) k = atS xs i fun w => k (.val w) := op2_at (v := .wv (.tup xs)) (fun _ => rfl) rfl (fun _ z => by cases z)
@[simp] theorem o_ixL : op2 oIx (.val (.lst xs)) (.val (.int i)) k = atS xs i fun w => k (.val w) := op2_at (v := .wv (.lst xs)) (fun _ => rfl) rfl (fun _ z => by cases z)
@[simp] theorem o_ixO : op2 oIx (.own (.seq xs)) (.val (.int i)) k = atS xs i fun w => k (.val w) := op2_at (v := .cv (.seq xs)) (fun _ => rfl) rfl (fun _ z => by cases z)
theorem atS_some {k : W → MC} {w : W} (e : L2.atI xs i = some w) : atS xs i k = k w := by unfold atS; rw [e]
@[simp] theorem atS_0 {k : W → MC} {w : W} : atS (w :: xs) 0 k = k w := atS_some at_0
@[simp] theorem atS_1 {k : W → MC} {w v : W} : atS (w :: v :: xs) 1 k = k v := atS_some at_1
@[simp] theorem atS_2 {k : W → MC} {w v u : W} : atS (w :: v :: u :: xs) 2 k = k u := atS_some at_2
@[simp] theorem atS_3 {k : W → MC} {w v u t : W} : atS (w :: v :: u :: t :: xs) 3 k = k t := atS_some (atI_nat (j := 3) rfl)
@[simp] theorem atS_4 {k : W → MC} {w v u t s : W} : atS (w :: v :: u :: t :: s :: xs) 4 k = k s := atS_some (atI_nat (j := 4) rfl)
theorem atS_nat {k : W → MC} {n : Nat} (hn : n < xs.length) : atS xs (n : Int) k = k xs[n] := atS_some (atI_nat (List.getElem?_eq_getElem hn))
theorem atS_map {α : Type} {e : α → W} {l : List α} {k : W → MC} {n : Nat} (hn : n < l.length) : atS (l.map e) (n : Int) k = k (e l[n]) := by
  rw [atS_nat (by rw [List.length_map]; exact hn), List.getElem_map]
@[simp] theorem slc_T {l u : Option Int} : slc (.val (.tup xs)) l u k = k (.val (.tup (cutW xs l u))) := rfl
@[simp] theorem slc_L {l u : Option Int} : slc (.val (.lst xs)) l u k = k (.own (.seq (cutW xs l u))) := rfl
@[simp] theorem slc_O {l u : Option Int} : slc (.own (.seq xs)) l u k = k (.own (.seq (cutW xs l u))) := rfl
theorem cut_from {n : Nat} : cutW xs (some (n : Int)) none = xs.drop n := by
  unfold cutW
  rw [HT.sIx_none, HT.sIx_nat]
  rcases Nat.le_total n xs.length with h | h
  · rw [Nat.min_eq_left h, List.take_of_length_le (by rw [List.length_drop]; omega)]
  · rw [Nat.min_eq_right h, Nat.sub_self, List.take_zero, List.drop_eq_nil_of_le h]
theorem cut_all : cutW xs none none = xs := by
  unfold cutW
  rw [HT.sIx_none, HT.sIx_none]
  simp
/-! stores and methods of what a name owns -/
section
variable {w : W} {k1 : SV → W → MC}
theorem isq_own {m : MC} : isq (.own (.seq xs)) m = m := req_of trivial
@[simp] theorem ext_own {m : CE} : extC (.own (.seq xs)) m k = m fun y => ext (.own (.seq xs)) y k := isq_own
@[simp] theorem ext_OO : ext (.own (.seq xs)) (.own (.seq ys)) k = req (xs.length + ys.length ≤ sizeLine) (k (.own (.seq (xs ++ ys)))) := rfl
@[simp] theorem lm_own {f : LmT} {ma : CWs} : lmC f (.own (.seq xs)) ma k1 = ma fun ws => lm f (.own (.seq xs)) ws k1 := isq_own
@[simp] theorem append_own : lm fAppend (.own (.seq xs)) [w] k1 = req (xs.length < sizeLine) (k1 (.own (.seq (xs ++ [w]))) .non) := rfl
theorem pop_own (h : xs ≠ []) : lm fPop (.own (.seq xs)) [] k1 = k1 (.own (.seq xs.dropLast)) (xs.getLast h) := by
  funext h' Q E
  have e : xs[xs.length - 1]? = some (xs.getLast h) := by rw [List.getLast_eq_getElem, List.getElem?_eq_getElem]
  refine propext ⟨fun ⟨y, e2, q⟩ => ?_, fun q => ⟨_, e, q⟩⟩
  rw [e] at e2
  cases e2
  exact q
theorem ixN_nat {n j : Nat} (h : j < n) : ixN n (j : Int) = some j := by
  unfold ixN
  rw [if_pos (by omega), if_pos (by omega)]
  rfl
theorem set_own {j : Nat} (h : j < xs.length) : setIx (.own (.seq xs)) (.val (.int (j : Int))) w k = k (.own (.seq (xs.set j w))) := by
  funext h' Q E
  refine propext ⟨fun ⟨i, e, q⟩ => ?_, fun q => ⟨j, ixN_nat h, q⟩⟩
  rw [ixN_nat h] at e
  cases e
  exact q
theorem aug_own {f : Int → Int → Int} {e : CE} {j : Nat} {a : Int} (h : xs[j]? = some (.int a)) (hj : j < 4611686018427387904) : augIx f (.own (.seq xs)) (.val (.int (j : Int))) e k = e fun z => asI z fun b => k (.own (.seq (xs.set j (.int (f a b))))) := by
  funext h' Q E
  show ((0 ≤ (j : Int) ∧ (j : Int) < 2 ^ 62) ∧ (match xs[(j : Int).toNat]? with
    | some (.int a) => e (fun z => asI z fun b => k (.own (.seq (xs.set (j : Int).toNat (.int (f a b)))))) h' Q E
    | _ => False)) = _
  rw [Int.toNat_natCast, h]
  refine propext ⟨fun q => q.2, fun q => ⟨⟨by omega, by omega⟩, q⟩⟩
end
/-! builtins -//-! builtins -/
@[simp] theorem b_lenT : cb oLen [.val (.tup xs)] k = k (.val (.int xs.length)) := by
  funext h Q E; show oLen [.wv (.tup xs)] _ = _; rw [y_len]; rfl
@[simp] theorem b_lenL : cb oLen [.val (.lst xs)] k = k (.val (.int xs.length)) := by
  funext h Q E; show oLen [.wv (.lst xs)] _ = _; rw [y_len]; rfl
@[simp] theorem b_lenO : cb oLen [.own (.seq xs)] k = k (.val (.int xs.length)) := by
  funext h Q E; show oLen [.cv (.seq xs)] _ = _; rw [y_len]; rfl
@[simp] theorem b_lenS {x : Str} : cb oLen [.val (.str x)] k = req (x.length ≤ sizeLine) (k (.val (.int x.length))) := by
  funext h Q E; show oLen [.wv (.str x)] _ = _; rw [y_len]; rfl
@[simp] theorem b_tupT : cb oTupC [.val (.tup xs)] k = k (.val (.tup xs)) := by
  funext h Q E; show oTupC [.wv (.tup xs)] _ = _; rw [y_tupC]; rfl
@[simp] theorem b_tupL : cb oTupC [.val (.lst xs)] k = k (.val (.tup xs)) := by
  funext h Q E; show oTupC [.wv (.lst xs)] _ = _; rw [y_tupC]; rfl
@[simp] theorem b_tupO : cb oTupC [.own (.seq xs)] k = k (.val (.tup xs)) := by
  funext h Q E; show oTupC [.cv (.seq xs)] _ = _; rw [y_tupC]; rfl
@[simp] theorem b_lstT : cb oLstC [.val (.tup xs)] k = k (.own (.seq xs)) := by
  funext h Q E; show oLstC [.wv (.tup xs)] _ = _; rw [y_lstC]; rfl
@[simp] theorem b_lstL : cb oLstC [.val (.lst xs)] k = k (.own (.seq xs)) := by
  funext h Q E; show oLstC [.wv (.lst xs)] _ = _; rw [y_lstC]; rfl
@[simp] theorem b_lstO : cb oLstC [.own (.seq xs)] k = k (.own (.seq xs)) := by
  funext h Q E; show oLstC [.cv (.seq xs)] _ = _; rw [y_lstC]; rfl
theorem if_min {a b : Int} : (if b < a then b else a) = min a b := by rw [Int.min_def]; split <;> split <;> omega
theorem if_max {a b : Int} : (if b > a then b else a) = max a b := by rw [Int.max_def]; split <;> split <;> omega
theorem if_abs {a : Int} : (if a < 0 then -a else a) = (a.natAbs : Int) := by split <;> omega
@[simp] theorem b_min2 : cb oMin2 [.val (.int i), .val (.int j)] k = k (.val (.int (min i j))) := by
  rw [← if_min]; rfl
@[simp] theorem b_max2 : cb oMax2 [.val (.int i), .val (.int j)] k = k (.val (.int (max i j))) := by
  rw [← if_max]; rfl
@[simp] theorem b_abs : cb oAbs [.val (.int i)] k = k (.val (.int (i.natAbs : Int))) := by
  rw [← if_abs]; rfl
theorem int_inj {as bs : List Int} (e : as.map W.int = bs.map W.int) : as = bs := by
  induction as generalizing bs with
  | nil => cases bs with
    | nil => rfl
    | cons _ _ => cases e
  | cons a as ih => cases bs with
    | nil => cases e
    | cons b bs =>
      rw [List.map_cons, List.map_cons] at e
      injection e with e1 e2
      injection e1 with e1
      rw [e1, ih e2]
theorem bl_inj {as bs : List Bool} (e : as.map W.bl = bs.map W.bl) : as = bs := by
  induction as generalizing bs with
  | nil => cases bs with
    | nil => rfl
    | cons _ _ => cases e
  | cons a as ih => cases bs with
    | nil => cases e
    | cons b bs =>
      rw [List.map_cons, List.map_cons] at e
      injection e with e1 e2
      injection e1 with e1
      rw [e1, ih e2]
theorem oInts_eq {g : List Int → (RV → Prop) → Prop} {ns : List Int} {v : Vw} {Q : RV → Prop} (e : v.seq = some (ns.map W.int)) : oInts g [v] Q = g ns Q := by
  refine propext ⟨fun ⟨ms, e2, q⟩ => ?_, fun q => ⟨ns, e, q⟩⟩
  rw [e] at e2
  rw [int_inj (Option.some.inj e2)]
  exact q
theorem oBls_eq {g : List Bool → Bool} {ns : List Bool} {v : Vw} {Q : RV → Prop} (e : v.seq = some (ns.map W.bl)) : oBls g [v] Q = Q (.val (.bl (g ns))) := by
  refine propext ⟨fun ⟨ms, e2, q⟩ => ?_, fun q => ⟨ns, e, q⟩⟩
  rw [e] at e2
  rw [bl_inj (Option.some.inj e2)]
  exact q
theorem cb_bls {g : List Bool → Bool} {ns : List Bool} {x : SV} {v : Vw} (e : ∀ h, svw h x = v) (es : v.seq = some (ns.map W.bl)) : cb (oBls g) [x] k = k (.val (.bl (g ns))) := by
  funext h Q E
  unfold cb
  rw [List.map_cons, List.map_nil, e, oBls_eq es]
  rfl
theorem cb_ints {g : List Int → (RV → Prop) → Prop} {ns : List Int} {x : SV} {v : Vw} (e : ∀ h, svw h x = v) (es : v.seq = some (ns.map W.int)) : cb (oInts g) [x] k = fun h Q E => g ns fun r => kRv k r h Q E := by
  funext h Q E
  unfold cb
  rw [List.map_cons, List.map_nil, e, oInts_eq es]
theorem cb_sum {ns : List Int} {x : SV} {v : Vw} (e : ∀ h, svw h x = v) (es : v.items = some (ns.map W.int)) : cb oSumA [x] k = k (.val (.int ns.sum)) := by
  funext h Q E
  unfold cb
  rw [List.map_cons, List.map_nil, e]
  refine propext ⟨fun ⟨ms, e2, q⟩ => ?_, fun q => ⟨ns, es, q⟩⟩
  rw [es] at e2
  rw [int_inj (Option.some.inj e2)]
  exact q
@[simp] theorem b_sumO {ns : List Int} : cb oSumA [.own (.seq (ns.map W.int))] k = k (.val (.int ns.sum)) := cb_sum (v := .cv (.seq _)) (fun _ => rfl) rfl
@[simp] theorem b_sumL {ns : List Int} : cb oSumA [.val (.lst (ns.map W.int))] k = k (.val (.int ns.sum)) := cb_sum (v := .wv (.lst _)) (fun _ => rfl) rfl
@[simp] theorem b_sumT {ns : List Int} : cb oSumA [.val (.tup (ns.map W.int))] k = k (.val (.int ns.sum)) := cb_sum (v := .wv (.tup _)) (fun _ => rfl) rfl
@[simp] theorem b_anyO {ns : List Bool} : cb oAny [.own (.seq (ns.map W.bl))] k = k (.val (.bl (ns.any id))) := cb_bls (v := .cv (.seq _)) (fun _ => rfl) rfl
@[simp] theorem b_allO {ns : List Bool} : cb oAll [.own (.seq (ns.map W.bl))] k = k (.val (.bl (ns.all id))) := cb_bls (v := .cv (.seq _)) (fun _ => rfl) rfl
end
end
end Ab

/-! Mc4: loops and comprehensions over mapped lists; equality of data; draws. -/
namespace Ab
open PySem PySem.Spec PyProof.Rows L2 RZ
section
variable {Q : RR → AH → Prop} {E : AExc → AH → Prop} {h : AH} {α β σ : Type}
/-! ### what is walked, as a mapped list -/
theorem rng_map {n : Nat} : rngW 0 n = (List.range n).map fun (i : Nat) => W.int i := by
  unfold rngW
  simp
theorem rngI_map {lo : Int} {n : Nat} : rngW lo n = (List.range n).map fun (i : Nat) => W.int (lo + i) := rfl
theorem zip_map {e1 : α → W} {e2 : β → W} : ∀ {as : List α} {bs : List β}, List.zipWith (fun a b => W.tup [a, b]) (as.map e1) (bs.map e2) = (as.zip bs).map fun p => W.tup [e1 p.1, e2 p.2]
  | [], _ => rfl
  | _ :: _, [] => rfl
  | a :: as, b :: bs => by
    simp only [List.map_cons, List.zipWith_cons_cons, List.zip_cons_cons]
    rw [zip_map]
theorem en_map {e : α → W} {l : List α} : enW (l.map e) = l.zipIdx.map fun p => W.tup [.int (p.2 : Int), e p.1] := by
  refine List.ext_getElem (by simp [enW]) fun i h1 h2 => ?_
  have hi : i < l.length := by simpa [enW] using h1
  simp [enW, List.getD_eq_getElem?_getD, hi]
theorem ez_map {e1 : α → W} {e2 : β → W} {as : List α} {bs : List β} : ezW (as.map e1) (bs.map e2) = (as.zip bs).zipIdx.map fun p => W.tup [.int (p.2 : Int), .tup [e1 p.1.1, e2 p.1.2]] := by
  unfold ezW
  rw [zip_map, en_map]
/-! ### comprehensions -/
section
variable {body : W → (Option W → MC) → MC} {k : List W → MC}
theorem lc_opt (e : α → W) (f : α → Option W) : ∀ (l : List α) (acc : List W), (∀ a ∈ l, ∀ kk, body (e a) kk = kk (f a)) → acc.length + l.length ≤ sizeLine → lcL body k (l.map e) acc = k (acc ++ l.filterMap f)
  | [], acc, _, _ => by simp [lcL]
  | a :: l, acc, hb, hl => by
    rw [List.length_cons] at hl
    show body (e a) _ = _
    rw [hb a (by simp)]
    cases q : f a with
    | none =>
      show lcL body k (l.map e) acc = _
      rw [lc_opt e f l acc (fun b hb' => hb b (by simp [hb'])) (by omega), List.filterMap_cons_none q]
    | some y =>
      show req _ _ = _
      rw [req_of (by omega), lc_opt e f l (acc ++ [y]) (fun b hb' => hb b (by simp [hb'])) (by rw [List.length_append, List.length_singleton]; omega), List.filterMap_cons_some q]
      simp
theorem lc_all (e : α → W) (g : α → W) (l : List α) (hb : ∀ a ∈ l, ∀ kk, body (e a) kk = kk (some (g a))) (hl : l.length ≤ sizeLine) : lcL body k (l.map e) [] = k (l.map g) := by
  rw [lc_opt e (fun a => some (g a)) l [] hb (by simpa using hl)]
  congr 1
  rw [List.nil_append, List.filterMap_eq_map']
theorem lc_if (e : α → W) (p : α → Bool) (g : α → W) (l : List α) (hb : ∀ a ∈ l, ∀ kk, body (e a) kk = if p a = true then kk (some (g a)) else kk none) (hl : l.length ≤ sizeLine) : lcL body k (l.map e) [] = k ((l.filter p).map g) := by
  rw [lc_opt e (fun a => if p a = true then some (g a) else none) l [] (fun a ha kk => by rw [hb a ha kk]; split <;> rfl) (by simpa using hl)]
  congr 1
  rw [List.nil_append]
  induction l with
  | nil => rfl
  | cons a l ih =>
    have ih := ih (fun b hb' => hb b (by simp [hb'])) (by rw [List.length_cons] at hl; omega)
    by_cases q : p a = true
    · rw [List.filterMap_cons_some (by rw [if_pos q]), List.filter_cons_of_pos q, List.map_cons, ih]
    · rw [List.filterMap_cons_none (by rw [if_neg q]), List.filter_cons_of_neg q, ih]
/-- pairs in order -/
theorem lc_wp (I : Nat → AH → Prop) (P : W → W → Prop) : ∀ (ws acc : List W) (i : Nat) (h : AH), acc.length + ws.length ≤ sizeLine → I i h →
    (∀ w ∈ ws, ∀ j h kk, j < i + ws.length → I j h → (∀ y h', P w y → I (j + 1) h' → kk (some y) h' Q E) → body w kk h Q E) →
    (∀ ys h', All2 P ws ys → I (i + ws.length) h' → k (acc ++ ys) h' Q E) → lcL body k ws acc h Q E
  | [], acc, i, h, _, j, _, q => by
    have z := q [] h .nil (by simpa using j)
    simpa [lcL] using z
  | w :: ws, acc, i, h, hl, j, hb, q => by
    rw [List.length_cons] at hl
    refine hb w (by simp) i h _ (by rw [List.length_cons]; omega) j fun y h' py j' => ⟨by omega, ?_⟩
    refine lc_wp I P ws (acc ++ [y]) (i + 1) h' (by rw [List.length_append, List.length_singleton]; omega) j' (fun v hv j h kk hj => hb v (by simp [hv]) j h kk (by rw [List.length_cons]; omega)) fun ys h2 ay j2 => ?_
    have z := q (y :: ys) h2 (.cons py ay) (by rw [List.length_cons]; rwa [show i + (ws.length + 1) = i + 1 + ws.length by omega])
    simpa using z
end
/-! ### loops -/
section
variable {body : W → σ → (σ → MC) → (σ → MC) → MC} {k : σ → MC}
theorem for_fold (e : α → W) (f : σ → α → σ) (I : σ → Prop) : ∀ (l : List α) (s : σ), I s → (∀ a ∈ l, ∀ s, I s → I (f s a) ∧ ∀ kn, body (e a) s kn k = kn (f s a)) → forL body k (l.map e) s = k (l.foldl f s)
  | [], s, _, _ => rfl
  | a :: l, s, i, hb => by
    obtain ⟨i', hb'⟩ := hb a (by simp) s i
    show body (e a) s _ k = _
    rw [hb', for_fold e f I l (f s a) i' fun b hb2 => hb b (by simp [hb2])]
    rfl
/-- .. the state told by a datum, by turns -/
theorem for_enc {τ : Type} (e : α → W) (eS : τ → σ) (f : τ → α → τ) (I : Nat → τ → Prop) : ∀ (l : List α) (t : τ) (i : Nat), I i t → (∀ (j : Nat) a, l[j]? = some a → ∀ t, I (i + j) t → I (i + j + 1) (f t a) ∧ ∀ kn, body (e a) (eS t) kn k = kn (eS (f t a))) → forL body k (l.map e) (eS t) = k (eS (l.foldl f t))
  | [], t, i, _, _ => rfl
  | a :: l, t, i, h0, hb => by
    obtain ⟨i', hb'⟩ := hb 0 a rfl t h0
    show body (e a) (eS t) _ k = _
    rw [hb', for_enc e eS f I l (f t a) (i + 1) i' fun j b hj t hi => ?_]
    · rfl
    · have z := hb (j + 1) b (by simpa using hj) t (by rwa [show i + (j + 1) = i + 1 + j by omega])
      rwa [show i + (j + 1) + 1 = i + 1 + j + 1 by omega] at z
/-- a turn: go on with a state, or end so -/
inductive Stp (σ : Type) where
  | go (s : σ) | out (m : MC)
def runL (f : σ → α → Stp σ) (k : σ → MC) : List α → σ → MC
  | [], s => k s
  | a :: l, s => match f s a with
    | .go s' => runL f k l s'
    | .out m => m
theorem for_run (e : α → W) (f : σ → α → Stp σ) (I : σ → Prop) : ∀ (l : List α) (s : σ), I s → (∀ a ∈ l, ∀ s, I s → (∀ s', f s a = .go s' → I s') ∧ ∀ kn, body (e a) s kn k = match f s a with
    | .go s' => kn s'
    | .out m => m) → forL body k (l.map e) s = runL f k l s
  | [], s, _, _ => rfl
  | a :: l, s, i, hb => by
    obtain ⟨i', hb'⟩ := hb a (by simp) s i
    show body (e a) s _ k = _
    rw [hb']
    show _ = match f s a with
      | .go s' => runL f k l s'
      | .out m => m
    cases q : f s a with
    | go s' => exact for_run e f I l s' (i' _ q) fun b hb2 => hb b (by simp [hb2])
    | out m => rfl
/-- nothing carried: the first that ends it -/
theorem for_find {body : W → Unit → (Unit → MC) → (Unit → MC) → MC} {k : Unit → MC} (e : α → W) (r : α → Option MC) : ∀ (l : List α), (∀ a ∈ l, ∀ kn, body (e a) () kn k = (r a).getD (kn ())) → forL body k (l.map e) () = (l.findSome? r).getD (k ())
  | [], _ => rfl
  | a :: l, hb => by
    show body (e a) () _ k = _
    rw [hb a (by simp)]
    cases q : r a with
    | some m => simp [q]
    | none =>
      rw [List.findSome?_cons_of_isNone (by rw [q]; rfl)]
      exact for_find e r l fun b hb2 => hb b (by simp [hb2])
theorem for_none {body : W → Unit → (Unit → MC) → (Unit → MC) → MC} {k : Unit → MC} (ws : List W) (hb : ∀ w ∈ ws, ∀ kn, body w () kn k = kn ()) : forL body k ws () = k () := by
  induction ws with
  | nil => rfl
  | cons w ws ih =>
    show body w () _ k = _
    rw [hb w (by simp)]
    exact ih fun v hv => hb v (by simp [hv])
theorem for_wp (I : List W → σ → AH → Prop) (h0 : ∀ s h, I [] s h → k s h Q E) (hs : ∀ w ws s h kn, I (w :: ws) s h → (∀ s' h', I ws s' h' → kn s' h' Q E) → body w s kn k h Q E) : ∀ ws s h, I ws s h → forL body k ws s h Q E
  | [], s, h, i => h0 s h i
  | w :: ws, s, h, i => hs w ws s h _ i fun s' h' i' => for_wp I h0 hs ws s' h' i'
theorem foldl_inv {f : σ → α → σ} (I : σ → Prop) : ∀ (l : List α) (s : σ), I s → (∀ a ∈ l, ∀ s, I s → I (f s a)) → I (l.foldl f s)
  | [], _, i, _ => i
  | a :: l, s, i, hf => foldl_inv I l (f s a) (hf a (by simp) s i) fun b hb => hf b (by simp [hb])
end
end
/-! ### equality of data: no truth values, no addresses in it -/
mutual
def W.nb : Nat → W → Bool
  | _, .non => true
  | _, .int _ => true
  | _, .str _ => true
  | n + 1, .tup xs => W.nbs n xs
  | n + 1, .lst xs => W.nbs n xs
  | _, _ => false
def W.nbs : Nat → List W → Bool
  | _, [] => true
  | n, x :: xs => W.nb n x && W.nbs n xs
end
theorem W.nbs_of {n : Nat} : ∀ {xs : List W}, (∀ x ∈ xs, x.nb n = true) → W.nbs n xs = true
  | [], _ => rfl
  | x :: xs, h => by
    simp only [W.nbs, Bool.and_eq_true]
    exact ⟨h x (by simp), W.nbs_of fun y hy => h y (by simp [hy])⟩
theorem W.nbs_mem {n : Nat} : ∀ {xs : List W}, W.nbs n xs = true → ∀ x ∈ xs, x.nb n = true
  | [], _, x, h => by cases h
  | y :: ys, e, x, h => by
    simp only [W.nbs, Bool.and_eq_true] at e
    rcases List.mem_cons.mp h with rfl | h
    · exact e.1
    · exact W.nbs_mem e.2 x h
theorem nb_int {n : Nat} {i : Int} : (W.int i).nb n = true := by cases n <;> rfl
theorem nb_str {n : Nat} {i : Str} : (W.str i).nb n = true := by cases n <;> rfl
theorem nb_non {n : Nat} : W.non.nb n = true := by cases n <;> rfl
theorem nb_tup {n : Nat} {xs : List W} (h : ∀ x ∈ xs, x.nb n = true) : (W.tup xs).nb (n + 1) = true := W.nbs_of h
theorem nb_lst {n : Nat} {xs : List W} (h : ∀ x ∈ xs, x.nb n = true) : (W.lst xs).nb (n + 1) = true := W.nbs_of h
theorem nb_ints {n : Nat} {xs : List Int} : ∀ x ∈ xs.map W.int, x.nb n = true := fun x hx => by
  obtain ⟨i, _, rfl⟩ := List.mem_map.mp hx
  exact nb_int
theorem nb_map {α : Type} {n : Nat} {e : α → W} {l : List α} (h : ∀ a ∈ l, (e a).nb n = true) : ∀ x ∈ l.map e, x.nb n = true := fun x hx => by
  obtain ⟨i, hi, rfl⟩ := List.mem_map.mp hx
  exact h i hi
theorem nb_dat : ∀ {n : Nat} {w : W}, w.nb n = true → w.dat n = true
  | 0, .non, _ => rfl
  | 0, .int _, _ => rfl
  | 0, .str _, _ => rfl
  | _ + 1, .non, _ => rfl
  | _ + 1, .int _, _ => rfl
  | _ + 1, .str _, _ => rfl
  | n + 1, .tup xs, h => by
    show xs.all (W.dat n) = true
    rw [List.all_eq_true]
    exact fun x hx => nb_dat (W.nbs_mem h x hx)
  | n + 1, .lst xs, h => by
    show xs.all (W.dat n) = true
    rw [List.all_eq_true]
    exact fun x hx => nb_dat (W.nbs_mem h x hx)
  | 0, .tup _, h => by simp [W.nb] at h
  | 0, .lst _, h => by simp [W.nb] at h
  | _, .bl _, h => by simp [W.nb] at h
  | _, .dct _ _, h => by simp [W.nb] at h
  | _, .ref _, h => by simp [W.nb] at h
  | _, .ty _, h => by simp [W.nb] at h
theorem dat_up : ∀ {n m : Nat} {w : W}, n ≤ m → w.dat n = true → w.dat m = true
  | _, 0, .non, _, _ => rfl
  | _, 0, .int _, _, _ => rfl
  | _, 0, .str _, _, _ => rfl
  | _, 0, .bl _, _, _ => rfl
  | _, _ + 1, .non, _, _ => rfl
  | _, _ + 1, .int _, _, _ => rfl
  | _, _ + 1, .str _, _, _ => rfl
  | _, _ + 1, .bl _, _, _ => rfl
  | 0, _, .tup _, _, h => by simp [W.dat] at h
  | 0, _, .lst _, _, h => by simp [W.dat] at h
  | n + 1, m + 1, .tup xs, l, h => by
    have h : xs.all (W.dat n) = true := h
    show xs.all (W.dat m) = true
    rw [List.all_eq_true] at h ⊢
    exact fun x hx => dat_up (by omega) (h x hx)
  | n + 1, m + 1, .lst xs, l, h => by
    have h : xs.all (W.dat n) = true := h
    show xs.all (W.dat m) = true
    rw [List.all_eq_true] at h ⊢
    exact fun x hx => dat_up (by omega) (h x hx)
  | _ + 1, 0, .tup _, l, _ => by omega
  | _ + 1, 0, .lst _, l, _ => by omega
  | _, _, .dct _ _, _, h => by simp [W.dat] at h
  | _, _, .ref _, _, h => by simp [W.dat] at h
  | _, _, .ty _, _, h => by simp [W.dat] at h
/-- a value as data -/
def W.plain (w : W) : Prop := ∃ n, n ≤ 60 ∧ w.nb n = true
@[simp] theorem pl_int {i : Int} : (W.int i).plain := ⟨0, by omega, rfl⟩
@[simp] theorem pl_str {i : Str} : (W.str i).plain := ⟨0, by omega, rfl⟩
@[simp] theorem pl_non : W.non.plain := ⟨0, by omega, rfl⟩
theorem pl_tup (n : Nat) (hn : n < 60) {xs : List W} (h : ∀ x ∈ xs, x.nb n = true) : (W.tup xs).plain := ⟨n + 1, hn, nb_tup h⟩
theorem pl_lst (n : Nat) (hn : n < 60) {xs : List W} (h : ∀ x ∈ xs, x.nb n = true) : (W.lst xs).plain := ⟨n + 1, hn, nb_lst h⟩
@[simp] theorem pl_ints {xs : List Int} : (W.tup (xs.map W.int)).plain := pl_tup 0 (by omega) nb_ints
@[simp] theorem pl_intsL {xs : List Int} : (W.lst (xs.map W.int)).plain := pl_lst 0 (by omega) nb_ints
mutual
theorem eqw_nb : ∀ (n : Nat) (a b : W) (m : Nat), a.nb n = true → b.nb m = true → (eqw a b = true ↔ a = b)
  | _, .non, .non, _, _, _ => by simp [eqw, W.pd, PyData.eqv]
  | _, .non, .int _, _, _, _ => by simp [eqw, W.pd, PyData.eqv]
  | _, .non, .str _, _, _, _ => by simp [eqw, W.pd, PyData.eqv]
  | _, .non, .tup _, _, _, _ => by simp [eqw, W.pd, PyData.eqv]
  | _, .non, .lst _, _, _, _ => by simp [eqw, W.pd, PyData.eqv]
  | _, .int _, .non, _, _, _ => by simp [eqw, W.pd, PyData.eqv]
  | _, .int _, .int _, _, _, _ => by simp [eqw, W.pd, PyData.eqv]
  | _, .int _, .str _, _, _, _ => by simp [eqw, W.pd, PyData.eqv]
  | _, .int _, .tup _, _, _, _ => by simp [eqw, W.pd, PyData.eqv]
  | _, .int _, .lst _, _, _, _ => by simp [eqw, W.pd, PyData.eqv]
  | _, .str _, .non, _, _, _ => by simp [eqw, W.pd, PyData.eqv]
  | _, .str _, .int _, _, _, _ => by simp [eqw, W.pd, PyData.eqv]
  | _, .str _, .str _, _, _, _ => by simp [eqw, W.pd, PyData.eqv]
  | _, .str _, .tup _, _, _, _ => by simp [eqw, W.pd, PyData.eqv]
  | _, .str _, .lst _, _, _, _ => by simp [eqw, W.pd, PyData.eqv]
  | _, .tup _, .non, _, _, _ => by simp [eqw, W.pd, PyData.eqv]
  | _, .tup _, .int _, _, _, _ => by simp [eqw, W.pd, PyData.eqv]
  | _, .tup _, .str _, _, _, _ => by simp [eqw, W.pd, PyData.eqv]
  | n + 1, .tup xs, .tup ys, m + 1, h, g => by
    have z := eqws_nb n xs ys m h g
    show PyData.eqvAll (W.pds xs) (W.pds ys) = true ↔ _
    rw [z]
    simp
  | _, .tup _, .lst _, _, _, _ => by simp [eqw, W.pd, PyData.eqv]
  | _, .lst _, .non, _, _, _ => by simp [eqw, W.pd, PyData.eqv]
  | _, .lst _, .int _, _, _, _ => by simp [eqw, W.pd, PyData.eqv]
  | _, .lst _, .str _, _, _, _ => by simp [eqw, W.pd, PyData.eqv]
  | _, .lst _, .tup _, _, _, _ => by simp [eqw, W.pd, PyData.eqv]
  | n + 1, .lst xs, .lst ys, m + 1, h, g => by
    have z := eqws_nb n xs ys m h g
    show PyData.eqvAll (W.pds xs) (W.pds ys) = true ↔ _
    rw [z]
    simp
  | 0, .tup _, .tup _, _, h, _ => by simp [W.nb] at h
  | _, .tup _, .tup _, 0, _, h => by simp [W.nb] at h
  | 0, .lst _, .lst _, _, h, _ => by simp [W.nb] at h
  | _, .lst _, .lst _, 0, _, h => by simp [W.nb] at h
  | _, .bl _, _, _, h, _ => by simp [W.nb] at h
  | _, .dct _ _, _, _, h, _ => by simp [W.nb] at h
  | _, .ref _, _, _, h, _ => by simp [W.nb] at h
  | _, .ty _, _, _, h, _ => by simp [W.nb] at h
  | _, _, .bl _, _, _, h => by simp [W.nb] at h
  | _, _, .dct _ _, _, _, h => by simp [W.nb] at h
  | _, _, .ref _, _, _, h => by simp [W.nb] at h
  | _, _, .ty _, _, _, h => by simp [W.nb] at h
theorem eqws_nb : ∀ (n : Nat) (xs ys : List W) (m : Nat), W.nbs n xs = true → W.nbs m ys = true → (PyData.eqvAll (W.pds xs) (W.pds ys) = true ↔ xs = ys)
  | _, [], [], _, _, _ => by simp [W.pds, PyData.eqvAll]
  | _, [], _ :: _, _, _, _ => by simp [W.pds, PyData.eqvAll]
  | _, _ :: _, [], _, _, _ => by simp [W.pds, PyData.eqvAll]
  | n, x :: xs, y :: ys, m, h, g => by
    simp only [W.nbs, Bool.and_eq_true] at h g
    have z1 := eqw_nb n x y m h.1 g.1
    have z2 := eqws_nb n xs ys m h.2 g.2
    simp only [W.pds, PyData.eqvAll, Bool.and_eq_true]
    rw [z2, show PyData.eqv x.pd y.pd = eqw x y from rfl, z1]
    simp
end
/-- what a name or a result is, as data -/
def SV.pl (x : SV) : Prop := match x with
  | .val w => w.plain
  | .own c => c.fz.plain
theorem view_plain {w : W} (h : w.plain) (k : AH) : viewW k w = .wv w := by
  obtain ⟨n, _, h⟩ := h
  cases w with
  | ref a => simp [W.nb] at h
  | _ => rfl
theorem svw_plain {x : SV} (h : x.pl) (k : AH) : (svw k x).toW = x.fz ∧ svw k x ≠ .bad ∧ x.fz.plain := by
  cases x with
  | val w =>
    have h : w.plain := h
    refine ⟨by show (viewW k w).toW = w; rw [view_plain h]; rfl, by show viewW k w ≠ .bad; rw [view_plain h]; exact (fun z => nomatch z), h⟩
  | own c => exact ⟨rfl, (fun z => nomatch z), h⟩
theorem plain_dat {w : W} (h : w.plain) : w.dat 60 = true := by
  obtain ⟨n, hn, h⟩ := h
  exact dat_up hn (nb_dat h)
theorem ok_plain {x : SV} (h : x.pl) (k : AH) : (svw k x).ok = true := by
  obtain ⟨a, b, c⟩ := svw_plain h k
  have d := plain_dat c
  cases e : svw k x with
  | bad => exact absurd e b
  | wv w => rw [e] at a; show w.dat 60 = true; rw [show w = x.fz from a]; exact d
  | cv w => rw [e] at a; show w.fz.dat 60 = true; rw [show w.fz = x.fz from a]; exact d
theorem o_eq {x y : SV} {neg : Bool} {k : SV → MC} (hx : x.pl) (hy : y.pl) : op2 (oEq neg) x y k = k (.val (.bl (if neg = true then !eqw x.fz y.fz else eqw x.fz y.fz))) := by
  funext h Q E
  unfold op2 oEq
  rw [(svw_plain hx h).1, (svw_plain hy h).1]
  refine propext ⟨fun z => z.2.2, fun z => ⟨ok_plain hx h, ok_plain hy h, z⟩⟩
noncomputable instance : DecidableEq W := fun _ _ => Classical.propDecidable _
theorem sp {w : W} (h : w.plain) : SV.pl (.val w) := h
theorem so {c : Cont} (h : c.fz.plain) : SV.pl (.own c) := h
/-- == as a test -/
theorem t_eq {x y : SV} {k : Bool → MC} (hx : x.pl) (hy : y.pl) : (op2 (oEq false) x y fun r => asB r k) = k (decide (x.fz = y.fz)) := by
  rw [o_eq hx hy]
  obtain ⟨_, _, n, _, hn⟩ := svw_plain hx (fun _ => none)
  obtain ⟨_, _, m, _, hm⟩ := svw_plain hy (fun _ => none)
  have z := eqw_nb n x.fz y.fz m hn hm
  have : eqw x.fz y.fz = decide (x.fz = y.fz) := by
    by_cases q : x.fz = y.fz
    · rw [z.mpr q, decide_eq_true q]
    · have q' := mt z.mp q
      rw [decide_eq_false q]
      simpa using q'
  rw [this]
  rfl
theorem t_ne {x y : SV} {k : Bool → MC} (hx : x.pl) (hy : y.pl) : (op2 (oEq true) x y fun r => asB r k) = k (!decide (x.fz = y.fz)) := by
  have z := t_eq (k := fun b => k (!b)) hx hy
  rw [o_eq hx hy] at z ⊢
  simp only [Bool.false_eq_true, if_false, if_true] at z ⊢
  exact z
/-- in, not in, of a row of data -/
theorem memw_iff {x : W} (hx : ∃ n, x.nb n = true) : ∀ {xs : List W}, (∀ y ∈ xs, ∃ n, y.nb n = true) → memw x xs = decide (x ∈ xs)
  | [], _ => by simp [memw]
  | y :: ys, h => by
    obtain ⟨n, hn⟩ := hx
    obtain ⟨m, hm⟩ := h y (by simp)
    have z := eqw_nb m y x n hm hn
    rw [memw_cons, memw_iff ⟨n, hn⟩ fun z hz => h z (by simp [hz])]
    by_cases q : y = x
    · rw [z.mpr q]; simp [q]
    · have q' : eqw y x = false := by simpa using mt z.mp q
      have q2 : ¬ x = y := fun e => q e.symm
      rw [q']; simp [q2]
theorem plain_nb {w : W} (h : w.plain) : ∃ n, w.nb n = true := let ⟨n, _, q⟩ := h; ⟨n, q⟩
theorem t_in {x : SV} {y : SV} {xs : List W} {k : Bool → MC} (hx : x.pl) (hy : ∀ h, (svw h y).items = some xs) (hp : ∀ z ∈ xs, z.nb 59 = true) : (op2 (oInL false) x y fun r => asB r k) = k (decide (x.fz ∈ xs)) := by
  funext h Q E
  unfold op2
  rw [y_inL, hy h]
  have hd : xs.all (W.dat 60) = true := by
    rw [List.all_eq_true]
    exact fun z hz => dat_up (by omega) (nb_dat (hp z hz))
  have e : memw (svw h x).toW xs = decide (x.fz ∈ xs) := by
    rw [(svw_plain hx h).1]
    exact memw_iff (plain_nb (svw_plain hx h).2.2) fun z hz => ⟨59, hp z hz⟩
  show (_ ∧ _ ∧ _) = _
  rw [e]
  refine propext ⟨fun z => z.2.2, fun z => ⟨ok_plain hx h, hd, z⟩⟩
theorem t_nin {x : SV} {y : SV} {xs : List W} {k : Bool → MC} (hx : x.pl) (hy : ∀ h, (svw h y).items = some xs) (hp : ∀ z ∈ xs, z.nb 59 = true) : (op2 (oInL true) x y fun r => asB r k) = k (!decide (x.fz ∈ xs)) := by
  funext h Q E
  unfold op2
  rw [y_inL, hy h]
  have hd : xs.all (W.dat 60) = true := by
    rw [List.all_eq_true]
    exact fun z hz => dat_up (by omega) (nb_dat (hp z hz))
  have e : memw (svw h x).toW xs = decide (x.fz ∈ xs) := by
    rw [(svw_plain hx h).1]
    exact memw_iff (plain_nb (svw_plain hx h).2.2) fun z hz => ⟨59, hp z hz⟩
  show (_ ∧ _ ∧ _) = _
  rw [e]
  refine propext ⟨fun z => z.2.2, fun z => ⟨ok_plain hx h, hd, z⟩⟩
/-- is None, is not None -/
theorem t_isN {x : W} {k : Bool → MC} (hx : x.plain) : (op2 (oIsN false) (.val x) (.val .non) fun r => asB r k) = k (decide (x = .non)) := by
  funext h Q E
  show oIsN false (viewW h x) (.wv .non) _ = _
  rw [view_plain hx, y_isN]
  have : (Vw.wv x).isNon = decide (x = .non) := by
    cases x <;> simp [Vw.isNon]
  rw [this]
  refine propext ⟨fun z => z.2, fun z => ⟨(fun e => nomatch e), z⟩⟩
theorem t_notN {x : W} {k : Bool → MC} (hx : x.plain) : (op2 (oIsN true) (.val x) (.val .non) fun r => asB r k) = k (!decide (x = .non)) := by
  funext h Q E
  show oIsN true (viewW h x) (.wv .non) _ = _
  rw [view_plain hx, y_isN]
  have : (Vw.wv x).isNon = decide (x = .non) := by
    cases x <;> simp [Vw.isNon]
  rw [this]
  refine propext ⟨fun z => z.2, fun z => ⟨(fun e => nomatch e), z⟩⟩
/-! == and the like of plain data, as values -/
theorem o_eqP {x y : SV} {k : SV → MC} (hx : x.pl) (hy : y.pl) : op2 (oEq false) x y k = k (.val (.bl (decide (x.fz = y.fz)))) := by
  rw [o_eq hx hy]
  obtain ⟨_, _, n, _, hn⟩ := svw_plain hx (fun _ => none)
  obtain ⟨_, _, m, _, hm⟩ := svw_plain hy (fun _ => none)
  have z := eqw_nb n x.fz y.fz m hn hm
  have : eqw x.fz y.fz = decide (x.fz = y.fz) := by
    by_cases q : x.fz = y.fz
    · rw [z.mpr q, decide_eq_true q]
    · have q' := mt z.mp q
      rw [decide_eq_false q]
      simpa using q'
  rw [this]
  rfl
theorem o_neP {x y : SV} {k : SV → MC} (hx : x.pl) (hy : y.pl) : op2 (oEq true) x y k = k (.val (.bl (!decide (x.fz = y.fz)))) := by
  have z := o_eqP (k := fun r => match r with
    | .val (.bl b) => k (.val (.bl (!b)))
    | _ => bad) hx hy
  rw [o_eq hx hy] at z ⊢
  exact z
theorem dec_cong {p q : Prop} [Decidable p] [Decidable q] (h : p ↔ q) : decide p = decide q := decide_eq_decide.mpr h
section
variable {k : SV → MC} {i j : Int} {a b : Str} {as bs : List Int} {xs : List W}
@[simp] theorem o_eqI : op2 (oEq false) (.val (.int i)) (.val (.int j)) k = k (.val (.bl (decide (i = j)))) := by
  rw [o_eqP (sp pl_int) (sp pl_int), dec_cong (q := i = j) (by simp)]
@[simp] theorem o_neI : op2 (oEq true) (.val (.int i)) (.val (.int j)) k = k (.val (.bl (!decide (i = j)))) := by
  rw [o_neP (sp pl_int) (sp pl_int), dec_cong (q := i = j) (by simp)]
@[simp] theorem o_eqSt : op2 (oEq false) (.val (.str a)) (.val (.str b)) k = k (.val (.bl (decide (a = b)))) := by
  rw [o_eqP (sp pl_str) (sp pl_str), dec_cong (q := a = b) (by simp)]
@[simp] theorem o_neSt : op2 (oEq true) (.val (.str a)) (.val (.str b)) k = k (.val (.bl (!decide (a = b)))) := by
  rw [o_neP (sp pl_str) (sp pl_str), dec_cong (q := a = b) (by simp)]
theorem tup_ints : W.tup (as.map W.int) = W.tup (bs.map W.int) ↔ as = bs := ⟨fun e => by injection e with e; exact int_inj e, fun e => by rw [e]⟩
@[simp] theorem o_eqT : op2 (oEq false) (.val (.tup (as.map W.int))) (.val (.tup (bs.map W.int))) k = k (.val (.bl (decide (as = bs)))) := by
  rw [o_eqP (sp pl_ints) (sp pl_ints), fz_val, fz_val, dec_cong (q := as = bs) tup_ints]
@[simp] theorem o_neT : op2 (oEq true) (.val (.tup (as.map W.int))) (.val (.tup (bs.map W.int))) k = k (.val (.bl (!decide (as = bs)))) := by
  rw [o_neP (sp pl_ints) (sp pl_ints), fz_val, fz_val, dec_cong (q := as = bs) tup_ints]
theorem isN_at {w : W} {neg : Bool} (hv : ∀ h, viewW h w = .wv w) : op2 (oIsN neg) (.val w) (.val .non) k = k (.val (.bl (if neg then !(Vw.wv w).isNon else (Vw.wv w).isNon))) := by
  funext h Q E
  show oIsN neg (viewW h w) (.wv .non) _ = _
  rw [hv, y_isN]
  refine propext ⟨fun z => z.2, fun z => ⟨(fun e => nomatch e), z⟩⟩
@[simp] theorem isN_non : op2 (oIsN false) (.val .non) (.val .non) k = k (.val (.bl true)) := isN_at (fun _ => rfl)
@[simp] theorem isN_int : op2 (oIsN false) (.val (.int i)) (.val .non) k = k (.val (.bl false)) := isN_at (fun _ => rfl)
@[simp] theorem isN_str : op2 (oIsN false) (.val (.str a)) (.val .non) k = k (.val (.bl false)) := isN_at (fun _ => rfl)
@[simp] theorem isN_tup : op2 (oIsN false) (.val (.tup xs)) (.val .non) k = k (.val (.bl false)) := isN_at (fun _ => rfl)
@[simp] theorem isN_lst : op2 (oIsN false) (.val (.lst xs)) (.val .non) k = k (.val (.bl false)) := isN_at (fun _ => rfl)
@[simp] theorem nIsN_non : op2 (oIsN true) (.val .non) (.val .non) k = k (.val (.bl false)) := isN_at (fun _ => rfl)
@[simp] theorem nIsN_int : op2 (oIsN true) (.val (.int i)) (.val .non) k = k (.val (.bl true)) := isN_at (fun _ => rfl)
@[simp] theorem nIsN_str : op2 (oIsN true) (.val (.str a)) (.val .non) k = k (.val (.bl true)) := isN_at (fun _ => rfl)
@[simp] theorem nIsN_tup : op2 (oIsN true) (.val (.tup xs)) (.val .non) k = k (.val (.bl true)) := isN_at (fun _ => rfl)
@[simp] theorem nIsN_lst : op2 (oIsN true) (.val (.lst xs)) (.val .non) k = k (.val (.bl true)) := isN_at (fun _ => rfl)
end
end Ab

namespace Ab
open PySem PySem.Spec PyProof.Rows L2 RZ
/-! ### the data of the document -/
/-- good sizes -/
def SzOk (ss : List Int) : Prop := 1 ≤ ss.length ∧ ss.length ≤ 6 ∧ ∀ s ∈ ss, 1 ≤ s ∧ s ≤ 40
/-- counts of drops in casks -/
def CtOk (ss cs : List Int) : Prop := cs.length = ss.length ∧ ∀ (i : Nat) (c s : Int), cs[i]? = some c → ss[i]? = some s → 0 ≤ c ∧ c ≤ s
/-- a deed -/
inductive Dd where
  | swap (i j : Nat) | tap (n : Int) (c : Nat) | drain (n : Int) (c : Nat) | over (n : Int) (cs : List Nat) | down (n : Int) (cs : List Nat)
abbrev natW (c : Nat) : W := .int (c : Int)
def Dd.w : Dd → W
  | .swap i j => .tup [.str "swap", natW i, natW j]
  | .tap n c => .tup [.str "tap", .int n, natW c]
  | .drain n c => .tup [.str "drain", .int n, natW c]
  | .over n cs => .tup (.str "over" :: .int n :: cs.map natW)
  | .down n cs => .tup (.str "down" :: .int n :: cs.map natW)
/-- a row of casks -/
def CsOk (ss : List Int) (cs : List Nat) : Prop := 2 ≤ cs.length ∧ cs.length ≤ ss.length ∧ cs.Nodup ∧ ∀ c ∈ cs, c < ss.length
def great : Int := 1000000000000000000000000000000
def Dd.ok (ss : List Int) : Dd → Prop
  | .swap i j => i < ss.length ∧ j < ss.length ∧ i ≠ j ∧ ss[i]? = ss[j]?
  | .tap n c => 0 ≤ n ∧ n < great ∧ c < ss.length
  | .drain n c => 0 ≤ n ∧ n < great ∧ c < ss.length
  | .over n cs => 0 ≤ n ∧ n < great ∧ CsOk ss cs
  | .down n cs => 0 ≤ n ∧ n < great ∧ CsOk ss cs
theorem natW_eq {c : Nat} : natW c = .int (c : Int) := rfl
theorem nb_nat {n : Nat} {c : Nat} : (natW c).nb n = true := nb_int
theorem natW_inj {a b : Nat} : natW a = natW b ↔ a = b := by
  unfold natW
  constructor
  · intro e
    injection e with e
    omega
  · rintro rfl; rfl
theorem dd_nb (d : Dd) : d.w.nb 1 = true := by
  cases d <;> refine nb_tup (n := 0) fun x hx => ?_
  all_goals simp only [List.mem_cons, List.not_mem_nil, or_false, List.mem_map] at hx
  · rcases hx with rfl | rfl | rfl <;> rfl
  · rcases hx with rfl | rfl | rfl <;> rfl
  · rcases hx with rfl | rfl | rfl <;> rfl
  · rcases hx with rfl | rfl | ⟨c, _, rfl⟩ <;> rfl
  · rcases hx with rfl | rfl | ⟨c, _, rfl⟩ <;> rfl
theorem range_nat (n : Nat) : rngW 0 n = (List.range n).map natW := rng_map
def Dd.word : Dd → Str
  | .swap _ _ => "swap"
  | .tap _ _ => "tap"
  | .drain _ _ => "drain"
  | .over _ _ => "over"
  | .down _ _ => "down"
def Dd.rest : Dd → List W
  | .swap i j => [natW i, natW j]
  | .tap n c => [.int n, natW c]
  | .drain n c => [.int n, natW c]
  | .over n cs => .int n :: cs.map natW
  | .down n cs => .int n :: cs.map natW
theorem Dd.w_eq (d : Dd) : d.w = .tup (.str d.word :: d.rest) := by cases d <;> rfl
theorem dd_at0 {d : Dd} {k : SV → MC} : op2 oIx (.val d.w) (.val (.int 0)) k = k (.val (.str d.word)) := by
  rw [d.w_eq, o_ixT, atS_0]
end Ab
namespace Ab
open PySem PySem.Spec PyProof.Rows L2 RZ
def mf__law_open (x_script : W) : MC :=
  ((eLst (wCons (eFz (eCB oLstC (sCons (eSl (eV (.val x_script)) oNo (oPart (eC (.int 63)))) sNil))) (wCons (eFz (eC (.int 0))) (wCons (eFz (eC (.int 0))) (wCons (eFz (eC (.int 9465))) (wCons (eFz (eC (.int 0))) wNil)))))) ret)
def m__law_open : List W → MC
  | [x_script] => mf__law_open x_script
  | _ => bad
def mf__law_take (x_bag x_sides : W) : MC :=
  (join (fun (s1 : SV) => (ifC (tTst (eOp2 oGe (eOp2 oIx (eV s1) (eC (.int 2))) (eV (.val x_sides)))) ((eFz (eOp2 oMod (eOp2 oIx (eV s1) (eC (.int 2))) (eV (.val x_sides)))) fun x_side => (setC (eFz (eOp2 oFdiv (eOp2 oIx (eV s1) (eC (.int 2))) (eV (.val x_sides)))) s1 (eC (.int 2)) fun x_bag => ((eV (.val x_side)) ret))) (setC (eFz (eOp2 oAdd (eOp2 oIx (eV s1) (eC (.int 4))) (eC (.int 1)))) s1 (eC (.int 4)) fun x_bag => ((eFz (eOp2 oIx (eV x_bag) (eC (.int 3)))) fun x_mix => (setC (eFz (eOp2 oMod (eOp2 oAdd (eOp2 oAdd (eOp2 oAdd (eOp2 oMulT (eOp2 oMod (eOp2 oMulT (eV (.val x_mix)) (eV (.val x_mix))) (eC (.int 2147483629))) (eC (.int 5))) (eOp2 oMulT (eV (.val x_mix)) (eC (.int 16811)))) (eOp2 oMulT (eC (.int 7919)) (eOp2 oIx (eV x_bag) (eC (.int 4))))) (eC (.int 2531011))) (eC (.int 2147483647)))) x_bag (eC (.int 3)) fun x_bag => ((eOp2 oMod (eOp2 oAdd (eOp2 oFdiv (eOp2 oIx (eV x_bag) (eC (.int 3))) (eC (.int 61))) (eOp2 oMulT (eOp2 oMod (eOp2 oIx (eV x_bag) (eC (.int 3))) (eC (.int 8191))) (eC (.int 31)))) (eV (.val x_sides))) ret)))))) fun kj3 => (ifC (tAnd (tTst (eOp2 oLt (eOp2 oIx (eV (.val x_bag)) (eC (.int 2))) (eV (.val x_sides)))) (tTst (eOp2 oLt (eOp2 oIx (eV (.val x_bag)) (eC (.int 1))) (eCB oLen (sCons (eOp2 oIx (eV (.val x_bag)) (eC (.int 0))) sNil))))) ((eFz (eOp2 oIx (eOp2 oIx (eV (.val x_bag)) (eC (.int 0))) (eOp2 oIx (eV (.val x_bag)) (eC (.int 1))))) fun x_cell => (setC (eFz (eOp2 oAdd (eOp2 oIx (eV (.val x_bag)) (eC (.int 1))) (eC (.int 1)))) (.val x_bag) (eC (.int 1)) fun x_bag => (setC (eFz (eC (.int 0))) x_bag (eC (.int 2)) fun x_bag => (ifC (tTst (eOp2 oGe (eV (.val x_cell)) (eOp2 oPow (eC (.int 10)) (eC (.int 18))))) (setC (eFz (eV (.val x_cell))) x_bag (eC (.int 2)) fun x_bag => (kj3 x_bag)) (setC (eFz (eOp2 oMod (eOp2 oAdd (eOp2 oAdd (eOp2 oMulT (eOp2 oIx (eV x_bag) (eC (.int 3))) (eC (.int 48271))) (eOp2 oMulT (eOp2 oMod (eV (.val x_cell)) (eC (.int 2147483629))) (eC (.int 69621)))) (eC (.int 12345))) (eC (.int 2147483647)))) x_bag (eC (.int 3)) fun x_bag => (kj3 x_bag)))))) (kj3 (.val x_bag))))
def m__law_take : List W → MC
  | [x_bag, x_sides] => mf__law_take x_bag x_sides
  | _ => bad
def mf__law_pick (x_bag x_row : W) : MC :=
  ((eOp2 oIx (eV (.val x_row)) (eCall m__law_take (wCons (eFz (eV (.val x_bag))) (wCons (eFz (eCB oLen (sCons (eV (.val x_row)) sNil))) wNil)))) ret)
def m__law_pick : List W → MC
  | [x_bag, x_row] => mf__law_pick x_bag x_row
  | _ => bad
/-! ### draws -/
section
variable {Q : RR → AH → Prop} {E : AExc → AH → Prop} {h : AH} {p : Addr} {xs : List W}
theorem join_wp {σ : Type} {k : σ → MC} {f : (σ → MC) → MC} (P : σ → AH → Prop) (hk : ∀ s h, P s h → k s h Q E) (hf : ∀ kk : σ → MC, (∀ s h, P s h → kk s h Q E) → f kk h Q E) : join k f h Q E := hf k hk
theorem ix_ref {i : Int} {k : SV → MC} (e : h p = some (.cont (.seq xs))) : op2 oIx (.val (.ref p)) (.val (.int i)) k h Q E = atS xs i (fun w => k (.val w)) h Q E := by
  have ev : svw h (.val (.ref p)) = .cv (.seq xs) := by
    show (match h p with
      | some (.cont c) => Vw.cv c
      | _ => .wv (.ref p)) = _
    rw [e]
  show oIx (svw h (.val (.ref p))) (.wv (.int i)) _ = _
  rw [ev, ix_items rfl (fun _ z => by cases z)]
  unfold atS
  cases L2.atI xs i <;> rfl
theorem set_ref {i : Int} {w : W} {k : SV → MC} {j : Nat} (e : h p = some (.cont (.seq xs))) (ej : ixN xs.length i = some j) : setIx (.val (.ref p)) (.val (.int i)) w k h Q E = k (.val (.ref p)) (updA h p (.cont (.seq (xs.set j w)))) Q E := by
  show (match h p with
      | some (.cont (.seq xs)) => ∃ j, ixN xs.length i = some j ∧ k (.val (.ref p)) (updA h p (.cont (.seq (xs.set j w)))) Q E
      | _ => False) = _
  rw [e]
  show (∃ j, ixN xs.length i = some j ∧ k (.val (.ref p)) (updA h p (.cont (.seq (xs.set j w)))) Q E) = _
  rw [ej]
  refine propext ⟨fun ⟨_, a, b⟩ => ?_, fun z => ⟨j, rfl, z⟩⟩
  cases a
  exact b
theorem ite_at {b : Prop} [Decidable b] {A B : MC} : (if b then A else B) h Q E = if b then A h Q E else B h Q E := by split <;> rfl
theorem ite_wp {b : Prop} [Decidable b] {A B : MC} (x : b → A h Q E) (y : ¬ b → B h Q E) : (if b then A else B) h Q E := by
  split
  · exact x ‹_›
  · exact y ‹_›
end
/-- the bag of draws at p: n draws at most have been done -/
def bagC (ns : List Int) (i b m c : Int) : AO := .cont (.seq [.lst (ns.map .int), .int i, .int b, .int m, .int c])
def Bag (n : Nat) (h : AH) (p : Addr) : Prop := ∃ (ns : List Int) (i b m c : Int), h p = some (bagC ns i b m c) ∧ 0 ≤ i ∧ i ≤ ns.length ∧ 0 ≤ b ∧ 0 ≤ m ∧ m < 2147483648 ∧ 0 ≤ c ∧ c ≤ n
theorem Bag.le {n m : Nat} {h : AH} {p : Addr} (b : Bag n h p) (l : n ≤ m) : Bag m h p := let ⟨ns, i, x, y, c, a1, a2, a3, a4, a5, a6, a7, a8⟩ := b; ⟨ns, i, x, y, c, a1, a2, a3, a4, a5, a6, a7, by omega⟩
/-- a drawing def: c draws at most -/
def Dr (c : Nat) (m : Addr → MC) (P : RR → Prop) : Prop := ∀ (p : Addr) (n : Nat) (h : AH) (Q : RR → AH → Prop) (E : AExc → AH → Prop), Bag n h p → n + c ≤ 1000000000000000 → (∀ r h', P r → Bag (n + c) h' p → Bt p h h' → Q r h') → m p h Q E
section
variable {Q : RR → AH → Prop} {E : AExc → AH → Prop} {h : AH} {p : Addr} {n c : Nat} {m : Addr → MC} {P : RR → Prop} {K : SV → MC}
theorem Dr.call (d : Dr c m P) (b : Bag n h p) (l : n + c ≤ 1000000000000000) (q : ∀ r h', P r → Bag (n + c) h' p → Bt p h h' → K r.sv h' Q E) : call (m p) K h Q E := d p n h _ _ b l q
theorem Dr.call0 (d : Dr c m P) (b : Bag n h p) (l : n + c ≤ 1000000000000000) (q : ∀ r h', P r → Bag (n + c) h' p → Bt p h h' → K r.sv h' Q E) : call0 (m p) K h Q E := d p n h _ _ b l q
theorem Dr.imp {P' : RR → Prop} {c' : Nat} (d : Dr c m P) (i : ∀ r, P r → P' r) (l : c ≤ c') : Dr c' m P' := fun p n h Q E b l' q => d p n h Q E b (by omega) fun r h' z b' t => q r h' (i r z) (b'.le (by omega)) t
end
theorem take_end {ns : List Int} {i b m c s : Int} {h : AH} {p : Addr} {Q : RR → AH → Prop} {E : AExc → AH → Prop} (hp : h p = some (bagC ns i b m c)) (i0 : 0 ≤ i) (i1 : i ≤ ns.length) (b0 : 0 ≤ b) (m0 : 0 ≤ m) (m1 : m < 2147483648) (c0 : 0 ≤ c)
    (c1 : c ≤ 1000000000000000) (s1 : 1 ≤ s) (s2 : s ≤ 10 ^ 40)
    (q : ∀ k h', 0 ≤ k → k < s → (∃ b' m' c', h' p = some (bagC ns i b' m' c') ∧ 0 ≤ b' ∧ 0 ≤ m' ∧ m' < 2147483648 ∧ 0 ≤ c' ∧ c' ≤ c + 1) → Bt p h h' → Q (.val (.int k)) h') :
    (ifC (tTst (eOp2 oGe (eOp2 oIx (eV (.val (.ref p))) (eC (.int 2))) (eV (.val (.int s))))) ((eFz (eOp2 oMod (eOp2 oIx (eV (.val (.ref p))) (eC (.int 2))) (eV (.val (.int s))))) fun x_side => (setC (eFz (eOp2 oFdiv (eOp2 oIx (eV (.val (.ref p))) (eC (.int 2))) (eV (.val (.int s))))) (.val (.ref p)) (eC (.int 2)) fun x_bag => ((eV (.val x_side)) ret))) (setC (eFz (eOp2 oAdd (eOp2 oIx (eV (.val (.ref p))) (eC (.int 4))) (eC (.int 1)))) (.val (.ref p)) (eC (.int 4)) fun x_bag => ((eFz (eOp2 oIx (eV x_bag) (eC (.int 3)))) fun x_mix => (setC (eFz (eOp2 oMod (eOp2 oAdd (eOp2 oAdd (eOp2 oAdd (eOp2 oMulT (eOp2 oMod (eOp2 oMulT (eV (.val x_mix)) (eV (.val x_mix))) (eC (.int 2147483629))) (eC (.int 5))) (eOp2 oMulT (eV (.val x_mix)) (eC (.int 16811)))) (eOp2 oMulT (eC (.int 7919)) (eOp2 oIx (eV x_bag) (eC (.int 4))))) (eC (.int 2531011))) (eC (.int 2147483647)))) x_bag (eC (.int 3)) fun x_bag => ((eOp2 oMod (eOp2 oAdd (eOp2 oFdiv (eOp2 oIx (eV x_bag) (eC (.int 3))) (eC (.int 61))) (eOp2 oMulT (eOp2 oMod (eOp2 oIx (eV x_bag) (eC (.int 3))) (eC (.int 8191))) (eC (.int 31)))) (eV (.val (.int s)))) ret))))) h Q E := by
  have cd : CDivW b s := wide_div (b := 200) (by omega) (by omega) (by decide) (by decide)
  have hp' : h p = some (.cont (.seq [.lst (ns.map .int), .int i, .int b, .int m, .int c])) := hp
  have e2 : ixN 5 2 = some 2 := rfl
  have e3 : ixN 5 3 = some 3 := rfl
  have e4 : ixN 5 4 = some 4 := rfl
  simp only [k_ifC, k_tTst, k_Op2, k_V, k_C, ix_ref hp', atS_2, o_ge, asB_bl, decide_eq_true_eq]
  refine ite_wp (fun _ => ?_) fun _ => ?_
  · simp only [k_Fz, k_Op2, k_V, k_C, k_setC, ix_ref hp', atS_2, o_mod, o_fdiv, req_at, fz_val]
    refine ⟨by omega, cd, ?_⟩
    rw [set_ref hp' e2]
    exact q _ _ (Int.emod_nonneg _ (by omega)) (Int.emod_lt_of_pos _ (by omega)) ⟨_, _, _, updA_same, Int.ediv_nonneg b0 (by omega), m0, m1, c0, by omega⟩ .upd
  · simp only [k_Fz, k_Op2, k_V, k_C, k_setC, ix_ref hp', atS_4, o_add, fz_val]
    rw [set_ref hp' e4]
    have h1 : updA h p (.cont (.seq ([.lst (ns.map .int), .int i, .int b, .int m, .int c].set 4 (.int (c + 1))))) p = some (.cont (.seq [.lst (ns.map .int), .int i, .int b, .int m, .int (c + 1)])) := updA_same
    have x0 : 0 ≤ m * m % 2147483629 := Int.emod_nonneg _ (by decide)
    have x1 : m * m % 2147483629 < 2147483629 := Int.emod_lt_of_pos _ (by decide)
    simp only [k_Fz, k_Op2, k_V, k_C, k_setC, ix_ref h1, atS_4, atS_3, o_add, o_mul, o_mod, req_at, fz_val]
    refine ⟨mul_ok m0 (by omega) m0 (by omega), by decide, mul_ok x0 (by omega) (by decide) (by decide), mul_ok m0 (by omega) (by decide) (by decide), mul_ok (by decide) (by decide) (by omega) (by omega), by decide, ?_⟩
    rw [set_ref h1 e3]
    generalize m * m % 2147483629 * 5 + m * 16811 + 7919 * (c + 1) + 2531011 = y
    have g0 : 0 ≤ y % 2147483647 := Int.emod_nonneg _ (by decide)
    have g1 : y % 2147483647 < 2147483647 := Int.emod_lt_of_pos _ (by decide)
    have w0 : 0 ≤ y % 2147483647 % 8191 := Int.emod_nonneg _ (by decide)
    have w1 : y % 2147483647 % 8191 < 8191 := Int.emod_lt_of_pos _ (by decide)
    have h2 : updA (updA h p (.cont (.seq ([.lst (ns.map .int), .int i, .int b, .int m, .int c].set 4 (.int (c + 1)))))) p (.cont (.seq ([.lst (ns.map .int), .int i, .int b, .int m, .int (c + 1)].set 3 (.int (y % 2147483647))))) p = some (.cont (.seq [.lst (ns.map .int), .int i, .int b, .int (y % 2147483647), .int (c + 1)])) := updA_same
    simp only [ix_ref h2, atS_3, o_add, o_mul, o_mod, o_fdiv, req_at]
    refine ⟨wide_div (b := 10) (by decide) (by decide) (by decide) (by decide), by decide, mul_ok w0 (by omega) (by decide) (by decide), by omega, ?_⟩
    exact q _ _ (Int.emod_nonneg _ (by omega)) (Int.emod_lt_of_pos _ (by omega)) ⟨_, _, _, updA_same, b0, g0, by omega, by omega, by omega⟩ (Bt.upd.trans .upd)
theorem take_dr {s : Int} (s1 : 1 ≤ s) (s2 : s ≤ 10 ^ 40) : Dr 1 (fun p => m__law_take [.ref p, .int s]) fun r => ∃ k, r = .val (.int k) ∧ 0 ≤ k ∧ k < s := by
  intro p n h Q E ⟨ns, i, b, m, c, hp, i0, i1, b0, m0, m1, c0, c1⟩ hn q
  have q' : ∀ k h', 0 ≤ k → k < s → (∃ i' b' m' c', h' p = some (bagC ns i' b' m' c') ∧ 0 ≤ i' ∧ i' ≤ ns.length ∧ 0 ≤ b' ∧ 0 ≤ m' ∧ m' < 2147483648 ∧ 0 ≤ c' ∧ c' ≤ c + 1) → Bt p h h' → Q (.val (.int k)) h' :=
    fun k h' k0 k1 ⟨i', b', m', c', a0, a1, a2, a3, a4, a5, a6, a7⟩ t => q _ _ ⟨k, rfl, k0, k1⟩ ⟨ns, i', b', m', c', a0, a1, a2, a3, a4, a5, a6, by omega⟩ t
  clear q
  show mf__law_take (.ref p) (.int s) h Q E
  unfold mf__law_take
  have hp' : h p = some (.cont (.seq [.lst (ns.map .int), .int i, .int b, .int m, .int c])) := hp
  refine join_wp (fun x k => x = .val (.ref p) ∧ ∃ i' b' m' : Int, 0 ≤ i' ∧ i' ≤ ns.length ∧ 0 ≤ b' ∧ 0 ≤ m' ∧ m' < 2147483648 ∧ k p = some (bagC ns i' b' m' c) ∧ Bt p h k) ?_ ?_
  · rintro _ k ⟨rfl, i', b', m', z1, z2, z3, z4, z5, z6, z7⟩
    exact take_end z6 z1 z2 z3 z4 z5 c0 (by omega) s1 s2 fun k h' k0 k1 ⟨b2, m2, c2, a0, a1, a2, a3, a4, a5⟩ t => q' k h' k0 k1 ⟨i', b2, m2, c2, a0, z1, z2, a1, a2, a3, a4, a5⟩ (z7.trans t)
  · intro kk hk
    have same : kk (.val (.ref p)) h Q E := hk _ _ ⟨rfl, i, b, m, i0, i1, b0, m0, m1, hp, .refl⟩
    have e1 : ixN 5 1 = some 1 := rfl
    have e2 : ixN 5 2 = some 2 := rfl
    have e3 : ixN 5 3 = some 3 := rfl
    simp only [k_ifC, k_tAnd, k_tTst, k_Op2, k_V, k_C, ix_ref hp', atS_2, o_lt, asB_bl, decide_eq_true_eq]
    refine ite_wp (fun _ => ?_) fun _ => by rw [if_neg Bool.false_ne_true]; exact same
    simp only [k_CB, k_sCons, k_sNil, k_Op2, k_V, k_C, ix_ref hp', atS_1, atS_0, b_lenL, o_lt, asB_bl, decide_eq_true_eq, List.length_map]
    refine ite_wp (fun h2 => ?_) fun _ => same
    obtain ⟨j, rfl⟩ := Int.eq_ofNat_of_zero_le i0
    have hj : j < ns.length := by omega
    simp only [k_Fz, k_Op2, k_V, k_C, k_setC, ix_ref hp', atS_1, atS_0, o_ixL, atS_map hj, o_add, fz_val]
    generalize ns[j] = v
    rw [set_ref hp' e1]
    have h1 : updA h p (.cont (.seq ([.lst (ns.map .int), .int (j : Int), .int b, .int m, .int c].set 1 (.int ((j : Int) + 1))))) p = some (.cont (.seq [.lst (ns.map .int), .int ((j : Int) + 1), .int b, .int m, .int c])) := updA_same
    rw [set_ref h1 e2]
    generalize hk1 : updA (updA h p (.cont (.seq ([.lst (ns.map .int), .int (j : Int), .int b, .int m, .int c].set 1 (.int ((j : Int) + 1)))))) p (.cont (.seq ([.lst (ns.map .int), .int ((j : Int) + 1), .int b, .int m, .int c].set 2 (.int 0)))) = h2'
    have hp2 : h2' p = some (.cont (.seq [.lst (ns.map .int), .int ((j : Int) + 1), .int 0, .int m, .int c])) := by rw [← hk1]; exact updA_same
    have bt : Bt p h h2' := by rw [← hk1]; exact Bt.upd.trans .upd
    simp only [k_ifC, k_tTst, k_Op2, k_V, k_C, o_pow, req_at, o_ge, asB_bl, decide_eq_true_eq]
    refine ⟨⟨by decide, by decide, by decide⟩, ite_wp (fun h3 => ?_) fun h3 => ?_⟩
    · have z : (0 : Int) ≤ 10 ^ Int.toNat 18 := by decide
      rw [set_ref hp2 e2]
      exact hk _ _ ⟨rfl, (j : Int) + 1, v, m, by omega, by omega, by omega, m0, m1, updA_same, bt.trans .upd⟩
    · have a0 : 0 ≤ v % 2147483629 := Int.emod_nonneg _ (by decide)
      have a1 : v % 2147483629 < 2147483629 := Int.emod_lt_of_pos _ (by decide)
      simp only [k_setC, k_Fz, k_Op2, k_V, k_C, ix_ref hp2, atS_3, o_mul, o_mod, o_add, req_at, fz_val]
      refine ⟨mul_ok m0 (by omega) (by decide) (by decide), by decide, mul_ok a0 (by omega) (by decide) (by decide), by decide, ?_⟩
      rw [set_ref hp2 e3]
      have b1 : 0 ≤ (m * 48271 + v % 2147483629 * 69621 + 12345) % 2147483647 := Int.emod_nonneg _ (by decide)
      have b2 : (m * 48271 + v % 2147483629 * 69621 + 12345) % 2147483647 < 2147483647 := Int.emod_lt_of_pos _ (by decide)
      exact hk _ _ ⟨rfl, (j : Int) + 1, 0, _, by omega, by omega, by omega, b1, by omega, updA_same, bt.trans .upd⟩
theorem open_ok {ns : List Int} (h : ns.length ≤ 63) : m__law_open [.lst (ns.map .int)] = ret (.own (.seq [.lst (ns.map .int), .int 0, .int 0, .int 9465, .int 0])) := by
  show mf__law_open _ = _
  unfold mf__law_open
  simp only [k_Lst, k_wCons, k_wNil, k_Fz, k_CB, k_sCons, k_sNil, k_Sl, k_V, k_C, k_oNo, k_oPart, asI_int, slc_L, b_lstO, fz_seq, fz_val]
  rw [req_of (by simp [sizeL]), show cutW (ns.map W.int) none (some 63) = (ns.map W.int).take 63 from cut_to (k := 63), List.take_of_length_le (by rw [List.length_map]; exact h)]
theorem bag_new {h : AH} {p : Addr} {ns : List Int} : Bag 0 (updA h p (.cont (.seq [.lst (ns.map .int), .int 0, .int 0, .int 9465, .int 0]))) p := ⟨ns, 0, 0, 9465, 0, updA_same, by omega, by omega, by omega, by omega, by omega, by omega, by omega⟩
theorem pick_dr {row : W} {xs : List W} (hr : row = .lst xs ∨ row = .tup xs) (h0 : xs ≠ []) (h1 : xs.length ≤ 1000000) : Dr 1 (fun p => m__law_pick [.ref p, row]) fun r => ∃ w, r = .val w ∧ w ∈ xs := by
  intro p n h Q E b hn q
  have l0 : 0 < xs.length := List.length_pos_iff.mpr h0
  show mf__law_pick (.ref p) row h Q E
  unfold mf__law_pick
  have go : call (m__law_take [.ref p, .int xs.length]) (fun x => op2 oIx (.val row) x ret) h Q E := by
    refine (take_dr (by omega) (by omega)).call b hn fun r h' ⟨k, e, k0, k1⟩ b' t => ?_
    subst e
    obtain ⟨j, rfl⟩ := Int.eq_ofNat_of_zero_le k0
    have hj : j < xs.length := by omega
    rcases hr with rfl | rfl <;> (simp only [sv_val, o_ixT, o_ixL, atS_nat hj]; exact q _ _ ⟨_, rfl, List.getElem_mem hj⟩ b' t)
  rcases hr with rfl | rfl <;> simpa only [k_Op2, k_V, k_Call, k_wCons, k_wNil, k_Fz, k_CB, k_sCons, k_sNil, b_lenL, b_lenT, fz_val] using go
end Ab
namespace Ab
open PySem PySem.Spec PyProof.Rows L2 RZ
def mf__law_sizes (x_bag x_mcasks x_most : W) : MC :=
  ((eCB oTupC (sCons (eLc (iRng1 (sCons (eOp2 oAdd (eC (.int 1)) (eCall m__law_take (wCons (eFz (eV (.val x_bag))) (wCons (eFz (eV (.val x_mcasks))) wNil)))) sNil)) fun x_mcask kk => lcb tYes (eFz (eOp2 oAdd (eC (.int 1)) (eCall0 m__law_take (wCons (eFz (eV (.val x_bag))) (wCons (eFz (eV (.val x_most))) wNil))))) kk) sNil)) ret)
def m__law_sizes : List W → MC
  | [x_bag, x_mcasks, x_most] => mf__law_sizes x_bag x_mcasks x_most
  | _ => bad
def mf__law_any_sizes (x_bag : W) : MC :=
  ((eCall m__law_sizes (wCons (eFz (eV (.val x_bag))) (wCons (eFz (eC (.int 6))) (wCons (eFz (eCall m__law_pick (wCons (eFz (eV (.val x_bag))) (wCons (eFz (eLst (wCons (eFz (eC (.int 40))) (wCons (eFz (eC (.int 9))) (wCons (eFz (eC (.int 4))) (wCons (eFz (eC (.int 2))) wNil)))))) wNil)))) wNil)))) ret)
def m__law_any_sizes : List W → MC
  | [x_bag] => mf__law_any_sizes x_bag
  | _ => bad
def mf__law_load (x_bag x_msizes : W) : MC :=
  ((eCB oTupC (sCons (eLc (iItems (eFz (eV (.val x_msizes)))) fun x_size kk => lcb tYes (eFz (eCall0 m__law_take (wCons (eFz (eV (.val x_bag))) (wCons (eFz (eOp2 oAdd (eV (.val x_size)) (eC (.int 1)))) wNil)))) kk) sNil)) ret)
def m__law_load : List W → MC
  | [x_bag, x_msizes] => mf__law_load x_bag x_msizes
  | _ => bad
def mf__law_full_load (x_bag x_msizes : W) : MC :=
  ((eFz (eCall m__law_take (wCons (eFz (eV (.val x_bag))) (wCons (eFz (eC (.int 3))) wNil)))) fun x_how => (ifC (tTst (eOp2 (oEq false) (eV (.val x_how)) (eC (.int 0)))) ((eCB oTupC (sCons (eLc (iItems (eFz (eV (.val x_msizes)))) fun x_size kk => lcb tYes (eFz (eOp2 oSub (eV (.val x_size)) (eCall0 m__law_take (wCons (eFz (eV (.val x_bag))) (wCons (eFz (eC (.int 2))) wNil))))) kk) sNil)) ret) ((eCall m__law_load (wCons (eFz (eV (.val x_bag))) (wCons (eFz (eV (.val x_msizes))) wNil))) ret)))
def m__law_full_load : List W → MC
  | [x_bag, x_msizes] => mf__law_full_load x_bag x_msizes
  | _ => bad
def mf__law_number (x_bag : W) : MC :=
  ((eFz (eLst (wCons (eFz (eC (.int 0))) (wCons (eFz (eC (.int 1))) (wCons (eFz (eC (.int 2))) (wCons (eFz (eC (.int 3))) (wCons (eFz (eOp2 oAdd (eC (.int 1)) (eCall m__law_take (wCons (eFz (eV (.val x_bag))) (wCons (eFz (eC (.int 9))) wNil))))) (wCons (eFz (eCall m__law_take (wCons (eFz (eV (.val x_bag))) (wCons (eFz (eC (.int 45))) wNil)))) (wCons (eFz (eOp2 oSub (eOp2 oPow (eC (.int 10)) (eC (.int 30))) (eC (.int 1)))) (wCons (eFz (eCall m__law_take (wCons (eFz (eV (.val x_bag))) (wCons (eFz (eOp2 oPow (eC (.int 10)) (eC (.int 30)))) wNil)))) wNil)))))))))) fun x_some => ((eCall m__law_pick (wCons (eFz (eV (.val x_bag))) (wCons (eFz (eV (.val x_some))) wNil))) ret))
def m__law_number : List W → MC
  | [x_bag] => mf__law_number x_bag
  | _ => bad
def lcSL (body : W → SV → (SV → Option W → MC) → MC) (k : SV → List W → MC) : List W → SV → List W → MC
  | [], s, acc => k s acc
  | w :: ws, s, acc => body w s fun s' o => match o with
    | some y => req (acc.length < sizeLine) (lcSL body k ws s' (acc ++ [y]))
    | none => lcSL body k ws s' acc
def mf__law_shuffled (x_bag x_row : W) : MC :=
  (eCB oLstC (sCons (eV (.val x_row)) sNil)) fun x_left => iItems (eFz (eV (.val x_row))) fun ws =>
    lcSL (fun _ s kk => lmC fPopAt s (wCons (eFz (eCall0 m__law_take (wCons (eFz (eV (.val x_bag))) (wCons (eFz (eCB oLen (sCons (eV s) sNil))) wNil)))) wNil) fun s' w => kk s' (some w)) (fun _ acc => ret (.own (.seq acc))) ws x_left []
def m__law_shuffled : List W → MC
  | [x_bag, x_row] => mf__law_shuffled x_bag x_row
  | _ => bad
def mf__law_some_casks (x_bag x_mcasks x_mmany : W) : MC :=
  ((eCB oTupC (sCons (eSl (eCall m__law_shuffled (wCons (eFz (eV (.val x_bag))) (wCons (eFz (eLrg1 (eV (.val x_mcasks)))) wNil))) oNo (oPart (eV (.val x_mmany)))) sNil)) ret)
def m__law_some_casks : List W → MC
  | [x_bag, x_mcasks, x_mmany] => mf__law_some_casks x_bag x_mcasks x_mmany
  | _ => bad
def mf__law_alike (x_msizes : W) : MC :=
  ((eLst wNil) fun x_found => (forC (iRng1 (sCons (eCB oLen (sCons (eV (.val x_msizes)) sNil)) sNil)) x_found (fun x_mone (s1 : SV) kn3 kb4 => ((eLc (iRng1 (sCons (eCB oLen (sCons (eV (.val x_msizes)) sNil)) sNil)) fun x_at kk => lcb (tAnd (tTst (eOp2 (oEq true) (eV (.val x_at)) (eV (.val x_mone)))) (tTst (eOp2 (oEq false) (eOp2 oIx (eV (.val x_msizes)) (eV (.val x_at))) (eOp2 oIx (eV (.val x_msizes)) (eV (.val x_mone)))))) (eFz (eV (.val x_at))) kk) fun x_near => (extC s1 (eLc (iItems (eFz (eV (.val (SV.fz x_near))))) fun x_at kk => lcb tYes (eFz (eTup (wCons (eFz (eV (.val x_mone))) (wCons (eFz (eV (.val x_at))) wNil)))) kk) fun x_found => (kn3 x_found)))) fun (s1 : SV) => ((eV s1) ret)))
def m__law_alike : List W → MC
  | [x_msizes] => mf__law_alike x_msizes
  | _ => bad
def mf__law_deed (x_bag x_msizes x_number_here x_taps : W) : MC :=
  ((eFz (eCall m__law_take (wCons (eFz (eV (.val x_bag))) (wCons (eFz (eC (.int 12))) wNil)))) fun x_how => ((eFz (eCall m__law_alike (wCons (eFz (eV (.val x_msizes))) wNil))) fun x_pairs => (ifC (tAnd (tTst (eOp2 (oEq false) (eV (.val x_how)) (eC (.int 0)))) (tTst (eOp2 (oEq true) (eV (.val x_pairs)) (eLst wNil)))) ((eOp2 oAdd (eTup (wCons (eFz (eC (.str ("swap" : Str)))) wNil)) (eCall m__law_pick (wCons (eFz (eV (.val x_bag))) (wCons (eFz (eV (.val x_pairs))) wNil)))) ret) (ifC (tAnd (tTst (eOp2 oLt (eV (.val x_how)) (eC (.int 3)))) (tTst (eV (.val x_taps)))) ((eTup (wCons (eFz (eC (.str ("tap" : Str)))) (wCons (eFz (eCall m__law_pick (wCons (eFz (eV (.val x_bag))) (wCons (eFz (eLst (wCons (eFz (eC (.int 1))) (wCons (eFz (eC (.int 1))) (wCons (eFz (eC (.int 2))) (wCons (eFz (eC (.int 3))) (wCons (eFz (eV (.val x_number_here))) wNil))))))) wNil)))) (wCons (eFz (eCall m__law_take (wCons (eFz (eV (.val x_bag))) (wCons (eFz (eCB oLen (sCons (eV (.val x_msizes)) sNil))) wNil)))) wNil)))) ret) (ifC (tOr (tTst (eOp2 (oEq false) (eV (.val x_how)) (eC (.int 3)))) (tTst (eOp2 (oEq false) (eCB oLen (sCons (eV (.val x_msizes)) sNil)) (eC (.int 1))))) ((eTup (wCons (eFz (eC (.str ("drain" : Str)))) (wCons (eFz (eV (.val x_number_here))) (wCons (eFz (eCall m__law_take (wCons (eFz (eV (.val x_bag))) (wCons (eFz (eCB oLen (sCons (eV (.val x_msizes)) sNil))) wNil)))) wNil)))) ret) ((eFz (eOp2 oAdd (eC (.int 2)) (eCall m__law_take (wCons (eFz (eV (.val x_bag))) (wCons (eFz (eOp2 oSub (eCB oLen (sCons (eV (.val x_msizes)) sNil)) (eC (.int 1)))) wNil))))) fun x_mmany => ((eFz (eOp2 oIx (eLst (wCons (eFz (eC (.str ("over" : Str)))) (wCons (eFz (eC (.str ("down" : Str)))) wNil))) (eOp2 oFdiv (eCall m__law_take (wCons (eFz (eV (.val x_bag))) (wCons (eFz (eC (.int 3))) wNil))) (eC (.int 2))))) fun x_word => ((eOp2 oAdd (eTup (wCons (eFz (eV (.val x_word))) (wCons (eFz (eV (.val x_number_here))) wNil))) (eCall m__law_some_casks (wCons (eFz (eV (.val x_bag))) (wCons (eFz (eCB oLen (sCons (eV (.val x_msizes)) sNil))) (wCons (eFz (eV (.val x_mmany))) wNil))))) ret))))))))
def m__law_deed : List W → MC
  | [x_bag, x_msizes, x_number_here, x_taps] => mf__law_deed x_bag x_msizes x_number_here x_taps
  | _ => bad
def mf__law_row (x_bag x_msizes x_most x_taps : W) : MC :=
  ((eLc (iRng1 (sCons (eCall m__law_take (wCons (eFz (eV (.val x_bag))) (wCons (eFz (eOp2 oAdd (eV (.val x_most)) (eC (.int 1)))) wNil))) sNil)) fun x_k kk => lcb tYes (eFz (eCall0 m__law_deed (wCons (eFz (eV (.val x_bag))) (wCons (eFz (eV (.val x_msizes))) (wCons (eFz (eCall0 m__law_number (wCons (eFz (eV (.val x_bag))) wNil))) (wCons (eFz (eV (.val x_taps))) wNil)))))) kk) ret)
def m__law_row : List W → MC
  | [x_bag, x_msizes, x_most, x_taps] => mf__law_row x_bag x_msizes x_most x_taps
  | _ => bad
/-! ### sizes, loads, deeds drawn -/
theorem all2_map {α : Type} {P : α → Prop} {e : α → W} : ∀ {ws ys : List W}, All2 (fun _ y => ∃ a, y = e a ∧ P a) ws ys → ∃ as : List α, ys = as.map e ∧ as.length = ws.length ∧ ∀ a ∈ as, P a
  | _, _, .nil => ⟨[], rfl, rfl, fun _ h => by cases h⟩
  | _, _, .cons ⟨a, e1, hp⟩ r => by
    obtain ⟨as, e2, l, h⟩ := all2_map r
    subst e1 e2
    exact ⟨a :: as, rfl, by rw [List.length_cons, List.length_cons, l], fun b hb => by
      rcases List.mem_cons.mp hb with rfl | hb
      · exact hp
      · exact h b hb⟩
/-- a comprehension whose turns draw -/
theorem lc_dr {α : Type} {P : α → Prop} {e : α → W} {Q : RR → AH → Prop} {E : AExc → AH → Prop} {body : W → (Option W → MC) → MC} {k : List W → MC} {p : Addr} {n c : Nat} {h : AH} (ws : List W) (hl : ws.length ≤ 1000) (b : Bag n h p) (hn : n + ws.length * c ≤ 1000000000000000)
    (hb : ∀ w ∈ ws, ∀ m h1 kk, m + c ≤ 1000000000000000 → Bag m h1 p → (∀ a h', P a → Bag (m + c) h' p → Bt p h1 h' → kk (some (e a)) h' Q E) → body w kk h1 Q E)
    (q : ∀ (as : List α) h', as.length = ws.length → (∀ a ∈ as, P a) → Bag (n + ws.length * c) h' p → Bt p h h' → k (as.map e) h' Q E) : lcL body k ws [] h Q E := by
  refine lc_wp (fun i h' => Bag (n + i * c) h' p ∧ Bt p h h') (fun _ y => ∃ a, y = e a ∧ P a) ws [] 0 h (by simp [sizeL]; omega) ⟨by simpa using b, .refl⟩ (fun w hw j h1 kk hj ⟨b1, t1⟩ hk => ?_) fun ys h' ay ⟨b', t'⟩ => ?_
  · have z : j * c + c ≤ ws.length * c := by rw [← Nat.succ_mul]; exact Nat.mul_le_mul_right _ (by omega)
    refine hb w hw _ h1 kk (by omega) b1 fun a h' pa b2 t2 => hk _ h' ⟨a, rfl, pa⟩ ⟨by rw [Nat.succ_mul, ← Nat.add_assoc]; exact b2, t1.trans t2⟩
  · obtain ⟨as, rfl, l, pa⟩ := all2_map ay
    rw [List.nil_append]
    exact q as h' l pa (by simpa using b') t'
theorem sizes_dr {mc mo : Int} (h0 : 1 ≤ mc) (h1 : mc ≤ 6) (g0 : 1 ≤ mo) (g1 : mo ≤ 40) : Dr 10 (fun p => m__law_sizes [.ref p, .int mc, .int mo]) fun r => ∃ ss : List Int, r = .val (.tup (ss.map .int)) ∧ 1 ≤ ss.length ∧ ss.length ≤ mc ∧ ∀ s ∈ ss, 1 ≤ s ∧ s ≤ mo := by
  intro p n h Q E b hn q
  show mf__law_sizes (.ref p) (.int mc) (.int mo) h Q E
  unfold mf__law_sizes
  simp only [k_CB, k_sCons, k_sNil, k_Lc, k_iRng1, k_Op2, k_C, k_V, k_Call, k_wCons, k_wNil, k_Fz, fz_val]
  refine (take_dr h0 (by omega)).call b (by omega) fun r h' ⟨k, e, k0, k1⟩ b' t => ?_
  subst e
  simp only [sv_val, o_add, rng1_int, req_at]
  refine ⟨by omega, ?_⟩
  refine lc_dr (P := fun s => 1 ≤ s ∧ s ≤ mo) (e := W.int) (c := 1) _ (by rw [rngW_len]; omega) b' (by rw [rngW_len]; omega) (fun w hw m h1 kk hm b1 hk => ?_) fun ss h2 l ps b2 t2 => ?_
  · simp only [k_lcb, k_tYes, if_true, k_Fz, k_Op2, k_C, k_V, k_Call0, k_wCons, k_wNil, fz_val]
    refine (take_dr g0 (by omega)).call0 b1 (by omega) fun r h' ⟨k, e, k0, k1⟩ b' t => ?_
    subst e
    simp only [sv_val, o_add, fz_val]
    exact hk _ _ ⟨by omega, by omega⟩ b' t
  · rw [rngW_len] at l b2
    simp only [b_tupO]
    exact q _ _ ⟨ss, rfl, by omega, by omega, ps⟩ (b2.le (by omega)) (t.trans t2)
theorem any_sizes_dr : Dr 20 (fun p => m__law_any_sizes [.ref p]) fun r => ∃ ss : List Int, r = .val (.tup (ss.map .int)) ∧ SzOk ss := by
  intro p n h Q E b hn q
  show mf__law_any_sizes (.ref p) h Q E
  unfold mf__law_any_sizes
  simp only [k_C, k_V, k_Call, k_wCons, k_wNil, k_Fz, fz_val, k_Lst, fz_seq]
  rw [req_of (by simp [sizeL])]
  refine (pick_dr (.inl rfl) (by simp) (by simp)).call b (by omega) fun r h' ⟨w, e, hw⟩ b' t => ?_
  subst e
  obtain ⟨mo, rfl, g0, g1⟩ : ∃ mo : Int, w = .int mo ∧ 1 ≤ mo ∧ mo ≤ 40 := by
    simp only [List.mem_cons, List.not_mem_nil, or_false] at hw
    rcases hw with rfl | rfl | rfl | rfl <;> exact ⟨_, rfl, by omega, by omega⟩
  simp only [sv_val, fz_val]
  refine (sizes_dr (by omega) (by omega) g0 g1).call b' (by omega) fun r h2 ⟨ss, e, l1, l2, ps⟩ b2 t2 => ?_
  subst e
  exact q _ _ ⟨ss, rfl, l1, by omega, fun s hs => ⟨(ps s hs).1, Int.le_trans (ps s hs).2 g1⟩⟩ (b2.le (by omega)) (t.trans t2)
theorem all2_get {α β : Type} {P : α → β → Prop} : ∀ {as : List α} {bs : List β}, All2 P as bs → ∀ (i : Nat) a b, as[i]? = some a → bs[i]? = some b → P a b
  | _, _, .nil, _, _, _, h, _ => by simp at h
  | _, _, .cons p _, 0, _, _, h, g => by simp at h g; subst h g; exact p
  | _, _, .cons _ r, i + 1, a, b, h, g => all2_get r i a b (by simpa using h) (by simpa using g)
/-- .. one for each size -/
theorem lc_drs {Q : RR → AH → Prop} {E : AExc → AH → Prop} {body : W → (Option W → MC) → MC} {k : List W → MC} {p : Addr} {n c : Nat} {h : AH} (R : Int → Int → Prop) (ss : List Int) (hl : ss.length ≤ 1000) (b : Bag n h p) (hn : n + ss.length * c ≤ 1000000000000000)
    (hb : ∀ s ∈ ss, ∀ m h1 kk, m + c ≤ 1000000000000000 → Bag m h1 p → (∀ a h', R s a → Bag (m + c) h' p → Bt p h1 h' → kk (some (.int a)) h' Q E) → body (.int s) kk h1 Q E)
    (q : ∀ (as : List Int) h', as.length = ss.length → (∀ (i : Nat) a s, as[i]? = some a → ss[i]? = some s → R s a) → Bag (n + ss.length * c) h' p → Bt p h h' → k (as.map .int) h' Q E) : lcL body k (ss.map .int) [] h Q E := by
  refine lc_wp (fun i h' => Bag (n + i * c) h' p ∧ Bt p h h') (fun w y => ∃ s a, w = .int s ∧ y = .int a ∧ R s a) _ [] 0 h (by simp [sizeL]; omega) ⟨by simpa using b, .refl⟩ (fun w hw j h1 kk hj ⟨b1, t1⟩ hk => ?_) fun ys h' ay ⟨b', t'⟩ => ?_
  · obtain ⟨s, hs, rfl⟩ := List.mem_map.mp hw
    rw [List.length_map] at hj
    have z : j * c + c ≤ ss.length * c := by rw [← Nat.succ_mul]; exact Nat.mul_le_mul_right _ (by omega)
    refine hb s hs _ h1 kk (by omega) b1 fun a h' pa b2 t2 => hk _ h' ⟨s, a, rfl, rfl, pa⟩ ⟨by rw [Nat.succ_mul, ← Nat.add_assoc]; exact b2, t1.trans t2⟩
  · have hy : ∀ {ws ys : List W}, All2 (fun w y => ∃ s a, w = W.int s ∧ y = W.int a ∧ R s a) ws ys → ∃ as : List Int, ys = as.map .int := fun r => by
      induction r with
      | nil => exact ⟨[], rfl⟩
      | cons z _ ih =>
        obtain ⟨s, a, _, rfl, _⟩ := z
        obtain ⟨as, rfl⟩ := ih
        exact ⟨a :: as, rfl⟩
    obtain ⟨as, rfl⟩ := hy ay
    have hlen := ay.length
    rw [List.length_map, List.length_map] at hlen
    rw [List.nil_append]
    refine q as h' hlen.symm (fun i a s ha hs => ?_) (by simpa using b') t'
    obtain ⟨s', a', e1, e2, r⟩ := all2_get ay i (.int s) (.int a) (by rw [List.getElem?_map, hs]; rfl) (by rw [List.getElem?_map, ha]; rfl)
    cases e1
    cases e2
    exact r
theorem load_dr {ss : List Int} (hs : SzOk ss) : Dr 6 (fun p => m__law_load [.ref p, .tup (ss.map .int)]) fun r => ∃ cs : List Int, r = .val (.tup (cs.map .int)) ∧ CtOk ss cs := by
  intro p n h Q E b hn q
  show mf__law_load (.ref p) (.tup (ss.map .int)) h Q E
  unfold mf__law_load
  obtain ⟨l1, l2, s3⟩ := hs
  simp only [k_CB, k_sCons, k_sNil, k_Lc, k_iItems, k_Fz, k_V, fz_val, items_tup]
  refine lc_drs (c := 1) (fun s a => 0 ≤ a ∧ a ≤ s) ss (by omega) b (by omega) (fun s hs m h1 kk hm b1 hk => ?_) fun cs h2 l ps b2 t2 => ?_
  · obtain ⟨z1, z2⟩ := s3 s hs
    simp only [k_lcb, k_tYes, if_true, k_Fz, k_Op2, k_C, k_V, k_Call0, k_wCons, k_wNil, fz_val, o_add]
    refine (take_dr (by omega) (by omega)).call0 b1 (by omega) fun r h' ⟨k, e, k0, k1⟩ b' t => ?_
    subst e
    exact hk _ _ ⟨by omega, by omega⟩ b' t
  · simp only [b_tupO]
    exact q _ _ ⟨cs, rfl, l, fun i c s hc hs => ps i c s hc hs⟩ (b2.le (by omega)) t2
theorem full_load_dr {ss : List Int} (hs : SzOk ss) : Dr 10 (fun p => m__law_full_load [.ref p, .tup (ss.map .int)]) fun r => ∃ cs : List Int, r = .val (.tup (cs.map .int)) ∧ CtOk ss cs := by
  intro p n h Q E b hn q
  show mf__law_full_load (.ref p) (.tup (ss.map .int)) h Q E
  unfold mf__law_full_load
  obtain ⟨l1, l2, s3⟩ := id hs
  simp only [k_Fz, k_Call, k_wCons, k_wNil, k_V, k_C, fz_val]
  refine (take_dr (by omega) (by omega)).call b (by omega) fun r h' ⟨k, e, k0, k1⟩ b' t => ?_
  subst e
  simp only [k_ifC, k_tTst, k_Op2, k_V, k_C, sv_val, fz_val]
  rw [t_eq (sp pl_int) (sp pl_int)]
  refine ite_wp (fun _ => ?_) fun _ => ?_
  · simp only [k_CB, k_sCons, k_sNil, k_Lc, k_iItems, k_Fz, k_V, fz_val, items_tup]
    refine lc_drs (c := 1) (fun s a => 0 ≤ a ∧ a ≤ s) ss (by omega) b' (by omega) (fun s hs m h1 kk hm b1 hk => ?_) fun cs h2 l ps b2 t2 => ?_
    · obtain ⟨z1, z2⟩ := s3 s hs
      simp only [k_lcb, k_tYes, if_true, k_Fz, k_Op2, k_C, k_V, k_Call0, k_wCons, k_wNil, fz_val]
      refine (take_dr (by omega) (by omega)).call0 b1 (by omega) fun r h' ⟨k, e, k0, k1⟩ b' t => ?_
      subst e
      simp only [sv_val, o_sub, fz_val]
      exact hk _ _ ⟨by omega, by omega⟩ b' t
    · simp only [b_tupO]
      exact q _ _ ⟨cs, rfl, l, fun i c s hc hs => ps i c s hc hs⟩ (b2.le (by omega)) (t.trans t2)
  · refine (load_dr hs).call b' (by omega) fun r h2 hr b2 t2 => ?_
    obtain ⟨cs, rfl, ct⟩ := hr
    exact q _ _ ⟨cs, rfl, ct⟩ (b2.le (by omega)) (t.trans t2)
theorem number_dr : Dr 5 (fun p => m__law_number [.ref p]) fun r => ∃ i : Int, r = .val (.int i) ∧ 0 ≤ i ∧ i < great := by
  intro p n h Q E b hn q
  show mf__law_number (.ref p) h Q E
  unfold mf__law_number
  simp only [k_Fz, k_Lst, k_Call, k_wCons, k_wNil, k_V, k_C, k_Op2, fz_val]
  refine (take_dr (by omega) (by omega)).call b (by omega) fun r h1 ⟨i1, e, _, _⟩ b1 t1 => ?_
  subst e
  simp only [sv_val, o_add, fz_val]
  refine (take_dr (by omega) (by omega)).call b1 (by omega) fun r h2 ⟨i2, e, _, _⟩ b2 t2 => ?_
  subst e
  simp only [sv_val, o_pow, req_at, o_sub, fz_val]
  refine ⟨⟨by decide, by decide, by decide⟩, ⟨by decide, by decide, by decide⟩, ?_⟩
  refine (take_dr (by decide) (by decide)).call b2 (by omega) fun r h3 ⟨i3, e, _, z3⟩ b3 t3 => ?_
  subst e
  rw [req_of (by simp [sizeL])]
  simp only [sv_val, fz_val, fz_seq]
  refine (pick_dr (.inl rfl) (by simp) (by simp)).call b3 (by omega) fun r h4 ⟨w, e, hw⟩ b4 t4 => ?_
  subst e
  have g : (10 : Int) ^ Int.toNat 30 = great := by decide
  obtain ⟨i, rfl, g0, g1⟩ : ∃ i : Int, w = .int i ∧ 0 ≤ i ∧ i < great := by
    rw [g] at hw z3
    have g : great = 1000000000000000000000000000000 := rfl
    simp only [List.mem_cons, List.not_mem_nil, or_false] at hw
    rcases hw with rfl | rfl | rfl | rfl | rfl | rfl | rfl | rfl <;> exact ⟨_, rfl, by omega, by omega⟩
  exact q _ _ ⟨i, rfl, g0, g1⟩ (b4.le (by omega)) (t1.trans (t2.trans (t3.trans t4)))
/-! a row shuffled -/
theorem seq_ix {j n : Nat} (hj : j < n) : seqIndex? (j : Int) n = some j := by
  unfold seqIndex?
  have h0 : ¬ ((j : Int) < 0) := by omega
  have h1 : (j : Int) < (n : Int) := by omega
  simp [h0, h1]
theorem erase_perm {α : Type} : ∀ {l : List α} {j : Nat} (h : j < l.length), (l[j] :: l.eraseIdx j).Perm l
  | a :: l, 0, _ => .refl _
  | a :: l, j + 1, h => by
    have h' : j < l.length := by rw [List.length_cons] at h; omega
    show (l[j] :: a :: l.eraseIdx j).Perm (a :: l)
    exact (List.Perm.swap _ _ _).trans (.cons _ (erase_perm h'))
theorem shuffled_dr {xs : List W} (hl : xs.length ≤ 100) : Dr 100 (fun p => m__law_shuffled [.ref p, .lst xs]) fun r => ∃ ys : List W, r = .own (.seq ys) ∧ ys.Perm xs := by
  intro p n h Q E b hn q
  show mf__law_shuffled (.ref p) (.lst xs) h Q E
  unfold mf__law_shuffled
  simp only [k_CB, k_sCons, k_sNil, k_V, k_iItems, k_Fz, fz_val, items_lst, b_lstL]
  have go : ∀ (ws left acc : List W) (m : Nat) (h : AH), Bag m h p → m + left.length ≤ 1000000000000000 → left.length = ws.length → left.length ≤ 100 → acc.length + left.length ≤ 100 →
      (∀ ys h', ys.Perm left → Bag (m + left.length) h' p → Bt p h h' → Q (.own (.seq (acc ++ ys))) h') →
      lcSL (fun _ s kk => lmC fPopAt s (wCons (eFz (eCall0 m__law_take (wCons (eFz (eV (.val (.ref p)))) (wCons (eFz (eCB oLen (sCons (eV s) sNil))) wNil)))) wNil) fun s' w => kk s' (some w)) (fun _ acc => ret (.own (.seq acc))) ws (.own (.seq left)) acc h Q E := by
    intro ws
    induction ws with
    | nil =>
      intro left acc m h b _ el _ _ q
      obtain rfl : left = [] := List.length_eq_zero_iff.mp el
      have z := q [] h (.refl _) b .refl
      rw [List.append_nil] at z
      exact z
    | cons w ws ih =>
      intro left acc m h b hm el l1 l2 q
      rw [List.length_cons] at el
      refine ⟨trivial, ?_⟩
      simp only [k_wCons, k_wNil, k_Fz, k_Call0, k_V, k_CB, k_sCons, k_sNil, b_lenO, fz_val]
      refine (take_dr (by omega) (by omega)).call0 b (by omega) fun r h1 ⟨k, e, k0, k1⟩ b1 t1 => ?_
      subst e
      obtain ⟨j, rfl⟩ := Int.eq_ofNat_of_zero_le k0
      have hj : j < left.length := by omega
      refine ⟨by omega, by omega, j, left[j], ?_, List.getElem?_eq_getElem hj, ?_⟩
      · exact seq_ix hj
      · have le : (left.eraseIdx j).length = left.length - 1 := List.length_eraseIdx_of_lt hj
        refine ⟨by rw [sizeL]; omega, ?_⟩
        refine ih (left.eraseIdx j) (acc ++ [left[j]]) (m + 1) h1 b1 (by omega) (by omega) (by omega) (by rw [List.length_append, List.length_singleton]; omega) fun ys h' py b' t' => ?_
        have z := q (left[j] :: ys) h' ?_ (by rw [show m + left.length = m + 1 + (left.eraseIdx j).length by omega]; exact b') (t1.trans t')
        · simpa using z
        · refine List.Perm.trans (.cons _ py) ?_
          exact erase_perm hj
  exact go xs xs [] n h b (by omega) rfl hl (by simpa using hl) fun ys h' py b' t' => q _ _ ⟨ys, by simp, py⟩ (b'.le (by omega)) t'
theorem perm_map {α : Type} {e : α → W} (g : W → α) (ge : ∀ a, g (e a) = a) {ys : List W} {xs : List α} (h : ys.Perm (xs.map e)) : ∃ as : List α, ys = as.map e ∧ as.Perm xs := by
  refine ⟨ys.map g, ?_, ?_⟩
  · rw [List.map_map]
    refine (List.map_id' ys).symm.trans (List.map_congr_left fun y hy => ?_)
    obtain ⟨a, _, rfl⟩ := List.mem_map.mp (h.mem_iff.mp hy)
    simp [ge]
  · have z := h.map g
    rw [List.map_map] at z
    have : xs.map (g ∘ e) = xs := (List.map_congr_left fun a _ => ge a).trans (List.map_id' xs)
    rw [this] at z
    exact z
def natOf : W → Nat
  | .int i => i.toNat
  | _ => 0
def intOf : W → Int
  | .int i => i
  | _ => 0
theorem some_casks_dr {m : Nat} {k : Int} (hm : m ≤ 6) (k0 : 0 ≤ k) (k1 : k ≤ m) : Dr 100 (fun p => m__law_some_casks [.ref p, .int m, .int k]) fun r => ∃ cs : List Nat, r = .val (.tup (cs.map natW)) ∧ (cs.length : Int) = k ∧ cs.Nodup ∧ ∀ c ∈ cs, c < m := by
  intro p n h Q E b hn q
  show mf__law_some_casks (.ref p) (.int m) (.int k) h Q E
  unfold mf__law_some_casks
  simp only [k_CB, k_sCons, k_sNil, k_Sl, k_Call, k_wCons, k_wNil, k_Fz, k_V, k_Lrg1, k_oNo, k_oPart, lrg1_int, req_at, fz_val, fz_seq]
  refine ⟨⟨by omega, by omega⟩, ?_⟩
  rw [show rngW 0 (m : Int).toNat = (List.range m).map natW from range_nat m]
  refine (shuffled_dr (by simp; omega)).call b (by omega) fun r h1 ⟨ys, e, py⟩ b1 t1 => ?_
  subst e
  obtain ⟨cs, rfl, pc⟩ := perm_map natOf (fun _ => rfl) py
  obtain ⟨j, rfl⟩ := Int.eq_ofNat_of_zero_le k0
  simp only [sv_own, asI_int, slc_O, b_tupO, cut_to]
  have lc : cs.length = m := by have := pc.length_eq; simpa using this
  refine q _ _ ⟨cs.take j, by rw [List.map_take]; rfl, by rw [List.length_take]; omega, ?_, fun c hc => ?_⟩ b1 t1
  · exact (List.take_sublist j cs).nodup (pc.nodup_iff.mpr List.nodup_range)
  · have := pc.mem_iff.mp ((List.take_sublist j cs).subset hc)
    simpa using this
/-- pairs of casks of one size -/
def alikes (ss : List Int) : List (Nat × Nat) := (List.range ss.length).flatMap fun i => ((List.range ss.length).filter fun j => j ≠ i ∧ ss[j]? = ss[i]?).map fun j => (i, j)
def pairW (p : Nat × Nat) : W := .tup [natW p.1, natW p.2]
theorem near_len {ss : List Int} {i : Nat} : ((List.range ss.length).filter fun j => j ≠ i ∧ ss[j]? = ss[i]?).length ≤ ss.length := by
  refine Nat.le_trans (List.length_filter_le _ _) ?_
  simp
theorem alike_ok {ss : List Int} (hl : ss.length ≤ 6) : m__law_alike [.tup (ss.map .int)] = ret (.own (.seq ((alikes ss).map pairW))) := by
  show mf__law_alike _ = _
  unfold mf__law_alike
  simp only [k_Lst, k_wNil, k_forC, k_iRng1, k_sCons, k_sNil, k_CB, k_V, b_lenT, List.length_map]
  rw [req_of (by simp [sizeL]), rng1_int, req_of (by omega), range_nat]
  simp only [Int.toNat_natCast]
  rw [show SV.own (.seq []) = (fun acc : List (Nat × Nat) => SV.own (.seq (acc.map pairW))) [] from rfl]
  rw [for_enc natW (fun acc : List (Nat × Nat) => SV.own (.seq (acc.map pairW))) (fun acc i => acc ++ ((List.range ss.length).filter fun j => j ≠ i ∧ ss[j]? = ss[i]?).map fun j => (i, j)) (fun n acc => acc.length ≤ 6 * n) _ _ 0 (Nat.le_refl _) fun n i hi acc la => ⟨?_, fun kn => ?_⟩]
  · show ret _ = _
    rw [← List.flatMap_eq_foldl]
    rfl
  · rw [List.length_append, List.length_map]
    have := near_len (ss := ss) (i := i)
    omega
  · obtain ⟨hn, ei⟩ := List.getElem?_eq_some_iff.mp hi
    rw [List.getElem_range] at ei
    rw [List.length_range] at hn
    subst ei
    simp only [k_Lc, k_iRng1, k_sCons, k_sNil, k_CB, k_V, b_lenT, List.length_map]
    rw [rng1_int, req_of (by omega), range_nat]
    simp only [Int.toNat_natCast]
    rw [lc_if natW (fun j => decide (j ≠ n ∧ ss[j]? = ss[n]?)) natW _ (fun j hj kk => ?_) (by simp [sizeL]; omega)]
    · simp only [ext_own, k_Lc, k_iItems, k_Fz, k_V, fz_seq, fz_val, items_lst]
      rw [lc_all natW (fun j => pairW (n, j)) _ (fun j hj kk => ?_) (by have := near_len (ss := ss) (i := n); simp only [sizeL]; omega)]
      · have := near_len (ss := ss) (i := n)
        rw [ext_OO, req_of (by rw [List.length_map, List.length_map]; simp only [sizeL]; omega)]
        congr 2
        rw [List.map_append, List.map_map]
        rfl
      · simp only [k_lcb, k_tYes, if_true, k_Fz, k_Tup, k_wCons, k_wNil, k_V, fz_val]
        rw [req_of (by simp [sizeL])]
        rfl
    · have hj' : j < ss.length := by simpa using hj
      simp only [k_lcb, k_tAnd, k_tTst, k_Op2, k_V, fz_val, k_Fz]
      rw [t_ne (sp pl_int) (sp pl_int)]
      simp only [fz_val, natW_eq, o_ixT, atS_map hj', atS_map hn, W.int.injEq, List.getElem?_eq_getElem hj', List.getElem?_eq_getElem hn]
      rw [t_eq (sp pl_int) (sp pl_int)]
      have ci : ((j : Int) = (n : Int)) ↔ j = n := by omega
      by_cases c1 : j = n <;> by_cases c2 : ss[j] = ss[n] <;> simp [c1, c2, ci]
theorem alikes_mem {ss : List Int} {q : Nat × Nat} (h : q ∈ alikes ss) : q.1 < ss.length ∧ q.2 < ss.length ∧ q.1 ≠ q.2 ∧ ss[q.1]? = ss[q.2]? := by
  unfold alikes at h
  obtain ⟨i, hi, h⟩ := List.mem_flatMap.mp h
  obtain ⟨j, hj, rfl⟩ := List.mem_map.mp h
  obtain ⟨hj1, hj2⟩ := List.mem_filter.mp hj
  rw [List.mem_range] at hi hj1
  have z := of_decide_eq_true hj2
  exact ⟨hi, hj1, fun e => z.1 e.symm, z.2.symm⟩
theorem alikes_len {ss : List Int} (hl : ss.length ≤ 6) : (alikes ss).length ≤ 36 := by
  unfold alikes
  rw [List.length_flatMap]
  have : ∀ (l : List Nat), (l.map fun i => (((List.range ss.length).filter fun j => j ≠ i ∧ ss[j]? = ss[i]?).map fun j => (i, j)).length).sum ≤ 6 * l.length := fun l => by
    induction l with
    | nil => simp
    | cons i l ih =>
      rw [List.map_cons, List.sum_cons, List.length_cons, List.length_map]
      have := near_len (ss := ss) (i := i)
      omega
  refine Nat.le_trans (this _) ?_
  rw [List.length_range]
  omega
/-- some deed of good sizes; a tap only where taps may be -/
def DdTap : Dd → Prop
  | .tap _ _ => True
  | _ => False
theorem deed_dr {ss : List Int} {i : Int} {taps : Bool} (hs : SzOk ss) (i0 : 0 ≤ i) (i1 : i < great) : Dr 200 (fun p => m__law_deed [.ref p, .tup (ss.map .int), .int i, .bl taps]) fun r => ∃ d : Dd, r = .val d.w ∧ d.ok ss ∧ (taps = false → ¬ DdTap d) := by
  intro p n h Q E b hn q
  show mf__law_deed (.ref p) (.tup (ss.map .int)) (.int i) (.bl taps) h Q E
  unfold mf__law_deed
  obtain ⟨l1, l2, s3⟩ := id hs
  have gr : great = 1000000000000000000000000000000 := rfl
  simp only [k_Fz, k_Call, k_wCons, k_wNil, k_V, k_C, fz_val]
  refine (take_dr (by omega) (by omega)).call b (by omega) fun r h1 ⟨k, e, k0, k1⟩ b1 t1 => ?_
  subst e
  simp only [sv_val, fz_val, alike_ok l2, call_ret, fz_seq, k_ifC, k_tAnd, k_tTst, k_Op2, k_V, k_C, k_Lst, k_wNil, k_tOr]
  rw [t_eq (sp pl_int) (sp pl_int)]
  have cask : ∀ {h1 : AH} {m : Nat} {k : SV → MC}, Bag m h1 p → m + 1 ≤ 1000000000000000 → (∀ (c : Nat) h', c < ss.length → Bag (m + 1) h' p → Bt p h1 h' → k (.val (natW c)) h' Q E) → call (m__law_take [.ref p, .int ss.length]) k h1 Q E := fun b1 l q =>
    (take_dr (by omega) (by omega)).call b1 l fun r h' ⟨k, e, k0, k1⟩ b2 t2 => by
      subst e
      obtain ⟨c, rfl⟩ := Int.eq_ofNat_of_zero_le k0
      exact q c h' (by omega) b2 t2
  have tail : (if decide ((SV.val (W.int k)).fz = (SV.val (W.int 3)).fz) = true then
        (eTup (wCons (eFz (eC (.str ("drain" : Str)))) (wCons (eFz (eV (.val (.int i)))) (wCons (eFz (eCall m__law_take (wCons (eFz (eV (.val (.ref p)))) (wCons (eFz (eCB oLen (sCons (eV (.val (.tup (ss.map .int)))) sNil))) wNil)))) wNil)))) ret
      else bad) h1 Q E → True := fun _ => trivial
  clear tail
  have rest : ((ifC (tAnd (tTst (eOp2 oLt (eV (.val (.int k))) (eC (.int 3)))) (tTst (eV (.val (.bl taps))))) ((eTup (wCons (eFz (eC (.str ("tap" : Str)))) (wCons (eFz (eCall m__law_pick (wCons (eFz (eV (.val (.ref p)))) (wCons (eFz (eLst (wCons (eFz (eC (.int 1))) (wCons (eFz (eC (.int 1))) (wCons (eFz (eC (.int 2))) (wCons (eFz (eC (.int 3))) (wCons (eFz (eV (.val (.int i)))) wNil))))))) wNil)))) (wCons (eFz (eCall m__law_take (wCons (eFz (eV (.val (.ref p)))) (wCons (eFz (eCB oLen (sCons (eV (.val (.tup (ss.map .int)))) sNil))) wNil)))) wNil)))) ret) (ifC (tOr (tTst (eOp2 (oEq false) (eV (.val (.int k))) (eC (.int 3)))) (tTst (eOp2 (oEq false) (eCB oLen (sCons (eV (.val (.tup (ss.map .int)))) sNil)) (eC (.int 1))))) ((eTup (wCons (eFz (eC (.str ("drain" : Str)))) (wCons (eFz (eV (.val (.int i)))) (wCons (eFz (eCall m__law_take (wCons (eFz (eV (.val (.ref p)))) (wCons (eFz (eCB oLen (sCons (eV (.val (.tup (ss.map .int)))) sNil))) wNil)))) wNil)))) ret) ((eFz (eOp2 oAdd (eC (.int 2)) (eCall m__law_take (wCons (eFz (eV (.val (.ref p)))) (wCons (eFz (eOp2 oSub (eCB oLen (sCons (eV (.val (.tup (ss.map .int)))) sNil)) (eC (.int 1)))) wNil))))) fun x_mmany => ((eFz (eOp2 oIx (eLst (wCons (eFz (eC (.str ("over" : Str)))) (wCons (eFz (eC (.str ("down" : Str)))) wNil))) (eOp2 oFdiv (eCall m__law_take (wCons (eFz (eV (.val (.ref p)))) (wCons (eFz (eC (.int 3))) wNil))) (eC (.int 2))))) fun x_word => ((eOp2 oAdd (eTup (wCons (eFz (eV (.val x_word))) (wCons (eFz (eV (.val (.int i)))) wNil))) (eCall m__law_some_casks (wCons (eFz (eV (.val (.ref p)))) (wCons (eFz (eCB oLen (sCons (eV (.val (.tup (ss.map .int)))) sNil))) (wCons (eFz (eV (.val x_mmany))) wNil))))) ret)))))) h1 Q E := by
    have drain : ((eTup (wCons (eFz (eC (.str ("drain" : Str)))) (wCons (eFz (eV (.val (.int i)))) (wCons (eFz (eCall m__law_take (wCons (eFz (eV (.val (.ref p)))) (wCons (eFz (eCB oLen (sCons (eV (.val (.tup (ss.map .int)))) sNil))) wNil)))) wNil)))) ret) h1 Q E := by
      simp only [k_Tup, k_wCons, k_wNil, k_Fz, k_C, k_V, k_Call, k_CB, k_sCons, k_sNil, b_lenT, List.length_map, fz_val]
      refine cask b1 (by omega) fun c h2 hc b2 t2 => ?_
      rw [req_of (by simp [sizeL])]
      exact q _ _ ⟨.drain i c, rfl, ⟨i0, i1, hc⟩, fun _ => id⟩ (b2.le (by omega)) (t1.trans t2)
    have pour : ((eFz (eOp2 oAdd (eC (.int 2)) (eCall m__law_take (wCons (eFz (eV (.val (.ref p)))) (wCons (eFz (eOp2 oSub (eCB oLen (sCons (eV (.val (.tup (ss.map .int)))) sNil)) (eC (.int 1)))) wNil))))) fun x_mmany => ((eFz (eOp2 oIx (eLst (wCons (eFz (eC (.str ("over" : Str)))) (wCons (eFz (eC (.str ("down" : Str)))) wNil))) (eOp2 oFdiv (eCall m__law_take (wCons (eFz (eV (.val (.ref p)))) (wCons (eFz (eC (.int 3))) wNil))) (eC (.int 2))))) fun x_word => ((eOp2 oAdd (eTup (wCons (eFz (eV (.val x_word))) (wCons (eFz (eV (.val (.int i)))) wNil))) (eCall m__law_some_casks (wCons (eFz (eV (.val (.ref p)))) (wCons (eFz (eCB oLen (sCons (eV (.val (.tup (ss.map .int)))) sNil))) (wCons (eFz (eV (.val x_mmany))) wNil))))) ret))) h1 Q E ∨ ss.length = 1 := by
      by_cases h1' : ss.length = 1
      · exact .inr h1'
      refine .inl ?_
      simp only [k_Fz, k_Op2, k_C, k_Call, k_wCons, k_wNil, k_V, k_CB, k_sCons, k_sNil, b_lenT, List.length_map, o_sub, fz_val]
      refine (take_dr (by omega) (by omega)).call b1 (by omega) fun r h2 ⟨k2, e, g0, g1⟩ b2 t2 => ?_
      subst e
      simp only [sv_val, o_add, fz_val, k_Lst, k_wCons, k_wNil, k_Fz, k_C]
      rw [req_of (by simp [sizeL])]
      refine (take_dr (by omega) (by omega)).call b2 (by omega) fun r h3 ⟨k3, e, j0, j1⟩ b3 t3 => ?_
      subst e
      simp only [sv_val, o_fdiv, req_at]
      refine ⟨wide_div (b := 10) (by decide) (by decide) (by decide) (by decide), ?_⟩
      have word : ∃ word : Str, (word = "over" ∨ word = "down") ∧ ∀ k : SV → MC, op2 oIx (.own (.seq [.str ("over" : Str), .str ("down" : Str)])) (.val (.int (k3 / 2))) k = k (.val (.str word)) := by
        have : k3 / 2 = 0 ∨ k3 / 2 = 1 := by omega
        rcases this with e | e
        · exact ⟨"over", .inl rfl, fun k => by rw [e, o_ixO, atS_0]⟩
        · exact ⟨"down", .inr rfl, fun k => by rw [e, o_ixO, atS_1]⟩
      obtain ⟨word, hw, ew⟩ := word
      rw [ew]
      simp only [k_Tup, k_wCons, k_wNil, k_Fz, k_V, fz_val]
      rw [req_of (by simp [sizeL])]
      refine (some_casks_dr l2 (by omega) (by omega)).call b3 (by omega) fun r h4 ⟨cs, e, lc, nd, hc⟩ b4 t4 => ?_
      subst e
      simp only [sv_val, o_addT]
      rw [req_of (by simp only [List.length_cons, List.length_nil, List.length_map, sizeL]; omega)]
      have tt := t1.trans (t2.trans (t3.trans t4))
      rcases hw with rfl | rfl
      · exact q _ _ ⟨.over i cs, rfl, ⟨i0, i1, by omega, by omega, nd, hc⟩, fun _ => id⟩ (b4.le (by omega)) tt
      · exact q _ _ ⟨.down i cs, rfl, ⟨i0, i1, by omega, by omega, nd, hc⟩, fun _ => id⟩ (b4.le (by omega)) tt
    have back : (ifC (tOr (tTst (eOp2 (oEq false) (eV (.val (.int k))) (eC (.int 3)))) (tTst (eOp2 (oEq false) (eCB oLen (sCons (eV (.val (.tup (ss.map .int)))) sNil)) (eC (.int 1))))) ((eTup (wCons (eFz (eC (.str ("drain" : Str)))) (wCons (eFz (eV (.val (.int i)))) (wCons (eFz (eCall m__law_take (wCons (eFz (eV (.val (.ref p)))) (wCons (eFz (eCB oLen (sCons (eV (.val (.tup (ss.map .int)))) sNil))) wNil)))) wNil)))) ret) ((eFz (eOp2 oAdd (eC (.int 2)) (eCall m__law_take (wCons (eFz (eV (.val (.ref p)))) (wCons (eFz (eOp2 oSub (eCB oLen (sCons (eV (.val (.tup (ss.map .int)))) sNil)) (eC (.int 1)))) wNil))))) fun x_mmany => ((eFz (eOp2 oIx (eLst (wCons (eFz (eC (.str ("over" : Str)))) (wCons (eFz (eC (.str ("down" : Str)))) wNil))) (eOp2 oFdiv (eCall m__law_take (wCons (eFz (eV (.val (.ref p)))) (wCons (eFz (eC (.int 3))) wNil))) (eC (.int 2))))) fun x_word => ((eOp2 oAdd (eTup (wCons (eFz (eV (.val x_word))) (wCons (eFz (eV (.val (.int i)))) wNil))) (eCall m__law_some_casks (wCons (eFz (eV (.val (.ref p)))) (wCons (eFz (eCB oLen (sCons (eV (.val (.tup (ss.map .int)))) sNil))) (wCons (eFz (eV (.val x_mmany))) wNil))))) ret)))) h1 Q E := by
      unfold ifC
      rw [k_tOr, k_tTst, k_Op2, k_V, k_C, t_eq (sp pl_int) (sp pl_int)]
      refine ite_wp (fun _ => by rw [if_pos rfl]; exact drain) fun _ => ?_
      rw [k_tTst, k_Op2, k_CB, k_sCons, k_V, k_sNil, b_lenT, k_C, t_eq (sp pl_int) (sp pl_int)]
      refine ite_wp (fun _ => drain) fun z => pour.resolve_right fun z2 => z ?_
      rw [List.length_map, z2]
      simp
    rw [k_ifC, k_tAnd, k_tTst, k_Op2, k_V, k_C, o_lt, asB_bl]
    refine ite_wp (fun _ => ?_) fun _ => by rw [if_neg Bool.false_ne_true]; exact back
    rw [k_tTst, k_V, asB_bl]
    refine ite_wp (fun ht => ?_) fun _ => back
    simp only [k_Tup, k_wCons, k_wNil, k_Fz, k_C, k_V, k_Call, k_Lst, fz_val, fz_seq]
    rw [req_of (by simp [sizeL])]
    refine (pick_dr (.inl rfl) (by simp) (by simp)).call b1 (by omega) fun r h2 ⟨w, e, hw⟩ b2 t2 => ?_
    subst e
    obtain ⟨i', rfl, g0, g1⟩ : ∃ i' : Int, w = .int i' ∧ 0 ≤ i' ∧ i' < great := by
      simp only [List.mem_cons, List.not_mem_nil, or_false] at hw
      rcases hw with rfl | rfl | rfl | rfl | rfl <;> exact ⟨_, rfl, by omega, by omega⟩
    simp only [sv_val, fz_val, k_CB, k_sCons, k_sNil, k_V, b_lenT, List.length_map]
    refine cask b2 (by omega) fun c h3 hc b3 t3 => ?_
    rw [req_of (by simp [sizeL])]
    exact q _ _ ⟨.tap i' c, rfl, ⟨g0, g1, hc⟩, fun e => by rw [ht] at e; cases e⟩ (b3.le (by omega)) (t1.trans (t2.trans t3))
  have pl : ∀ x ∈ (alikes ss).map pairW, x.nb 1 = true := nb_map fun a _ => nb_tup fun x hx => by
    simp only [List.mem_cons, List.not_mem_nil, or_false] at hx
    rcases hx with rfl | rfl <;> rfl
  refine ite_wp (fun _ => ?_) fun _ => by rw [if_neg Bool.false_ne_true]; exact rest
  rw [req_of (by simp [sizeL]), t_ne (sp (pl_lst 1 (by omega) pl)) (so (c := .seq []) (pl_lst 0 (by omega) (by simp)))]
  refine ite_wp (fun z => ?_) fun _ => rest
  have ne : alikes ss ≠ [] := fun e => by simp [e] at z
  simp only [k_Tup, k_wCons, k_wNil, k_Fz, k_C, k_V, k_Call, fz_val]
  rw [req_of (by simp [sizeL])]
  have al := alikes_len l2
  refine (pick_dr (xs := (alikes ss).map pairW) (.inl rfl) (by simpa using ne) (by simp; omega)).call b1 (by omega) fun r h2 ⟨w, e, hw⟩ b2 t2 => ?_
  subst e
  obtain ⟨pr, hp, rfl⟩ := List.mem_map.mp hw
  obtain ⟨c1, c2, c3, c4⟩ := alikes_mem hp
  simp only [sv_val, pairW, o_addT]
  rw [req_of (by simp [sizeL])]
  exact q _ _ ⟨.swap pr.1 pr.2, rfl, ⟨c1, c2, c3, c4⟩, fun _ => id⟩ (b2.le (by omega)) (t1.trans t2)
theorem row_dr {ss : List Int} {most : Int} {taps : Bool} (hs : SzOk ss) (m0 : 0 ≤ most) (m1 : most ≤ 500) : Dr 200000 (fun p => m__law_row [.ref p, .tup (ss.map .int), .int most, .bl taps]) fun r => ∃ ds : List Dd, r = .own (.seq (ds.map Dd.w)) ∧ (ds.length : Int) ≤ most ∧ ∀ d ∈ ds, d.ok ss ∧ (taps = false → ¬ DdTap d) := by
  intro p n h Q E b hn q
  show mf__law_row (.ref p) (.tup (ss.map .int)) (.int most) (.bl taps) h Q E
  unfold mf__law_row
  simp only [k_Lc, k_iRng1, k_sCons, k_sNil, k_Call, k_wCons, k_wNil, k_Fz, k_V, k_C, k_Op2, o_add, fz_val]
  refine (take_dr (by omega) (by omega)).call b (by omega) fun r h1 ⟨k, e, k0, k1⟩ b1 t1 => ?_
  subst e
  rw [sv_val, rng1_int, req_at]
  refine ⟨by omega, lc_dr (P := fun d : Dd => d.ok ss ∧ (taps = false → ¬ DdTap d)) (e := Dd.w) (c := 300) _ (by rw [rngW_len]; omega) b1 (by rw [rngW_len]; omega) (fun w hw m h2 kk hm b2 hk => ?_) fun ds h2 l ps b2 t2 => ?_⟩
  · simp only [k_lcb, k_tYes, if_true, k_Fz, k_Call0, k_wCons, k_wNil, k_V, fz_val]
    refine number_dr.call0 b2 (by omega) fun r h3 ⟨i, e, i0, i1⟩ b3 t3 => ?_
    subst e
    refine (deed_dr hs i0 i1).call0 b3 (by omega) fun r h4 ⟨d, e, dk, dt⟩ b4 t4 => ?_
    subst e
    exact hk d _ ⟨dk, dt⟩ (b4.le (by omega)) (t3.trans t4)
  · rw [rngW_len] at l b2
    exact q _ _ ⟨ds, rfl, by omega, ps⟩ (b2.le (by omega)) (t1.trans t2)
end Ab
namespace Ab
open PySem PySem.Spec PyProof.Rows L2 RZ
def mf_look_sizes (x_sizes : W) : MC :=
  (ifC (tNot (tTst (eChn (fun i j => decide (i ≤ j)) (fun i j => decide (i ≤ j)) (eC (.int 1)) (eCB oLen (sCons (eV (.val x_sizes)) sNil)) (eC (.int 6))))) bad (forC (iEnum (eFz (eV (.val x_sizes)))) () (fun w6 (s1 : Unit) kn3 kb4 => un2 w6 fun x_cask x_size => (ifC (tNot (tTst (eChn (fun i j => decide (i ≤ j)) (fun i j => decide (i ≤ j)) (eC (.int 1)) (eV (.val x_size)) (eC (.int 40))))) bad (kn3 ()))) fun (s1 : Unit) => (ret (.val .non))))
def m_look_sizes : List W → MC
  | [x_sizes] => mf_look_sizes x_sizes
  | _ => bad
def mf_look_counts (x_sizes x_counts : W) : MC :=
  ((eCall m_look_sizes (wCons (eFz (eV (.val x_sizes))) wNil)) fun _ => (ifC (tTst (eOp2 (oEq true) (eCB oLen (sCons (eV (.val x_counts)) sNil)) (eCB oLen (sCons (eV (.val x_sizes)) sNil)))) bad (forC (iEnz (wCons (eFz (eV (.val x_counts))) (wCons (eFz (eV (.val x_sizes))) wNil))) () (fun w9 (s1 : Unit) kn3 kb4 => un2 w9 fun x_cask w6 => un2 w6 fun x_many x_size => (ifC (tNot (tTst (eChn (fun i j => decide (i ≤ j)) (fun i j => decide (i ≤ j)) (eC (.int 0)) (eV (.val x_many)) (eV (.val x_size))))) bad (kn3 ()))) fun (s1 : Unit) => (ret (.val .non)))))
def m_look_counts : List W → MC
  | [x_sizes, x_counts] => mf_look_counts x_sizes x_counts
  | _ => bad
def mf_has_count (x_word x_many x_casks : W) : MC :=
  ((eIf (tTst (eOp2 (oInL false) (eV (.val x_word)) (eC (.tup [.str ("over" : Str), .str ("down" : Str)])))) (eChn (fun i j => decide (i ≤ j)) (fun i j => decide (i ≤ j)) (eC (.int 4)) (eV (.val x_many)) (eOp2 oAdd (eC (.int 2)) (eV (.val x_casks)))) (eOp2 (oEq false) (eV (.val x_many)) (eC (.int 3)))) ret)
def m_has_count : List W → MC
  | [x_word, x_many, x_casks] => mf_has_count x_word x_many x_casks
  | _ => bad
def mf_first_bad (x_things x_start x_casks : W) : MC :=
  (forC (iEnum (eFz (eV (.val x_things)))) () (fun w6 (s1 : Unit) kn3 kb4 => un2 w6 fun x_at x_cask => (ifC (tOr (tNot (tTst (eChn (fun i j => decide (i ≤ j)) (fun i j => decide (i < j)) (eC (.int 0)) (eV (.val x_cask)) (eV (.val x_casks))))) (tTst (eOp2 (oInL false) (eV (.val x_cask)) (eSl (eV (.val x_things)) oNo (oPart (eV (.val x_at))))))) ((eOp2 oAdd (eV (.val x_start)) (eV (.val x_at))) ret) (kn3 ()))) fun (s1 : Unit) => ((eC .non) ret))
def m_first_bad : List W → MC
  | [x_things, x_start, x_casks] => mf_first_bad x_things x_start x_casks
  | _ => bad
def mf_fault_of (x_sizes x_deed : W) : MC :=
  (ifC (tOr (tTst (eOp2 (oEq false) (eCB oLen (sCons (eV (.val x_deed)) sNil)) (eC (.int 0)))) (tTst (eOp2 (oInL true) (eOp2 oIx (eV (.val x_deed)) (eC (.int 0))) (eOp2 oAdd (eC (.tup [.str ("over" : Str), .str ("down" : Str)])) (eC (.tup [.str ("swap" : Str), .str ("tap" : Str), .str ("drain" : Str)])))))) ((eC (.int 0)) ret) (ifC (tNot (tTst (eCall m_has_count (wCons (eFz (eOp2 oIx (eV (.val x_deed)) (eC (.int 0)))) (wCons (eFz (eCB oLen (sCons (eV (.val x_deed)) sNil))) (wCons (eFz (eCB oLen (sCons (eV (.val x_sizes)) sNil))) wNil)))))) ((eNeg (eC (.int 1))) ret) (starC (eFz (eV (.val x_deed))) fun x_word x_things => (ifC (tTst (eOp2 (oEq false) (eV (.val x_word)) (eC (.str ("swap" : Str))))) ((eFz (eCall m_first_bad (wCons (eFz (eV (.val (SV.fz x_things)))) (wCons (eFz (eC (.int 1))) (wCons (eFz (eCB oLen (sCons (eV (.val x_sizes)) sNil))) wNil))))) fun x_bad => (ifC (tTst (eOp2 (oIsN true) (eV (.val x_bad)) (eC .non))) ((eV (.val x_bad)) ret) ((eIf (tTst (eOp2 (oEq false) (eOp2 oIx (eV (.val x_sizes)) (eOp2 oIx (eV (.val (SV.fz x_things))) (eC (.int 0)))) (eOp2 oIx (eV (.val x_sizes)) (eOp2 oIx (eV (.val (SV.fz x_things))) (eC (.int 1)))))) (eC .non) (eC (.int 2))) ret))) (starC (eFz (eV (.val (SV.fz x_things)))) fun x_many x_casks => (ifC (tNot (tTst (eChn (fun i j => decide (i ≤ j)) (fun i j => decide (i < j)) (eC (.int 0)) (eV (.val x_many)) (eC (.int 1000000000000000000000000000000))))) ((eC (.int 1)) ret) ((eCall m_first_bad (wCons (eFz (eV (.val (SV.fz x_casks)))) (wCons (eFz (eC (.int 2))) (wCons (eFz (eCB oLen (sCons (eV (.val x_sizes)) sNil))) wNil)))) ret)))))))
def m_fault_of : List W → MC
  | [x_sizes, x_deed] => mf_fault_of x_sizes x_deed
  | _ => bad
def mf_look_deed (x_sizes x_deed : W) : MC :=
  ((eCall m_look_sizes (wCons (eFz (eV (.val x_sizes))) wNil)) fun _ => ((eFz (eCall m_fault_of (wCons (eFz (eV (.val x_sizes))) (wCons (eFz (eV (.val x_deed))) wNil)))) fun x_place => (ifC (tTst (eOp2 (oIsN true) (eV (.val x_place)) (eC .non))) bad (ret (.val .non)))))
def m_look_deed : List W → MC
  | [x_sizes, x_deed] => mf_look_deed x_sizes x_deed
  | _ => bad
def mf_poured_along (x_sizes x_counts x_going x_casks : W) : MC :=
  (starC (eFz (eV (.val x_casks))) fun x_first x_others => ((eCB oLstC (sCons (eV (.val x_counts)) sNil)) fun x_held => (augC (fun i j => i - j) x_held (eV (.val x_first)) (eV (.val x_going)) fun x_held => (forC (iItems (eFz (eV (.val (SV.fz x_others))))) (x_going, x_held) (fun x_cask (s1 : W × SV) kn3 kb4 => ((eFz (eOp2 oAdd (eOp2 oIx (eV s1.2) (eV (.val x_cask))) (eV (.val s1.1)))) fun x_here => (setC (eFz (eCB oMin2 (sCons (eV (.val x_here)) (sCons (eOp2 oIx (eV (.val x_sizes)) (eV (.val x_cask))) sNil)))) s1.2 (eV (.val x_cask)) fun x_held => ((eFz (eOp2 oSub (eV (.val x_here)) (eOp2 oIx (eV x_held) (eV (.val x_cask))))) fun x_going => (kn3 (x_going, x_held)))))) fun (s1 : W × SV) => (augC (fun i j => i + j) s1.2 (eV (.val x_first)) (eV (.val s1.1)) fun x_held => ((eCB oTupC (sCons (eV x_held) sNil)) ret))))))
def m_poured_along : List W → MC
  | [x_sizes, x_counts, x_going, x_casks] => mf_poured_along x_sizes x_counts x_going x_casks
  | _ => bad
def mf_counts_behind (x_sizes x_counts x_deed : W) : MC :=
  (starC (eFz (eV (.val x_deed))) fun x_word x_things => (ifC (tTst (eOp2 (oEq false) (eV (.val x_word)) (eC (.str ("swap" : Str))))) ((eFz (eV (.val (SV.fz x_things)))) fun w1 => uq2 w1 fun x_one x_other => ((eCB oLstC (sCons (eV (.val x_counts)) sNil)) fun x_held => (setC2 (eFz (eTup (wCons (eFz (eOp2 oIx (eV (.val x_counts)) (eV (.val x_other)))) (wCons (eFz (eOp2 oIx (eV (.val x_counts)) (eV (.val x_one)))) wNil)))) x_held (eV (.val x_one)) (fun y4 => (eV (.val x_other))) fun x_held => ((eCB oTupC (sCons (eV x_held) sNil)) ret)))) (starC (eFz (eV (.val (SV.fz x_things)))) fun x_many x_casks => ((eFz (eOp2 oIx (eV (.val x_counts)) (eOp2 oIx (eV x_casks) (eC (.int 0))))) fun x_here => (ifC (tTst (eOp2 (oEq false) (eV (.val x_word)) (eC (.str ("over" : Str))))) ((eCall m_poured_along (wCons (eFz (eV (.val x_sizes))) (wCons (eFz (eV (.val x_counts))) (wCons (eFz (eCB oMin2 (sCons (eV (.val x_many)) (sCons (eV (.val x_here)) sNil)))) (wCons (eFz (eV (.val (SV.fz x_casks)))) wNil))))) ret) (ifC (tTst (eOp2 (oEq false) (eV (.val x_word)) (eC (.str ("down" : Str))))) ((eCall m_poured_along (wCons (eFz (eV (.val x_sizes))) (wCons (eFz (eV (.val x_counts))) (wCons (eFz (eCB oMax2 (sCons (eOp2 oSub (eV (.val x_here)) (eV (.val x_many))) (sCons (eC (.int 0)) sNil)))) (wCons (eFz (eV (.val (SV.fz x_casks)))) wNil))))) ret) ((eCB oLstC (sCons (eV (.val x_counts)) sNil)) fun x_held => (setC (eFz (eIf (tTst (eOp2 (oEq false) (eV (.val x_word)) (eC (.str ("tap" : Str))))) (eCB oMin2 (sCons (eOp2 oAdd (eV (.val x_here)) (eV (.val x_many))) (sCons (eOp2 oIx (eV (.val x_sizes)) (eOp2 oIx (eV x_casks) (eC (.int 0)))) sNil))) (eCB oMax2 (sCons (eOp2 oSub (eV (.val x_here)) (eV (.val x_many))) (sCons (eC (.int 0)) sNil))))) x_held (eOp2 oIx (eV x_casks) (eC (.int 0))) fun x_held => ((eCB oTupC (sCons (eV x_held) sNil)) ret)))))))))
def m_counts_behind : List W → MC
  | [x_sizes, x_counts, x_deed] => mf_counts_behind x_sizes x_counts x_deed
  | _ => bad
def mf_poured (x_sizes x_counts x_deed : W) : MC :=
  ((eCall m_look_counts (wCons (eFz (eV (.val x_sizes))) (wCons (eFz (eV (.val x_counts))) wNil))) fun _ => ((eCall m_look_deed (wCons (eFz (eV (.val x_sizes))) (wCons (eFz (eV (.val x_deed))) wNil))) fun _ => ((eCall m_counts_behind (wCons (eFz (eV (.val x_sizes))) (wCons (eFz (eV (.val x_counts))) (wCons (eFz (eV (.val x_deed))) wNil)))) ret)))
def m_poured : List W → MC
  | [x_sizes, x_counts, x_deed] => mf_poured x_sizes x_counts x_deed
  | _ => bad
def mf_lesser (x_one x_other : W) : MC :=
  ((eCB oTupC (sCons (eLc (iZip (wCons (eFz (eV (.val x_one))) (wCons (eFz (eV (.val x_other))) wNil))) fun w1 kk => un2 w1 fun x_here x_there => lcb tYes (eFz (eCB oMin2 (sCons (eV (.val x_here)) (sCons (eV (.val x_there)) sNil)))) kk) sNil)) ret)
def m_lesser : List W → MC
  | [x_one, x_other] => mf_lesser x_one x_other
  | _ => bad
def mf_within (x_one x_other : W) : MC :=
  ((eCB oAll (sCons (eLc (iZip (wCons (eFz (eV (.val x_one))) (wCons (eFz (eV (.val x_other))) wNil))) fun w1 kk => un2 w1 fun x_here x_there => lcb tYes (eFz (eOp2 oLe (eV (.val x_here)) (eV (.val x_there)))) kk) sNil)) ret)
def m_within : List W → MC
  | [x_one, x_other] => mf_within x_one x_other
  | _ => bad
/-! ### sizes, counts, deeds looked at (all is well); counts behind a deed -/
theorem mem_zipIdx {α : Type} {l : List α} {q : α × Nat} (h : q ∈ l.zipIdx) : l[q.2]? = some q.1 := by
  obtain ⟨a, i⟩ := q
  simpa using List.mem_zipIdx_iff_getElem?.mp h
theorem look_sizes_ok {ss : List Int} (hs : SzOk ss) : m_look_sizes [.tup (ss.map .int)] = ret (.val .non) := by
  show mf_look_sizes _ = _
  unfold mf_look_sizes
  obtain ⟨l1, l2, s3⟩ := hs
  have e1 : decide ((1 : Int) ≤ ss.length) = true := decide_eq_true (by omega)
  have e2 : decide ((ss.length : Int) ≤ 6) = true := decide_eq_true (by omega)
  simp only [k_ifC, k_tNot, k_tTst, k_Chn, k_C, k_V, k_CB, k_sCons, k_sNil, b_lenT, List.length_map, asI_int, asB_bl, e1, e2, if_true, Bool.not_true, Bool.false_eq_true, if_false, k_forC, k_iEnum, k_Fz, fz_val, items_tup, en_map]
  refine for_none _ fun w hw kn => ?_
  obtain ⟨⟨s, i⟩, hq, rfl⟩ := List.mem_map.mp hw
  obtain ⟨g1, g2⟩ := s3 s (List.mem_of_getElem? (mem_zipIdx hq))
  simp only [un2_tup, k_ifC, k_tNot, k_tTst, k_Chn, k_C, k_V, asI_int, asB_bl, decide_eq_true g1, decide_eq_true g2, if_true, Bool.not_true, Bool.false_eq_true, if_false]
theorem look_counts_ok {ss cs : List Int} (hs : SzOk ss) (hc : CtOk ss cs) : m_look_counts [.tup (ss.map .int), .tup (cs.map .int)] = ret (.val .non) := by
  show mf_look_counts _ _ = _
  unfold mf_look_counts
  obtain ⟨l, c3⟩ := hc
  simp only [k_Call, k_wCons, k_wNil, k_Fz, k_V, fz_val, look_sizes_ok hs, call_ret, k_ifC, k_tTst, k_Op2, k_CB, k_sCons, k_sNil, b_lenT, List.length_map]
  rw [t_ne (sp pl_int) (sp pl_int)]
  simp only [fz_val, l, decide_true, Bool.not_true, Bool.false_eq_true, if_false, k_forC, k_iEnz, k_wCons, k_wNil, k_Fz, k_V, enz_2, items_tup, ez_map]
  refine for_none _ fun w hw kn => ?_
  obtain ⟨⟨⟨c, s⟩, i⟩, hq, rfl⟩ := List.mem_map.mp hw
  have z := mem_zipIdx hq
  rw [List.getElem?_zip_eq_some] at z
  obtain ⟨g1, g2⟩ := c3 i c s z.1 z.2
  simp only [un2_tup, k_ifC, k_tNot, k_tTst, k_Chn, k_C, k_V, asI_int, asB_bl, decide_eq_true g1, decide_eq_true g2, if_true, Bool.not_true, Bool.false_eq_true, if_false]
theorem has_count_ok {w : Str} {m c : Int} : m_has_count [.str w, .int m, .int c] = ret (.val (.bl (if w = "over" ∨ w = "down" then decide (4 ≤ m ∧ m ≤ 2 + c) else decide (m = 3)))) := by
  show mf_has_count _ _ _ = _
  unfold mf_has_count
  simp only [k_If, k_tTst, k_Op2, k_V, k_C]
  rw [t_in (y := .val (.tup [.str ("over" : Str), .str ("down" : Str)])) (sp pl_str) (fun _ => rfl) (fun z hz => by
    simp only [List.mem_cons, List.not_mem_nil, or_false] at hz
    rcases hz with rfl | rfl <;> rfl)]
  by_cases h : w = "over" ∨ w = "down"
  · rw [if_pos h, if_pos (decide_eq_true (by rcases h with rfl | rfl <;> simp))]
    simp only [k_Chn, k_C, k_V, k_Op2, o_add, asI_int]
    by_cases g1 : 4 ≤ m <;> by_cases g2 : m ≤ 2 + c <;> simp [g1, g2]
  · rw [if_neg h, if_neg (by simpa using h)]
    rw [o_eq (sp pl_int) (sp pl_int)]
    simp [eqw_int]
/-- None or a number -/
def optW : Option Int → W
  | none => .non
  | some i => .int i
theorem first_bad_ok {cs : List Int} {st casks : Int} (hl : cs.length ≤ 1000) : m_first_bad [.lst (cs.map .int), .int st, .int casks] = ret (.val (optW (badFrom casks [] cs st))) := by
  show mf_first_bad _ _ _ = _
  unfold mf_first_bad
  simp only [k_forC, k_iEnum, k_Fz, k_V, fz_val, items_lst, en_map]
  rw [for_find (fun q : Int × Nat => W.tup [.int (q.2 : Int), .int q.1]) (fun q => if ¬ (0 ≤ q.1 ∧ q.1 < casks) ∨ q.1 ∈ cs.take q.2 then some (ret (.val (.int (st + q.2)))) else none) cs.zipIdx fun q hq kn => ?_]
  · have go : ∀ (r seen : List Int) (n : Nat), seen = cs.take n → r = cs.drop n → ((r.zipIdx n).findSome? (fun q => if ¬ (0 ≤ q.1 ∧ q.1 < casks) ∨ q.1 ∈ cs.take q.2 then some (ret (.val (.int (st + q.2)))) else none)).getD (eC .non ret) = ret (.val (optW (badFrom casks seen r (st + n)))) := by
      intro r
      induction r with
      | nil => intro seen n _ _; rfl
      | cons c r ih =>
        intro seen n e1 e2
        rw [List.zipIdx_cons, List.findSome?_cons]
        simp only [badFrom]
        by_cases h : ¬ (0 ≤ c ∧ c < casks) ∨ c ∈ cs.take n
        · rw [if_pos h, if_pos (e1 ▸ h)]
          rfl
        · rw [if_neg h, if_neg (e1 ▸ h)]
          have hn : n < cs.length := by
            have := congrArg List.length e2
            simp at this
            omega
          have e3 : cs[n]? = some c := by
            have := congrArg (fun l : List Int => l[0]?) e2
            rw [List.getElem?_drop] at this
            simpa using this.symm
          have z := ih (seen ++ [c]) (n + 1) (by rw [e1, List.take_add_one, e3]; rfl) (by
            have := congrArg List.tail e2
            rw [List.tail_drop] at this
            simpa using this)
          rw [show st + ((n + 1 : Nat) : Int) = st + (n : Int) + 1 by omega] at z
          exact z
    have z := go cs [] 0 rfl rfl
    simpa using z
  · obtain ⟨c, n⟩ := q
    simp only [un2_tup, k_ifC, k_tOr, k_tNot, k_tTst, k_Chn, k_Op2, k_C, k_V, asI_int, asB_bl, k_Sl, k_oNo, k_oPart, slc_L, cut_to]
    have tin : ∀ k : Bool → MC, (op2 (oInL false) (.val (.int c)) (.own (.seq ((cs.map W.int).take n))) fun r => asB r k) = k (decide (c ∈ cs.take n)) := fun k => by
      rw [t_in (y := .own (.seq ((cs.map W.int).take n))) (sp pl_int) (fun _ => rfl) (fun z hz => by
        obtain ⟨i, _, rfl⟩ := List.mem_map.mp ((List.take_sublist n _).subset hz)
        exact nb_int)]
      have e : W.int c ∈ (cs.map W.int).take n ↔ c ∈ cs.take n := by
        rw [← List.map_take, List.mem_map]
        exact ⟨fun ⟨x, hx, e⟩ => by cases e; exact hx, fun h => ⟨c, h, rfl⟩⟩
      rw [fz_val, decide_eq_decide.mpr e]
    simp only [tin, o_add]
    by_cases g1 : 0 ≤ c <;> by_cases g2 : c < casks <;> by_cases g3 : c ∈ cs.take n <;> simp [g1, g2, g3]
theorem badFrom_ok {n : Nat} : ∀ (cs seen : List Nat) (k : Int), (∀ c ∈ cs, c < n) → cs.Nodup → (∀ c ∈ cs, c ∉ seen) → badFrom n (seen.map fun (c : Nat) => (c : Int)) (cs.map fun (c : Nat) => (c : Int)) k = none
  | [], _, _, _, _, _ => rfl
  | c :: cs, seen, k, h1, h2, h3 => by
    have hc := h1 c (by simp)
    have hs := h3 c (by simp)
    have ns : ¬ (¬ (0 ≤ (c : Int) ∧ (c : Int) < n) ∨ (c : Int) ∈ seen.map fun (c : Nat) => (c : Int)) := fun z => by
      rcases z with z | z
      · exact z ⟨by omega, by omega⟩
      · obtain ⟨x, hx, e⟩ := List.mem_map.mp z
        have : x = c := by omega
        exact hs (this ▸ hx)
    show (if ¬ (0 ≤ (c : Int) ∧ (c : Int) < n) ∨ (c : Int) ∈ seen.map (fun (c : Nat) => (c : Int)) then some k else badFrom n (seen.map (fun (c : Nat) => (c : Int)) ++ [(c : Int)]) (cs.map fun (c : Nat) => (c : Int)) (k + 1)) = none
    rw [if_neg ns, show seen.map (fun (c : Nat) => (c : Int)) ++ [(c : Int)] = (seen ++ [c]).map (fun (c : Nat) => (c : Int)) by simp]
    obtain ⟨h4, h5⟩ := List.nodup_cons.mp h2
    refine badFrom_ok cs (seen ++ [c]) (k + 1) (fun x hx => h1 x (by simp [hx])) h5 fun x hx z => ?_
    rcases List.mem_append.mp z with z | z
    · exact h3 x (by simp [hx]) z
    · rw [List.mem_singleton.mp z] at hx
      exact h4 hx
theorem first_bad_nat {n : Nat} {cs : List Nat} {k : Int} (h1 : ∀ c ∈ cs, c < n) (h2 : cs.Nodup) (hl : cs.length ≤ 1000) : m_first_bad [.lst (cs.map natW), .int k, .int n] = ret (.val .non) := by
  have z := first_bad_ok (cs := cs.map fun (c : Nat) => (c : Int)) (st := k) (casks := n) (by simpa using hl)
  have b := badFrom_ok cs [] k h1 h2 (by simp)
  simp only [List.map_nil] at b
  rw [b, List.map_map] at z
  exact z
theorem word_in {w : Str} {k : Bool → MC} {x y : List W} : (eOp2 oAdd (eC (.tup [.str ("over" : Str), .str ("down" : Str)])) (eC (.tup [.str ("swap" : Str), .str ("tap" : Str), .str ("drain" : Str)])) fun z => op2 (oInL true) (.val (.str w)) z fun r => asB r k) = k (!decide (w = "over" ∨ w = "down" ∨ w = "swap" ∨ w = "tap" ∨ w = "drain")) := by
  simp only [k_Op2, k_C, o_addT]
  rw [req_of (by simp [sizeL]), t_nin (y := .val (.tup _)) (sp pl_str) (fun _ => rfl) (fun z hz => by
    simp only [List.mem_append, List.mem_cons, List.not_mem_nil, or_false] at hz
    rcases hz with (rfl | rfl) | rfl | rfl | rfl <;> rfl)]
  simp
theorem fault_of_ok {ss : List Int} {d : Dd} (hs : SzOk ss) (hd : d.ok ss) : m_fault_of [.tup (ss.map .int), d.w] = ret (.val .non) := by
  show mf_fault_of _ _ = _
  unfold mf_fault_of
  obtain ⟨l1, l2, s3⟩ := hs
  have len : ∀ (xs : List W), ¬ (W.int ((xs.length + 1 : Nat) : Int)) = .int 0 := fun xs e => by
    injection e with e
    omega
  have head : ∀ {w : Str} {xs : List W} {m1 m2 : MC}, (w = "over" ∨ w = "down" ∨ w = "swap" ∨ w = "tap" ∨ w = "drain") →
      ifC (tOr (tTst (eOp2 (oEq false) (eCB oLen (sCons (eV (.val (.tup (.str w :: xs)))) sNil)) (eC (.int 0)))) (tTst (eOp2 (oInL true) (eOp2 oIx (eV (.val (.tup (.str w :: xs)))) (eC (.int 0))) (eOp2 oAdd (eC (.tup [.str ("over" : Str), .str ("down" : Str)])) (eC (.tup [.str ("swap" : Str), .str ("tap" : Str), .str ("drain" : Str)])))))) m1 m2 = m2 := by
    intro w xs m1 m2 hw
    rw [k_ifC, k_tOr, k_tTst, k_Op2, k_CB, k_sCons, k_V, k_sNil, b_lenT, k_C, t_eq (sp pl_int) (sp pl_int), List.length_cons]
    rw [fz_val, fz_val, decide_eq_false (len xs), if_neg Bool.false_ne_true, k_tTst, k_Op2, k_Op2, k_V, k_C, o_ixT, atS_0, word_in (x := []) (y := []), decide_eq_true hw]
    simp
  cases d with
  | swap i j =>
    obtain ⟨hi, hj, ne, es⟩ := hd
    rw [Dd.w, head (by simp)]
    have bf := first_bad_nat (n := ss.length) (cs := [i, j]) (k := 1) (by simp [hi, hj]) (by simp [ne]) (by simp)
    have e1 : ss[i] = ss[j] := by
      rw [List.getElem?_eq_getElem hi, List.getElem?_eq_getElem hj] at es
      exact Option.some.inj es
    simp only [k_ifC, k_tNot, k_tTst, k_Call, k_wCons, k_wNil, k_Fz, k_Op2, k_V, k_C, o_ixT, atS_0, fz_val, k_CB, k_sCons, k_sNil, b_lenT, List.length_map, has_count_ok, call_ret, asB_bl, List.length_cons, List.length_nil,
      str_lit, String.reduceEq, or_self, if_false, Nat.zero_add, Nat.reduceAdd, Int.cast_ofNat_Int, decide_true, Bool.not_true, Bool.false_eq_true, k_starC, star_tup, fz_seq]
    rw [t_eq (sp pl_str) (sp pl_str)]
    simp only [fz_val, decide_true, if_true, List.map_cons, List.map_nil] at bf ⊢
    rw [bf]
    simp only [call_ret, fz_val]
    rw [t_notN pl_non]
    simp only [decide_true, Bool.not_true, Bool.false_eq_true, if_false, k_If, k_tTst, k_Op2, k_V, k_C, o_ixL, atS_0, atS_1, o_ixT, atS_map hi, atS_map hj]
    rw [t_eq (sp pl_int) (sp pl_int), e1]
    simp
  | tap n c =>
    obtain ⟨n0, n1, hc⟩ := hd
    rw [Dd.w, head (by simp)]
    have bf := first_bad_nat (n := ss.length) (cs := [c]) (k := 2) (by simp [hc]) (by simp) (by simp)
    have e0 : decide (n < 1000000000000000000000000000000) = true := decide_eq_true n1
    simp only [k_ifC, k_tNot, k_tTst, k_Call, k_wCons, k_wNil, k_Fz, k_Op2, k_V, k_C, o_ixT, atS_0, fz_val, k_CB, k_sCons, k_sNil, b_lenT, List.length_map, has_count_ok, call_ret, asB_bl, List.length_cons, List.length_nil,
      str_lit, String.reduceEq, or_self, if_false, Nat.zero_add, Nat.reduceAdd, Int.cast_ofNat_Int, decide_true, Bool.not_true, Bool.false_eq_true, k_starC, star_tup, fz_seq]
    rw [t_eq (sp pl_str) (sp pl_str)]
    simp only [fz_val, W.str.injEq, str_lit, String.reduceEq, decide_false, Bool.false_eq_true, if_false, star_lst, k_Chn, k_C, k_V, asI_int, asB_bl, decide_eq_true n0, if_true, e0, Bool.not_true, fz_seq]
    simp only [List.map_cons, List.map_nil] at bf
    rw [bf]
    rfl
  | drain n c =>
    obtain ⟨n0, n1, hc⟩ := hd
    rw [Dd.w, head (by simp)]
    have bf := first_bad_nat (n := ss.length) (cs := [c]) (k := 2) (by simp [hc]) (by simp) (by simp)
    have e0 : decide (n < 1000000000000000000000000000000) = true := decide_eq_true n1
    simp only [k_ifC, k_tNot, k_tTst, k_Call, k_wCons, k_wNil, k_Fz, k_Op2, k_V, k_C, o_ixT, atS_0, fz_val, k_CB, k_sCons, k_sNil, b_lenT, List.length_map, has_count_ok, call_ret, asB_bl, List.length_cons, List.length_nil,
      str_lit, String.reduceEq, or_self, if_false, Nat.zero_add, Nat.reduceAdd, Int.cast_ofNat_Int, decide_true, Bool.not_true, Bool.false_eq_true, k_starC, star_tup, fz_seq]
    rw [t_eq (sp pl_str) (sp pl_str)]
    simp only [fz_val, W.str.injEq, str_lit, String.reduceEq, decide_false, Bool.false_eq_true, if_false, star_lst, k_Chn, k_C, k_V, asI_int, asB_bl, decide_eq_true n0, if_true, e0, Bool.not_true, fz_seq]
    simp only [List.map_cons, List.map_nil] at bf
    rw [bf]
    rfl
  | over n cs =>
    obtain ⟨n0, n1, c1, c2, c3, c4⟩ := hd
    rw [Dd.w, head (by simp)]
    have bf := first_bad_nat (n := ss.length) (cs := cs) (k := 2) c4 c3 (by omega)
    have e0 : decide (n < 1000000000000000000000000000000) = true := decide_eq_true n1
    have e1 : decide (4 ≤ ((cs.length + 1 + 1 : Nat) : Int) ∧ ((cs.length + 1 + 1 : Nat) : Int) ≤ 2 + (ss.length : Int)) = true := decide_eq_true ⟨by omega, by omega⟩
    simp only [k_ifC, k_tNot, k_tTst, k_Call, k_wCons, k_wNil, k_Fz, k_Op2, k_V, k_C, o_ixT, atS_0, fz_val, k_CB, k_sCons, k_sNil, b_lenT, List.length_map, has_count_ok, call_ret, asB_bl, List.length_cons,
      true_or, if_true, e1, Bool.not_true, Bool.false_eq_true, if_false, k_starC, star_tup, fz_seq]
    rw [t_eq (sp pl_str) (sp pl_str)]
    simp only [fz_val, W.str.injEq, str_lit, String.reduceEq, decide_false, Bool.false_eq_true, if_false, star_lst, k_Chn, k_C, k_V, asI_int, asB_bl, decide_eq_true n0, if_true, e0, Bool.not_true, fz_seq]
    rw [bf]
    rfl
  | down n cs =>
    obtain ⟨n0, n1, c1, c2, c3, c4⟩ := hd
    rw [Dd.w, head (by simp)]
    have bf := first_bad_nat (n := ss.length) (cs := cs) (k := 2) c4 c3 (by omega)
    have e0 : decide (n < 1000000000000000000000000000000) = true := decide_eq_true n1
    have e1 : decide (4 ≤ ((cs.length + 1 + 1 : Nat) : Int) ∧ ((cs.length + 1 + 1 : Nat) : Int) ≤ 2 + (ss.length : Int)) = true := decide_eq_true ⟨by omega, by omega⟩
    simp only [k_ifC, k_tNot, k_tTst, k_Call, k_wCons, k_wNil, k_Fz, k_Op2, k_V, k_C, o_ixT, atS_0, fz_val, k_CB, k_sCons, k_sNil, b_lenT, List.length_map, has_count_ok, call_ret, asB_bl, List.length_cons,
      or_true, if_true, e1, Bool.not_true, Bool.false_eq_true, if_false, k_starC, star_tup, fz_seq]
    rw [t_eq (sp pl_str) (sp pl_str)]
    simp only [fz_val, W.str.injEq, str_lit, String.reduceEq, decide_false, Bool.false_eq_true, if_false, star_lst, k_Chn, k_C, k_V, asI_int, asB_bl, decide_eq_true n0, if_true, e0, Bool.not_true, fz_seq]
    rw [bf]
    rfl
theorem look_deed_ok {ss : List Int} {d : Dd} (hs : SzOk ss) (hd : d.ok ss) : m_look_deed [.tup (ss.map .int), d.w] = ret (.val .non) := by
  show mf_look_deed _ _ = _
  unfold mf_look_deed
  simp only [k_Call, k_wCons, k_wNil, k_Fz, k_V, fz_val, look_sizes_ok hs, call_ret, fault_of_ok hs hd, k_ifC, k_tTst, k_Op2, k_C]
  rw [t_notN pl_non]
  simp
/-! pouring -/
def pourStep (ss : List Int) (p : Int × List Int) (c : Nat) : Int × List Int :=
  let n := min (p.2.getD c 0 + p.1) (ss.getD c 0)
  (p.2.getD c 0 + p.1 - n, p.2.set c n)
def pourAlong (ss cs : List Int) (g : Int) : List Nat → List Int
  | [] => cs
  | c :: r =>
    let p := r.foldl (pourStep ss) (g, cs.set c (cs.getD c 0 - g))
    p.2.set c (p.2.getD c 0 + p.1)
/-- a deed by counts -/
def Dd.pour (ss cs : List Int) : Dd → List Int
  | .swap i j => (cs.set i (cs.getD j 0)).set j (cs.getD i 0)
  | .tap n c => cs.set c (min (cs.getD c 0 + n) (ss.getD c 0))
  | .drain n c => cs.set c (max (cs.getD c 0 - n) 0)
  | .over n r => pourAlong ss cs (min n (cs.getD (r.headD 0) 0)) r
  | .down n r => pourAlong ss cs (max (cs.getD (r.headD 0) 0 - n) 0) r
theorem getD_at {cs : List Int} {c : Nat} (h : c < cs.length) : cs[c]? = some (cs.getD c 0) := by
  rw [List.getD_eq_getElem?_getD, List.getElem?_eq_getElem h]; rfl
theorem get_map {cs : List Int} {c : Nat} (h : c < cs.length) : (cs.map W.int)[c]? = some (.int (cs.getD c 0)) := by
  rw [List.getElem?_map, getD_at h]; rfl
theorem set_map {cs : List Int} {c : Nat} {x : Int} : (cs.map W.int).set c (.int x) = (cs.set c x).map W.int := by rw [List.map_set]
theorem atS_ints {cs : List Int} {c : Nat} {k : W → MC} (h : c < cs.length) : atS (cs.map W.int) (c : Int) k = k (.int (cs.getD c 0)) := by
  rw [atS_map h]
  congr 2
  rw [List.getD_eq_getElem?_getD, List.getElem?_eq_getElem h]; rfl
theorem pourStep_len {ss : List Int} {p : Int × List Int} {c : Nat} : (pourStep ss p c).2.length = p.2.length := by simp [pourStep]
theorem poured_along_ok {ss cs : List Int} {g : Int} {c : Nat} {r : List Nat} (h1 : cs.length = ss.length) (h2 : ss.length ≤ 6) (h3 : ∀ x ∈ c :: r, x < ss.length) :
    m_poured_along [.tup (ss.map .int), .tup (cs.map .int), .int g, .lst (natW c :: r.map natW)] = ret (.val (.tup ((pourAlong ss cs g (c :: r)).map .int))) := by
  show mf_poured_along _ _ _ _ = _
  unfold mf_poured_along
  have hc : c < cs.length := by rw [h1]; exact h3 c (by simp)
  simp only [k_starC, k_Fz, k_V, fz_val, star_lst, k_CB, k_sCons, k_sNil, b_lstT, k_augC]
  rw [aug_own (get_map hc) (by omega)]
  simp only [k_V, asI_int, set_map, k_forC, k_iItems, k_Fz, fz_seq, fz_val, items_lst]
  rw [show (W.int g, SV.own (.seq ((cs.set c (cs.getD c 0 - g)).map W.int))) = (fun p : Int × List Int => (W.int p.1, SV.own (.seq (p.2.map W.int)))) (g, cs.set c (cs.getD c 0 - g)) from rfl,
    for_enc natW (fun p : Int × List Int => (W.int p.1, SV.own (.seq (p.2.map W.int)))) (pourStep ss) (fun _ p => p.2.length = ss.length) r _ 0 (by rw [List.length_set]; exact h1) fun j x hx p hp => ⟨by rw [pourStep_len]; exact hp, fun kn => ?_⟩]
  · have hl : (r.foldl (pourStep ss) (g, cs.set c (cs.getD c 0 - g))).2.length = ss.length := foldl_inv (fun p : Int × List Int => p.2.length = ss.length) r _ (by rw [List.length_set]; exact h1) fun a _ s hs => by rw [pourStep_len]; exact hs
    have hc2 : c < (r.foldl (pourStep ss) (g, cs.set c (cs.getD c 0 - g))).2.length := by rw [hl]; exact h3 c (by simp)
    simp only [k_augC, k_V]
    rw [aug_own (get_map hc2) (by omega)]
    simp only [k_V, asI_int, set_map, k_CB, k_sCons, k_sNil, b_tupO]
    rfl
  · obtain ⟨g', held⟩ := p
    have hx1 : x < ss.length := h3 x (by simp [List.mem_of_getElem? hx])
    have hp : held.length = ss.length := hp
    have hx2 : x < held.length := by omega
    simp only [k_Fz, k_Op2, k_V, o_ixO, o_ixT, atS_ints hx1, atS_ints hx2, o_add, fz_val, k_setC, k_CB, k_sCons, k_sNil, b_min2]
    rw [set_own (by rw [List.length_map]; exact hx2), set_map]
    have hx3 : x < (held.set x (min (held.getD x 0 + g') (ss.getD x 0))).length := by rw [List.length_set]; exact hx2
    simp only [k_Fz, k_Op2, k_V, o_ixO, atS_ints hx3, o_sub, fz_val]
    have : (held.set x (min (held.getD x 0 + g') (ss.getD x 0))).getD x 0 = min (held.getD x 0 + g') (ss.getD x 0) := by
      rw [List.getD_eq_getElem?_getD, List.getElem?_set_self hx2]; rfl
    rw [this]
    rfl
theorem counts_behind_ok {ss cs : List Int} {d : Dd} (hs : SzOk ss) (hl : cs.length = ss.length) (hd : d.ok ss) : m_counts_behind [.tup (ss.map .int), .tup (cs.map .int), d.w] = ret (.val (.tup ((d.pour ss cs).map .int))) := by
  show mf_counts_behind _ _ _ = _
  unfold mf_counts_behind
  obtain ⟨l1, l2, s3⟩ := hs
  cases d with
  | swap i j =>
    obtain ⟨hi, hj, ne, es⟩ := hd
    have hi2 : i < cs.length := by omega
    have hj2 : j < cs.length := by omega
    simp only [Dd.w, ↓k_V, ↓k_C, ↓k_Op2, ↓k_Fz, ↓k_wNil, ↓k_wCons, ↓k_Tup, ↓k_Lst, ↓k_oNo, ↓k_oPart, ↓k_Sl, ↓k_sNil, ↓k_sCons, ↓k_CB, ↓k_tYes, ↓k_tTst, ↓k_tAnd, ↓k_tOr, ↓k_tNot, ↓k_If, ↓k_And, ↓k_Or, ↓k_Not, ↓k_Neg, ↓k_Chn, ↓k_Call, ↓k_Call0, ↓k_wPerm, ↓k_iItems, ↓k_iRng1, ↓k_iRng2, ↓k_iZip, ↓k_iEnum, ↓k_iEnz, ↓k_ifC, ↓k_Lrg1, ↓k_parC, ↓k_starC, ↓k_setC, ↓k_setC2, ↓k_augC, ↓k_lcb, ↓k_Lc, ↓k_forC, ↓str_lit, ↓fz_val, ↓fz_seq, ↓rr_val, ↓rr_own, ↓sv_val, ↓sv_own, ↓asI_int, ↓asB_bl, ↓items_tup, ↓items_lst, ↓un2_tup, ↓un3_tup, ↓un5_tup, ↓uq2_tup, ↓uq3_tup, ↓uq2_lst, ↓uq3_lst, ↓uq4_tup, ↓uq5_tup, ↓star_tup, ↓star_lst, ↓pr2_2, ↓zip2_tup, ↓zip2_lst, ↓enz_2, ↓rng1_int, ↓rng2_int, ↓lrg1_int, ↓req_T, ↓ret_at, ↓raise_at, ↓call_ret, ↓call0_ret, ↓call_raise, ↓pm_0, ↓pm_01, ↓pm_10, ↓pm_012, ↓pm_021, ↓pm_102, ↓pm_120, ↓pm_201, ↓pm_210, ↓pm_0123, ↓pm_0132, ↓pm_0213, ↓pm_0231, ↓pm_0312, ↓pm_0321, ↓pm_1023, ↓pm_1032, ↓pm_1203, ↓pm_1230, ↓pm_1302, ↓pm_1320, ↓pm_2013, ↓pm_2031, ↓pm_2103, ↓pm_2130, ↓pm_2301, ↓pm_2310, ↓pm_3012, ↓pm_3021, ↓pm_3102, ↓pm_3120, ↓pm_3201, ↓pm_3210, ↓o_sub, ↓o_lt, ↓o_le, ↓o_gt, ↓o_ge, ↓o_mod, ↓o_fdiv, ↓o_pow, ↓o_mul, ↓o_rep, ↓o_repT, ↓o_add, ↓o_addS, ↓o_addT, ↓o_addLL, ↓o_addLO, ↓o_addOL, ↓o_addOO, ↓o_ixT, ↓o_ixL, ↓o_ixO, ↓atS_0, ↓atS_1, ↓atS_2, ↓atS_3, ↓atS_4, ↓slc_T, ↓slc_L, ↓slc_O, ↓ext_own, ↓ext_OO, ↓lm_own, ↓append_own, ↓b_lenT, ↓b_lenL, ↓b_lenO, ↓b_lenS, ↓b_tupT, ↓b_tupL, ↓b_tupO, ↓b_lstT, ↓b_lstL, ↓b_lstO, ↓b_min2, ↓b_max2, ↓b_abs, ↓b_sumO, ↓b_sumL, ↓b_sumT, ↓b_anyO, ↓b_allO, ↓o_eqI, ↓o_neI, ↓o_eqSt, ↓o_neSt, ↓o_eqT, ↓o_neT, ↓isN_non, ↓isN_int, ↓isN_str, ↓isN_tup, ↓isN_lst, ↓nIsN_non, ↓nIsN_int, ↓nIsN_str, ↓nIsN_tup, ↓nIsN_lst, if_true, if_false, Bool.not_true, Bool.not_false, Bool.false_eq_true, decide_true, decide_false, String.reduceEq, decide_eq_true_eq, Int.toNat_natCast, List.length_map, List.length_cons, List.length_nil, sizeL, Nat.zero_add, Nat.reduceAdd, Nat.reduceLeDiff, ↓atS_ints hi2, ↓atS_ints hj2]
    rw [set_own (by rw [List.length_map]; exact hi2), set_map, set_own (by rw [List.length_map, List.length_set]; exact hj2), set_map]
    simp only [↓k_V, ↓k_C, ↓k_Op2, ↓k_Fz, ↓k_wNil, ↓k_wCons, ↓k_Tup, ↓k_Lst, ↓k_oNo, ↓k_oPart, ↓k_Sl, ↓k_sNil, ↓k_sCons, ↓k_CB, ↓k_tYes, ↓k_tTst, ↓k_tAnd, ↓k_tOr, ↓k_tNot, ↓k_If, ↓k_And, ↓k_Or, ↓k_Not, ↓k_Neg, ↓k_Chn, ↓k_Call, ↓k_Call0, ↓k_wPerm, ↓k_iItems, ↓k_iRng1, ↓k_iRng2, ↓k_iZip, ↓k_iEnum, ↓k_iEnz, ↓k_ifC, ↓k_Lrg1, ↓k_parC, ↓k_starC, ↓k_setC, ↓k_setC2, ↓k_augC, ↓k_lcb, ↓k_Lc, ↓k_forC, ↓str_lit, ↓fz_val, ↓fz_seq, ↓rr_val, ↓rr_own, ↓sv_val, ↓sv_own, ↓asI_int, ↓asB_bl, ↓items_tup, ↓items_lst, ↓un2_tup, ↓un3_tup, ↓un5_tup, ↓uq2_tup, ↓uq3_tup, ↓uq2_lst, ↓uq3_lst, ↓uq4_tup, ↓uq5_tup, ↓star_tup, ↓star_lst, ↓pr2_2, ↓zip2_tup, ↓zip2_lst, ↓enz_2, ↓rng1_int, ↓rng2_int, ↓lrg1_int, ↓req_T, ↓ret_at, ↓raise_at, ↓call_ret, ↓call0_ret, ↓call_raise, ↓pm_0, ↓pm_01, ↓pm_10, ↓pm_012, ↓pm_021, ↓pm_102, ↓pm_120, ↓pm_201, ↓pm_210, ↓pm_0123, ↓pm_0132, ↓pm_0213, ↓pm_0231, ↓pm_0312, ↓pm_0321, ↓pm_1023, ↓pm_1032, ↓pm_1203, ↓pm_1230, ↓pm_1302, ↓pm_1320, ↓pm_2013, ↓pm_2031, ↓pm_2103, ↓pm_2130, ↓pm_2301, ↓pm_2310, ↓pm_3012, ↓pm_3021, ↓pm_3102, ↓pm_3120, ↓pm_3201, ↓pm_3210, ↓o_sub, ↓o_lt, ↓o_le, ↓o_gt, ↓o_ge, ↓o_mod, ↓o_fdiv, ↓o_pow, ↓o_mul, ↓o_rep, ↓o_repT, ↓o_add, ↓o_addS, ↓o_addT, ↓o_addLL, ↓o_addLO, ↓o_addOL, ↓o_addOO, ↓o_ixT, ↓o_ixL, ↓o_ixO, ↓atS_0, ↓atS_1, ↓atS_2, ↓atS_3, ↓atS_4, ↓slc_T, ↓slc_L, ↓slc_O, ↓ext_own, ↓ext_OO, ↓lm_own, ↓append_own, ↓b_lenT, ↓b_lenL, ↓b_lenO, ↓b_lenS, ↓b_tupT, ↓b_tupL, ↓b_tupO, ↓b_lstT, ↓b_lstL, ↓b_lstO, ↓b_min2, ↓b_max2, ↓b_abs, ↓b_sumO, ↓b_sumL, ↓b_sumT, ↓b_anyO, ↓b_allO, ↓o_eqI, ↓o_neI, ↓o_eqSt, ↓o_neSt, ↓o_eqT, ↓o_neT, ↓isN_non, ↓isN_int, ↓isN_str, ↓isN_tup, ↓isN_lst, ↓nIsN_non, ↓nIsN_int, ↓nIsN_str, ↓nIsN_tup, ↓nIsN_lst, if_true, if_false, Bool.not_true, Bool.not_false, Bool.false_eq_true, decide_true, decide_false, String.reduceEq, decide_eq_true_eq, Int.toNat_natCast, List.length_map, List.length_cons, List.length_nil, sizeL, Nat.zero_add, Nat.reduceAdd, Nat.reduceLeDiff]
    rfl
  | tap n c =>
    obtain ⟨n0, n1, hc⟩ := hd
    have hc2 : c < cs.length := by omega
    simp only [Dd.w, ↓k_V, ↓k_C, ↓k_Op2, ↓k_Fz, ↓k_wNil, ↓k_wCons, ↓k_Tup, ↓k_Lst, ↓k_oNo, ↓k_oPart, ↓k_Sl, ↓k_sNil, ↓k_sCons, ↓k_CB, ↓k_tYes, ↓k_tTst, ↓k_tAnd, ↓k_tOr, ↓k_tNot, ↓k_If, ↓k_And, ↓k_Or, ↓k_Not, ↓k_Neg, ↓k_Chn, ↓k_Call, ↓k_Call0, ↓k_wPerm, ↓k_iItems, ↓k_iRng1, ↓k_iRng2, ↓k_iZip, ↓k_iEnum, ↓k_iEnz, ↓k_ifC, ↓k_Lrg1, ↓k_parC, ↓k_starC, ↓k_setC, ↓k_setC2, ↓k_augC, ↓k_lcb, ↓k_Lc, ↓k_forC, ↓str_lit, ↓fz_val, ↓fz_seq, ↓rr_val, ↓rr_own, ↓sv_val, ↓sv_own, ↓asI_int, ↓asB_bl, ↓items_tup, ↓items_lst, ↓un2_tup, ↓un3_tup, ↓un5_tup, ↓uq2_tup, ↓uq3_tup, ↓uq2_lst, ↓uq3_lst, ↓uq4_tup, ↓uq5_tup, ↓star_tup, ↓star_lst, ↓pr2_2, ↓zip2_tup, ↓zip2_lst, ↓enz_2, ↓rng1_int, ↓rng2_int, ↓lrg1_int, ↓req_T, ↓ret_at, ↓raise_at, ↓call_ret, ↓call0_ret, ↓call_raise, ↓pm_0, ↓pm_01, ↓pm_10, ↓pm_012, ↓pm_021, ↓pm_102, ↓pm_120, ↓pm_201, ↓pm_210, ↓pm_0123, ↓pm_0132, ↓pm_0213, ↓pm_0231, ↓pm_0312, ↓pm_0321, ↓pm_1023, ↓pm_1032, ↓pm_1203, ↓pm_1230, ↓pm_1302, ↓pm_1320, ↓pm_2013, ↓pm_2031, ↓pm_2103, ↓pm_2130, ↓pm_2301, ↓pm_2310, ↓pm_3012, ↓pm_3021, ↓pm_3102, ↓pm_3120, ↓pm_3201, ↓pm_3210, ↓o_sub, ↓o_lt, ↓o_le, ↓o_gt, ↓o_ge, ↓o_mod, ↓o_fdiv, ↓o_pow, ↓o_mul, ↓o_rep, ↓o_repT, ↓o_add, ↓o_addS, ↓o_addT, ↓o_addLL, ↓o_addLO, ↓o_addOL, ↓o_addOO, ↓o_ixT, ↓o_ixL, ↓o_ixO, ↓atS_0, ↓atS_1, ↓atS_2, ↓atS_3, ↓atS_4, ↓slc_T, ↓slc_L, ↓slc_O, ↓ext_own, ↓ext_OO, ↓lm_own, ↓append_own, ↓b_lenT, ↓b_lenL, ↓b_lenO, ↓b_lenS, ↓b_tupT, ↓b_tupL, ↓b_tupO, ↓b_lstT, ↓b_lstL, ↓b_lstO, ↓b_min2, ↓b_max2, ↓b_abs, ↓b_sumO, ↓b_sumL, ↓b_sumT, ↓b_anyO, ↓b_allO, ↓o_eqI, ↓o_neI, ↓o_eqSt, ↓o_neSt, ↓o_eqT, ↓o_neT, ↓isN_non, ↓isN_int, ↓isN_str, ↓isN_tup, ↓isN_lst, ↓nIsN_non, ↓nIsN_int, ↓nIsN_str, ↓nIsN_tup, ↓nIsN_lst, if_true, if_false, Bool.not_true, Bool.not_false, Bool.false_eq_true, decide_true, decide_false, String.reduceEq, decide_eq_true_eq, Int.toNat_natCast, List.length_map, List.length_cons, List.length_nil, sizeL, Nat.zero_add, Nat.reduceAdd, Nat.reduceLeDiff, ↓atS_ints hc, ↓atS_ints hc2]
    rw [set_own (by rw [List.length_map]; exact hc2), set_map]
    simp only [↓k_V, ↓k_C, ↓k_Op2, ↓k_Fz, ↓k_wNil, ↓k_wCons, ↓k_Tup, ↓k_Lst, ↓k_oNo, ↓k_oPart, ↓k_Sl, ↓k_sNil, ↓k_sCons, ↓k_CB, ↓k_tYes, ↓k_tTst, ↓k_tAnd, ↓k_tOr, ↓k_tNot, ↓k_If, ↓k_And, ↓k_Or, ↓k_Not, ↓k_Neg, ↓k_Chn, ↓k_Call, ↓k_Call0, ↓k_wPerm, ↓k_iItems, ↓k_iRng1, ↓k_iRng2, ↓k_iZip, ↓k_iEnum, ↓k_iEnz, ↓k_ifC, ↓k_Lrg1, ↓k_parC, ↓k_starC, ↓k_setC, ↓k_setC2, ↓k_augC, ↓k_lcb, ↓k_Lc, ↓k_forC, ↓str_lit, ↓fz_val, ↓fz_seq, ↓rr_val, ↓rr_own, ↓sv_val, ↓sv_own, ↓asI_int, ↓asB_bl, ↓items_tup, ↓items_lst, ↓un2_tup, ↓un3_tup, ↓un5_tup, ↓uq2_tup, ↓uq3_tup, ↓uq2_lst, ↓uq3_lst, ↓uq4_tup, ↓uq5_tup, ↓star_tup, ↓star_lst, ↓pr2_2, ↓zip2_tup, ↓zip2_lst, ↓enz_2, ↓rng1_int, ↓rng2_int, ↓lrg1_int, ↓req_T, ↓ret_at, ↓raise_at, ↓call_ret, ↓call0_ret, ↓call_raise, ↓pm_0, ↓pm_01, ↓pm_10, ↓pm_012, ↓pm_021, ↓pm_102, ↓pm_120, ↓pm_201, ↓pm_210, ↓pm_0123, ↓pm_0132, ↓pm_0213, ↓pm_0231, ↓pm_0312, ↓pm_0321, ↓pm_1023, ↓pm_1032, ↓pm_1203, ↓pm_1230, ↓pm_1302, ↓pm_1320, ↓pm_2013, ↓pm_2031, ↓pm_2103, ↓pm_2130, ↓pm_2301, ↓pm_2310, ↓pm_3012, ↓pm_3021, ↓pm_3102, ↓pm_3120, ↓pm_3201, ↓pm_3210, ↓o_sub, ↓o_lt, ↓o_le, ↓o_gt, ↓o_ge, ↓o_mod, ↓o_fdiv, ↓o_pow, ↓o_mul, ↓o_rep, ↓o_repT, ↓o_add, ↓o_addS, ↓o_addT, ↓o_addLL, ↓o_addLO, ↓o_addOL, ↓o_addOO, ↓o_ixT, ↓o_ixL, ↓o_ixO, ↓atS_0, ↓atS_1, ↓atS_2, ↓atS_3, ↓atS_4, ↓slc_T, ↓slc_L, ↓slc_O, ↓ext_own, ↓ext_OO, ↓lm_own, ↓append_own, ↓b_lenT, ↓b_lenL, ↓b_lenO, ↓b_lenS, ↓b_tupT, ↓b_tupL, ↓b_tupO, ↓b_lstT, ↓b_lstL, ↓b_lstO, ↓b_min2, ↓b_max2, ↓b_abs, ↓b_sumO, ↓b_sumL, ↓b_sumT, ↓b_anyO, ↓b_allO, ↓o_eqI, ↓o_neI, ↓o_eqSt, ↓o_neSt, ↓o_eqT, ↓o_neT, ↓isN_non, ↓isN_int, ↓isN_str, ↓isN_tup, ↓isN_lst, ↓nIsN_non, ↓nIsN_int, ↓nIsN_str, ↓nIsN_tup, ↓nIsN_lst, if_true, if_false, Bool.not_true, Bool.not_false, Bool.false_eq_true, decide_true, decide_false, String.reduceEq, decide_eq_true_eq, Int.toNat_natCast, List.length_map, List.length_cons, List.length_nil, sizeL, Nat.zero_add, Nat.reduceAdd, Nat.reduceLeDiff]
    rfl
  | drain n c =>
    obtain ⟨n0, n1, hc⟩ := hd
    have hc2 : c < cs.length := by omega
    simp only [Dd.w, ↓k_V, ↓k_C, ↓k_Op2, ↓k_Fz, ↓k_wNil, ↓k_wCons, ↓k_Tup, ↓k_Lst, ↓k_oNo, ↓k_oPart, ↓k_Sl, ↓k_sNil, ↓k_sCons, ↓k_CB, ↓k_tYes, ↓k_tTst, ↓k_tAnd, ↓k_tOr, ↓k_tNot, ↓k_If, ↓k_And, ↓k_Or, ↓k_Not, ↓k_Neg, ↓k_Chn, ↓k_Call, ↓k_Call0, ↓k_wPerm, ↓k_iItems, ↓k_iRng1, ↓k_iRng2, ↓k_iZip, ↓k_iEnum, ↓k_iEnz, ↓k_ifC, ↓k_Lrg1, ↓k_parC, ↓k_starC, ↓k_setC, ↓k_setC2, ↓k_augC, ↓k_lcb, ↓k_Lc, ↓k_forC, ↓str_lit, ↓fz_val, ↓fz_seq, ↓rr_val, ↓rr_own, ↓sv_val, ↓sv_own, ↓asI_int, ↓asB_bl, ↓items_tup, ↓items_lst, ↓un2_tup, ↓un3_tup, ↓un5_tup, ↓uq2_tup, ↓uq3_tup, ↓uq2_lst, ↓uq3_lst, ↓uq4_tup, ↓uq5_tup, ↓star_tup, ↓star_lst, ↓pr2_2, ↓zip2_tup, ↓zip2_lst, ↓enz_2, ↓rng1_int, ↓rng2_int, ↓lrg1_int, ↓req_T, ↓ret_at, ↓raise_at, ↓call_ret, ↓call0_ret, ↓call_raise, ↓pm_0, ↓pm_01, ↓pm_10, ↓pm_012, ↓pm_021, ↓pm_102, ↓pm_120, ↓pm_201, ↓pm_210, ↓pm_0123, ↓pm_0132, ↓pm_0213, ↓pm_0231, ↓pm_0312, ↓pm_0321, ↓pm_1023, ↓pm_1032, ↓pm_1203, ↓pm_1230, ↓pm_1302, ↓pm_1320, ↓pm_2013, ↓pm_2031, ↓pm_2103, ↓pm_2130, ↓pm_2301, ↓pm_2310, ↓pm_3012, ↓pm_3021, ↓pm_3102, ↓pm_3120, ↓pm_3201, ↓pm_3210, ↓o_sub, ↓o_lt, ↓o_le, ↓o_gt, ↓o_ge, ↓o_mod, ↓o_fdiv, ↓o_pow, ↓o_mul, ↓o_rep, ↓o_repT, ↓o_add, ↓o_addS, ↓o_addT, ↓o_addLL, ↓o_addLO, ↓o_addOL, ↓o_addOO, ↓o_ixT, ↓o_ixL, ↓o_ixO, ↓atS_0, ↓atS_1, ↓atS_2, ↓atS_3, ↓atS_4, ↓slc_T, ↓slc_L, ↓slc_O, ↓ext_own, ↓ext_OO, ↓lm_own, ↓append_own, ↓b_lenT, ↓b_lenL, ↓b_lenO, ↓b_lenS, ↓b_tupT, ↓b_tupL, ↓b_tupO, ↓b_lstT, ↓b_lstL, ↓b_lstO, ↓b_min2, ↓b_max2, ↓b_abs, ↓b_sumO, ↓b_sumL, ↓b_sumT, ↓b_anyO, ↓b_allO, ↓o_eqI, ↓o_neI, ↓o_eqSt, ↓o_neSt, ↓o_eqT, ↓o_neT, ↓isN_non, ↓isN_int, ↓isN_str, ↓isN_tup, ↓isN_lst, ↓nIsN_non, ↓nIsN_int, ↓nIsN_str, ↓nIsN_tup, ↓nIsN_lst, if_true, if_false, Bool.not_true, Bool.not_false, Bool.false_eq_true, decide_true, decide_false, String.reduceEq, decide_eq_true_eq, Int.toNat_natCast, List.length_map, List.length_cons, List.length_nil, sizeL, Nat.zero_add, Nat.reduceAdd, Nat.reduceLeDiff, ↓atS_ints hc, ↓atS_ints hc2]
    rw [set_own (by rw [List.length_map]; exact hc2), set_map]
    simp only [↓k_V, ↓k_C, ↓k_Op2, ↓k_Fz, ↓k_wNil, ↓k_wCons, ↓k_Tup, ↓k_Lst, ↓k_oNo, ↓k_oPart, ↓k_Sl, ↓k_sNil, ↓k_sCons, ↓k_CB, ↓k_tYes, ↓k_tTst, ↓k_tAnd, ↓k_tOr, ↓k_tNot, ↓k_If, ↓k_And, ↓k_Or, ↓k_Not, ↓k_Neg, ↓k_Chn, ↓k_Call, ↓k_Call0, ↓k_wPerm, ↓k_iItems, ↓k_iRng1, ↓k_iRng2, ↓k_iZip, ↓k_iEnum, ↓k_iEnz, ↓k_ifC, ↓k_Lrg1, ↓k_parC, ↓k_starC, ↓k_setC, ↓k_setC2, ↓k_augC, ↓k_lcb, ↓k_Lc, ↓k_forC, ↓str_lit, ↓fz_val, ↓fz_seq, ↓rr_val, ↓rr_own, ↓sv_val, ↓sv_own, ↓asI_int, ↓asB_bl, ↓items_tup, ↓items_lst, ↓un2_tup, ↓un3_tup, ↓un5_tup, ↓uq2_tup, ↓uq3_tup, ↓uq2_lst, ↓uq3_lst, ↓uq4_tup, ↓uq5_tup, ↓star_tup, ↓star_lst, ↓pr2_2, ↓zip2_tup, ↓zip2_lst, ↓enz_2, ↓rng1_int, ↓rng2_int, ↓lrg1_int, ↓req_T, ↓ret_at, ↓raise_at, ↓call_ret, ↓call0_ret, ↓call_raise, ↓pm_0, ↓pm_01, ↓pm_10, ↓pm_012, ↓pm_021, ↓pm_102, ↓pm_120, ↓pm_201, ↓pm_210, ↓pm_0123, ↓pm_0132, ↓pm_0213, ↓pm_0231, ↓pm_0312, ↓pm_0321, ↓pm_1023, ↓pm_1032, ↓pm_1203, ↓pm_1230, ↓pm_1302, ↓pm_1320, ↓pm_2013, ↓pm_2031, ↓pm_2103, ↓pm_2130, ↓pm_2301, ↓pm_2310, ↓pm_3012, ↓pm_3021, ↓pm_3102, ↓pm_3120, ↓pm_3201, ↓pm_3210, ↓o_sub, ↓o_lt, ↓o_le, ↓o_gt, ↓o_ge, ↓o_mod, ↓o_fdiv, ↓o_pow, ↓o_mul, ↓o_rep, ↓o_repT, ↓o_add, ↓o_addS, ↓o_addT, ↓o_addLL, ↓o_addLO, ↓o_addOL, ↓o_addOO, ↓o_ixT, ↓o_ixL, ↓o_ixO, ↓atS_0, ↓atS_1, ↓atS_2, ↓atS_3, ↓atS_4, ↓slc_T, ↓slc_L, ↓slc_O, ↓ext_own, ↓ext_OO, ↓lm_own, ↓append_own, ↓b_lenT, ↓b_lenL, ↓b_lenO, ↓b_lenS, ↓b_tupT, ↓b_tupL, ↓b_tupO, ↓b_lstT, ↓b_lstL, ↓b_lstO, ↓b_min2, ↓b_max2, ↓b_abs, ↓b_sumO, ↓b_sumL, ↓b_sumT, ↓b_anyO, ↓b_allO, ↓o_eqI, ↓o_neI, ↓o_eqSt, ↓o_neSt, ↓o_eqT, ↓o_neT, ↓isN_non, ↓isN_int, ↓isN_str, ↓isN_tup, ↓isN_lst, ↓nIsN_non, ↓nIsN_int, ↓nIsN_str, ↓nIsN_tup, ↓nIsN_lst, if_true, if_false, Bool.not_true, Bool.not_false, Bool.false_eq_true, decide_true, decide_false, String.reduceEq, decide_eq_true_eq, Int.toNat_natCast, List.length_map, List.length_cons, List.length_nil, sizeL, Nat.zero_add, Nat.reduceAdd, Nat.reduceLeDiff]
    rfl
  | over n cs' =>
    obtain ⟨n0, n1, c1, c2, c3, c4⟩ := hd
    obtain ⟨c, r, rfl⟩ : ∃ c r, cs' = c :: r := by
      cases cs' with
      | nil => simp at c1
      | cons c r => exact ⟨c, r, rfl⟩
    have hc2 : c < cs.length := by rw [hl]; exact c4 c (by simp)
    simp only [Dd.w, ↓k_V, ↓k_C, ↓k_Op2, ↓k_Fz, ↓k_wNil, ↓k_wCons, ↓k_Tup, ↓k_Lst, ↓k_oNo, ↓k_oPart, ↓k_Sl, ↓k_sNil, ↓k_sCons, ↓k_CB, ↓k_tYes, ↓k_tTst, ↓k_tAnd, ↓k_tOr, ↓k_tNot, ↓k_If, ↓k_And, ↓k_Or, ↓k_Not, ↓k_Neg, ↓k_Chn, ↓k_Call, ↓k_Call0, ↓k_wPerm, ↓k_iItems, ↓k_iRng1, ↓k_iRng2, ↓k_iZip, ↓k_iEnum, ↓k_iEnz, ↓k_ifC, ↓k_Lrg1, ↓k_parC, ↓k_starC, ↓k_setC, ↓k_setC2, ↓k_augC, ↓k_lcb, ↓k_Lc, ↓k_forC, ↓str_lit, ↓fz_val, ↓fz_seq, ↓rr_val, ↓rr_own, ↓sv_val, ↓sv_own, ↓asI_int, ↓asB_bl, ↓items_tup, ↓items_lst, ↓un2_tup, ↓un3_tup, ↓un5_tup, ↓uq2_tup, ↓uq3_tup, ↓uq2_lst, ↓uq3_lst, ↓uq4_tup, ↓uq5_tup, ↓star_tup, ↓star_lst, ↓pr2_2, ↓zip2_tup, ↓zip2_lst, ↓enz_2, ↓rng1_int, ↓rng2_int, ↓lrg1_int, ↓req_T, ↓ret_at, ↓raise_at, ↓call_ret, ↓call0_ret, ↓call_raise, ↓pm_0, ↓pm_01, ↓pm_10, ↓pm_012, ↓pm_021, ↓pm_102, ↓pm_120, ↓pm_201, ↓pm_210, ↓pm_0123, ↓pm_0132, ↓pm_0213, ↓pm_0231, ↓pm_0312, ↓pm_0321, ↓pm_1023, ↓pm_1032, ↓pm_1203, ↓pm_1230, ↓pm_1302, ↓pm_1320, ↓pm_2013, ↓pm_2031, ↓pm_2103, ↓pm_2130, ↓pm_2301, ↓pm_2310, ↓pm_3012, ↓pm_3021, ↓pm_3102, ↓pm_3120, ↓pm_3201, ↓pm_3210, ↓o_sub, ↓o_lt, ↓o_le, ↓o_gt, ↓o_ge, ↓o_mod, ↓o_fdiv, ↓o_pow, ↓o_mul, ↓o_rep, ↓o_repT, ↓o_add, ↓o_addS, ↓o_addT, ↓o_addLL, ↓o_addLO, ↓o_addOL, ↓o_addOO, ↓o_ixT, ↓o_ixL, ↓o_ixO, ↓atS_0, ↓atS_1, ↓atS_2, ↓atS_3, ↓atS_4, ↓slc_T, ↓slc_L, ↓slc_O, ↓ext_own, ↓ext_OO, ↓lm_own, ↓append_own, ↓b_lenT, ↓b_lenL, ↓b_lenO, ↓b_lenS, ↓b_tupT, ↓b_tupL, ↓b_tupO, ↓b_lstT, ↓b_lstL, ↓b_lstO, ↓b_min2, ↓b_max2, ↓b_abs, ↓b_sumO, ↓b_sumL, ↓b_sumT, ↓b_anyO, ↓b_allO, ↓o_eqI, ↓o_neI, ↓o_eqSt, ↓o_neSt, ↓o_eqT, ↓o_neT, ↓isN_non, ↓isN_int, ↓isN_str, ↓isN_tup, ↓isN_lst, ↓nIsN_non, ↓nIsN_int, ↓nIsN_str, ↓nIsN_tup, ↓nIsN_lst, if_true, if_false, Bool.not_true, Bool.not_false, Bool.false_eq_true, decide_true, decide_false, String.reduceEq, decide_eq_true_eq, Int.toNat_natCast, List.length_map, List.length_cons, List.length_nil, sizeL, Nat.zero_add, Nat.reduceAdd, Nat.reduceLeDiff, List.map_cons, ↓atS_ints hc2]
    rw [poured_along_ok hl l2 c4, call_ret, Dd.pour, List.headD_cons]
  | down n cs' =>
    obtain ⟨n0, n1, c1, c2, c3, c4⟩ := hd
    obtain ⟨c, r, rfl⟩ : ∃ c r, cs' = c :: r := by
      cases cs' with
      | nil => simp at c1
      | cons c r => exact ⟨c, r, rfl⟩
    have hc2 : c < cs.length := by rw [hl]; exact c4 c (by simp)
    simp only [Dd.w, ↓k_V, ↓k_C, ↓k_Op2, ↓k_Fz, ↓k_wNil, ↓k_wCons, ↓k_Tup, ↓k_Lst, ↓k_oNo, ↓k_oPart, ↓k_Sl, ↓k_sNil, ↓k_sCons, ↓k_CB, ↓k_tYes, ↓k_tTst, ↓k_tAnd, ↓k_tOr, ↓k_tNot, ↓k_If, ↓k_And, ↓k_Or, ↓k_Not, ↓k_Neg, ↓k_Chn, ↓k_Call, ↓k_Call0, ↓k_wPerm, ↓k_iItems, ↓k_iRng1, ↓k_iRng2, ↓k_iZip, ↓k_iEnum, ↓k_iEnz, ↓k_ifC, ↓k_Lrg1, ↓k_parC, ↓k_starC, ↓k_setC, ↓k_setC2, ↓k_augC, ↓k_lcb, ↓k_Lc, ↓k_forC, ↓str_lit, ↓fz_val, ↓fz_seq, ↓rr_val, ↓rr_own, ↓sv_val, ↓sv_own, ↓asI_int, ↓asB_bl, ↓items_tup, ↓items_lst, ↓un2_tup, ↓un3_tup, ↓un5_tup, ↓uq2_tup, ↓uq3_tup, ↓uq2_lst, ↓uq3_lst, ↓uq4_tup, ↓uq5_tup, ↓star_tup, ↓star_lst, ↓pr2_2, ↓zip2_tup, ↓zip2_lst, ↓enz_2, ↓rng1_int, ↓rng2_int, ↓lrg1_int, ↓req_T, ↓ret_at, ↓raise_at, ↓call_ret, ↓call0_ret, ↓call_raise, ↓pm_0, ↓pm_01, ↓pm_10, ↓pm_012, ↓pm_021, ↓pm_102, ↓pm_120, ↓pm_201, ↓pm_210, ↓pm_0123, ↓pm_0132, ↓pm_0213, ↓pm_0231, ↓pm_0312, ↓pm_0321, ↓pm_1023, ↓pm_1032, ↓pm_1203, ↓pm_1230, ↓pm_1302, ↓pm_1320, ↓pm_2013, ↓pm_2031, ↓pm_2103, ↓pm_2130, ↓pm_2301, ↓pm_2310, ↓pm_3012, ↓pm_3021, ↓pm_3102, ↓pm_3120, ↓pm_3201, ↓pm_3210, ↓o_sub, ↓o_lt, ↓o_le, ↓o_gt, ↓o_ge, ↓o_mod, ↓o_fdiv, ↓o_pow, ↓o_mul, ↓o_rep, ↓o_repT, ↓o_add, ↓o_addS, ↓o_addT, ↓o_addLL, ↓o_addLO, ↓o_addOL, ↓o_addOO, ↓o_ixT, ↓o_ixL, ↓o_ixO, ↓atS_0, ↓atS_1, ↓atS_2, ↓atS_3, ↓atS_4, ↓slc_T, ↓slc_L, ↓slc_O, ↓ext_own, ↓ext_OO, ↓lm_own, ↓append_own, ↓b_lenT, ↓b_lenL, ↓b_lenO, ↓b_lenS, ↓b_tupT, ↓b_tupL, ↓b_tupO, ↓b_lstT, ↓b_lstL, ↓b_lstO, ↓b_min2, ↓b_max2, ↓b_abs, ↓b_sumO, ↓b_sumL, ↓b_sumT, ↓b_anyO, ↓b_allO, ↓o_eqI, ↓o_neI, ↓o_eqSt, ↓o_neSt, ↓o_eqT, ↓o_neT, ↓isN_non, ↓isN_int, ↓isN_str, ↓isN_tup, ↓isN_lst, ↓nIsN_non, ↓nIsN_int, ↓nIsN_str, ↓nIsN_tup, ↓nIsN_lst, if_true, if_false, Bool.not_true, Bool.not_false, Bool.false_eq_true, decide_true, decide_false, String.reduceEq, decide_eq_true_eq, Int.toNat_natCast, List.length_map, List.length_cons, List.length_nil, sizeL, Nat.zero_add, Nat.reduceAdd, Nat.reduceLeDiff, List.map_cons, ↓atS_ints hc2]
    rw [poured_along_ok hl l2 c4, call_ret, Dd.pour, List.headD_cons]
theorem poured_ok {ss cs : List Int} {d : Dd} (hs : SzOk ss) (hc : CtOk ss cs) (hd : d.ok ss) : m_poured [.tup (ss.map .int), .tup (cs.map .int), d.w] = ret (.val (.tup ((d.pour ss cs).map .int))) := by
  show mf_poured _ _ _ = _
  unfold mf_poured
  simp only [↓k_V, ↓k_C, ↓k_Op2, ↓k_Fz, ↓k_wNil, ↓k_wCons, ↓k_Tup, ↓k_Lst, ↓k_oNo, ↓k_oPart, ↓k_Sl, ↓k_sNil, ↓k_sCons, ↓k_CB, ↓k_tYes, ↓k_tTst, ↓k_tAnd, ↓k_tOr, ↓k_tNot, ↓k_If, ↓k_And, ↓k_Or, ↓k_Not, ↓k_Neg, ↓k_Chn, ↓k_Call, ↓k_Call0, ↓k_wPerm, ↓k_iItems, ↓k_iRng1, ↓k_iRng2, ↓k_iZip, ↓k_iEnum, ↓k_iEnz, ↓k_ifC, ↓k_Lrg1, ↓k_parC, ↓k_starC, ↓k_setC, ↓k_setC2, ↓k_augC, ↓k_lcb, ↓k_Lc, ↓k_forC, ↓str_lit, ↓fz_val, ↓fz_seq, ↓rr_val, ↓rr_own, ↓sv_val, ↓sv_own, ↓asI_int, ↓asB_bl, ↓items_tup, ↓items_lst, ↓un2_tup, ↓un3_tup, ↓un5_tup, ↓uq2_tup, ↓uq3_tup, ↓uq2_lst, ↓uq3_lst, ↓uq4_tup, ↓uq5_tup, ↓star_tup, ↓star_lst, ↓pr2_2, ↓zip2_tup, ↓zip2_lst, ↓enz_2, ↓rng1_int, ↓rng2_int, ↓lrg1_int, ↓req_T, ↓ret_at, ↓raise_at, ↓call_ret, ↓call0_ret, ↓call_raise, ↓pm_0, ↓pm_01, ↓pm_10, ↓pm_012, ↓pm_021, ↓pm_102, ↓pm_120, ↓pm_201, ↓pm_210, ↓pm_0123, ↓pm_0132, ↓pm_0213, ↓pm_0231, ↓pm_0312, ↓pm_0321, ↓pm_1023, ↓pm_1032, ↓pm_1203, ↓pm_1230, ↓pm_1302, ↓pm_1320, ↓pm_2013, ↓pm_2031, ↓pm_2103, ↓pm_2130, ↓pm_2301, ↓pm_2310, ↓pm_3012, ↓pm_3021, ↓pm_3102, ↓pm_3120, ↓pm_3201, ↓pm_3210, ↓o_sub, ↓o_lt, ↓o_le, ↓o_gt, ↓o_ge, ↓o_mod, ↓o_fdiv, ↓o_pow, ↓o_mul, ↓o_rep, ↓o_repT, ↓o_add, ↓o_addS, ↓o_addT, ↓o_addLL, ↓o_addLO, ↓o_addOL, ↓o_addOO, ↓o_ixT, ↓o_ixL, ↓o_ixO, ↓atS_0, ↓atS_1, ↓atS_2, ↓atS_3, ↓atS_4, ↓slc_T, ↓slc_L, ↓slc_O, ↓ext_own, ↓ext_OO, ↓lm_own, ↓append_own, ↓b_lenT, ↓b_lenL, ↓b_lenO, ↓b_lenS, ↓b_tupT, ↓b_tupL, ↓b_tupO, ↓b_lstT, ↓b_lstL, ↓b_lstO, ↓b_min2, ↓b_max2, ↓b_abs, ↓b_sumO, ↓b_sumL, ↓b_sumT, ↓b_anyO, ↓b_allO, ↓o_eqI, ↓o_neI, ↓o_eqSt, ↓o_neSt, ↓o_eqT, ↓o_neT, ↓isN_non, ↓isN_int, ↓isN_str, ↓isN_tup, ↓isN_lst, ↓nIsN_non, ↓nIsN_int, ↓nIsN_str, ↓nIsN_tup, ↓nIsN_lst, if_true, if_false, Bool.not_true, Bool.not_false, Bool.false_eq_true, decide_true, decide_false, String.reduceEq, decide_eq_true_eq, Int.toNat_natCast, List.length_map, List.length_cons, List.length_nil, sizeL, Nat.zero_add, Nat.reduceAdd, Nat.reduceLeDiff, look_counts_ok hs hc, look_deed_ok hs hd, counts_behind_ok hs hc.1 hd]
/-! rows beside one another -/
theorem zipWith_map {α : Type} {f : Int → Int → α} {as bs : List Int} : (as.zip bs).map (fun p => f p.1 p.2) = List.zipWith f as bs := by
  rw [List.zip, List.map_zipWith]
theorem lesser_ok {as bs : List Int} (hl : as.length ≤ 1000) : m_lesser [.tup (as.map .int), .tup (bs.map .int)] = ret (.val (.tup ((List.zipWith min as bs).map .int))) := by
  show mf_lesser _ _ = _
  unfold mf_lesser
  simp only [k_CB, k_sCons, k_sNil, k_Lc, k_iZip, k_wCons, k_wNil, k_Fz, k_V, fz_val, zip2_tup, zip_map]
  rw [lc_all (fun p : Int × Int => W.tup [.int p.1, .int p.2]) (fun p => .int (min p.1 p.2)) _ (fun p _ kk => ?_) (by simp only [List.length_zip, sizeL]; omega)]
  · rw [b_tupO, ← zipWith_map, List.map_map]
    rfl
  · simp only [un2_tup, k_lcb, k_tYes, if_true, k_Fz, k_CB, k_sCons, k_sNil, k_V, b_min2, fz_val]
theorem within_ok {as bs : List Int} (hl : as.length ≤ 1000) : m_within [.tup (as.map .int), .tup (bs.map .int)] = ret (.val (.bl ((List.zipWith (fun a b => decide (a ≤ b)) as bs).all id))) := by
  show mf_within _ _ = _
  unfold mf_within
  simp only [k_CB, k_sCons, k_sNil, k_Lc, k_iZip, k_wCons, k_wNil, k_Fz, k_V, fz_val, zip2_tup, zip_map]
  rw [lc_all (fun p : Int × Int => W.tup [.int p.1, .int p.2]) (fun p => .bl (decide (p.1 ≤ p.2))) _ (fun p _ kk => ?_) (by simp only [List.length_zip, sizeL]; omega)]
  · rw [show (as.zip bs).map (fun p => W.bl (decide (p.1 ≤ p.2))) = ((as.zip bs).map (fun p => decide (p.1 ≤ p.2))).map W.bl by rw [List.map_map]; rfl, b_allO, zipWith_map (f := fun a b => decide (a ≤ b))]
  · simp only [un2_tup, k_lcb, k_tYes, if_true, k_Fz, k_Op2, k_V, o_le, fz_val]
end Ab
namespace Ab
open PySem PySem.Spec PyProof.Rows L2 RZ
/-! ### what pouring does: counts stay counts, more stays more, sums -/
theorem getD_set {l : List Int} {c i : Nat} {x : Int} : (l.set c x).getD i 0 = if i = c ∧ c < l.length then x else l.getD i 0 := by
  simp only [List.getD_eq_getElem?_getD, List.getElem?_set]
  by_cases h : c = i
  · subst h
    by_cases h2 : c < l.length
    · simp [h2]
    · simp [h2]
  · rw [if_neg h, if_neg (fun z => h z.1.symm)]
theorem sum_set : ∀ {l : List Int} {c : Nat} {x : Int}, c < l.length → (l.set c x).sum = l.sum - l.getD c 0 + x
  | a :: l, 0, x, _ => by simp [List.sum_cons]; omega
  | a :: l, c + 1, x, h => by
    have ih := sum_set (l := l) (c := c) (x := x) (by simpa using h)
    simp only [List.set_cons_succ, List.sum_cons, ih, List.getD_cons_succ]
    omega
/-- counts within sizes, by places -/
def Ct (ss cs : List Int) : Prop := cs.length = ss.length ∧ ∀ i, i < ss.length → 0 ≤ cs.getD i 0 ∧ cs.getD i 0 ≤ ss.getD i 0
theorem ct_iff {ss cs : List Int} : CtOk ss cs ↔ Ct ss cs := by
  constructor
  · rintro ⟨l, h⟩
    refine ⟨l, fun i hi => ?_⟩
    have := h i (cs.getD i 0) (ss.getD i 0) (getD_at (by omega)) (getD_at hi)
    exact this
  · rintro ⟨l, h⟩
    refine ⟨l, fun i c s hc hs => ?_⟩
    have hi : i < ss.length := (List.getElem?_eq_some_iff.mp hs).1
    have := h i hi
    rw [List.getD_eq_getElem?_getD, List.getD_eq_getElem?_getD, hc, hs] at this
    exact this
/-- nowhere above -/
def LeL (as bs : List Int) : Prop := as.length = bs.length ∧ ∀ i, as.getD i 0 ≤ bs.getD i 0
noncomputable instance {as bs : List Int} : Decidable (LeL as bs) := Classical.propDecidable _
theorem LeL.set {as bs : List Int} {c : Nat} {x y : Int} (h : LeL as bs) (xy : x ≤ y) : LeL (as.set c x) (bs.set c y) := by
  refine ⟨by rw [List.length_set, List.length_set]; exact h.1, fun i => ?_⟩
  rw [getD_set, getD_set, ← h.1]
  split
  · exact xy
  · exact h.2 i
theorem LeL.refl {as : List Int} : LeL as as := ⟨rfl, fun _ => Int.le_refl _⟩
theorem LeL.trans {as bs cs : List Int} (h : LeL as bs) (g : LeL bs cs) : LeL as cs := ⟨h.1.trans g.1, fun i => Int.le_trans (h.2 i) (g.2 i)⟩
theorem pour_mono_go {ss : List Int} : ∀ (r : List Nat) (p q : Int × List Int), p.1 ≤ q.1 → LeL p.2 q.2 → (r.foldl (pourStep ss) p).1 ≤ (r.foldl (pourStep ss) q).1 ∧ LeL (r.foldl (pourStep ss) p).2 (r.foldl (pourStep ss) q).2
  | [], p, q, h, g => ⟨h, g⟩
  | c :: r, p, q, h, g => by
    have z := g.2 c
    refine pour_mono_go r _ _ ?_ ?_
    · simp only [pourStep]
      omega
    · simp only [pourStep]
      exact g.set (by omega)
theorem along_mono {ss as bs : List Int} {g g' : Int} {c : Nat} {r : List Nat} (h : LeL as bs) (hg : g ≤ g') (h0 : as.getD c 0 - g ≤ bs.getD c 0 - g') : LeL (pourAlong ss as g (c :: r)) (pourAlong ss bs g' (c :: r)) := by
  obtain ⟨z1, z2⟩ := pour_mono_go (ss := ss) r (g, as.set c (as.getD c 0 - g)) (g', bs.set c (bs.getD c 0 - g')) hg (h.set h0)
  simp only [pourAlong]
  have := z2.2 c
  exact z2.set (by omega)
theorem pour_mono {ss as bs : List Int} {d : Dd} (h : LeL as bs) : LeL (d.pour ss as) (d.pour ss bs) := by
  cases d with
  | swap i j => exact (h.set (h.2 j)).set (h.2 i)
  | tap n c => have := h.2 c; exact h.set (by omega)
  | drain n c => have := h.2 c; exact h.set (by omega)
  | over n r =>
    cases r with
    | nil => exact h
    | cons c r => have := h.2 c; exact along_mono h (by simp only [List.headD_cons]; omega) (by simp only [List.headD_cons]; omega)
  | down n r =>
    cases r with
    | nil => exact h
    | cons c r => have := h.2 c; exact along_mono h (by simp only [List.headD_cons]; omega) (by simp only [List.headD_cons]; omega)
theorem step_len {ss : List Int} : ∀ (r : List Nat) (p : Int × List Int), (r.foldl (pourStep ss) p).2.length = p.2.length
  | [], _ => rfl
  | c :: r, p => by
    rw [List.foldl_cons, step_len r]
    exact pourStep_len
theorem along_len {ss cs : List Int} {g : Int} {r : List Nat} : (pourAlong ss cs g r).length = cs.length := by
  cases r with
  | nil => rfl
  | cons c r => simp only [pourAlong]; rw [List.length_set, step_len, List.length_set]
theorem pour_len {ss cs : List Int} {d : Dd} : (d.pour ss cs).length = cs.length := by
  cases d with
  | swap i j => simp [Dd.pour]
  | tap n c => simp [Dd.pour]
  | drain n c => simp [Dd.pour]
  | over n r => exact along_len
  | down n r => exact along_len
theorem step_sum {ss : List Int} : ∀ (r : List Nat) (p : Int × List Int), (∀ c ∈ r, c < p.2.length) → (r.foldl (pourStep ss) p).2.sum + (r.foldl (pourStep ss) p).1 = p.2.sum + p.1
  | [], _, _ => rfl
  | c :: r, p, h => by
    rw [List.foldl_cons, step_sum r _ fun x hx => by rw [pourStep_len]; exact h x (by simp [hx])]
    simp only [pourStep]
    rw [sum_set (h c (by simp))]
    omega
theorem along_sum {ss cs : List Int} {g : Int} {r : List Nat} (h : ∀ c ∈ r, c < cs.length) : (pourAlong ss cs g r).sum = cs.sum := by
  cases r with
  | nil => rfl
  | cons c r =>
    simp only [pourAlong]
    have hc := h c (by simp)
    rw [sum_set (by rw [step_len, List.length_set]; exact hc)]
    have z := step_sum (ss := ss) r (g, cs.set c (cs.getD c 0 - g)) fun x hx => by rw [List.length_set]; exact h x (by simp [hx])
    rw [sum_set hc] at z
    omega
theorem swap_sum {cs : List Int} {i j : Nat} (hi : i < cs.length) (hj : j < cs.length) (ne : i ≠ j) : ((cs.set i (cs.getD j 0)).set j (cs.getD i 0)).sum = cs.sum := by
  rw [sum_set (by rw [List.length_set]; exact hj), sum_set hi, getD_set, if_neg (fun z => ne z.1.symm)]
  omega
/-- neither tap nor drain -/
def Dd.still : Dd → Bool
  | .tap _ _ => false
  | .drain _ _ => false
  | _ => true
theorem pour_sum {ss cs : List Int} {d : Dd} (hl : cs.length = ss.length) (hd : d.ok ss) (st : d.still = true) : (d.pour ss cs).sum = cs.sum := by
  cases d with
  | swap i j => obtain ⟨hi, hj, ne, _⟩ := hd; exact swap_sum (by omega) (by omega) ne
  | tap n c => cases st
  | drain n c => cases st
  | over n r => obtain ⟨_, _, _, _, _, c4⟩ := hd; exact along_sum fun c hc => by rw [hl]; exact c4 c hc
  | down n r => obtain ⟨_, _, _, _, _, c4⟩ := hd; exact along_sum fun c hc => by rw [hl]; exact c4 c hc
theorem pour_gap {ss as bs : List Int} {d : Dd} (ha : as.length = ss.length) (hb : bs.length = ss.length) (h : LeL as bs) (hd : d.ok ss) : (d.pour ss bs).sum - (d.pour ss as).sum ≤ bs.sum - as.sum := by
  cases d with
  | tap n c =>
    obtain ⟨n0, n1, hc⟩ := hd
    have := h.2 c
    simp only [Dd.pour]
    rw [sum_set (by omega), sum_set (by omega)]
    omega
  | drain n c =>
    obtain ⟨n0, n1, hc⟩ := hd
    have := h.2 c
    simp only [Dd.pour]
    rw [sum_set (by omega), sum_set (by omega)]
    omega
  | swap i j => rw [pour_sum ha hd rfl, pour_sum hb hd rfl]; omega
  | over n r => rw [pour_sum ha hd rfl, pour_sum hb hd rfl]; omega
  | down n r => rw [pour_sum ha hd rfl, pour_sum hb hd rfl]; omega
/-- counts stay counts -/
theorem step_ct {ss : List Int} : ∀ (r : List Nat) (p : Int × List Int), 0 ≤ p.1 → Ct ss p.2 → (∀ c ∈ r, c < ss.length) → 0 ≤ (r.foldl (pourStep ss) p).1 ∧ (r.foldl (pourStep ss) p).1 ≤ p.1 ∧ Ct ss (r.foldl (pourStep ss) p).2
  | [], p, g, h, _ => ⟨g, Int.le_refl _, h⟩
  | c :: r, p, g, h, hr => by
    have hc := hr c (by simp)
    obtain ⟨b0, b1⟩ := h.2 c hc
    have hs : Ct ss (pourStep ss p c).2 := by
      refine ⟨by rw [pourStep_len]; exact h.1, fun i hi => ?_⟩
      simp only [pourStep]
      rw [getD_set]
      split
      · rename_i z
        obtain ⟨rfl, _⟩ := z
        omega
      · exact h.2 i hi
    have h1 : 0 ≤ (pourStep ss p c).1 ∧ (pourStep ss p c).1 ≤ p.1 := by
      simp only [pourStep]
      omega
    obtain ⟨z1, z2, z3⟩ := step_ct r (pourStep ss p c) h1.1 hs fun x hx => hr x (by simp [hx])
    exact ⟨z1, by rw [List.foldl_cons]; omega, z3⟩
theorem step_first {ss : List Int} {c : Nat} : ∀ (r : List Nat) (p : Int × List Int), c ∉ r → (r.foldl (pourStep ss) p).2.getD c 0 = p.2.getD c 0
  | [], _, _ => rfl
  | x :: r, p, h => by
    rw [List.foldl_cons, step_first r _ (fun z => h (by simp [z]))]
    simp only [pourStep]
    rw [getD_set, if_neg (fun z => h (by simp [z.1]))]
theorem along_ct {ss cs : List Int} {g : Int} {c : Nat} {r : List Nat} (h : Ct ss cs) (g0 : 0 ≤ g) (g1 : g ≤ cs.getD c 0) (nd : (c :: r).Nodup) (hr : ∀ x ∈ c :: r, x < ss.length) : Ct ss (pourAlong ss cs g (c :: r)) := by
  have hc := hr c (by simp)
  obtain ⟨b0, b1⟩ := h.2 c hc
  have h1 : Ct ss (cs.set c (cs.getD c 0 - g)) := by
    refine ⟨by rw [List.length_set]; exact h.1, fun i hi => ?_⟩
    rw [getD_set]
    split
    · rename_i z
      obtain ⟨rfl, _⟩ := z
      omega
    · exact h.2 i hi
  obtain ⟨z1, z2, z3⟩ := step_ct r (g, cs.set c (cs.getD c 0 - g)) g0 h1 fun x hx => hr x (by simp [hx])
  have z4 := step_first (ss := ss) r (g, cs.set c (cs.getD c 0 - g)) (List.nodup_cons.mp nd).1
  have z5 : (cs.set c (cs.getD c 0 - g)).getD c 0 = cs.getD c 0 - g := by rw [getD_set, if_pos ⟨rfl, by rw [h.1]; exact hc⟩]
  have z4' : (r.foldl (pourStep ss) (g, cs.set c (cs.getD c 0 - g))).2.getD c 0 = cs.getD c 0 - g := z4.trans z5
  simp only [pourAlong]
  have z2 : (r.foldl (pourStep ss) (g, cs.set c (cs.getD c 0 - g))).1 ≤ g := z2
  refine ⟨by rw [List.length_set]; exact z3.1, fun i hi => ?_⟩
  rw [getD_set]
  split
  · rename_i z
    obtain ⟨rfl, _⟩ := z
    omega
  · exact z3.2 i hi
theorem ct_set {ss cs : List Int} {c : Nat} {x : Int} (h : Ct ss cs) (h0 : 0 ≤ x) (h1 : x ≤ ss.getD c 0) : Ct ss (cs.set c x) := by
  refine ⟨by rw [List.length_set]; exact h.1, fun i hi => ?_⟩
  rw [getD_set]
  split
  · rename_i z
    obtain ⟨rfl, _⟩ := z
    exact ⟨h0, h1⟩
  · exact h.2 i hi
theorem getD_eq {ss : List Int} {i j : Nat} (h : ss[i]? = ss[j]?) : ss.getD i 0 = ss.getD j 0 := by
  rw [List.getD_eq_getElem?_getD, List.getD_eq_getElem?_getD, h]
theorem pour_ct {ss cs : List Int} {d : Dd} (hs : SzOk ss) (h : Ct ss cs) (hd : d.ok ss) : Ct ss (d.pour ss cs) := by
  cases d with
  | swap i j =>
    obtain ⟨hi, hj, ne, es⟩ := hd
    have e := getD_eq es
    have b1 := h.2 i hi
    have b2 := h.2 j hj
    exact ct_set (ct_set h b2.1 (by omega)) b1.1 (by omega)
  | tap n c =>
    obtain ⟨n0, n1, hc⟩ := hd
    have b := h.2 c hc
    exact ct_set h (by omega) (by omega)
  | drain n c =>
    obtain ⟨n0, n1, hc⟩ := hd
    have b := h.2 c hc
    exact ct_set h (by omega) (by omega)
  | over n r =>
    obtain ⟨n0, n1, c1, c2, c3, c4⟩ := hd
    cases r with
    | nil => simp at c1
    | cons c r =>
      have b := h.2 c (c4 c (by simp))
      exact along_ct h (by simp only [List.headD_cons]; omega) (by simp only [List.headD_cons]; omega) c3 c4
  | down n r =>
    obtain ⟨n0, n1, c1, c2, c3, c4⟩ := hd
    cases r with
    | nil => simp at c1
    | cons c r =>
      have b := h.2 c (c4 c (by simp))
      exact along_ct h (by simp only [List.headD_cons]; omega) (by simp only [List.headD_cons]; omega) c3 c4
/-- within, of two rows -/
theorem within_iff : ∀ {as bs : List Int}, as.length = bs.length → (((List.zipWith (fun a b => decide (a ≤ b)) as bs).all id) = true ↔ LeL as bs)
  | [], [], _ => by simp [LeL]
  | a :: as, b :: bs, h => by
    have ih := within_iff (as := as) (bs := bs) (by simpa using h)
    simp only [List.zipWith_cons_cons, List.all_cons, Bool.and_eq_true, id, decide_eq_true_eq]
    rw [ih]
    constructor
    · rintro ⟨h1, h2, h3⟩
      refine ⟨h, fun i => ?_⟩
      cases i with
      | zero => simpa using h1
      | succ i => simpa using h3 i
    · rintro ⟨h1, h2⟩
      refine ⟨by simpa using h2 0, by simpa using h1, fun i => by simpa using h2 (i + 1)⟩
  | [], _ :: _, h => by simp at h
  | _ :: _, [], h => by simp at h
theorem min_le : ∀ {as bs : List Int}, as.length = bs.length → LeL (List.zipWith min as bs) bs
  | [], [], _ => LeL.refl
  | a :: as, b :: bs, h => by
    have ih := min_le (as := as) (bs := bs) (by simpa using h)
    refine ⟨by simp only [List.length_zipWith, List.length_cons] at h ⊢; omega, fun i => ?_⟩
    cases i with
    | zero => simp; omega
    | succ i => simpa using ih.2 i
  | [], _ :: _, h => by simp at h
  | _ :: _, [], h => by simp at h
theorem getD_zip {f : Int → Int → Int} {as bs : List Int} {i : Nat} (ha : i < as.length) (hb : i < bs.length) : (List.zipWith f as bs).getD i 0 = f (as.getD i 0) (bs.getD i 0) := by
  simp only [List.getD_eq_getElem?_getD, List.getElem?_zipWith, List.getElem?_eq_getElem ha, List.getElem?_eq_getElem hb]
  rfl
theorem min_ct {ss as bs : List Int} (ha : Ct ss as) (hb : Ct ss bs) : Ct ss (List.zipWith min as bs) := by
  refine ⟨by rw [List.length_zipWith, ha.1, hb.1]; omega, fun i hi => ?_⟩
  rw [getD_zip (by rw [ha.1]; exact hi) (by rw [hb.1]; exact hi)]
  have := ha.2 i hi
  have := hb.2 i hi
  omega
end Ab
namespace Ab
open PySem PySem.Spec PyProof.Rows L2 RZ
def mf_look_row (x_sizes x_deeds : W) : MC :=
  ((eCall m_look_sizes (wCons (eFz (eV (.val x_sizes))) wNil)) fun _ => (forC (iEnum (eFz (eV (.val x_deeds)))) () (fun w6 (s1 : Unit) kn3 kb4 => un2 w6 fun x_step x_deed => ((eFz (eCall m_fault_of (wCons (eFz (eV (.val x_sizes))) (wCons (eFz (eV (.val x_deed))) wNil)))) fun x_place => (ifC (tTst (eOp2 (oIsN true) (eV (.val x_place)) (eC .non))) bad (kn3 ())))) fun (s1 : Unit) => (ret (.val .non))))
def m_look_row : List W → MC
  | [x_sizes, x_deeds] => mf_look_row x_sizes x_deeds
  | _ => bad
def mf_counts_behind_row (x_sizes x_counts x_deeds : W) : MC :=
  (forC (iItems (eFz (eV (.val x_deeds)))) x_counts (fun x_deed (s1 : W) kn3 kb4 => ((eFz (eCall m_counts_behind (wCons (eFz (eV (.val x_sizes))) (wCons (eFz (eV (.val s1))) (wCons (eFz (eV (.val x_deed))) wNil))))) fun x_counts => (kn3 x_counts))) fun (s1 : W) => ((eV (.val s1)) ret))
def m_counts_behind_row : List W → MC
  | [x_sizes, x_counts, x_deeds] => mf_counts_behind_row x_sizes x_counts x_deeds
  | _ => bad
def mf_poured_all (x_sizes x_counts x_deeds : W) : MC :=
  ((eCall m_look_counts (wCons (eFz (eV (.val x_sizes))) (wCons (eFz (eV (.val x_counts))) wNil))) fun _ => ((eCall m_look_row (wCons (eFz (eV (.val x_sizes))) (wCons (eFz (eV (.val x_deeds))) wNil))) fun _ => ((eCall m_counts_behind_row (wCons (eFz (eV (.val x_sizes))) (wCons (eFz (eV (.val x_counts))) (wCons (eFz (eV (.val x_deeds))) wNil)))) ret)))
def m_poured_all : List W → MC
  | [x_sizes, x_counts, x_deeds] => mf_poured_all x_sizes x_counts x_deeds
  | _ => bad
def mf_apart (x_one x_other : W) : MC :=
  ((eCB oSumA (sCons (eLc (iZip (wCons (eFz (eV (.val x_one))) (wCons (eFz (eV (.val x_other))) wNil))) fun w1 kk => un2 w1 fun x_here x_there => lcb tYes (eFz (eCB oAbs (sCons (eOp2 oSub (eV (.val x_here)) (eV (.val x_there))) sNil))) kk) sNil)) ret)
def m_apart : List W → MC
  | [x_one, x_other] => mf_apart x_one x_other
  | _ => bad
def mf__law_apart (x_mone x_mother : W) : MC :=
  ((eCB oSumA (sCons (eLc (iRng1 (sCons (eCB oLen (sCons (eV (.val x_mone)) sNil)) sNil)) fun x_at kk => lcb tYes (eFz (eCB oAbs (sCons (eOp2 oSub (eOp2 oIx (eV (.val x_mone)) (eV (.val x_at))) (eOp2 oIx (eV (.val x_mother)) (eV (.val x_at)))) sNil))) kk) sNil)) ret)
def m__law_apart : List W → MC
  | [x_mone, x_mother] => mf__law_apart x_mone x_mother
  | _ => bad
/-! ### rows of deeds by counts; how far apart -/
def Dd.ws (ds : List Dd) : List W := ds.map Dd.w
/-- a row as it is handed in -/
def RowW (x : W) (ds : List Dd) : Prop := x = .lst (ds.map Dd.w) ∨ x = .tup (ds.map Dd.w)
theorem items_row {x : W} {ds : List Dd} {k : List W → MC} (h : RowW x ds) : items x k = k (ds.map Dd.w) := by
  rcases h with rfl | rfl <;> rfl
theorem look_row_ok {ss : List Int} {ds : List Dd} {x : W} (hs : SzOk ss) (hx : RowW x ds) (hd : ∀ d ∈ ds, d.ok ss) : m_look_row [.tup (ss.map .int), x] = ret (.val .non) := by
  show mf_look_row _ _ = _
  unfold mf_look_row
  simp only [↓k_V, ↓k_C, ↓k_Op2, ↓k_Fz, ↓k_wNil, ↓k_wCons, ↓k_Tup, ↓k_Lst, ↓k_oNo, ↓k_oPart, ↓k_Sl, ↓k_sNil, ↓k_sCons, ↓k_CB, ↓k_tYes, ↓k_tTst, ↓k_tAnd, ↓k_tOr, ↓k_tNot, ↓k_If, ↓k_And, ↓k_Or, ↓k_Not, ↓k_Neg, ↓k_Chn, ↓k_Call, ↓k_Call0, ↓k_wPerm, ↓k_iItems, ↓k_iRng1, ↓k_iRng2, ↓k_iZip, ↓k_iEnum, ↓k_iEnz, ↓k_ifC, ↓k_Lrg1, ↓k_parC, ↓k_starC, ↓k_setC, ↓k_setC2, ↓k_augC, ↓k_lcb, ↓k_Lc, ↓k_forC, ↓str_lit, ↓fz_val, ↓fz_seq, ↓rr_val, ↓rr_own, ↓sv_val, ↓sv_own, ↓asI_int, ↓asB_bl, ↓items_tup, ↓items_lst, ↓un2_tup, ↓un3_tup, ↓un5_tup, ↓uq2_tup, ↓uq3_tup, ↓uq2_lst, ↓uq3_lst, ↓uq4_tup, ↓uq5_tup, ↓star_tup, ↓star_lst, ↓pr2_2, ↓zip2_tup, ↓zip2_lst, ↓enz_2, ↓rng1_int, ↓rng2_int, ↓lrg1_int, ↓req_T, ↓ret_at, ↓raise_at, ↓call_ret, ↓call0_ret, ↓call_raise, ↓pm_0, ↓pm_01, ↓pm_10, ↓pm_012, ↓pm_021, ↓pm_102, ↓pm_120, ↓pm_201, ↓pm_210, ↓pm_0123, ↓pm_0132, ↓pm_0213, ↓pm_0231, ↓pm_0312, ↓pm_0321, ↓pm_1023, ↓pm_1032, ↓pm_1203, ↓pm_1230, ↓pm_1302, ↓pm_1320, ↓pm_2013, ↓pm_2031, ↓pm_2103, ↓pm_2130, ↓pm_2301, ↓pm_2310, ↓pm_3012, ↓pm_3021, ↓pm_3102, ↓pm_3120, ↓pm_3201, ↓pm_3210, ↓o_sub, ↓o_lt, ↓o_le, ↓o_gt, ↓o_ge, ↓o_mod, ↓o_fdiv, ↓o_pow, ↓o_mul, ↓o_rep, ↓o_repT, ↓o_add, ↓o_addS, ↓o_addT, ↓o_addLL, ↓o_addLO, ↓o_addOL, ↓o_addOO, ↓o_ixT, ↓o_ixL, ↓o_ixO, ↓atS_0, ↓atS_1, ↓atS_2, ↓atS_3, ↓atS_4, ↓slc_T, ↓slc_L, ↓slc_O, ↓ext_own, ↓ext_OO, ↓lm_own, ↓append_own, ↓b_lenT, ↓b_lenL, ↓b_lenO, ↓b_lenS, ↓b_tupT, ↓b_tupL, ↓b_tupO, ↓b_lstT, ↓b_lstL, ↓b_lstO, ↓b_min2, ↓b_max2, ↓b_abs, ↓b_sumO, ↓b_sumL, ↓b_sumT, ↓b_anyO, ↓b_allO, ↓o_eqI, ↓o_neI, ↓o_eqSt, ↓o_neSt, ↓o_eqT, ↓o_neT, ↓isN_non, ↓isN_int, ↓isN_str, ↓isN_tup, ↓isN_lst, ↓nIsN_non, ↓nIsN_int, ↓nIsN_str, ↓nIsN_tup, ↓nIsN_lst, if_true, if_false, Bool.not_true, Bool.not_false, Bool.false_eq_true, decide_true, decide_false, String.reduceEq, decide_eq_true_eq, Int.toNat_natCast, List.length_map, List.length_cons, List.length_nil, sizeL, Nat.zero_add, Nat.reduceAdd, Nat.reduceLeDiff, look_sizes_ok hs, items_row hx, en_map]
  refine for_none _ fun w hw kn => ?_
  obtain ⟨⟨d, i⟩, hq, rfl⟩ := List.mem_map.mp hw
  simp only [↓k_V, ↓k_C, ↓k_Op2, ↓k_Fz, ↓k_wNil, ↓k_wCons, ↓k_Tup, ↓k_Lst, ↓k_oNo, ↓k_oPart, ↓k_Sl, ↓k_sNil, ↓k_sCons, ↓k_CB, ↓k_tYes, ↓k_tTst, ↓k_tAnd, ↓k_tOr, ↓k_tNot, ↓k_If, ↓k_And, ↓k_Or, ↓k_Not, ↓k_Neg, ↓k_Chn, ↓k_Call, ↓k_Call0, ↓k_wPerm, ↓k_iItems, ↓k_iRng1, ↓k_iRng2, ↓k_iZip, ↓k_iEnum, ↓k_iEnz, ↓k_ifC, ↓k_Lrg1, ↓k_parC, ↓k_starC, ↓k_setC, ↓k_setC2, ↓k_augC, ↓k_lcb, ↓k_Lc, ↓k_forC, ↓str_lit, ↓fz_val, ↓fz_seq, ↓rr_val, ↓rr_own, ↓sv_val, ↓sv_own, ↓asI_int, ↓asB_bl, ↓items_tup, ↓items_lst, ↓un2_tup, ↓un3_tup, ↓un5_tup, ↓uq2_tup, ↓uq3_tup, ↓uq2_lst, ↓uq3_lst, ↓uq4_tup, ↓uq5_tup, ↓star_tup, ↓star_lst, ↓pr2_2, ↓zip2_tup, ↓zip2_lst, ↓enz_2, ↓rng1_int, ↓rng2_int, ↓lrg1_int, ↓req_T, ↓ret_at, ↓raise_at, ↓call_ret, ↓call0_ret, ↓call_raise, ↓pm_0, ↓pm_01, ↓pm_10, ↓pm_012, ↓pm_021, ↓pm_102, ↓pm_120, ↓pm_201, ↓pm_210, ↓pm_0123, ↓pm_0132, ↓pm_0213, ↓pm_0231, ↓pm_0312, ↓pm_0321, ↓pm_1023, ↓pm_1032, ↓pm_1203, ↓pm_1230, ↓pm_1302, ↓pm_1320, ↓pm_2013, ↓pm_2031, ↓pm_2103, ↓pm_2130, ↓pm_2301, ↓pm_2310, ↓pm_3012, ↓pm_3021, ↓pm_3102, ↓pm_3120, ↓pm_3201, ↓pm_3210, ↓o_sub, ↓o_lt, ↓o_le, ↓o_gt, ↓o_ge, ↓o_mod, ↓o_fdiv, ↓o_pow, ↓o_mul, ↓o_rep, ↓o_repT, ↓o_add, ↓o_addS, ↓o_addT, ↓o_addLL, ↓o_addLO, ↓o_addOL, ↓o_addOO, ↓o_ixT, ↓o_ixL, ↓o_ixO, ↓atS_0, ↓atS_1, ↓atS_2, ↓atS_3, ↓atS_4, ↓slc_T, ↓slc_L, ↓slc_O, ↓ext_own, ↓ext_OO, ↓lm_own, ↓append_own, ↓b_lenT, ↓b_lenL, ↓b_lenO, ↓b_lenS, ↓b_tupT, ↓b_tupL, ↓b_tupO, ↓b_lstT, ↓b_lstL, ↓b_lstO, ↓b_min2, ↓b_max2, ↓b_abs, ↓b_sumO, ↓b_sumL, ↓b_sumT, ↓b_anyO, ↓b_allO, ↓o_eqI, ↓o_neI, ↓o_eqSt, ↓o_neSt, ↓o_eqT, ↓o_neT, ↓isN_non, ↓isN_int, ↓isN_str, ↓isN_tup, ↓isN_lst, ↓nIsN_non, ↓nIsN_int, ↓nIsN_str, ↓nIsN_tup, ↓nIsN_lst, if_true, if_false, Bool.not_true, Bool.not_false, Bool.false_eq_true, decide_true, decide_false, String.reduceEq, decide_eq_true_eq, Int.toNat_natCast, List.length_map, List.length_cons, List.length_nil, sizeL, Nat.zero_add, Nat.reduceAdd, Nat.reduceLeDiff, fault_of_ok hs (hd d (List.mem_of_getElem? (mem_zipIdx hq)))]
def pourAll (ss cs : List Int) (ds : List Dd) : List Int := ds.foldl (fun cs d => d.pour ss cs) cs
theorem counts_behind_row_ok {ss cs : List Int} {ds : List Dd} {x : W} (hs : SzOk ss) (hl : cs.length = ss.length) (hx : RowW x ds) (hd : ∀ d ∈ ds, d.ok ss) : m_counts_behind_row [.tup (ss.map .int), .tup (cs.map .int), x] = ret (.val (.tup ((pourAll ss cs ds).map .int))) := by
  show mf_counts_behind_row _ _ _ = _
  unfold mf_counts_behind_row
  simp only [↓k_V, ↓k_C, ↓k_Op2, ↓k_Fz, ↓k_wNil, ↓k_wCons, ↓k_Tup, ↓k_Lst, ↓k_oNo, ↓k_oPart, ↓k_Sl, ↓k_sNil, ↓k_sCons, ↓k_CB, ↓k_tYes, ↓k_tTst, ↓k_tAnd, ↓k_tOr, ↓k_tNot, ↓k_If, ↓k_And, ↓k_Or, ↓k_Not, ↓k_Neg, ↓k_Chn, ↓k_Call, ↓k_Call0, ↓k_wPerm, ↓k_iItems, ↓k_iRng1, ↓k_iRng2, ↓k_iZip, ↓k_iEnum, ↓k_iEnz, ↓k_ifC, ↓k_Lrg1, ↓k_parC, ↓k_starC, ↓k_setC, ↓k_setC2, ↓k_augC, ↓k_lcb, ↓k_Lc, ↓k_forC, ↓str_lit, ↓fz_val, ↓fz_seq, ↓rr_val, ↓rr_own, ↓sv_val, ↓sv_own, ↓asI_int, ↓asB_bl, ↓items_tup, ↓items_lst, ↓un2_tup, ↓un3_tup, ↓un5_tup, ↓uq2_tup, ↓uq3_tup, ↓uq2_lst, ↓uq3_lst, ↓uq4_tup, ↓uq5_tup, ↓star_tup, ↓star_lst, ↓pr2_2, ↓zip2_tup, ↓zip2_lst, ↓enz_2, ↓rng1_int, ↓rng2_int, ↓lrg1_int, ↓req_T, ↓ret_at, ↓raise_at, ↓call_ret, ↓call0_ret, ↓call_raise, ↓pm_0, ↓pm_01, ↓pm_10, ↓pm_012, ↓pm_021, ↓pm_102, ↓pm_120, ↓pm_201, ↓pm_210, ↓pm_0123, ↓pm_0132, ↓pm_0213, ↓pm_0231, ↓pm_0312, ↓pm_0321, ↓pm_1023, ↓pm_1032, ↓pm_1203, ↓pm_1230, ↓pm_1302, ↓pm_1320, ↓pm_2013, ↓pm_2031, ↓pm_2103, ↓pm_2130, ↓pm_2301, ↓pm_2310, ↓pm_3012, ↓pm_3021, ↓pm_3102, ↓pm_3120, ↓pm_3201, ↓pm_3210, ↓o_sub, ↓o_lt, ↓o_le, ↓o_gt, ↓o_ge, ↓o_mod, ↓o_fdiv, ↓o_pow, ↓o_mul, ↓o_rep, ↓o_repT, ↓o_add, ↓o_addS, ↓o_addT, ↓o_addLL, ↓o_addLO, ↓o_addOL, ↓o_addOO, ↓o_ixT, ↓o_ixL, ↓o_ixO, ↓atS_0, ↓atS_1, ↓atS_2, ↓atS_3, ↓atS_4, ↓slc_T, ↓slc_L, ↓slc_O, ↓ext_own, ↓ext_OO, ↓lm_own, ↓append_own, ↓b_lenT, ↓b_lenL, ↓b_lenO, ↓b_lenS, ↓b_tupT, ↓b_tupL, ↓b_tupO, ↓b_lstT, ↓b_lstL, ↓b_lstO, ↓b_min2, ↓b_max2, ↓b_abs, ↓b_sumO, ↓b_sumL, ↓b_sumT, ↓b_anyO, ↓b_allO, ↓o_eqI, ↓o_neI, ↓o_eqSt, ↓o_neSt, ↓o_eqT, ↓o_neT, ↓isN_non, ↓isN_int, ↓isN_str, ↓isN_tup, ↓isN_lst, ↓nIsN_non, ↓nIsN_int, ↓nIsN_str, ↓nIsN_tup, ↓nIsN_lst, if_true, if_false, Bool.not_true, Bool.not_false, Bool.false_eq_true, decide_true, decide_false, String.reduceEq, decide_eq_true_eq, Int.toNat_natCast, List.length_map, List.length_cons, List.length_nil, sizeL, Nat.zero_add, Nat.reduceAdd, Nat.reduceLeDiff, items_row hx]
  rw [for_enc Dd.w (fun cs : List Int => W.tup (cs.map .int)) (fun cs d => d.pour ss cs) (fun _ cs => cs.length = ss.length) ds cs 0 hl fun j d hj cs hl => ⟨by rw [pour_len]; exact hl, fun kn => ?_⟩]
  · rfl
  · simp only [↓k_V, ↓k_C, ↓k_Op2, ↓k_Fz, ↓k_wNil, ↓k_wCons, ↓k_Tup, ↓k_Lst, ↓k_oNo, ↓k_oPart, ↓k_Sl, ↓k_sNil, ↓k_sCons, ↓k_CB, ↓k_tYes, ↓k_tTst, ↓k_tAnd, ↓k_tOr, ↓k_tNot, ↓k_If, ↓k_And, ↓k_Or, ↓k_Not, ↓k_Neg, ↓k_Chn, ↓k_Call, ↓k_Call0, ↓k_wPerm, ↓k_iItems, ↓k_iRng1, ↓k_iRng2, ↓k_iZip, ↓k_iEnum, ↓k_iEnz, ↓k_ifC, ↓k_Lrg1, ↓k_parC, ↓k_starC, ↓k_setC, ↓k_setC2, ↓k_augC, ↓k_lcb, ↓k_Lc, ↓k_forC, ↓str_lit, ↓fz_val, ↓fz_seq, ↓rr_val, ↓rr_own, ↓sv_val, ↓sv_own, ↓asI_int, ↓asB_bl, ↓items_tup, ↓items_lst, ↓un2_tup, ↓un3_tup, ↓un5_tup, ↓uq2_tup, ↓uq3_tup, ↓uq2_lst, ↓uq3_lst, ↓uq4_tup, ↓uq5_tup, ↓star_tup, ↓star_lst, ↓pr2_2, ↓zip2_tup, ↓zip2_lst, ↓enz_2, ↓rng1_int, ↓rng2_int, ↓lrg1_int, ↓req_T, ↓ret_at, ↓raise_at, ↓call_ret, ↓call0_ret, ↓call_raise, ↓pm_0, ↓pm_01, ↓pm_10, ↓pm_012, ↓pm_021, ↓pm_102, ↓pm_120, ↓pm_201, ↓pm_210, ↓pm_0123, ↓pm_0132, ↓pm_0213, ↓pm_0231, ↓pm_0312, ↓pm_0321, ↓pm_1023, ↓pm_1032, ↓pm_1203, ↓pm_1230, ↓pm_1302, ↓pm_1320, ↓pm_2013, ↓pm_2031, ↓pm_2103, ↓pm_2130, ↓pm_2301, ↓pm_2310, ↓pm_3012, ↓pm_3021, ↓pm_3102, ↓pm_3120, ↓pm_3201, ↓pm_3210, ↓o_sub, ↓o_lt, ↓o_le, ↓o_gt, ↓o_ge, ↓o_mod, ↓o_fdiv, ↓o_pow, ↓o_mul, ↓o_rep, ↓o_repT, ↓o_add, ↓o_addS, ↓o_addT, ↓o_addLL, ↓o_addLO, ↓o_addOL, ↓o_addOO, ↓o_ixT, ↓o_ixL, ↓o_ixO, ↓atS_0, ↓atS_1, ↓atS_2, ↓atS_3, ↓atS_4, ↓slc_T, ↓slc_L, ↓slc_O, ↓ext_own, ↓ext_OO, ↓lm_own, ↓append_own, ↓b_lenT, ↓b_lenL, ↓b_lenO, ↓b_lenS, ↓b_tupT, ↓b_tupL, ↓b_tupO, ↓b_lstT, ↓b_lstL, ↓b_lstO, ↓b_min2, ↓b_max2, ↓b_abs, ↓b_sumO, ↓b_sumL, ↓b_sumT, ↓b_anyO, ↓b_allO, ↓o_eqI, ↓o_neI, ↓o_eqSt, ↓o_neSt, ↓o_eqT, ↓o_neT, ↓isN_non, ↓isN_int, ↓isN_str, ↓isN_tup, ↓isN_lst, ↓nIsN_non, ↓nIsN_int, ↓nIsN_str, ↓nIsN_tup, ↓nIsN_lst, if_true, if_false, Bool.not_true, Bool.not_false, Bool.false_eq_true, decide_true, decide_false, String.reduceEq, decide_eq_true_eq, Int.toNat_natCast, List.length_map, List.length_cons, List.length_nil, sizeL, Nat.zero_add, Nat.reduceAdd, Nat.reduceLeDiff, counts_behind_ok hs hl (hd d (List.mem_of_getElem? hj))]
theorem poured_all_ok {ss cs : List Int} {ds : List Dd} {x : W} (hs : SzOk ss) (hc : Ct ss cs) (hx : RowW x ds) (hd : ∀ d ∈ ds, d.ok ss) : m_poured_all [.tup (ss.map .int), .tup (cs.map .int), x] = ret (.val (.tup ((pourAll ss cs ds).map .int))) := by
  show mf_poured_all _ _ _ = _
  unfold mf_poured_all
  simp only [↓k_V, ↓k_C, ↓k_Op2, ↓k_Fz, ↓k_wNil, ↓k_wCons, ↓k_Tup, ↓k_Lst, ↓k_oNo, ↓k_oPart, ↓k_Sl, ↓k_sNil, ↓k_sCons, ↓k_CB, ↓k_tYes, ↓k_tTst, ↓k_tAnd, ↓k_tOr, ↓k_tNot, ↓k_If, ↓k_And, ↓k_Or, ↓k_Not, ↓k_Neg, ↓k_Chn, ↓k_Call, ↓k_Call0, ↓k_wPerm, ↓k_iItems, ↓k_iRng1, ↓k_iRng2, ↓k_iZip, ↓k_iEnum, ↓k_iEnz, ↓k_ifC, ↓k_Lrg1, ↓k_parC, ↓k_starC, ↓k_setC, ↓k_setC2, ↓k_augC, ↓k_lcb, ↓k_Lc, ↓k_forC, ↓str_lit, ↓fz_val, ↓fz_seq, ↓rr_val, ↓rr_own, ↓sv_val, ↓sv_own, ↓asI_int, ↓asB_bl, ↓items_tup, ↓items_lst, ↓un2_tup, ↓un3_tup, ↓un5_tup, ↓uq2_tup, ↓uq3_tup, ↓uq2_lst, ↓uq3_lst, ↓uq4_tup, ↓uq5_tup, ↓star_tup, ↓star_lst, ↓pr2_2, ↓zip2_tup, ↓zip2_lst, ↓enz_2, ↓rng1_int, ↓rng2_int, ↓lrg1_int, ↓req_T, ↓ret_at, ↓raise_at, ↓call_ret, ↓call0_ret, ↓call_raise, ↓pm_0, ↓pm_01, ↓pm_10, ↓pm_012, ↓pm_021, ↓pm_102, ↓pm_120, ↓pm_201, ↓pm_210, ↓pm_0123, ↓pm_0132, ↓pm_0213, ↓pm_0231, ↓pm_0312, ↓pm_0321, ↓pm_1023, ↓pm_1032, ↓pm_1203, ↓pm_1230, ↓pm_1302, ↓pm_1320, ↓pm_2013, ↓pm_2031, ↓pm_2103, ↓pm_2130, ↓pm_2301, ↓pm_2310, ↓pm_3012, ↓pm_3021, ↓pm_3102, ↓pm_3120, ↓pm_3201, ↓pm_3210, ↓o_sub, ↓o_lt, ↓o_le, ↓o_gt, ↓o_ge, ↓o_mod, ↓o_fdiv, ↓o_pow, ↓o_mul, ↓o_rep, ↓o_repT, ↓o_add, ↓o_addS, ↓o_addT, ↓o_addLL, ↓o_addLO, ↓o_addOL, ↓o_addOO, ↓o_ixT, ↓o_ixL, ↓o_ixO, ↓atS_0, ↓atS_1, ↓atS_2, ↓atS_3, ↓atS_4, ↓slc_T, ↓slc_L, ↓slc_O, ↓ext_own, ↓ext_OO, ↓lm_own, ↓append_own, ↓b_lenT, ↓b_lenL, ↓b_lenO, ↓b_lenS, ↓b_tupT, ↓b_tupL, ↓b_tupO, ↓b_lstT, ↓b_lstL, ↓b_lstO, ↓b_min2, ↓b_max2, ↓b_abs, ↓b_sumO, ↓b_sumL, ↓b_sumT, ↓b_anyO, ↓b_allO, ↓o_eqI, ↓o_neI, ↓o_eqSt, ↓o_neSt, ↓o_eqT, ↓o_neT, ↓isN_non, ↓isN_int, ↓isN_str, ↓isN_tup, ↓isN_lst, ↓nIsN_non, ↓nIsN_int, ↓nIsN_str, ↓nIsN_tup, ↓nIsN_lst, if_true, if_false, Bool.not_true, Bool.not_false, Bool.false_eq_true, decide_true, decide_false, String.reduceEq, decide_eq_true_eq, Int.toNat_natCast, List.length_map, List.length_cons, List.length_nil, sizeL, Nat.zero_add, Nat.reduceAdd, Nat.reduceLeDiff, look_counts_ok hs (ct_iff.mpr hc), look_row_ok hs hx hd, counts_behind_row_ok hs hc.1 hx hd]
theorem pourAll_ct {ss : List Int} (hs : SzOk ss) : ∀ {ds : List Dd} {cs : List Int}, Ct ss cs → (∀ d ∈ ds, d.ok ss) → Ct ss (pourAll ss cs ds)
  | [], _, h, _ => h
  | d :: ds, cs, h, hd => pourAll_ct (ds := ds) hs (pour_ct hs h (hd d (by simp))) fun e he => hd e (by simp [he])
/-- how far apart -/
def apartI (as bs : List Int) : Int := (List.zipWith (fun a b => ((a - b).natAbs : Int)) as bs).sum
theorem apart_ok {as bs : List Int} (hl : as.length ≤ 1000) : m_apart [.tup (as.map .int), .tup (bs.map .int)] = ret (.val (.int (apartI as bs))) := by
  show mf_apart _ _ = _
  unfold mf_apart
  simp only [↓k_V, ↓k_C, ↓k_Op2, ↓k_Fz, ↓k_wNil, ↓k_wCons, ↓k_Tup, ↓k_Lst, ↓k_oNo, ↓k_oPart, ↓k_Sl, ↓k_sNil, ↓k_sCons, ↓k_CB, ↓k_tYes, ↓k_tTst, ↓k_tAnd, ↓k_tOr, ↓k_tNot, ↓k_If, ↓k_And, ↓k_Or, ↓k_Not, ↓k_Neg, ↓k_Chn, ↓k_Call, ↓k_Call0, ↓k_wPerm, ↓k_iItems, ↓k_iRng1, ↓k_iRng2, ↓k_iZip, ↓k_iEnum, ↓k_iEnz, ↓k_ifC, ↓k_Lrg1, ↓k_parC, ↓k_starC, ↓k_setC, ↓k_setC2, ↓k_augC, ↓k_lcb, ↓k_Lc, ↓k_forC, ↓str_lit, ↓fz_val, ↓fz_seq, ↓rr_val, ↓rr_own, ↓sv_val, ↓sv_own, ↓asI_int, ↓asB_bl, ↓items_tup, ↓items_lst, ↓un2_tup, ↓un3_tup, ↓un5_tup, ↓uq2_tup, ↓uq3_tup, ↓uq2_lst, ↓uq3_lst, ↓uq4_tup, ↓uq5_tup, ↓star_tup, ↓star_lst, ↓pr2_2, ↓zip2_tup, ↓zip2_lst, ↓enz_2, ↓rng1_int, ↓rng2_int, ↓lrg1_int, ↓req_T, ↓ret_at, ↓raise_at, ↓call_ret, ↓call0_ret, ↓call_raise, ↓pm_0, ↓pm_01, ↓pm_10, ↓pm_012, ↓pm_021, ↓pm_102, ↓pm_120, ↓pm_201, ↓pm_210, ↓pm_0123, ↓pm_0132, ↓pm_0213, ↓pm_0231, ↓pm_0312, ↓pm_0321, ↓pm_1023, ↓pm_1032, ↓pm_1203, ↓pm_1230, ↓pm_1302, ↓pm_1320, ↓pm_2013, ↓pm_2031, ↓pm_2103, ↓pm_2130, ↓pm_2301, ↓pm_2310, ↓pm_3012, ↓pm_3021, ↓pm_3102, ↓pm_3120, ↓pm_3201, ↓pm_3210, ↓o_sub, ↓o_lt, ↓o_le, ↓o_gt, ↓o_ge, ↓o_mod, ↓o_fdiv, ↓o_pow, ↓o_mul, ↓o_rep, ↓o_repT, ↓o_add, ↓o_addS, ↓o_addT, ↓o_addLL, ↓o_addLO, ↓o_addOL, ↓o_addOO, ↓o_ixT, ↓o_ixL, ↓o_ixO, ↓atS_0, ↓atS_1, ↓atS_2, ↓atS_3, ↓atS_4, ↓slc_T, ↓slc_L, ↓slc_O, ↓ext_own, ↓ext_OO, ↓lm_own, ↓append_own, ↓b_lenT, ↓b_lenL, ↓b_lenO, ↓b_lenS, ↓b_tupT, ↓b_tupL, ↓b_tupO, ↓b_lstT, ↓b_lstL, ↓b_lstO, ↓b_min2, ↓b_max2, ↓b_abs, ↓b_sumO, ↓b_sumL, ↓b_sumT, ↓b_anyO, ↓b_allO, ↓o_eqI, ↓o_neI, ↓o_eqSt, ↓o_neSt, ↓o_eqT, ↓o_neT, ↓isN_non, ↓isN_int, ↓isN_str, ↓isN_tup, ↓isN_lst, ↓nIsN_non, ↓nIsN_int, ↓nIsN_str, ↓nIsN_tup, ↓nIsN_lst, if_true, if_false, Bool.not_true, Bool.not_false, Bool.false_eq_true, decide_true, decide_false, String.reduceEq, decide_eq_true_eq, Int.toNat_natCast, List.length_map, List.length_cons, List.length_nil, sizeL, Nat.zero_add, Nat.reduceAdd, Nat.reduceLeDiff, zip_map]
  rw [lc_all (fun p : Int × Int => W.tup [.int p.1, .int p.2]) (fun p => .int ((p.1 - p.2).natAbs : Int)) _ (fun p _ kk => ?_) (by simp only [List.length_zip, sizeL]; omega)]
  · rw [show (as.zip bs).map (fun p => W.int ((p.1 - p.2).natAbs : Int)) = ((as.zip bs).map (fun p => ((p.1 - p.2).natAbs : Int))).map W.int by rw [List.map_map]; rfl, b_sumO, zipWith_map (f := fun a b => ((a - b).natAbs : Int))]
    rfl
  · simp only [↓k_V, ↓k_C, ↓k_Op2, ↓k_Fz, ↓k_wNil, ↓k_wCons, ↓k_Tup, ↓k_Lst, ↓k_oNo, ↓k_oPart, ↓k_Sl, ↓k_sNil, ↓k_sCons, ↓k_CB, ↓k_tYes, ↓k_tTst, ↓k_tAnd, ↓k_tOr, ↓k_tNot, ↓k_If, ↓k_And, ↓k_Or, ↓k_Not, ↓k_Neg, ↓k_Chn, ↓k_Call, ↓k_Call0, ↓k_wPerm, ↓k_iItems, ↓k_iRng1, ↓k_iRng2, ↓k_iZip, ↓k_iEnum, ↓k_iEnz, ↓k_ifC, ↓k_Lrg1, ↓k_parC, ↓k_starC, ↓k_setC, ↓k_setC2, ↓k_augC, ↓k_lcb, ↓k_Lc, ↓k_forC, ↓str_lit, ↓fz_val, ↓fz_seq, ↓rr_val, ↓rr_own, ↓sv_val, ↓sv_own, ↓asI_int, ↓asB_bl, ↓items_tup, ↓items_lst, ↓un2_tup, ↓un3_tup, ↓un5_tup, ↓uq2_tup, ↓uq3_tup, ↓uq2_lst, ↓uq3_lst, ↓uq4_tup, ↓uq5_tup, ↓star_tup, ↓star_lst, ↓pr2_2, ↓zip2_tup, ↓zip2_lst, ↓enz_2, ↓rng1_int, ↓rng2_int, ↓lrg1_int, ↓req_T, ↓ret_at, ↓raise_at, ↓call_ret, ↓call0_ret, ↓call_raise, ↓pm_0, ↓pm_01, ↓pm_10, ↓pm_012, ↓pm_021, ↓pm_102, ↓pm_120, ↓pm_201, ↓pm_210, ↓pm_0123, ↓pm_0132, ↓pm_0213, ↓pm_0231, ↓pm_0312, ↓pm_0321, ↓pm_1023, ↓pm_1032, ↓pm_1203, ↓pm_1230, ↓pm_1302, ↓pm_1320, ↓pm_2013, ↓pm_2031, ↓pm_2103, ↓pm_2130, ↓pm_2301, ↓pm_2310, ↓pm_3012, ↓pm_3021, ↓pm_3102, ↓pm_3120, ↓pm_3201, ↓pm_3210, ↓o_sub, ↓o_lt, ↓o_le, ↓o_gt, ↓o_ge, ↓o_mod, ↓o_fdiv, ↓o_pow, ↓o_mul, ↓o_rep, ↓o_repT, ↓o_add, ↓o_addS, ↓o_addT, ↓o_addLL, ↓o_addLO, ↓o_addOL, ↓o_addOO, ↓o_ixT, ↓o_ixL, ↓o_ixO, ↓atS_0, ↓atS_1, ↓atS_2, ↓atS_3, ↓atS_4, ↓slc_T, ↓slc_L, ↓slc_O, ↓ext_own, ↓ext_OO, ↓lm_own, ↓append_own, ↓b_lenT, ↓b_lenL, ↓b_lenO, ↓b_lenS, ↓b_tupT, ↓b_tupL, ↓b_tupO, ↓b_lstT, ↓b_lstL, ↓b_lstO, ↓b_min2, ↓b_max2, ↓b_abs, ↓b_sumO, ↓b_sumL, ↓b_sumT, ↓b_anyO, ↓b_allO, ↓o_eqI, ↓o_neI, ↓o_eqSt, ↓o_neSt, ↓o_eqT, ↓o_neT, ↓isN_non, ↓isN_int, ↓isN_str, ↓isN_tup, ↓isN_lst, ↓nIsN_non, ↓nIsN_int, ↓nIsN_str, ↓nIsN_tup, ↓nIsN_lst, if_true, if_false, Bool.not_true, Bool.not_false, Bool.false_eq_true, decide_true, decide_false, String.reduceEq, decide_eq_true_eq, Int.toNat_natCast, List.length_map, List.length_cons, List.length_nil, sizeL, Nat.zero_add, Nat.reduceAdd, Nat.reduceLeDiff]
theorem law_apart_ok {as bs : List Int} (hl : as.length = bs.length) (hb : as.length ≤ 1000) : m__law_apart [.tup (as.map .int), .tup (bs.map .int)] = ret (.val (.int (apartI as bs))) := by
  show mf__law_apart _ _ = _
  unfold mf__law_apart
  simp only [↓k_V, ↓k_C, ↓k_Op2, ↓k_Fz, ↓k_wNil, ↓k_wCons, ↓k_Tup, ↓k_Lst, ↓k_oNo, ↓k_oPart, ↓k_Sl, ↓k_sNil, ↓k_sCons, ↓k_CB, ↓k_tYes, ↓k_tTst, ↓k_tAnd, ↓k_tOr, ↓k_tNot, ↓k_If, ↓k_And, ↓k_Or, ↓k_Not, ↓k_Neg, ↓k_Chn, ↓k_Call, ↓k_Call0, ↓k_wPerm, ↓k_iItems, ↓k_iRng1, ↓k_iRng2, ↓k_iZip, ↓k_iEnum, ↓k_iEnz, ↓k_ifC, ↓k_Lrg1, ↓k_parC, ↓k_starC, ↓k_setC, ↓k_setC2, ↓k_augC, ↓k_lcb, ↓k_Lc, ↓k_forC, ↓str_lit, ↓fz_val, ↓fz_seq, ↓rr_val, ↓rr_own, ↓sv_val, ↓sv_own, ↓asI_int, ↓asB_bl, ↓items_tup, ↓items_lst, ↓un2_tup, ↓un3_tup, ↓un5_tup, ↓uq2_tup, ↓uq3_tup, ↓uq2_lst, ↓uq3_lst, ↓uq4_tup, ↓uq5_tup, ↓star_tup, ↓star_lst, ↓pr2_2, ↓zip2_tup, ↓zip2_lst, ↓enz_2, ↓rng1_int, ↓rng2_int, ↓lrg1_int, ↓req_T, ↓ret_at, ↓raise_at, ↓call_ret, ↓call0_ret, ↓call_raise, ↓pm_0, ↓pm_01, ↓pm_10, ↓pm_012, ↓pm_021, ↓pm_102, ↓pm_120, ↓pm_201, ↓pm_210, ↓pm_0123, ↓pm_0132, ↓pm_0213, ↓pm_0231, ↓pm_0312, ↓pm_0321, ↓pm_1023, ↓pm_1032, ↓pm_1203, ↓pm_1230, ↓pm_1302, ↓pm_1320, ↓pm_2013, ↓pm_2031, ↓pm_2103, ↓pm_2130, ↓pm_2301, ↓pm_2310, ↓pm_3012, ↓pm_3021, ↓pm_3102, ↓pm_3120, ↓pm_3201, ↓pm_3210, ↓o_sub, ↓o_lt, ↓o_le, ↓o_gt, ↓o_ge, ↓o_mod, ↓o_fdiv, ↓o_pow, ↓o_mul, ↓o_rep, ↓o_repT, ↓o_add, ↓o_addS, ↓o_addT, ↓o_addLL, ↓o_addLO, ↓o_addOL, ↓o_addOO, ↓o_ixT, ↓o_ixL, ↓o_ixO, ↓atS_0, ↓atS_1, ↓atS_2, ↓atS_3, ↓atS_4, ↓slc_T, ↓slc_L, ↓slc_O, ↓ext_own, ↓ext_OO, ↓lm_own, ↓append_own, ↓b_lenT, ↓b_lenL, ↓b_lenO, ↓b_lenS, ↓b_tupT, ↓b_tupL, ↓b_tupO, ↓b_lstT, ↓b_lstL, ↓b_lstO, ↓b_min2, ↓b_max2, ↓b_abs, ↓b_sumO, ↓b_sumL, ↓b_sumT, ↓b_anyO, ↓b_allO, ↓o_eqI, ↓o_neI, ↓o_eqSt, ↓o_neSt, ↓o_eqT, ↓o_neT, ↓isN_non, ↓isN_int, ↓isN_str, ↓isN_tup, ↓isN_lst, ↓nIsN_non, ↓nIsN_int, ↓nIsN_str, ↓nIsN_tup, ↓nIsN_lst, if_true, if_false, Bool.not_true, Bool.not_false, Bool.false_eq_true, decide_true, decide_false, String.reduceEq, decide_eq_true_eq, Int.toNat_natCast, List.length_map, List.length_cons, List.length_nil, sizeL, Nat.zero_add, Nat.reduceAdd, Nat.reduceLeDiff]
  rw [req_of (by omega), range_nat, lc_all natW (fun i => .int ((as.getD i 0 - bs.getD i 0).natAbs : Int)) _ (fun i hi kk => ?_) (by simp [sizeL]; omega)]
  · rw [show (List.range as.length).map (fun i => W.int ((as.getD i 0 - bs.getD i 0).natAbs : Int)) = ((List.range as.length).map (fun i => ((as.getD i 0 - bs.getD i 0).natAbs : Int))).map W.int by rw [List.map_map]; rfl, b_sumO]
    congr 4
    refine List.ext_getElem (by simp [hl]) fun i h1 h2 => ?_
    have hi : i < as.length := by simpa using h1
    simp [List.getD_eq_getElem?_getD, hi, show i < bs.length by omega]
  · have hi : i < as.length := by simpa using hi
    simp only [↓k_V, ↓k_C, ↓k_Op2, ↓k_Fz, ↓k_wNil, ↓k_wCons, ↓k_Tup, ↓k_Lst, ↓k_oNo, ↓k_oPart, ↓k_Sl, ↓k_sNil, ↓k_sCons, ↓k_CB, ↓k_tYes, ↓k_tTst, ↓k_tAnd, ↓k_tOr, ↓k_tNot, ↓k_If, ↓k_And, ↓k_Or, ↓k_Not, ↓k_Neg, ↓k_Chn, ↓k_Call, ↓k_Call0, ↓k_wPerm, ↓k_iItems, ↓k_iRng1, ↓k_iRng2, ↓k_iZip, ↓k_iEnum, ↓k_iEnz, ↓k_ifC, ↓k_Lrg1, ↓k_parC, ↓k_starC, ↓k_setC, ↓k_setC2, ↓k_augC, ↓k_lcb, ↓k_Lc, ↓k_forC, ↓str_lit, ↓fz_val, ↓fz_seq, ↓rr_val, ↓rr_own, ↓sv_val, ↓sv_own, ↓asI_int, ↓asB_bl, ↓items_tup, ↓items_lst, ↓un2_tup, ↓un3_tup, ↓un5_tup, ↓uq2_tup, ↓uq3_tup, ↓uq2_lst, ↓uq3_lst, ↓uq4_tup, ↓uq5_tup, ↓star_tup, ↓star_lst, ↓pr2_2, ↓zip2_tup, ↓zip2_lst, ↓enz_2, ↓rng1_int, ↓rng2_int, ↓lrg1_int, ↓req_T, ↓ret_at, ↓raise_at, ↓call_ret, ↓call0_ret, ↓call_raise, ↓pm_0, ↓pm_01, ↓pm_10, ↓pm_012, ↓pm_021, ↓pm_102, ↓pm_120, ↓pm_201, ↓pm_210, ↓pm_0123, ↓pm_0132, ↓pm_0213, ↓pm_0231, ↓pm_0312, ↓pm_0321, ↓pm_1023, ↓pm_1032, ↓pm_1203, ↓pm_1230, ↓pm_1302, ↓pm_1320, ↓pm_2013, ↓pm_2031, ↓pm_2103, ↓pm_2130, ↓pm_2301, ↓pm_2310, ↓pm_3012, ↓pm_3021, ↓pm_3102, ↓pm_3120, ↓pm_3201, ↓pm_3210, ↓o_sub, ↓o_lt, ↓o_le, ↓o_gt, ↓o_ge, ↓o_mod, ↓o_fdiv, ↓o_pow, ↓o_mul, ↓o_rep, ↓o_repT, ↓o_add, ↓o_addS, ↓o_addT, ↓o_addLL, ↓o_addLO, ↓o_addOL, ↓o_addOO, ↓o_ixT, ↓o_ixL, ↓o_ixO, ↓atS_0, ↓atS_1, ↓atS_2, ↓atS_3, ↓atS_4, ↓slc_T, ↓slc_L, ↓slc_O, ↓ext_own, ↓ext_OO, ↓lm_own, ↓append_own, ↓b_lenT, ↓b_lenL, ↓b_lenO, ↓b_lenS, ↓b_tupT, ↓b_tupL, ↓b_tupO, ↓b_lstT, ↓b_lstL, ↓b_lstO, ↓b_min2, ↓b_max2, ↓b_abs, ↓b_sumO, ↓b_sumL, ↓b_sumT, ↓b_anyO, ↓b_allO, ↓o_eqI, ↓o_neI, ↓o_eqSt, ↓o_neSt, ↓o_eqT, ↓o_neT, ↓isN_non, ↓isN_int, ↓isN_str, ↓isN_tup, ↓isN_lst, ↓nIsN_non, ↓nIsN_int, ↓nIsN_str, ↓nIsN_tup, ↓nIsN_lst, if_true, if_false, Bool.not_true, Bool.not_false, Bool.false_eq_true, decide_true, decide_false, String.reduceEq, decide_eq_true_eq, Int.toNat_natCast, List.length_map, List.length_cons, List.length_nil, sizeL, Nat.zero_add, Nat.reduceAdd, Nat.reduceLeDiff, ↓atS_ints hi, ↓atS_ints (show i < bs.length by omega)]
theorem apart_gap : ∀ {as bs : List Int}, as.length = bs.length → apartI as bs = (List.zipWith max as bs).sum - (List.zipWith min as bs).sum
  | [], [], _ => rfl
  | a :: as, b :: bs, h => by
    have ih := apart_gap (as := as) (bs := bs) (by simpa using h)
    unfold apartI at ih ⊢
    simp only [List.zipWith_cons_cons, List.sum_cons, ih]
    omega
  | [], _ :: _, h => by simp at h
  | _ :: _, [], h => by simp at h
theorem sum_le : ∀ {as bs : List Int}, LeL as bs → as.sum ≤ bs.sum
  | [], [], _ => Int.le_refl _
  | a :: as, b :: bs, h => by
    have ih := sum_le (as := as) (bs := bs) ⟨by simpa using h.1, fun i => by simpa using h.2 (i + 1)⟩
    have := h.2 0
    simp only [List.sum_cons, List.getD_cons_zero] at this ⊢
    omega
  | [], _ :: _, h => by have := h.1; simp at this
  | _ :: _, [], h => by have := h.1; simp at this
theorem getD_out {l : List Int} {i : Nat} (h : l.length ≤ i) : l.getD i 0 = 0 := by
  rw [List.getD_eq_getElem?_getD, List.getElem?_eq_none h]; rfl
theorem le_of {as bs : List Int} (hl : as.length = bs.length) (h : ∀ i, i < as.length → as.getD i 0 ≤ bs.getD i 0) : LeL as bs := ⟨hl, fun i => by
  by_cases hi : i < as.length
  · exact h i hi
  · rw [getD_out (by omega), getD_out (by omega)]; exact Int.le_refl _⟩
theorem min_le1 {as bs : List Int} (h : as.length = bs.length) : LeL (List.zipWith min as bs) as := le_of (by rw [List.length_zipWith]; omega) fun i hi => by
  rw [List.length_zipWith] at hi
  rw [getD_zip (by omega) (by omega)]
  omega
theorem le_max1 {as bs : List Int} (h : as.length = bs.length) : LeL as (List.zipWith max as bs) := le_of (by rw [List.length_zipWith]; omega) fun i hi => by
  rw [getD_zip (by omega) (by omega)]
  omega
theorem le_max2 {as bs : List Int} (h : as.length = bs.length) : LeL bs (List.zipWith max as bs) := le_of (by rw [List.length_zipWith]; omega) fun i hi => by
  rw [getD_zip (by omega) (by omega)]
  omega
theorem le_min {as bs cs : List Int} (h1 : LeL cs as) (h2 : LeL cs bs) : LeL cs (List.zipWith min as bs) := le_of (by rw [List.length_zipWith, ← h1.1, ← h2.1]; omega) fun i hi => by
  have a := h1.1
  have b := h2.1
  rw [getD_zip (by omega) (by omega)]
  have := h1.2 i
  have := h2.2 i
  omega
theorem max_le {as bs cs : List Int} (h1 : LeL as cs) (h2 : LeL bs cs) : LeL (List.zipWith max as bs) cs := le_of (by rw [List.length_zipWith, h1.1, h2.1]; omega) fun i hi => by
  have a := h1.1
  have b := h2.1
  rw [List.length_zipWith] at hi
  rw [getD_zip (by omega) (by omega)]
  have := h1.2 i
  have := h2.2 i
  omega
/-- no deed leads two loads farther apart -/
theorem pour_apart {ss as bs : List Int} {d : Dd} (ha : as.length = ss.length) (hb : bs.length = ss.length) (hd : d.ok ss) : apartI (d.pour ss as) (d.pour ss bs) ≤ apartI as bs := by
  have hl : as.length = bs.length := by omega
  rw [apart_gap hl, apart_gap (by rw [pour_len, pour_len]; exact hl)]
  have m1 : LeL (d.pour ss (List.zipWith min as bs)) (List.zipWith min (d.pour ss as) (d.pour ss bs)) := le_min (pour_mono (min_le1 hl)) (pour_mono (min_le hl))
  have m2 : LeL (List.zipWith max (d.pour ss as) (d.pour ss bs)) (d.pour ss (List.zipWith max as bs)) := max_le (pour_mono (le_max1 hl)) (pour_mono (le_max2 hl))
  have s1 := sum_le m1
  have s2 := sum_le m2
  have g := pour_gap (ss := ss) (as := List.zipWith min as bs) (bs := List.zipWith max as bs) (d := d) (by rw [List.length_zipWith]; omega) (by rw [List.length_zipWith]; omega) ((min_le1 hl).trans (le_max1 hl)) hd
  omega
theorem pourAll_apart {ss : List Int} : ∀ {ds : List Dd} {as bs : List Int}, as.length = ss.length → bs.length = ss.length → (∀ d ∈ ds, d.ok ss) → apartI (pourAll ss as ds) (pourAll ss bs ds) ≤ apartI as bs
  | [], _, _, _, _, _ => Int.le_refl _
  | d :: ds, as, bs, ha, hb, hd => Int.le_trans (pourAll_apart (ds := ds) (by rw [pour_len]; exact ha) (by rw [pour_len]; exact hb) fun e he => hd e (by simp [he])) (pour_apart ha hb (hd d (by simp)))
end Ab
namespace Ab
open PySem PySem.Spec PyProof.Rows L2 RZ
def mf__law_same (m__law_same : List W → MC) (x_found x_due : W) : MC :=
  (ifC (tTst (eOp2 (oIsN false) (eV (.val x_due)) (eC .non))) ((eOp2 (oIsN false) (eV (.val x_found)) (eC .non)) ret) (ifC (tTst (eCB oIsi (sCons (eV (.val x_due)) (sCons (eC (.ty "bool")) sNil)))) ((eAnd (eCB oIsi (sCons (eV (.val x_found)) (sCons (eC (.ty "bool")) sNil))) (eOp2 (oEq false) (eV (.val x_found)) (eV (.val x_due)))) ret) (ifC (tTst (eCB oIsi (sCons (eV (.val x_due)) (sCons (eC (.ty "int")) sNil)))) ((eAnd (eCB oIsi (sCons (eV (.val x_found)) (sCons (eC (.ty "int")) sNil))) (eAnd (eNot (eCB oIsi (sCons (eV (.val x_found)) (sCons (eC (.ty "bool")) sNil)))) (eOp2 (oEq false) (eV (.val x_found)) (eV (.val x_due))))) ret) (ifC (tTst (eCB oIsi (sCons (eV (.val x_due)) (sCons (eC (.ty "str")) sNil)))) ((eAnd (eCB oIsi (sCons (eV (.val x_found)) (sCons (eC (.ty "str")) sNil))) (eOp2 (oEq false) (eV (.val x_found)) (eV (.val x_due)))) ret) (ifC (tOr (tTst (eOp2 (oEq true) (eCB oIsi (sCons (eV (.val x_due)) (sCons (eC (.ty "tuple")) sNil))) (eCB oIsi (sCons (eV (.val x_found)) (sCons (eC (.ty "tuple")) sNil))))) (tTst (eOp2 (oEq true) (eCB oIsi (sCons (eV (.val x_due)) (sCons (eC (.ty "list")) sNil))) (eCB oIsi (sCons (eV (.val x_found)) (sCons (eC (.ty "list")) sNil)))))) ((eC (.bl false)) ret) (ifC (tTst (eOp2 (oEq true) (eCB oLen (sCons (eV (.val x_found)) sNil)) (eCB oLen (sCons (eV (.val x_due)) sNil)))) ((eC (.bl false)) ret) ((eCB oAll (sCons (eLc (iRng1 (sCons (eCB oLen (sCons (eV (.val x_due)) sNil)) sNil)) fun x_at kk => lcb tYes (eFz (eCall0 m__law_same (wCons (eFz (eOp2 oIx (eV (.val x_found)) (eV (.val x_at)))) (wCons (eFz (eOp2 oIx (eV (.val x_due)) (eV (.val x_at)))) wNil)))) kk) sNil)) ret)))))))
def m__law_same : Nat → List W → MC
  | 0 => fun _ => bad
  | d + 1 => fun ws => match ws with
    | [x_found, x_due] => mf__law_same (m__law_same d) x_found x_due
    | _ => bad
/-! ### alike, of one value -/
section
variable {k : SV → MC} {b c : Bool} {i : Int} {x : Str} {xs : List W} {T : String}
theorem isi_at {w : W} {n : String} {r : Bool} (hv : ∀ h, viewW h w = .wv w) (e1 : w.tyName = some n) (e2 : isiB n T = some r) : cb oIsi [.val w, .val (.ty T)] k = k (.val (.bl r)) := by
  funext h Q E
  show oIsi [viewW h w, .wv (.ty T)] _ = _
  rw [hv, y_isi]
  show (match (Vw.wv w).tyName with
    | some n => (match isiB n T with
      | some b => kRv k (.val (.bl b)) h Q E
      | none => False)
    | none => False) = _
  rw [show (Vw.wv w).tyName = w.tyName from rfl, e1]
  show (match isiB n T with
      | some b => kRv k (.val (.bl b)) h Q E
      | none => False) = _
  rw [e2]
  rfl
theorem ii_non_bool : cb oIsi [.val .non, .val (.ty "bool")] k = k (.val (.bl false)) := isi_at (fun _ => rfl) rfl rfl
theorem ii_non_int : cb oIsi [.val .non, .val (.ty "int")] k = k (.val (.bl false)) := isi_at (fun _ => rfl) rfl rfl
theorem ii_non_str : cb oIsi [.val .non, .val (.ty "str")] k = k (.val (.bl false)) := isi_at (fun _ => rfl) rfl rfl
theorem ii_non_tuple : cb oIsi [.val .non, .val (.ty "tuple")] k = k (.val (.bl false)) := isi_at (fun _ => rfl) rfl rfl
theorem ii_non_list : cb oIsi [.val .non, .val (.ty "list")] k = k (.val (.bl false)) := isi_at (fun _ => rfl) rfl rfl
theorem ii_bl_bool : cb oIsi [.val (.bl b), .val (.ty "bool")] k = k (.val (.bl true)) := isi_at (fun _ => rfl) rfl rfl
theorem ii_bl_int : cb oIsi [.val (.bl b), .val (.ty "int")] k = k (.val (.bl true)) := isi_at (fun _ => rfl) rfl rfl
theorem ii_bl_str : cb oIsi [.val (.bl b), .val (.ty "str")] k = k (.val (.bl false)) := isi_at (fun _ => rfl) rfl rfl
theorem ii_bl_tuple : cb oIsi [.val (.bl b), .val (.ty "tuple")] k = k (.val (.bl false)) := isi_at (fun _ => rfl) rfl rfl
theorem ii_bl_list : cb oIsi [.val (.bl b), .val (.ty "list")] k = k (.val (.bl false)) := isi_at (fun _ => rfl) rfl rfl
theorem ii_int_bool : cb oIsi [.val (.int i), .val (.ty "bool")] k = k (.val (.bl false)) := isi_at (fun _ => rfl) rfl rfl
theorem ii_int_int : cb oIsi [.val (.int i), .val (.ty "int")] k = k (.val (.bl true)) := isi_at (fun _ => rfl) rfl rfl
theorem ii_int_str : cb oIsi [.val (.int i), .val (.ty "str")] k = k (.val (.bl false)) := isi_at (fun _ => rfl) rfl rfl
theorem ii_int_tuple : cb oIsi [.val (.int i), .val (.ty "tuple")] k = k (.val (.bl false)) := isi_at (fun _ => rfl) rfl rfl
theorem ii_int_list : cb oIsi [.val (.int i), .val (.ty "list")] k = k (.val (.bl false)) := isi_at (fun _ => rfl) rfl rfl
theorem ii_str_bool : cb oIsi [.val (.str x), .val (.ty "bool")] k = k (.val (.bl false)) := isi_at (fun _ => rfl) rfl rfl
theorem ii_str_int : cb oIsi [.val (.str x), .val (.ty "int")] k = k (.val (.bl false)) := isi_at (fun _ => rfl) rfl rfl
theorem ii_str_str : cb oIsi [.val (.str x), .val (.ty "str")] k = k (.val (.bl true)) := isi_at (fun _ => rfl) rfl rfl
theorem ii_str_tuple : cb oIsi [.val (.str x), .val (.ty "tuple")] k = k (.val (.bl false)) := isi_at (fun _ => rfl) rfl rfl
theorem ii_str_list : cb oIsi [.val (.str x), .val (.ty "list")] k = k (.val (.bl false)) := isi_at (fun _ => rfl) rfl rfl
theorem ii_tup_bool : cb oIsi [.val (.tup xs), .val (.ty "bool")] k = k (.val (.bl false)) := isi_at (fun _ => rfl) rfl rfl
theorem ii_tup_int : cb oIsi [.val (.tup xs), .val (.ty "int")] k = k (.val (.bl false)) := isi_at (fun _ => rfl) rfl rfl
theorem ii_tup_str : cb oIsi [.val (.tup xs), .val (.ty "str")] k = k (.val (.bl false)) := isi_at (fun _ => rfl) rfl rfl
theorem ii_tup_tuple : cb oIsi [.val (.tup xs), .val (.ty "tuple")] k = k (.val (.bl true)) := isi_at (fun _ => rfl) rfl rfl
theorem ii_tup_list : cb oIsi [.val (.tup xs), .val (.ty "list")] k = k (.val (.bl false)) := isi_at (fun _ => rfl) rfl rfl
theorem ii_lst_bool : cb oIsi [.val (.lst xs), .val (.ty "bool")] k = k (.val (.bl false)) := isi_at (fun _ => rfl) rfl rfl
theorem ii_lst_int : cb oIsi [.val (.lst xs), .val (.ty "int")] k = k (.val (.bl false)) := isi_at (fun _ => rfl) rfl rfl
theorem ii_lst_str : cb oIsi [.val (.lst xs), .val (.ty "str")] k = k (.val (.bl false)) := isi_at (fun _ => rfl) rfl rfl
theorem ii_lst_tuple : cb oIsi [.val (.lst xs), .val (.ty "tuple")] k = k (.val (.bl false)) := isi_at (fun _ => rfl) rfl rfl
theorem ii_lst_list : cb oIsi [.val (.lst xs), .val (.ty "list")] k = k (.val (.bl true)) := isi_at (fun _ => rfl) rfl rfl
theorem eqw_bl : eqw (.bl b) (.bl c) = decide (b = c) := by cases b <;> cases c <;> rfl
theorem o_eqB : op2 (oEq false) (.val (.bl b)) (.val (.bl c)) k = k (.val (.bl (decide (b = c)))) := by
  funext h Q E
  show (_ ∧ _ ∧ _) = _
  refine propext ⟨fun z => ?_, fun z => ⟨rfl, rfl, ?_⟩⟩
  · have z := z.2.2
    rw [← eqw_bl]
    exact z
  · rw [← eqw_bl] at z
    exact z
theorem isN_bl : op2 (oIsN false) (.val (.bl b)) (.val .non) k = k (.val (.bl false)) := isN_at (fun _ => rfl)
theorem o_neB : op2 (oEq true) (.val (.bl b)) (.val (.bl c)) k = k (.val (.bl (!decide (b = c)))) := by
  funext h Q E
  show (_ ∧ _ ∧ _) = _
  refine propext ⟨fun z => ?_, fun z => ⟨rfl, rfl, ?_⟩⟩
  · have z := z.2.2
    rw [← eqw_bl]
    exact z
  · rw [← eqw_bl] at z
    exact z
end
mutual
/-- data nested at most so deep, truth values too -/
def W.sm : Nat → W → Bool
  | _, .non => true
  | _, .bl _ => true
  | _, .int _ => true
  | _, .str _ => true
  | n + 1, .tup xs => decide (xs.length ≤ 100000) && W.sms n xs
  | n + 1, .lst xs => decide (xs.length ≤ 100000) && W.sms n xs
  | _, _ => false
def W.sms : Nat → List W → Bool
  | _, [] => true
  | n, x :: xs => W.sm n x && W.sms n xs
end
theorem W.sms_mem {n : Nat} : ∀ {xs : List W}, W.sms n xs = true → ∀ x ∈ xs, x.sm n = true
  | [], _, x, h => by cases h
  | y :: ys, e, x, h => by
    simp only [W.sms, Bool.and_eq_true] at e
    rcases List.mem_cons.mp h with rfl | h
    · exact e.1
    · exact W.sms_mem e.2 x h
theorem W.sms_of {n : Nat} : ∀ {xs : List W}, (∀ x ∈ xs, x.sm n = true) → W.sms n xs = true
  | [], _ => rfl
  | x :: xs, h => by
    simp only [W.sms, Bool.and_eq_true]
    exact ⟨h x (by simp), W.sms_of fun y hy => h y (by simp [hy])⟩
theorem sm_tup {n : Nat} {xs : List W} (l : xs.length ≤ 100000) (h : ∀ x ∈ xs, x.sm n = true) : (W.tup xs).sm (n + 1) = true := by
  simp only [W.sm, Bool.and_eq_true, decide_eq_true_eq]; exact ⟨l, W.sms_of h⟩
theorem sm_lst {n : Nat} {xs : List W} (l : xs.length ≤ 100000) (h : ∀ x ∈ xs, x.sm n = true) : (W.lst xs).sm (n + 1) = true := by
  simp only [W.sm, Bool.and_eq_true, decide_eq_true_eq]; exact ⟨l, W.sms_of h⟩
theorem sm_ints {n : Nat} {as : List Int} (l : as.length ≤ 100000) : (W.tup (as.map .int)).sm (n + 1) = true := sm_tup (by simpa using l) fun x hx => by
  obtain ⟨i, _, rfl⟩ := List.mem_map.mp hx
  cases n <;> rfl
theorem same_ok : ∀ (d : Nat) (w : W), w.sm d = true → m__law_same (d + 1) [w, w] = ret (.val (.bl true)) := by
  intro d
  induction d with
  | zero =>
    intro w h
    show mf__law_same _ w w = _
    unfold mf__law_same
    cases w with
    | non => simp only [↓k_V, ↓k_C, ↓k_Op2, ↓k_Fz, ↓k_wNil, ↓k_wCons, ↓k_Tup, ↓k_Lst, ↓k_oNo, ↓k_oPart, ↓k_Sl, ↓k_sNil, ↓k_sCons, ↓k_CB, ↓k_tYes, ↓k_tTst, ↓k_tAnd, ↓k_tOr, ↓k_tNot, ↓k_If, ↓k_And, ↓k_Or, ↓k_Not, ↓k_Neg, ↓k_Chn, ↓k_Call, ↓k_Call0, ↓k_wPerm, ↓k_iItems, ↓k_iRng1, ↓k_iRng2, ↓k_iZip, ↓k_iEnum, ↓k_iEnz, ↓k_ifC, ↓k_Lrg1, ↓k_parC, ↓k_starC, ↓k_setC, ↓k_setC2, ↓k_augC, ↓k_lcb, ↓k_Lc, ↓k_forC, ↓str_lit, ↓fz_val, ↓fz_seq, ↓rr_val, ↓rr_own, ↓sv_val, ↓sv_own, ↓asI_int, ↓asB_bl, ↓items_tup, ↓items_lst, ↓un2_tup, ↓un3_tup, ↓un5_tup, ↓uq2_tup, ↓uq3_tup, ↓uq2_lst, ↓uq3_lst, ↓uq4_tup, ↓uq5_tup, ↓star_tup, ↓star_lst, ↓pr2_2, ↓zip2_tup, ↓zip2_lst, ↓enz_2, ↓rng1_int, ↓rng2_int, ↓lrg1_int, ↓req_T, ↓ret_at, ↓raise_at, ↓call_ret, ↓call0_ret, ↓call_raise, ↓pm_0, ↓pm_01, ↓pm_10, ↓pm_012, ↓pm_021, ↓pm_102, ↓pm_120, ↓pm_201, ↓pm_210, ↓pm_0123, ↓pm_0132, ↓pm_0213, ↓pm_0231, ↓pm_0312, ↓pm_0321, ↓pm_1023, ↓pm_1032, ↓pm_1203, ↓pm_1230, ↓pm_1302, ↓pm_1320, ↓pm_2013, ↓pm_2031, ↓pm_2103, ↓pm_2130, ↓pm_2301, ↓pm_2310, ↓pm_3012, ↓pm_3021, ↓pm_3102, ↓pm_3120, ↓pm_3201, ↓pm_3210, ↓o_sub, ↓o_lt, ↓o_le, ↓o_gt, ↓o_ge, ↓o_mod, ↓o_fdiv, ↓o_pow, ↓o_mul, ↓o_rep, ↓o_repT, ↓o_add, ↓o_addS, ↓o_addT, ↓o_addLL, ↓o_addLO, ↓o_addOL, ↓o_addOO, ↓o_ixT, ↓o_ixL, ↓o_ixO, ↓atS_0, ↓atS_1, ↓atS_2, ↓atS_3, ↓atS_4, ↓slc_T, ↓slc_L, ↓slc_O, ↓ext_own, ↓ext_OO, ↓lm_own, ↓append_own, ↓b_lenT, ↓b_lenL, ↓b_lenO, ↓b_lenS, ↓b_tupT, ↓b_tupL, ↓b_tupO, ↓b_lstT, ↓b_lstL, ↓b_lstO, ↓b_min2, ↓b_max2, ↓b_abs, ↓b_sumO, ↓b_sumL, ↓b_sumT, ↓b_anyO, ↓b_allO, ↓o_eqI, ↓o_neI, ↓o_eqSt, ↓o_neSt, ↓o_eqT, ↓o_neT, ↓isN_non, ↓isN_int, ↓isN_str, ↓isN_tup, ↓isN_lst, ↓nIsN_non, ↓nIsN_int, ↓nIsN_str, ↓nIsN_tup, ↓nIsN_lst, if_true, if_false, Bool.not_true, Bool.not_false, Bool.false_eq_true, decide_true, decide_false, String.reduceEq, decide_eq_true_eq, Int.toNat_natCast, List.length_map, List.length_cons, List.length_nil, sizeL, Nat.zero_add, Nat.reduceAdd, Nat.reduceLeDiff, ↓ii_non_bool, ↓ii_non_int, ↓ii_non_str, ↓ii_non_tuple, ↓ii_non_list, ↓ii_bl_bool, ↓ii_bl_int, ↓ii_bl_str, ↓ii_bl_tuple, ↓ii_bl_list, ↓ii_int_bool, ↓ii_int_int, ↓ii_int_str, ↓ii_int_tuple, ↓ii_int_list, ↓ii_str_bool, ↓ii_str_int, ↓ii_str_str, ↓ii_str_tuple, ↓ii_str_list, ↓ii_tup_bool, ↓ii_tup_int, ↓ii_tup_str, ↓ii_tup_tuple, ↓ii_tup_list, ↓ii_lst_bool, ↓ii_lst_int, ↓ii_lst_str, ↓ii_lst_tuple, ↓ii_lst_list, ↓o_eqB, ↓o_neB]
    | bl b => simp only [↓k_V, ↓k_C, ↓k_Op2, ↓k_Fz, ↓k_wNil, ↓k_wCons, ↓k_Tup, ↓k_Lst, ↓k_oNo, ↓k_oPart, ↓k_Sl, ↓k_sNil, ↓k_sCons, ↓k_CB, ↓k_tYes, ↓k_tTst, ↓k_tAnd, ↓k_tOr, ↓k_tNot, ↓k_If, ↓k_And, ↓k_Or, ↓k_Not, ↓k_Neg, ↓k_Chn, ↓k_Call, ↓k_Call0, ↓k_wPerm, ↓k_iItems, ↓k_iRng1, ↓k_iRng2, ↓k_iZip, ↓k_iEnum, ↓k_iEnz, ↓k_ifC, ↓k_Lrg1, ↓k_parC, ↓k_starC, ↓k_setC, ↓k_setC2, ↓k_augC, ↓k_lcb, ↓k_Lc, ↓k_forC, ↓str_lit, ↓fz_val, ↓fz_seq, ↓rr_val, ↓rr_own, ↓sv_val, ↓sv_own, ↓asI_int, ↓asB_bl, ↓items_tup, ↓items_lst, ↓un2_tup, ↓un3_tup, ↓un5_tup, ↓uq2_tup, ↓uq3_tup, ↓uq2_lst, ↓uq3_lst, ↓uq4_tup, ↓uq5_tup, ↓star_tup, ↓star_lst, ↓pr2_2, ↓zip2_tup, ↓zip2_lst, ↓enz_2, ↓rng1_int, ↓rng2_int, ↓lrg1_int, ↓req_T, ↓ret_at, ↓raise_at, ↓call_ret, ↓call0_ret, ↓call_raise, ↓pm_0, ↓pm_01, ↓pm_10, ↓pm_012, ↓pm_021, ↓pm_102, ↓pm_120, ↓pm_201, ↓pm_210, ↓pm_0123, ↓pm_0132, ↓pm_0213, ↓pm_0231, ↓pm_0312, ↓pm_0321, ↓pm_1023, ↓pm_1032, ↓pm_1203, ↓pm_1230, ↓pm_1302, ↓pm_1320, ↓pm_2013, ↓pm_2031, ↓pm_2103, ↓pm_2130, ↓pm_2301, ↓pm_2310, ↓pm_3012, ↓pm_3021, ↓pm_3102, ↓pm_3120, ↓pm_3201, ↓pm_3210, ↓o_sub, ↓o_lt, ↓o_le, ↓o_gt, ↓o_ge, ↓o_mod, ↓o_fdiv, ↓o_pow, ↓o_mul, ↓o_rep, ↓o_repT, ↓o_add, ↓o_addS, ↓o_addT, ↓o_addLL, ↓o_addLO, ↓o_addOL, ↓o_addOO, ↓o_ixT, ↓o_ixL, ↓o_ixO, ↓atS_0, ↓atS_1, ↓atS_2, ↓atS_3, ↓atS_4, ↓slc_T, ↓slc_L, ↓slc_O, ↓ext_own, ↓ext_OO, ↓lm_own, ↓append_own, ↓b_lenT, ↓b_lenL, ↓b_lenO, ↓b_lenS, ↓b_tupT, ↓b_tupL, ↓b_tupO, ↓b_lstT, ↓b_lstL, ↓b_lstO, ↓b_min2, ↓b_max2, ↓b_abs, ↓b_sumO, ↓b_sumL, ↓b_sumT, ↓b_anyO, ↓b_allO, ↓o_eqI, ↓o_neI, ↓o_eqSt, ↓o_neSt, ↓o_eqT, ↓o_neT, ↓isN_non, ↓isN_int, ↓isN_str, ↓isN_tup, ↓isN_lst, ↓nIsN_non, ↓nIsN_int, ↓nIsN_str, ↓nIsN_tup, ↓nIsN_lst, if_true, if_false, Bool.not_true, Bool.not_false, Bool.false_eq_true, decide_true, decide_false, String.reduceEq, decide_eq_true_eq, Int.toNat_natCast, List.length_map, List.length_cons, List.length_nil, sizeL, Nat.zero_add, Nat.reduceAdd, Nat.reduceLeDiff, ↓isN_bl, ↓ii_non_bool, ↓ii_non_int, ↓ii_non_str, ↓ii_non_tuple, ↓ii_non_list, ↓ii_bl_bool, ↓ii_bl_int, ↓ii_bl_str, ↓ii_bl_tuple, ↓ii_bl_list, ↓ii_int_bool, ↓ii_int_int, ↓ii_int_str, ↓ii_int_tuple, ↓ii_int_list, ↓ii_str_bool, ↓ii_str_int, ↓ii_str_str, ↓ii_str_tuple, ↓ii_str_list, ↓ii_tup_bool, ↓ii_tup_int, ↓ii_tup_str, ↓ii_tup_tuple, ↓ii_tup_list, ↓ii_lst_bool, ↓ii_lst_int, ↓ii_lst_str, ↓ii_lst_tuple, ↓ii_lst_list, ↓o_eqB, ↓o_neB]
    | int i => simp only [↓k_V, ↓k_C, ↓k_Op2, ↓k_Fz, ↓k_wNil, ↓k_wCons, ↓k_Tup, ↓k_Lst, ↓k_oNo, ↓k_oPart, ↓k_Sl, ↓k_sNil, ↓k_sCons, ↓k_CB, ↓k_tYes, ↓k_tTst, ↓k_tAnd, ↓k_tOr, ↓k_tNot, ↓k_If, ↓k_And, ↓k_Or, ↓k_Not, ↓k_Neg, ↓k_Chn, ↓k_Call, ↓k_Call0, ↓k_wPerm, ↓k_iItems, ↓k_iRng1, ↓k_iRng2, ↓k_iZip, ↓k_iEnum, ↓k_iEnz, ↓k_ifC, ↓k_Lrg1, ↓k_parC, ↓k_starC, ↓k_setC, ↓k_setC2, ↓k_augC, ↓k_lcb, ↓k_Lc, ↓k_forC, ↓str_lit, ↓fz_val, ↓fz_seq, ↓rr_val, ↓rr_own, ↓sv_val, ↓sv_own, ↓asI_int, ↓asB_bl, ↓items_tup, ↓items_lst, ↓un2_tup, ↓un3_tup, ↓un5_tup, ↓uq2_tup, ↓uq3_tup, ↓uq2_lst, ↓uq3_lst, ↓uq4_tup, ↓uq5_tup, ↓star_tup, ↓star_lst, ↓pr2_2, ↓zip2_tup, ↓zip2_lst, ↓enz_2, ↓rng1_int, ↓rng2_int, ↓lrg1_int, ↓req_T, ↓ret_at, ↓raise_at, ↓call_ret, ↓call0_ret, ↓call_raise, ↓pm_0, ↓pm_01, ↓pm_10, ↓pm_012, ↓pm_021, ↓pm_102, ↓pm_120, ↓pm_201, ↓pm_210, ↓pm_0123, ↓pm_0132, ↓pm_0213, ↓pm_0231, ↓pm_0312, ↓pm_0321, ↓pm_1023, ↓pm_1032, ↓pm_1203, ↓pm_1230, ↓pm_1302, ↓pm_1320, ↓pm_2013, ↓pm_2031, ↓pm_2103, ↓pm_2130, ↓pm_2301, ↓pm_2310, ↓pm_3012, ↓pm_3021, ↓pm_3102, ↓pm_3120, ↓pm_3201, ↓pm_3210, ↓o_sub, ↓o_lt, ↓o_le, ↓o_gt, ↓o_ge, ↓o_mod, ↓o_fdiv, ↓o_pow, ↓o_mul, ↓o_rep, ↓o_repT, ↓o_add, ↓o_addS, ↓o_addT, ↓o_addLL, ↓o_addLO, ↓o_addOL, ↓o_addOO, ↓o_ixT, ↓o_ixL, ↓o_ixO, ↓atS_0, ↓atS_1, ↓atS_2, ↓atS_3, ↓atS_4, ↓slc_T, ↓slc_L, ↓slc_O, ↓ext_own, ↓ext_OO, ↓lm_own, ↓append_own, ↓b_lenT, ↓b_lenL, ↓b_lenO, ↓b_lenS, ↓b_tupT, ↓b_tupL, ↓b_tupO, ↓b_lstT, ↓b_lstL, ↓b_lstO, ↓b_min2, ↓b_max2, ↓b_abs, ↓b_sumO, ↓b_sumL, ↓b_sumT, ↓b_anyO, ↓b_allO, ↓o_eqI, ↓o_neI, ↓o_eqSt, ↓o_neSt, ↓o_eqT, ↓o_neT, ↓isN_non, ↓isN_int, ↓isN_str, ↓isN_tup, ↓isN_lst, ↓nIsN_non, ↓nIsN_int, ↓nIsN_str, ↓nIsN_tup, ↓nIsN_lst, if_true, if_false, Bool.not_true, Bool.not_false, Bool.false_eq_true, decide_true, decide_false, String.reduceEq, decide_eq_true_eq, Int.toNat_natCast, List.length_map, List.length_cons, List.length_nil, sizeL, Nat.zero_add, Nat.reduceAdd, Nat.reduceLeDiff, ↓ii_non_bool, ↓ii_non_int, ↓ii_non_str, ↓ii_non_tuple, ↓ii_non_list, ↓ii_bl_bool, ↓ii_bl_int, ↓ii_bl_str, ↓ii_bl_tuple, ↓ii_bl_list, ↓ii_int_bool, ↓ii_int_int, ↓ii_int_str, ↓ii_int_tuple, ↓ii_int_list, ↓ii_str_bool, ↓ii_str_int, ↓ii_str_str, ↓ii_str_tuple, ↓ii_str_list, ↓ii_tup_bool, ↓ii_tup_int, ↓ii_tup_str, ↓ii_tup_tuple, ↓ii_tup_list, ↓ii_lst_bool, ↓ii_lst_int, ↓ii_lst_str, ↓ii_lst_tuple, ↓ii_lst_list, ↓o_eqB, ↓o_neB]
    | str x => simp only [↓k_V, ↓k_C, ↓k_Op2, ↓k_Fz, ↓k_wNil, ↓k_wCons, ↓k_Tup, ↓k_Lst, ↓k_oNo, ↓k_oPart, ↓k_Sl, ↓k_sNil, ↓k_sCons, ↓k_CB, ↓k_tYes, ↓k_tTst, ↓k_tAnd, ↓k_tOr, ↓k_tNot, ↓k_If, ↓k_And, ↓k_Or, ↓k_Not, ↓k_Neg, ↓k_Chn, ↓k_Call, ↓k_Call0, ↓k_wPerm, ↓k_iItems, ↓k_iRng1, ↓k_iRng2, ↓k_iZip, ↓k_iEnum, ↓k_iEnz, ↓k_ifC, ↓k_Lrg1, ↓k_parC, ↓k_starC, ↓k_setC, ↓k_setC2, ↓k_augC, ↓k_lcb, ↓k_Lc, ↓k_forC, ↓str_lit, ↓fz_val, ↓fz_seq, ↓rr_val, ↓rr_own, ↓sv_val, ↓sv_own, ↓asI_int, ↓asB_bl, ↓items_tup, ↓items_lst, ↓un2_tup, ↓un3_tup, ↓un5_tup, ↓uq2_tup, ↓uq3_tup, ↓uq2_lst, ↓uq3_lst, ↓uq4_tup, ↓uq5_tup, ↓star_tup, ↓star_lst, ↓pr2_2, ↓zip2_tup, ↓zip2_lst, ↓enz_2, ↓rng1_int, ↓rng2_int, ↓lrg1_int, ↓req_T, ↓ret_at, ↓raise_at, ↓call_ret, ↓call0_ret, ↓call_raise, ↓pm_0, ↓pm_01, ↓pm_10, ↓pm_012, ↓pm_021, ↓pm_102, ↓pm_120, ↓pm_201, ↓pm_210, ↓pm_0123, ↓pm_0132, ↓pm_0213, ↓pm_0231, ↓pm_0312, ↓pm_0321, ↓pm_1023, ↓pm_1032, ↓pm_1203, ↓pm_1230, ↓pm_1302, ↓pm_1320, ↓pm_2013, ↓pm_2031, ↓pm_2103, ↓pm_2130, ↓pm_2301, ↓pm_2310, ↓pm_3012, ↓pm_3021, ↓pm_3102, ↓pm_3120, ↓pm_3201, ↓pm_3210, ↓o_sub, ↓o_lt, ↓o_le, ↓o_gt, ↓o_ge, ↓o_mod, ↓o_fdiv, ↓o_pow, ↓o_mul, ↓o_rep, ↓o_repT, ↓o_add, ↓o_addS, ↓o_addT, ↓o_addLL, ↓o_addLO, ↓o_addOL, ↓o_addOO, ↓o_ixT, ↓o_ixL, ↓o_ixO, ↓atS_0, ↓atS_1, ↓atS_2, ↓atS_3, ↓atS_4, ↓slc_T, ↓slc_L, ↓slc_O, ↓ext_own, ↓ext_OO, ↓lm_own, ↓append_own, ↓b_lenT, ↓b_lenL, ↓b_lenO, ↓b_lenS, ↓b_tupT, ↓b_tupL, ↓b_tupO, ↓b_lstT, ↓b_lstL, ↓b_lstO, ↓b_min2, ↓b_max2, ↓b_abs, ↓b_sumO, ↓b_sumL, ↓b_sumT, ↓b_anyO, ↓b_allO, ↓o_eqI, ↓o_neI, ↓o_eqSt, ↓o_neSt, ↓o_eqT, ↓o_neT, ↓isN_non, ↓isN_int, ↓isN_str, ↓isN_tup, ↓isN_lst, ↓nIsN_non, ↓nIsN_int, ↓nIsN_str, ↓nIsN_tup, ↓nIsN_lst, if_true, if_false, Bool.not_true, Bool.not_false, Bool.false_eq_true, decide_true, decide_false, String.reduceEq, decide_eq_true_eq, Int.toNat_natCast, List.length_map, List.length_cons, List.length_nil, sizeL, Nat.zero_add, Nat.reduceAdd, Nat.reduceLeDiff, ↓ii_non_bool, ↓ii_non_int, ↓ii_non_str, ↓ii_non_tuple, ↓ii_non_list, ↓ii_bl_bool, ↓ii_bl_int, ↓ii_bl_str, ↓ii_bl_tuple, ↓ii_bl_list, ↓ii_int_bool, ↓ii_int_int, ↓ii_int_str, ↓ii_int_tuple, ↓ii_int_list, ↓ii_str_bool, ↓ii_str_int, ↓ii_str_str, ↓ii_str_tuple, ↓ii_str_list, ↓ii_tup_bool, ↓ii_tup_int, ↓ii_tup_str, ↓ii_tup_tuple, ↓ii_tup_list, ↓ii_lst_bool, ↓ii_lst_int, ↓ii_lst_str, ↓ii_lst_tuple, ↓ii_lst_list, ↓o_eqB, ↓o_neB]
    | tup xs => simp [W.sm] at h
    | lst xs => simp [W.sm] at h
    | dct _ _ => simp [W.sm] at h
    | ref _ => simp [W.sm] at h
    | ty _ => simp [W.sm] at h
  | succ d ih =>
    intro w h
    show mf__law_same (m__law_same (d + 1)) w w = _
    unfold mf__law_same
    have seq : ∀ xs : List W, xs.length ≤ 100000 → (∀ x ∈ xs, x.sm d = true) → ∀ v : W, (∀ (i : Nat) (k : SV → MC), i < xs.length → op2 oIx (.val v) (.val (.int i)) k = atS xs i fun w => k (.val w)) →
        ∀ k : SV → MC, lcL (fun x_at kk => op2 oIx (.val v) (.val x_at) fun x => op2 oIx (.val v) (.val x_at) fun y => call0 (m__law_same (d + 1) [x.fz, y.fz]) fun z => kk (some z.fz)) (fun acc => k (.own (.seq acc))) (rngW 0 xs.length) [] = k (.own (.seq ((List.replicate xs.length true).map W.bl))) := by
      intro xs hl hx v hv k
      rw [range_nat, lc_all natW (fun _ => .bl true) _ (fun i hi kk => ?_) (by simp [sizeL]; omega)]
      · congr 3
        rw [List.map_const', List.map_replicate, List.length_range]
      · have hi : i < xs.length := by simpa using hi
        rw [hv i _ hi, atS_nat hi, hv i _ hi, atS_nat hi, fz_val, ih _ (hx _ (List.getElem_mem hi)), call0_ret, fz_val]
    cases w with
    | non => simp only [↓k_V, ↓k_C, ↓k_Op2, ↓k_Fz, ↓k_wNil, ↓k_wCons, ↓k_Tup, ↓k_Lst, ↓k_oNo, ↓k_oPart, ↓k_Sl, ↓k_sNil, ↓k_sCons, ↓k_CB, ↓k_tYes, ↓k_tTst, ↓k_tAnd, ↓k_tOr, ↓k_tNot, ↓k_If, ↓k_And, ↓k_Or, ↓k_Not, ↓k_Neg, ↓k_Chn, ↓k_Call, ↓k_Call0, ↓k_wPerm, ↓k_iItems, ↓k_iRng1, ↓k_iRng2, ↓k_iZip, ↓k_iEnum, ↓k_iEnz, ↓k_ifC, ↓k_Lrg1, ↓k_parC, ↓k_starC, ↓k_setC, ↓k_setC2, ↓k_augC, ↓k_lcb, ↓k_Lc, ↓k_forC, ↓str_lit, ↓fz_val, ↓fz_seq, ↓rr_val, ↓rr_own, ↓sv_val, ↓sv_own, ↓asI_int, ↓asB_bl, ↓items_tup, ↓items_lst, ↓un2_tup, ↓un3_tup, ↓un5_tup, ↓uq2_tup, ↓uq3_tup, ↓uq2_lst, ↓uq3_lst, ↓uq4_tup, ↓uq5_tup, ↓star_tup, ↓star_lst, ↓pr2_2, ↓zip2_tup, ↓zip2_lst, ↓enz_2, ↓rng1_int, ↓rng2_int, ↓lrg1_int, ↓req_T, ↓ret_at, ↓raise_at, ↓call_ret, ↓call0_ret, ↓call_raise, ↓pm_0, ↓pm_01, ↓pm_10, ↓pm_012, ↓pm_021, ↓pm_102, ↓pm_120, ↓pm_201, ↓pm_210, ↓pm_0123, ↓pm_0132, ↓pm_0213, ↓pm_0231, ↓pm_0312, ↓pm_0321, ↓pm_1023, ↓pm_1032, ↓pm_1203, ↓pm_1230, ↓pm_1302, ↓pm_1320, ↓pm_2013, ↓pm_2031, ↓pm_2103, ↓pm_2130, ↓pm_2301, ↓pm_2310, ↓pm_3012, ↓pm_3021, ↓pm_3102, ↓pm_3120, ↓pm_3201, ↓pm_3210, ↓o_sub, ↓o_lt, ↓o_le, ↓o_gt, ↓o_ge, ↓o_mod, ↓o_fdiv, ↓o_pow, ↓o_mul, ↓o_rep, ↓o_repT, ↓o_add, ↓o_addS, ↓o_addT, ↓o_addLL, ↓o_addLO, ↓o_addOL, ↓o_addOO, ↓o_ixT, ↓o_ixL, ↓o_ixO, ↓atS_0, ↓atS_1, ↓atS_2, ↓atS_3, ↓atS_4, ↓slc_T, ↓slc_L, ↓slc_O, ↓ext_own, ↓ext_OO, ↓lm_own, ↓append_own, ↓b_lenT, ↓b_lenL, ↓b_lenO, ↓b_lenS, ↓b_tupT, ↓b_tupL, ↓b_tupO, ↓b_lstT, ↓b_lstL, ↓b_lstO, ↓b_min2, ↓b_max2, ↓b_abs, ↓b_sumO, ↓b_sumL, ↓b_sumT, ↓b_anyO, ↓b_allO, ↓o_eqI, ↓o_neI, ↓o_eqSt, ↓o_neSt, ↓o_eqT, ↓o_neT, ↓isN_non, ↓isN_int, ↓isN_str, ↓isN_tup, ↓isN_lst, ↓nIsN_non, ↓nIsN_int, ↓nIsN_str, ↓nIsN_tup, ↓nIsN_lst, if_true, if_false, Bool.not_true, Bool.not_false, Bool.false_eq_true, decide_true, decide_false, String.reduceEq, decide_eq_true_eq, Int.toNat_natCast, List.length_map, List.length_cons, List.length_nil, sizeL, Nat.zero_add, Nat.reduceAdd, Nat.reduceLeDiff, ↓ii_non_bool, ↓ii_non_int, ↓ii_non_str, ↓ii_non_tuple, ↓ii_non_list, ↓ii_bl_bool, ↓ii_bl_int, ↓ii_bl_str, ↓ii_bl_tuple, ↓ii_bl_list, ↓ii_int_bool, ↓ii_int_int, ↓ii_int_str, ↓ii_int_tuple, ↓ii_int_list, ↓ii_str_bool, ↓ii_str_int, ↓ii_str_str, ↓ii_str_tuple, ↓ii_str_list, ↓ii_tup_bool, ↓ii_tup_int, ↓ii_tup_str, ↓ii_tup_tuple, ↓ii_tup_list, ↓ii_lst_bool, ↓ii_lst_int, ↓ii_lst_str, ↓ii_lst_tuple, ↓ii_lst_list, ↓o_eqB, ↓o_neB]
    | bl b => simp only [↓k_V, ↓k_C, ↓k_Op2, ↓k_Fz, ↓k_wNil, ↓k_wCons, ↓k_Tup, ↓k_Lst, ↓k_oNo, ↓k_oPart, ↓k_Sl, ↓k_sNil, ↓k_sCons, ↓k_CB, ↓k_tYes, ↓k_tTst, ↓k_tAnd, ↓k_tOr, ↓k_tNot, ↓k_If, ↓k_And, ↓k_Or, ↓k_Not, ↓k_Neg, ↓k_Chn, ↓k_Call, ↓k_Call0, ↓k_wPerm, ↓k_iItems, ↓k_iRng1, ↓k_iRng2, ↓k_iZip, ↓k_iEnum, ↓k_iEnz, ↓k_ifC, ↓k_Lrg1, ↓k_parC, ↓k_starC, ↓k_setC, ↓k_setC2, ↓k_augC, ↓k_lcb, ↓k_Lc, ↓k_forC, ↓str_lit, ↓fz_val, ↓fz_seq, ↓rr_val, ↓rr_own, ↓sv_val, ↓sv_own, ↓asI_int, ↓asB_bl, ↓items_tup, ↓items_lst, ↓un2_tup, ↓un3_tup, ↓un5_tup, ↓uq2_tup, ↓uq3_tup, ↓uq2_lst, ↓uq3_lst, ↓uq4_tup, ↓uq5_tup, ↓star_tup, ↓star_lst, ↓pr2_2, ↓zip2_tup, ↓zip2_lst, ↓enz_2, ↓rng1_int, ↓rng2_int, ↓lrg1_int, ↓req_T, ↓ret_at, ↓raise_at, ↓call_ret, ↓call0_ret, ↓call_raise, ↓pm_0, ↓pm_01, ↓pm_10, ↓pm_012, ↓pm_021, ↓pm_102, ↓pm_120, ↓pm_201, ↓pm_210, ↓pm_0123, ↓pm_0132, ↓pm_0213, ↓pm_0231, ↓pm_0312, ↓pm_0321, ↓pm_1023, ↓pm_1032, ↓pm_1203, ↓pm_1230, ↓pm_1302, ↓pm_1320, ↓pm_2013, ↓pm_2031, ↓pm_2103, ↓pm_2130, ↓pm_2301, ↓pm_2310, ↓pm_3012, ↓pm_3021, ↓pm_3102, ↓pm_3120, ↓pm_3201, ↓pm_3210, ↓o_sub, ↓o_lt, ↓o_le, ↓o_gt, ↓o_ge, ↓o_mod, ↓o_fdiv, ↓o_pow, ↓o_mul, ↓o_rep, ↓o_repT, ↓o_add, ↓o_addS, ↓o_addT, ↓o_addLL, ↓o_addLO, ↓o_addOL, ↓o_addOO, ↓o_ixT, ↓o_ixL, ↓o_ixO, ↓atS_0, ↓atS_1, ↓atS_2, ↓atS_3, ↓atS_4, ↓slc_T, ↓slc_L, ↓slc_O, ↓ext_own, ↓ext_OO, ↓lm_own, ↓append_own, ↓b_lenT, ↓b_lenL, ↓b_lenO, ↓b_lenS, ↓b_tupT, ↓b_tupL, ↓b_tupO, ↓b_lstT, ↓b_lstL, ↓b_lstO, ↓b_min2, ↓b_max2, ↓b_abs, ↓b_sumO, ↓b_sumL, ↓b_sumT, ↓b_anyO, ↓b_allO, ↓o_eqI, ↓o_neI, ↓o_eqSt, ↓o_neSt, ↓o_eqT, ↓o_neT, ↓isN_non, ↓isN_int, ↓isN_str, ↓isN_tup, ↓isN_lst, ↓nIsN_non, ↓nIsN_int, ↓nIsN_str, ↓nIsN_tup, ↓nIsN_lst, if_true, if_false, Bool.not_true, Bool.not_false, Bool.false_eq_true, decide_true, decide_false, String.reduceEq, decide_eq_true_eq, Int.toNat_natCast, List.length_map, List.length_cons, List.length_nil, sizeL, Nat.zero_add, Nat.reduceAdd, Nat.reduceLeDiff, ↓isN_bl, ↓ii_non_bool, ↓ii_non_int, ↓ii_non_str, ↓ii_non_tuple, ↓ii_non_list, ↓ii_bl_bool, ↓ii_bl_int, ↓ii_bl_str, ↓ii_bl_tuple, ↓ii_bl_list, ↓ii_int_bool, ↓ii_int_int, ↓ii_int_str, ↓ii_int_tuple, ↓ii_int_list, ↓ii_str_bool, ↓ii_str_int, ↓ii_str_str, ↓ii_str_tuple, ↓ii_str_list, ↓ii_tup_bool, ↓ii_tup_int, ↓ii_tup_str, ↓ii_tup_tuple, ↓ii_tup_list, ↓ii_lst_bool, ↓ii_lst_int, ↓ii_lst_str, ↓ii_lst_tuple, ↓ii_lst_list, ↓o_eqB, ↓o_neB]
    | int i => simp only [↓k_V, ↓k_C, ↓k_Op2, ↓k_Fz, ↓k_wNil, ↓k_wCons, ↓k_Tup, ↓k_Lst, ↓k_oNo, ↓k_oPart, ↓k_Sl, ↓k_sNil, ↓k_sCons, ↓k_CB, ↓k_tYes, ↓k_tTst, ↓k_tAnd, ↓k_tOr, ↓k_tNot, ↓k_If, ↓k_And, ↓k_Or, ↓k_Not, ↓k_Neg, ↓k_Chn, ↓k_Call, ↓k_Call0, ↓k_wPerm, ↓k_iItems, ↓k_iRng1, ↓k_iRng2, ↓k_iZip, ↓k_iEnum, ↓k_iEnz, ↓k_ifC, ↓k_Lrg1, ↓k_parC, ↓k_starC, ↓k_setC, ↓k_setC2, ↓k_augC, ↓k_lcb, ↓k_Lc, ↓k_forC, ↓str_lit, ↓fz_val, ↓fz_seq, ↓rr_val, ↓rr_own, ↓sv_val, ↓sv_own, ↓asI_int, ↓asB_bl, ↓items_tup, ↓items_lst, ↓un2_tup, ↓un3_tup, ↓un5_tup, ↓uq2_tup, ↓uq3_tup, ↓uq2_lst, ↓uq3_lst, ↓uq4_tup, ↓uq5_tup, ↓star_tup, ↓star_lst, ↓pr2_2, ↓zip2_tup, ↓zip2_lst, ↓enz_2, ↓rng1_int, ↓rng2_int, ↓lrg1_int, ↓req_T, ↓ret_at, ↓raise_at, ↓call_ret, ↓call0_ret, ↓call_raise, ↓pm_0, ↓pm_01, ↓pm_10, ↓pm_012, ↓pm_021, ↓pm_102, ↓pm_120, ↓pm_201, ↓pm_210, ↓pm_0123, ↓pm_0132, ↓pm_0213, ↓pm_0231, ↓pm_0312, ↓pm_0321, ↓pm_1023, ↓pm_1032, ↓pm_1203, ↓pm_1230, ↓pm_1302, ↓pm_1320, ↓pm_2013, ↓pm_2031, ↓pm_2103, ↓pm_2130, ↓pm_2301, ↓pm_2310, ↓pm_3012, ↓pm_3021, ↓pm_3102, ↓pm_3120, ↓pm_3201, ↓pm_3210, ↓o_sub, ↓o_lt, ↓o_le, ↓o_gt, ↓o_ge, ↓o_mod, ↓o_fdiv, ↓o_pow, ↓o_mul, ↓o_rep, ↓o_repT, ↓o_add, ↓o_addS, ↓o_addT, ↓o_addLL, ↓o_addLO, ↓o_addOL, ↓o_addOO, ↓o_ixT, ↓o_ixL, ↓o_ixO, ↓atS_0, ↓atS_1, ↓atS_2, ↓atS_3, ↓atS_4, ↓slc_T, ↓slc_L, ↓slc_O, ↓ext_own, ↓ext_OO, ↓lm_own, ↓append_own, ↓b_lenT, ↓b_lenL, ↓b_lenO, ↓b_lenS, ↓b_tupT, ↓b_tupL, ↓b_tupO, ↓b_lstT, ↓b_lstL, ↓b_lstO, ↓b_min2, ↓b_max2, ↓b_abs, ↓b_sumO, ↓b_sumL, ↓b_sumT, ↓b_anyO, ↓b_allO, ↓o_eqI, ↓o_neI, ↓o_eqSt, ↓o_neSt, ↓o_eqT, ↓o_neT, ↓isN_non, ↓isN_int, ↓isN_str, ↓isN_tup, ↓isN_lst, ↓nIsN_non, ↓nIsN_int, ↓nIsN_str, ↓nIsN_tup, ↓nIsN_lst, if_true, if_false, Bool.not_true, Bool.not_false, Bool.false_eq_true, decide_true, decide_false, String.reduceEq, decide_eq_true_eq, Int.toNat_natCast, List.length_map, List.length_cons, List.length_nil, sizeL, Nat.zero_add, Nat.reduceAdd, Nat.reduceLeDiff, ↓ii_non_bool, ↓ii_non_int, ↓ii_non_str, ↓ii_non_tuple, ↓ii_non_list, ↓ii_bl_bool, ↓ii_bl_int, ↓ii_bl_str, ↓ii_bl_tuple, ↓ii_bl_list, ↓ii_int_bool, ↓ii_int_int, ↓ii_int_str, ↓ii_int_tuple, ↓ii_int_list, ↓ii_str_bool, ↓ii_str_int, ↓ii_str_str, ↓ii_str_tuple, ↓ii_str_list, ↓ii_tup_bool, ↓ii_tup_int, ↓ii_tup_str, ↓ii_tup_tuple, ↓ii_tup_list, ↓ii_lst_bool, ↓ii_lst_int, ↓ii_lst_str, ↓ii_lst_tuple, ↓ii_lst_list, ↓o_eqB, ↓o_neB]
    | str x => simp only [↓k_V, ↓k_C, ↓k_Op2, ↓k_Fz, ↓k_wNil, ↓k_wCons, ↓k_Tup, ↓k_Lst, ↓k_oNo, ↓k_oPart, ↓k_Sl, ↓k_sNil, ↓k_sCons, ↓k_CB, ↓k_tYes, ↓k_tTst, ↓k_tAnd, ↓k_tOr, ↓k_tNot, ↓k_If, ↓k_And, ↓k_Or, ↓k_Not, ↓k_Neg, ↓k_Chn, ↓k_Call, ↓k_Call0, ↓k_wPerm, ↓k_iItems, ↓k_iRng1, ↓k_iRng2, ↓k_iZip, ↓k_iEnum, ↓k_iEnz, ↓k_ifC, ↓k_Lrg1, ↓k_parC, ↓k_starC, ↓k_setC, ↓k_setC2, ↓k_augC, ↓k_lcb, ↓k_Lc, ↓k_forC, ↓str_lit, ↓fz_val, ↓fz_seq, ↓rr_val, ↓rr_own, ↓sv_val, ↓sv_own, ↓asI_int, ↓asB_bl, ↓items_tup, ↓items_lst, ↓un2_tup, ↓un3_tup, ↓un5_tup, ↓uq2_tup, ↓uq3_tup, ↓uq2_lst, ↓uq3_lst, ↓uq4_tup, ↓uq5_tup, ↓star_tup, ↓star_lst, ↓pr2_2, ↓zip2_tup, ↓zip2_lst, ↓enz_2, ↓rng1_int, ↓rng2_int, ↓lrg1_int, ↓req_T, ↓ret_at, ↓raise_at, ↓call_ret, ↓call0_ret, ↓call_raise, ↓pm_0, ↓pm_01, ↓pm_10, ↓pm_012, ↓pm_021, ↓pm_102, ↓pm_120, ↓pm_201, ↓pm_210, ↓pm_0123, ↓pm_0132, ↓pm_0213, ↓pm_0231, ↓pm_0312, ↓pm_0321, ↓pm_1023, ↓pm_1032, ↓pm_1203, ↓pm_1230, ↓pm_1302, ↓pm_1320, ↓pm_2013, ↓pm_2031, ↓pm_2103, ↓pm_2130, ↓pm_2301, ↓pm_2310, ↓pm_3012, ↓pm_3021, ↓pm_3102, ↓pm_3120, ↓pm_3201, ↓pm_3210, ↓o_sub, ↓o_lt, ↓o_le, ↓o_gt, ↓o_ge, ↓o_mod, ↓o_fdiv, ↓o_pow, ↓o_mul, ↓o_rep, ↓o_repT, ↓o_add, ↓o_addS, ↓o_addT, ↓o_addLL, ↓o_addLO, ↓o_addOL, ↓o_addOO, ↓o_ixT, ↓o_ixL, ↓o_ixO, ↓atS_0, ↓atS_1, ↓atS_2, ↓atS_3, ↓atS_4, ↓slc_T, ↓slc_L, ↓slc_O, ↓ext_own, ↓ext_OO, ↓lm_own, ↓append_own, ↓b_lenT, ↓b_lenL, ↓b_lenO, ↓b_lenS, ↓b_tupT, ↓b_tupL, ↓b_tupO, ↓b_lstT, ↓b_lstL, ↓b_lstO, ↓b_min2, ↓b_max2, ↓b_abs, ↓b_sumO, ↓b_sumL, ↓b_sumT, ↓b_anyO, ↓b_allO, ↓o_eqI, ↓o_neI, ↓o_eqSt, ↓o_neSt, ↓o_eqT, ↓o_neT, ↓isN_non, ↓isN_int, ↓isN_str, ↓isN_tup, ↓isN_lst, ↓nIsN_non, ↓nIsN_int, ↓nIsN_str, ↓nIsN_tup, ↓nIsN_lst, if_true, if_false, Bool.not_true, Bool.not_false, Bool.false_eq_true, decide_true, decide_false, String.reduceEq, decide_eq_true_eq, Int.toNat_natCast, List.length_map, List.length_cons, List.length_nil, sizeL, Nat.zero_add, Nat.reduceAdd, Nat.reduceLeDiff, ↓ii_non_bool, ↓ii_non_int, ↓ii_non_str, ↓ii_non_tuple, ↓ii_non_list, ↓ii_bl_bool, ↓ii_bl_int, ↓ii_bl_str, ↓ii_bl_tuple, ↓ii_bl_list, ↓ii_int_bool, ↓ii_int_int, ↓ii_int_str, ↓ii_int_tuple, ↓ii_int_list, ↓ii_str_bool, ↓ii_str_int, ↓ii_str_str, ↓ii_str_tuple, ↓ii_str_list, ↓ii_tup_bool, ↓ii_tup_int, ↓ii_tup_str, ↓ii_tup_tuple, ↓ii_tup_list, ↓ii_lst_bool, ↓ii_lst_int, ↓ii_lst_str, ↓ii_lst_tuple, ↓ii_lst_list, ↓o_eqB, ↓o_neB]
    | tup xs =>
      simp only [W.sm, Bool.and_eq_true, decide_eq_true_eq] at h
      have hl := h.1
      simp only [↓k_V, ↓k_C, ↓k_Op2, ↓k_Fz, ↓k_wNil, ↓k_wCons, ↓k_Tup, ↓k_Lst, ↓k_oNo, ↓k_oPart, ↓k_Sl, ↓k_sNil, ↓k_sCons, ↓k_CB, ↓k_tYes, ↓k_tTst, ↓k_tAnd, ↓k_tOr, ↓k_tNot, ↓k_If, ↓k_And, ↓k_Or, ↓k_Not, ↓k_Neg, ↓k_Chn, ↓k_Call, ↓k_Call0, ↓k_wPerm, ↓k_iItems, ↓k_iRng1, ↓k_iRng2, ↓k_iZip, ↓k_iEnum, ↓k_iEnz, ↓k_ifC, ↓k_Lrg1, ↓k_parC, ↓k_starC, ↓k_setC, ↓k_setC2, ↓k_augC, ↓k_lcb, ↓k_Lc, ↓k_forC, ↓str_lit, ↓fz_val, ↓fz_seq, ↓rr_val, ↓rr_own, ↓sv_val, ↓sv_own, ↓asI_int, ↓asB_bl, ↓items_tup, ↓items_lst, ↓un2_tup, ↓un3_tup, ↓un5_tup, ↓uq2_tup, ↓uq3_tup, ↓uq2_lst, ↓uq3_lst, ↓uq4_tup, ↓uq5_tup, ↓star_tup, ↓star_lst, ↓pr2_2, ↓zip2_tup, ↓zip2_lst, ↓enz_2, ↓rng1_int, ↓rng2_int, ↓lrg1_int, ↓req_T, ↓ret_at, ↓raise_at, ↓call_ret, ↓call0_ret, ↓call_raise, ↓pm_0, ↓pm_01, ↓pm_10, ↓pm_012, ↓pm_021, ↓pm_102, ↓pm_120, ↓pm_201, ↓pm_210, ↓pm_0123, ↓pm_0132, ↓pm_0213, ↓pm_0231, ↓pm_0312, ↓pm_0321, ↓pm_1023, ↓pm_1032, ↓pm_1203, ↓pm_1230, ↓pm_1302, ↓pm_1320, ↓pm_2013, ↓pm_2031, ↓pm_2103, ↓pm_2130, ↓pm_2301, ↓pm_2310, ↓pm_3012, ↓pm_3021, ↓pm_3102, ↓pm_3120, ↓pm_3201, ↓pm_3210, ↓o_sub, ↓o_lt, ↓o_le, ↓o_gt, ↓o_ge, ↓o_mod, ↓o_fdiv, ↓o_pow, ↓o_mul, ↓o_rep, ↓o_repT, ↓o_add, ↓o_addS, ↓o_addT, ↓o_addLL, ↓o_addLO, ↓o_addOL, ↓o_addOO, ↓o_ixT, ↓o_ixL, ↓o_ixO, ↓atS_0, ↓atS_1, ↓atS_2, ↓atS_3, ↓atS_4, ↓slc_T, ↓slc_L, ↓slc_O, ↓ext_own, ↓ext_OO, ↓lm_own, ↓append_own, ↓b_lenT, ↓b_lenL, ↓b_lenO, ↓b_lenS, ↓b_tupT, ↓b_tupL, ↓b_tupO, ↓b_lstT, ↓b_lstL, ↓b_lstO, ↓b_min2, ↓b_max2, ↓b_abs, ↓b_sumO, ↓b_sumL, ↓b_sumT, ↓b_anyO, ↓b_allO, ↓o_eqI, ↓o_neI, ↓o_eqSt, ↓o_neSt, ↓o_eqT, ↓o_neT, ↓isN_non, ↓isN_int, ↓isN_str, ↓isN_tup, ↓isN_lst, ↓nIsN_non, ↓nIsN_int, ↓nIsN_str, ↓nIsN_tup, ↓nIsN_lst, if_true, if_false, Bool.not_true, Bool.not_false, Bool.false_eq_true, decide_true, decide_false, String.reduceEq, decide_eq_true_eq, Int.toNat_natCast, List.length_map, List.length_cons, List.length_nil, sizeL, Nat.zero_add, Nat.reduceAdd, Nat.reduceLeDiff, ↓ii_non_bool, ↓ii_non_int, ↓ii_non_str, ↓ii_non_tuple, ↓ii_non_list, ↓ii_bl_bool, ↓ii_bl_int, ↓ii_bl_str, ↓ii_bl_tuple, ↓ii_bl_list, ↓ii_int_bool, ↓ii_int_int, ↓ii_int_str, ↓ii_int_tuple, ↓ii_int_list, ↓ii_str_bool, ↓ii_str_int, ↓ii_str_str, ↓ii_str_tuple, ↓ii_str_list, ↓ii_tup_bool, ↓ii_tup_int, ↓ii_tup_str, ↓ii_tup_tuple, ↓ii_tup_list, ↓ii_lst_bool, ↓ii_lst_int, ↓ii_lst_str, ↓ii_lst_tuple, ↓ii_lst_list, ↓o_neB]
      rw [req_of (by omega)]
      refine (seq xs h.1 (W.sms_mem h.2) (.tup xs) (fun i k _ => o_ixT) (fun z => cb oAll [z] ret)).trans ?_
      rw [b_allO]
      simp
    | lst xs =>
      simp only [W.sm, Bool.and_eq_true, decide_eq_true_eq] at h
      have hl := h.1
      simp only [↓k_V, ↓k_C, ↓k_Op2, ↓k_Fz, ↓k_wNil, ↓k_wCons, ↓k_Tup, ↓k_Lst, ↓k_oNo, ↓k_oPart, ↓k_Sl, ↓k_sNil, ↓k_sCons, ↓k_CB, ↓k_tYes, ↓k_tTst, ↓k_tAnd, ↓k_tOr, ↓k_tNot, ↓k_If, ↓k_And, ↓k_Or, ↓k_Not, ↓k_Neg, ↓k_Chn, ↓k_Call, ↓k_Call0, ↓k_wPerm, ↓k_iItems, ↓k_iRng1, ↓k_iRng2, ↓k_iZip, ↓k_iEnum, ↓k_iEnz, ↓k_ifC, ↓k_Lrg1, ↓k_parC, ↓k_starC, ↓k_setC, ↓k_setC2, ↓k_augC, ↓k_lcb, ↓k_Lc, ↓k_forC, ↓str_lit, ↓fz_val, ↓fz_seq, ↓rr_val, ↓rr_own, ↓sv_val, ↓sv_own, ↓asI_int, ↓asB_bl, ↓items_tup, ↓items_lst, ↓un2_tup, ↓un3_tup, ↓un5_tup, ↓uq2_tup, ↓uq3_tup, ↓uq2_lst, ↓uq3_lst, ↓uq4_tup, ↓uq5_tup, ↓star_tup, ↓star_lst, ↓pr2_2, ↓zip2_tup, ↓zip2_lst, ↓enz_2, ↓rng1_int, ↓rng2_int, ↓lrg1_int, ↓req_T, ↓ret_at, ↓raise_at, ↓call_ret, ↓call0_ret, ↓call_raise, ↓pm_0, ↓pm_01, ↓pm_10, ↓pm_012, ↓pm_021, ↓pm_102, ↓pm_120, ↓pm_201, ↓pm_210, ↓pm_0123, ↓pm_0132, ↓pm_0213, ↓pm_0231, ↓pm_0312, ↓pm_0321, ↓pm_1023, ↓pm_1032, ↓pm_1203, ↓pm_1230, ↓pm_1302, ↓pm_1320, ↓pm_2013, ↓pm_2031, ↓pm_2103, ↓pm_2130, ↓pm_2301, ↓pm_2310, ↓pm_3012, ↓pm_3021, ↓pm_3102, ↓pm_3120, ↓pm_3201, ↓pm_3210, ↓o_sub, ↓o_lt, ↓o_le, ↓o_gt, ↓o_ge, ↓o_mod, ↓o_fdiv, ↓o_pow, ↓o_mul, ↓o_rep, ↓o_repT, ↓o_add, ↓o_addS, ↓o_addT, ↓o_addLL, ↓o_addLO, ↓o_addOL, ↓o_addOO, ↓o_ixT, ↓o_ixL, ↓o_ixO, ↓atS_0, ↓atS_1, ↓atS_2, ↓atS_3, ↓atS_4, ↓slc_T, ↓slc_L, ↓slc_O, ↓ext_own, ↓ext_OO, ↓lm_own, ↓append_own, ↓b_lenT, ↓b_lenL, ↓b_lenO, ↓b_lenS, ↓b_tupT, ↓b_tupL, ↓b_tupO, ↓b_lstT, ↓b_lstL, ↓b_lstO, ↓b_min2, ↓b_max2, ↓b_abs, ↓b_sumO, ↓b_sumL, ↓b_sumT, ↓b_anyO, ↓b_allO, ↓o_eqI, ↓o_neI, ↓o_eqSt, ↓o_neSt, ↓o_eqT, ↓o_neT, ↓isN_non, ↓isN_int, ↓isN_str, ↓isN_tup, ↓isN_lst, ↓nIsN_non, ↓nIsN_int, ↓nIsN_str, ↓nIsN_tup, ↓nIsN_lst, if_true, if_false, Bool.not_true, Bool.not_false, Bool.false_eq_true, decide_true, decide_false, String.reduceEq, decide_eq_true_eq, Int.toNat_natCast, List.length_map, List.length_cons, List.length_nil, sizeL, Nat.zero_add, Nat.reduceAdd, Nat.reduceLeDiff, ↓ii_non_bool, ↓ii_non_int, ↓ii_non_str, ↓ii_non_tuple, ↓ii_non_list, ↓ii_bl_bool, ↓ii_bl_int, ↓ii_bl_str, ↓ii_bl_tuple, ↓ii_bl_list, ↓ii_int_bool, ↓ii_int_int, ↓ii_int_str, ↓ii_int_tuple, ↓ii_int_list, ↓ii_str_bool, ↓ii_str_int, ↓ii_str_str, ↓ii_str_tuple, ↓ii_str_list, ↓ii_tup_bool, ↓ii_tup_int, ↓ii_tup_str, ↓ii_tup_tuple, ↓ii_tup_list, ↓ii_lst_bool, ↓ii_lst_int, ↓ii_lst_str, ↓ii_lst_tuple, ↓ii_lst_list, ↓o_neB]
      rw [req_of (by omega)]
      refine (seq xs h.1 (W.sms_mem h.2) (.lst xs) (fun i k _ => o_ixL) (fun z => cb oAll [z] ret)).trans ?_
      rw [b_allO]
      simp
    | dct _ _ => simp [W.sm] at h
    | ref _ => simp [W.sm] at h
    | ty _ => simp [W.sm] at h
end Ab
namespace Ab
open PySem PySem.Spec PyProof.Rows L2 RZ
def mf_look_stand (x_sizes x_stand : W) : MC :=
  ((eCall m_look_sizes (wCons (eFz (eV (.val x_sizes))) wNil)) fun _ => (ifC (tTst (eOp2 oGt (eCB oLen (sCons (eV (.val x_stand)) sNil)) (eC (.int 60)))) bad ((eOp2 oMulT (eLst (wCons (eFz (eC (.int 0))) wNil)) (eCB oLen (sCons (eV (.val x_sizes)) sNil))) fun x_held => (forC (iEnum (eFz (eV (.val x_stand)))) x_held (fun w6 (s1 : SV) kn3 kb4 => un2 w6 fun x_rank x_place => (ifC (tNot (tTst (eChn (fun i j => decide (i ≤ j)) (fun i j => decide (i < j)) (eC (.int (-1))) (eV (.val x_place)) (eCB oLen (sCons (eV (.val x_sizes)) sNil))))) bad (ifC (tTst (eOp2 (oEq true) (eV (.val x_place)) (eC (.int (-1))))) (augC (fun i j => i + j) s1 (eV (.val x_place)) (eC (.int 1)) fun x_held => (ifC (tTst (eOp2 oGt (eOp2 oIx (eV x_held) (eV (.val x_place))) (eOp2 oIx (eV (.val x_sizes)) (eV (.val x_place))))) bad (kn3 x_held))) (kn3 s1)))) fun (s1 : SV) => (ret (.val .non))))))
def m_look_stand : List W → MC
  | [x_sizes, x_stand] => mf_look_stand x_sizes x_stand
  | _ => bad
def mf_counted (x_many x_stand : W) : MC :=
  ((eOp2 oMulT (eLst (wCons (eFz (eC (.int 0))) wNil)) (eV (.val x_many))) fun x_held => (forC (iItems (eFz (eV (.val x_stand)))) x_held (fun x_place (s1 : SV) kn3 kb4 => (ifC (tTst (eOp2 (oEq true) (eV (.val x_place)) (eC (.int (-1))))) (augC (fun i j => i + j) s1 (eV (.val x_place)) (eC (.int 1)) fun x_held => (kn3 x_held)) (kn3 s1))) fun (s1 : SV) => ((eCB oTupC (sCons (eV s1) sNil)) ret)))
def m_counted : List W → MC
  | [x_many, x_stand] => mf_counted x_many x_stand
  | _ => bad
def mf_counts_of (x_sizes x_stand : W) : MC :=
  ((eCall m_look_stand (wCons (eFz (eV (.val x_sizes))) (wCons (eFz (eV (.val x_stand))) wNil))) fun _ => ((eCall m_counted (wCons (eFz (eCB oLen (sCons (eV (.val x_sizes)) sNil))) (wCons (eFz (eV (.val x_stand))) wNil))) ret))
def m_counts_of : List W → MC
  | [x_sizes, x_stand] => mf_counts_of x_sizes x_stand
  | _ => bad
def mf_hidden (x_stand x_many : W) : MC :=
  (ifC (tNot (tTst (eChn (fun i j => decide (i ≤ j)) (fun i j => decide (i ≤ j)) (eC (.int 0)) (eV (.val x_many)) (eCB oLen (sCons (eV (.val x_stand)) sNil))))) bad ((eSl (eV (.val x_stand)) oNo (oPart (eV (.val x_many)))) ret))
def m_hidden : List W → MC
  | [x_stand, x_many] => mf_hidden x_stand x_many
  | _ => bad
def mf_ranks_in (x_stand x_cask : W) : MC :=
  ((eLc (iEnum (eFz (eV (.val x_stand)))) fun w1 kk => un2 w1 fun x_rank x_place => lcb (tTst (eOp2 (oEq false) (eV (.val x_place)) (eV (.val x_cask)))) (eFz (eV (.val x_rank))) kk) ret)
def m_ranks_in : List W → MC
  | [x_stand, x_cask] => mf_ranks_in x_stand x_cask
  | _ => bad
def mf_moved (x_stand x_ranks x_cask : W) : MC :=
  ((eCB oTupC (sCons (eLc (iEnum (eFz (eV (.val x_stand)))) fun w1 kk => un2 w1 fun x_rank x_place => lcb tYes (eFz (eIf (tTst (eOp2 (oInL false) (eV (.val x_rank)) (eV (.val x_ranks)))) (eV (.val x_cask)) (eV (.val x_place)))) kk) sNil)) ret)
def m_moved : List W → MC
  | [x_stand, x_ranks, x_cask] => mf_moved x_stand x_ranks x_cask
  | _ => bad
def mf_led (x_sizes x_stand x_going x_casks : W) : MC :=
  (starC (eFz (eV (.val x_casks))) fun x_first x_others => (forC (iItems (eFz (eV (.val (SV.fz x_others))))) (x_stand, x_going) (fun x_cask (s1 : W × W) kn3 kb4 => ((eFz (eCall m_moved (wCons (eFz (eV (.val s1.1))) (wCons (eFz (eV (.val s1.2))) (wCons (eFz (eV (.val x_cask))) wNil))))) fun x_stand => ((eFz (eSl (eCall m_ranks_in (wCons (eFz (eV (.val x_stand))) (wCons (eFz (eV (.val x_cask))) wNil))) (oPart (eOp2 oIx (eV (.val x_sizes)) (eV (.val x_cask)))) oNo)) fun x_going => (kn3 (x_stand, x_going))))) fun (s1 : W × W) => ((eCall m_moved (wCons (eFz (eV (.val s1.1))) (wCons (eFz (eV (.val s1.2))) (wCons (eFz (eV (.val x_first))) wNil)))) ret)))
def m_led : List W → MC
  | [x_sizes, x_stand, x_going, x_casks] => mf_led x_sizes x_stand x_going x_casks
  | _ => bad
def mf_tapped (x_sizes x_stand x_many x_cask : W) : MC :=
  ((eFz (eCB oMin2 (sCons (eV (.val x_many)) (sCons (eOp2 oSub (eOp2 oIx (eV (.val x_sizes)) (eV (.val x_cask))) (eCB oLen (sCons (eCall m_ranks_in (wCons (eFz (eV (.val x_stand))) (wCons (eFz (eV (.val x_cask))) wNil))) sNil))) sNil)))) fun x_fresh => (ifC (tTst (eOp2 oGt (eOp2 oAdd (eCB oLen (sCons (eV (.val x_stand)) sNil)) (eV (.val x_fresh))) (eC (.int 60)))) bad ((eOp2 oAdd (eV (.val x_stand)) (eOp2 oMulT (eTup (wCons (eFz (eV (.val x_cask))) wNil)) (eV (.val x_fresh)))) ret)))
def m_tapped : List W → MC
  | [x_sizes, x_stand, x_many, x_cask] => mf_tapped x_sizes x_stand x_many x_cask
  | _ => bad
def mf_behind_deed (x_sizes x_stand x_deed : W) : MC :=
  (starC (eFz (eV (.val x_deed))) fun x_word x_things => (ifC (tTst (eOp2 (oEq false) (eV (.val x_word)) (eC (.str ("swap" : Str))))) ((eFz (eV (.val (SV.fz x_things)))) fun w1 => uq2 w1 fun x_one x_other => ((eCB oTupC (sCons (eLc (iItems (eFz (eV (.val x_stand)))) fun x_place kk => lcb tYes (eFz (eIf (tTst (eOp2 (oEq false) (eV (.val x_place)) (eV (.val x_one)))) (eV (.val x_other)) (eIf (tTst (eOp2 (oEq false) (eV (.val x_place)) (eV (.val x_other)))) (eV (.val x_one)) (eV (.val x_place))))) kk) sNil)) ret)) (starC (eFz (eV (.val (SV.fz x_things)))) fun x_many x_casks => ((eFz (eCall m_ranks_in (wCons (eFz (eV (.val x_stand))) (wCons (eFz (eOp2 oIx (eV x_casks) (eC (.int 0)))) wNil)))) fun x_here => (ifC (tTst (eOp2 (oEq false) (eV (.val x_word)) (eC (.str ("over" : Str))))) ((eCall m_led (wCons (eFz (eV (.val x_sizes))) (wCons (eFz (eV (.val x_stand))) (wCons (eFz (eSl (eV (.val x_here)) oNo (oPart (eV (.val x_many))))) (wCons (eFz (eV (.val (SV.fz x_casks)))) wNil))))) ret) (ifC (tTst (eOp2 (oEq false) (eV (.val x_word)) (eC (.str ("down" : Str))))) ((eCall m_led (wCons (eFz (eV (.val x_sizes))) (wCons (eFz (eV (.val x_stand))) (wCons (eFz (eSl (eV (.val x_here)) (oPart (eV (.val x_many))) oNo)) (wCons (eFz (eV (.val (SV.fz x_casks)))) wNil))))) ret) (ifC (tTst (eOp2 (oEq false) (eV (.val x_word)) (eC (.str ("tap" : Str))))) ((eCall m_tapped (wCons (eFz (eV (.val x_sizes))) (wCons (eFz (eV (.val x_stand))) (wCons (eFz (eV (.val x_many))) (wCons (eFz (eOp2 oIx (eV x_casks) (eC (.int 0)))) wNil))))) ret) ((eCall m_moved (wCons (eFz (eV (.val x_stand))) (wCons (eFz (eSl (eV (.val x_here)) oNo (oPart (eV (.val x_many))))) (wCons (eFz (eC (.int (-1)))) wNil)))) ret))))))))
def m_behind_deed : List W → MC
  | [x_sizes, x_stand, x_deed] => mf_behind_deed x_sizes x_stand x_deed
  | _ => bad
def mf_behind_row (x_sizes x_stand x_deeds : W) : MC :=
  (forC (iItems (eFz (eV (.val x_deeds)))) x_stand (fun x_deed (s1 : W) kn3 kb4 => ((eFz (eCall m_behind_deed (wCons (eFz (eV (.val x_sizes))) (wCons (eFz (eV (.val s1))) (wCons (eFz (eV (.val x_deed))) wNil))))) fun x_stand => (kn3 x_stand))) fun (s1 : W) => ((eV (.val s1)) ret))
def m_behind_row : List W → MC
  | [x_sizes, x_stand, x_deeds] => mf_behind_row x_sizes x_stand x_deeds
  | _ => bad
def mf_done (x_sizes x_stand x_deed : W) : MC :=
  ((eCall m_look_stand (wCons (eFz (eV (.val x_sizes))) (wCons (eFz (eV (.val x_stand))) wNil))) fun _ => ((eCall m_look_deed (wCons (eFz (eV (.val x_sizes))) (wCons (eFz (eV (.val x_deed))) wNil))) fun _ => ((eCall m_behind_deed (wCons (eFz (eV (.val x_sizes))) (wCons (eFz (eV (.val x_stand))) (wCons (eFz (eV (.val x_deed))) wNil)))) ret)))
def m_done : List W → MC
  | [x_sizes, x_stand, x_deed] => mf_done x_sizes x_stand x_deed
  | _ => bad
def mf_done_all (x_sizes x_stand x_deeds : W) : MC :=
  ((eCall m_look_stand (wCons (eFz (eV (.val x_sizes))) (wCons (eFz (eV (.val x_stand))) wNil))) fun _ => ((eCall m_look_row (wCons (eFz (eV (.val x_sizes))) (wCons (eFz (eV (.val x_deeds))) wNil))) fun _ => ((eCall m_behind_row (wCons (eFz (eV (.val x_sizes))) (wCons (eFz (eV (.val x_stand))) (wCons (eFz (eV (.val x_deeds))) wNil)))) ret)))
def m_done_all : List W → MC
  | [x_sizes, x_stand, x_deeds] => mf_done_all x_sizes x_stand x_deeds
  | _ => bad
def mf_path (x_sizes x_stand x_deeds x_rank : W) : MC :=
  ((eCall m_look_stand (wCons (eFz (eV (.val x_sizes))) (wCons (eFz (eV (.val x_stand))) wNil))) fun _ => ((eCall m_look_row (wCons (eFz (eV (.val x_sizes))) (wCons (eFz (eV (.val x_deeds))) wNil))) fun _ => (ifC (tNot (tTst (eChn (fun i j => decide (i ≤ j)) (fun i j => decide (i < j)) (eC (.int 0)) (eV (.val x_rank)) (eCB oLen (sCons (eV (.val x_stand)) sNil))))) bad ((eLst (wCons (eFz (eOp2 oIx (eV (.val x_stand)) (eV (.val x_rank)))) wNil)) fun x_found => (forC (iItems (eFz (eV (.val x_deeds)))) (x_stand, x_found) (fun x_deed (s1 : W × SV) kn3 kb4 => ((eFz (eCall m_behind_deed (wCons (eFz (eV (.val x_sizes))) (wCons (eFz (eV (.val s1.1))) (wCons (eFz (eV (.val x_deed))) wNil))))) fun x_stand => (lmC fAppend s1.2 (wCons (eFz (eOp2 oIx (eV (.val x_stand)) (eV (.val x_rank)))) wNil) fun x_found _ => (kn3 (x_stand, x_found))))) fun (s1 : W × SV) => ((eV s1.2) ret))))))
def m_path : List W → MC
  | [x_sizes, x_stand, x_deeds, x_rank] => mf_path x_sizes x_stand x_deeds x_rank
  | _ => bad
def mf__law_stand (x_bag x_msizes x_mmany x_gone : W) : MC :=
  ((eFz (eTup wNil)) fun x_found => ((eOp2 oMulT (eLst (wCons (eFz (eC (.int 0))) wNil)) (eCB oLen (sCons (eV (.val x_msizes)) sNil))) fun x_held => (forC (iRng1 (sCons (eCall m__law_take (wCons (eFz (eV (.val x_bag))) (wCons (eFz (eOp2 oAdd (eV (.val x_mmany)) (eC (.int 1)))) wNil))) sNil)) (x_found, x_held) (fun x_k (s1 : W × SV) kn3 kb4 => ((eFz (eOp2 oSub (eCall m__law_take (wCons (eFz (eV (.val x_bag))) (wCons (eFz (eOp2 oAdd (eCB oLen (sCons (eV (.val x_msizes)) sNil)) (eV (.val x_gone)))) wNil))) (eV (.val x_gone)))) fun x_place => (ifC (tTst (eOp2 oLt (eV (.val x_place)) (eC (.int 0)))) ((eFz (eOp2 oAdd (eV (.val s1.1)) (eTup (wCons (eFz (eNeg (eC (.int 1)))) wNil)))) fun x_found => (kn3 (x_found, s1.2))) (ifC (tTst (eOp2 oLt (eOp2 oIx (eV s1.2) (eV (.val x_place))) (eOp2 oIx (eV (.val x_msizes)) (eV (.val x_place))))) (setC (eFz (eOp2 oAdd (eOp2 oIx (eV s1.2) (eV (.val x_place))) (eC (.int 1)))) s1.2 (eV (.val x_place)) fun x_held => ((eFz (eOp2 oAdd (eV (.val s1.1)) (eTup (wCons (eFz (eV (.val x_place))) wNil)))) fun x_found => (kn3 (x_found, x_held)))) (kn3 (s1.1, s1.2)))))) fun (s1 : W × SV) => ((eV (.val s1.1)) ret))))
def m__law_stand : List W → MC
  | [x_bag, x_msizes, x_mmany, x_gone] => mf__law_stand x_bag x_msizes x_mmany x_gone
  | _ => bad
/-! ### stands; deeds by ranks (all is well) -/
def cnt (n : Nat) (st : List Int) : List Int := (List.range n).map fun (c : Nat) => (st.count (c : Int) : Int)
theorem cnt_len {n : Nat} {st : List Int} : (cnt n st).length = n := by simp [cnt]
theorem cnt_get {n c : Nat} {st : List Int} (h : c < n) : (cnt n st).getD c 0 = st.count (c : Int) := by
  simp [cnt, List.getD_eq_getElem?_getD, h]
theorem cnt_nil {n : Nat} : cnt n [] = List.replicate n 0 := by
  simp [cnt, List.map_const']
theorem cnt_snoc {n c : Nat} {st : List Int} (h : c < n) : (cnt n st).set c ((cnt n st).getD c 0 + 1) = cnt n (st ++ [(c : Int)]) := by
  have z := cnt_get (st := st) h
  generalize (cnt n st).getD c 0 = v at z
  subst z
  refine List.ext_getElem (by simp [cnt]) fun i h1 h2 => ?_
  have hi : i < n := by simpa [cnt] using h2
  rw [List.getElem_set]
  simp only [cnt, List.getElem_map, List.getElem_range, List.count_append, List.count_singleton]
  by_cases e : c = i
  · subst e; simp
  · have e2 : ¬ (c : Int) = (i : Int) := by omega
    simp [e, e2]
theorem cnt_gone {n : Nat} {st : List Int} {p : Int} (h : p < 0) : cnt n (st ++ [p]) = cnt n st := by
  refine List.ext_getElem (by simp [cnt]) fun i h1 h2 => ?_
  simp only [cnt, List.getElem_map, List.getElem_range, List.count_append, List.count_singleton]
  have e2 : ¬ p = (i : Int) := by omega
  simp [e2]
/-- a stand -/
structure StOk (ss st : List Int) : Prop where
  len : st.length ≤ 60
  at_ : ∀ p ∈ st, -1 ≤ p ∧ p < ss.length
  cap : ∀ c, c < ss.length → (st.count (c : Int) : Int) ≤ ss.getD c 0
theorem rep0 (n : Nat) : (List.replicate n [W.int 0]).flatten = (List.replicate n (0 : Int)).map W.int := by
  induction n with
  | zero => rfl
  | succ n ih => rw [List.replicate_succ, List.flatten_cons, ih, List.replicate_succ]; rfl
theorem count_take_le {st : List Int} {j : Nat} {x : Int} : (st.take j).count x ≤ st.count x := (List.take_sublist j st).count_le x
theorem foldl_snoc {α : Type} (l : List α) : l.foldl (fun (pre : List α) p => pre ++ [p]) [] = l := by
  have z : ∀ (l acc : List α), l.foldl (fun (pre : List α) p => pre ++ [p]) acc = acc ++ l := by
    intro l
    induction l with
    | nil => intro acc; simp
    | cons a l ih => intro acc; rw [List.foldl_cons, ih]; simp
  simpa using z l []
theorem cnt_aug {n c : Nat} {st : List Int} {k : SV → MC} (h : c < n) (hn : n ≤ 100) : augIx (fun i j => i + j) (.own (.seq ((cnt n st).map .int))) (.val (.int (c : Int))) (eC (.int 1)) k = k (.own (.seq ((cnt n (st ++ [(c : Int)])).map .int))) := by
  have e : ((cnt n st).map W.int)[c]? = some (.int ((cnt n st).getD c 0)) := by
    have h2 : c < (cnt n st).length := by rw [cnt_len]; exact h
    rw [List.getElem?_map, List.getD_eq_getElem?_getD, List.getElem?_eq_getElem h2]
    rfl
  rw [aug_own e (by omega)]
  show k (.own (.seq (((cnt n st).map W.int).set c (W.int ((cnt n st).getD c 0 + 1))))) = _
  rw [set_map, cnt_snoc h]
theorem look_stand_ok {ss st : List Int} (hs : SzOk ss) (h : StOk ss st) : m_look_stand [.tup (ss.map .int), .tup (st.map .int)] = ret (.val .non) := by
  show mf_look_stand _ _ = _
  unfold mf_look_stand
  obtain ⟨l1, l2, s3⟩ := id hs
  have hl := h.len
  simp only [↓k_V, ↓k_C, ↓k_Op2, ↓k_Fz, ↓k_wNil, ↓k_wCons, ↓k_Tup, ↓k_Lst, ↓k_oNo, ↓k_oPart, ↓k_Sl, ↓k_sNil, ↓k_sCons, ↓k_CB, ↓k_tYes, ↓k_tTst, ↓k_tAnd, ↓k_tOr, ↓k_tNot, ↓k_If, ↓k_And, ↓k_Or, ↓k_Not, ↓k_Neg, ↓k_Chn, ↓k_Call, ↓k_Call0, ↓k_wPerm, ↓k_iItems, ↓k_iRng1, ↓k_iRng2, ↓k_iZip, ↓k_iEnum, ↓k_iEnz, ↓k_ifC, ↓k_Lrg1, ↓k_parC, ↓k_starC, ↓k_setC, ↓k_setC2, ↓k_augC, ↓k_lcb, ↓k_Lc, ↓k_forC, ↓str_lit, ↓fz_val, ↓fz_seq, ↓rr_val, ↓rr_own, ↓sv_val, ↓sv_own, ↓asI_int, ↓asB_bl, ↓items_tup, ↓items_lst, ↓un2_tup, ↓un3_tup, ↓un5_tup, ↓uq2_tup, ↓uq3_tup, ↓uq2_lst, ↓uq3_lst, ↓uq4_tup, ↓uq5_tup, ↓star_tup, ↓star_lst, ↓pr2_2, ↓zip2_tup, ↓zip2_lst, ↓enz_2, ↓rng1_int, ↓rng2_int, ↓lrg1_int, ↓req_T, ↓ret_at, ↓raise_at, ↓call_ret, ↓call0_ret, ↓call_raise, ↓pm_0, ↓pm_01, ↓pm_10, ↓pm_012, ↓pm_021, ↓pm_102, ↓pm_120, ↓pm_201, ↓pm_210, ↓pm_0123, ↓pm_0132, ↓pm_0213, ↓pm_0231, ↓pm_0312, ↓pm_0321, ↓pm_1023, ↓pm_1032, ↓pm_1203, ↓pm_1230, ↓pm_1302, ↓pm_1320, ↓pm_2013, ↓pm_2031, ↓pm_2103, ↓pm_2130, ↓pm_2301, ↓pm_2310, ↓pm_3012, ↓pm_3021, ↓pm_3102, ↓pm_3120, ↓pm_3201, ↓pm_3210, ↓o_sub, ↓o_lt, ↓o_le, ↓o_gt, ↓o_ge, ↓o_mod, ↓o_fdiv, ↓o_pow, ↓o_mul, ↓o_rep, ↓o_repT, ↓o_add, ↓o_addS, ↓o_addT, ↓o_addLL, ↓o_addLO, ↓o_addOL, ↓o_addOO, ↓o_ixT, ↓o_ixL, ↓o_ixO, ↓atS_0, ↓atS_1, ↓atS_2, ↓atS_3, ↓atS_4, ↓slc_T, ↓slc_L, ↓slc_O, ↓ext_own, ↓ext_OO, ↓lm_own, ↓append_own, ↓b_lenT, ↓b_lenL, ↓b_lenO, ↓b_lenS, ↓b_tupT, ↓b_tupL, ↓b_tupO, ↓b_lstT, ↓b_lstL, ↓b_lstO, ↓b_min2, ↓b_max2, ↓b_abs, ↓b_sumO, ↓b_sumL, ↓b_sumT, ↓b_anyO, ↓b_allO, ↓o_eqI, ↓o_neI, ↓o_eqSt, ↓o_neSt, ↓o_eqT, ↓o_neT, ↓isN_non, ↓isN_int, ↓isN_str, ↓isN_tup, ↓isN_lst, ↓nIsN_non, ↓nIsN_int, ↓nIsN_str, ↓nIsN_tup, ↓nIsN_lst, if_true, if_false, Bool.not_true, Bool.not_false, Bool.false_eq_true, decide_true, decide_false, String.reduceEq, decide_eq_true_eq, Int.toNat_natCast, List.length_map, List.length_cons, List.length_nil, sizeL, Nat.zero_add, Nat.reduceAdd, Nat.reduceLeDiff, look_sizes_ok hs]
  rw [if_neg (by omega), req_of (by omega), rep0, ← cnt_nil (n := ss.length), en_map,
    for_enc (fun p : Int × Nat => W.tup [.int (p.2 : Int), .int p.1]) (fun pre : List Int => SV.own (.seq ((cnt ss.length pre).map W.int))) (fun pre p => pre ++ [p.1]) (fun j pre => pre = st.take j) st.zipIdx [] 0 (by simp) fun j p hj pre e => ?_]
  obtain ⟨hj, e2⟩ : st[j]? = some p.1 ∧ p.2 = j := by
    rw [List.getElem?_zipIdx] at hj
    cases q : st[j]? with
    | none => rw [q] at hj; cases hj
    | some x => rw [q] at hj; cases hj; exact ⟨rfl, by simp⟩
  subst e
  rw [Nat.zero_add]
  have tk : st.take j ++ [p.1] = st.take (j + 1) := by rw [List.take_succ, hj]; rfl
  refine ⟨tk, fun kn => ?_⟩
  obtain ⟨a0, a1⟩ := h.at_ p.1 (List.mem_of_getElem? hj)
  simp only [↓k_V, ↓k_C, ↓k_Op2, ↓k_Fz, ↓k_wNil, ↓k_wCons, ↓k_Tup, ↓k_Lst, ↓k_oNo, ↓k_oPart, ↓k_Sl, ↓k_sNil, ↓k_sCons, ↓k_CB, ↓k_tYes, ↓k_tTst, ↓k_tAnd, ↓k_tOr, ↓k_tNot, ↓k_If, ↓k_And, ↓k_Or, ↓k_Not, ↓k_Neg, ↓k_Chn, ↓k_Call, ↓k_Call0, ↓k_wPerm, ↓k_iItems, ↓k_iRng1, ↓k_iRng2, ↓k_iZip, ↓k_iEnum, ↓k_iEnz, ↓k_ifC, ↓k_Lrg1, ↓k_parC, ↓k_starC, ↓k_setC, ↓k_setC2, ↓k_augC, ↓k_lcb, ↓k_Lc, ↓k_forC, ↓str_lit, ↓fz_val, ↓fz_seq, ↓rr_val, ↓rr_own, ↓sv_val, ↓sv_own, ↓asI_int, ↓asB_bl, ↓items_tup, ↓items_lst, ↓un2_tup, ↓un3_tup, ↓un5_tup, ↓uq2_tup, ↓uq3_tup, ↓uq2_lst, ↓uq3_lst, ↓uq4_tup, ↓uq5_tup, ↓star_tup, ↓star_lst, ↓pr2_2, ↓zip2_tup, ↓zip2_lst, ↓enz_2, ↓rng1_int, ↓rng2_int, ↓lrg1_int, ↓req_T, ↓ret_at, ↓raise_at, ↓call_ret, ↓call0_ret, ↓call_raise, ↓pm_0, ↓pm_01, ↓pm_10, ↓pm_012, ↓pm_021, ↓pm_102, ↓pm_120, ↓pm_201, ↓pm_210, ↓pm_0123, ↓pm_0132, ↓pm_0213, ↓pm_0231, ↓pm_0312, ↓pm_0321, ↓pm_1023, ↓pm_1032, ↓pm_1203, ↓pm_1230, ↓pm_1302, ↓pm_1320, ↓pm_2013, ↓pm_2031, ↓pm_2103, ↓pm_2130, ↓pm_2301, ↓pm_2310, ↓pm_3012, ↓pm_3021, ↓pm_3102, ↓pm_3120, ↓pm_3201, ↓pm_3210, ↓o_sub, ↓o_lt, ↓o_le, ↓o_gt, ↓o_ge, ↓o_mod, ↓o_fdiv, ↓o_pow, ↓o_mul, ↓o_rep, ↓o_repT, ↓o_add, ↓o_addS, ↓o_addT, ↓o_addLL, ↓o_addLO, ↓o_addOL, ↓o_addOO, ↓o_ixT, ↓o_ixL, ↓o_ixO, ↓atS_0, ↓atS_1, ↓atS_2, ↓atS_3, ↓atS_4, ↓slc_T, ↓slc_L, ↓slc_O, ↓ext_own, ↓ext_OO, ↓lm_own, ↓append_own, ↓b_lenT, ↓b_lenL, ↓b_lenO, ↓b_lenS, ↓b_tupT, ↓b_tupL, ↓b_tupO, ↓b_lstT, ↓b_lstL, ↓b_lstO, ↓b_min2, ↓b_max2, ↓b_abs, ↓b_sumO, ↓b_sumL, ↓b_sumT, ↓b_anyO, ↓b_allO, ↓o_eqI, ↓o_neI, ↓o_eqSt, ↓o_neSt, ↓o_eqT, ↓o_neT, ↓isN_non, ↓isN_int, ↓isN_str, ↓isN_tup, ↓isN_lst, ↓nIsN_non, ↓nIsN_int, ↓nIsN_str, ↓nIsN_tup, ↓nIsN_lst, if_true, if_false, Bool.not_true, Bool.not_false, Bool.false_eq_true, decide_true, decide_false, String.reduceEq, decide_eq_true_eq, Int.toNat_natCast, List.length_map, List.length_cons, List.length_nil, sizeL, Nat.zero_add, Nat.reduceAdd, Nat.reduceLeDiff]
  rw [if_pos a0, decide_eq_true a1]
  simp only [↓k_V, ↓k_C, ↓k_Op2, ↓k_Fz, ↓k_wNil, ↓k_wCons, ↓k_Tup, ↓k_Lst, ↓k_oNo, ↓k_oPart, ↓k_Sl, ↓k_sNil, ↓k_sCons, ↓k_CB, ↓k_tYes, ↓k_tTst, ↓k_tAnd, ↓k_tOr, ↓k_tNot, ↓k_If, ↓k_And, ↓k_Or, ↓k_Not, ↓k_Neg, ↓k_Chn, ↓k_Call, ↓k_Call0, ↓k_wPerm, ↓k_iItems, ↓k_iRng1, ↓k_iRng2, ↓k_iZip, ↓k_iEnum, ↓k_iEnz, ↓k_ifC, ↓k_Lrg1, ↓k_parC, ↓k_starC, ↓k_setC, ↓k_setC2, ↓k_augC, ↓k_lcb, ↓k_Lc, ↓k_forC, ↓str_lit, ↓fz_val, ↓fz_seq, ↓rr_val, ↓rr_own, ↓sv_val, ↓sv_own, ↓asI_int, ↓asB_bl, ↓items_tup, ↓items_lst, ↓un2_tup, ↓un3_tup, ↓un5_tup, ↓uq2_tup, ↓uq3_tup, ↓uq2_lst, ↓uq3_lst, ↓uq4_tup, ↓uq5_tup, ↓star_tup, ↓star_lst, ↓pr2_2, ↓zip2_tup, ↓zip2_lst, ↓enz_2, ↓rng1_int, ↓rng2_int, ↓lrg1_int, ↓req_T, ↓ret_at, ↓raise_at, ↓call_ret, ↓call0_ret, ↓call_raise, ↓pm_0, ↓pm_01, ↓pm_10, ↓pm_012, ↓pm_021, ↓pm_102, ↓pm_120, ↓pm_201, ↓pm_210, ↓pm_0123, ↓pm_0132, ↓pm_0213, ↓pm_0231, ↓pm_0312, ↓pm_0321, ↓pm_1023, ↓pm_1032, ↓pm_1203, ↓pm_1230, ↓pm_1302, ↓pm_1320, ↓pm_2013, ↓pm_2031, ↓pm_2103, ↓pm_2130, ↓pm_2301, ↓pm_2310, ↓pm_3012, ↓pm_3021, ↓pm_3102, ↓pm_3120, ↓pm_3201, ↓pm_3210, ↓o_sub, ↓o_lt, ↓o_le, ↓o_gt, ↓o_ge, ↓o_mod, ↓o_fdiv, ↓o_pow, ↓o_mul, ↓o_rep, ↓o_repT, ↓o_add, ↓o_addS, ↓o_addT, ↓o_addLL, ↓o_addLO, ↓o_addOL, ↓o_addOO, ↓o_ixT, ↓o_ixL, ↓o_ixO, ↓atS_0, ↓atS_1, ↓atS_2, ↓atS_3, ↓atS_4, ↓slc_T, ↓slc_L, ↓slc_O, ↓ext_own, ↓ext_OO, ↓lm_own, ↓append_own, ↓b_lenT, ↓b_lenL, ↓b_lenO, ↓b_lenS, ↓b_tupT, ↓b_tupL, ↓b_tupO, ↓b_lstT, ↓b_lstL, ↓b_lstO, ↓b_min2, ↓b_max2, ↓b_abs, ↓b_sumO, ↓b_sumL, ↓b_sumT, ↓b_anyO, ↓b_allO, ↓o_eqI, ↓o_neI, ↓o_eqSt, ↓o_neSt, ↓o_eqT, ↓o_neT, ↓isN_non, ↓isN_int, ↓isN_str, ↓isN_tup, ↓isN_lst, ↓nIsN_non, ↓nIsN_int, ↓nIsN_str, ↓nIsN_tup, ↓nIsN_lst, if_true, if_false, Bool.not_true, Bool.not_false, Bool.false_eq_true, decide_true, decide_false, String.reduceEq, decide_eq_true_eq, Int.toNat_natCast, List.length_map, List.length_cons, List.length_nil, sizeL, Nat.zero_add, Nat.reduceAdd, Nat.reduceLeDiff]
  by_cases g : p.1 = -1
  · rw [g, cnt_gone (by omega)]
    simp only [↓k_V, ↓k_C, ↓k_Op2, ↓k_Fz, ↓k_wNil, ↓k_wCons, ↓k_Tup, ↓k_Lst, ↓k_oNo, ↓k_oPart, ↓k_Sl, ↓k_sNil, ↓k_sCons, ↓k_CB, ↓k_tYes, ↓k_tTst, ↓k_tAnd, ↓k_tOr, ↓k_tNot, ↓k_If, ↓k_And, ↓k_Or, ↓k_Not, ↓k_Neg, ↓k_Chn, ↓k_Call, ↓k_Call0, ↓k_wPerm, ↓k_iItems, ↓k_iRng1, ↓k_iRng2, ↓k_iZip, ↓k_iEnum, ↓k_iEnz, ↓k_ifC, ↓k_Lrg1, ↓k_parC, ↓k_starC, ↓k_setC, ↓k_setC2, ↓k_augC, ↓k_lcb, ↓k_Lc, ↓k_forC, ↓str_lit, ↓fz_val, ↓fz_seq, ↓rr_val, ↓rr_own, ↓sv_val, ↓sv_own, ↓asI_int, ↓asB_bl, ↓items_tup, ↓items_lst, ↓un2_tup, ↓un3_tup, ↓un5_tup, ↓uq2_tup, ↓uq3_tup, ↓uq2_lst, ↓uq3_lst, ↓uq4_tup, ↓uq5_tup, ↓star_tup, ↓star_lst, ↓pr2_2, ↓zip2_tup, ↓zip2_lst, ↓enz_2, ↓rng1_int, ↓rng2_int, ↓lrg1_int, ↓req_T, ↓ret_at, ↓raise_at, ↓call_ret, ↓call0_ret, ↓call_raise, ↓pm_0, ↓pm_01, ↓pm_10, ↓pm_012, ↓pm_021, ↓pm_102, ↓pm_120, ↓pm_201, ↓pm_210, ↓pm_0123, ↓pm_0132, ↓pm_0213, ↓pm_0231, ↓pm_0312, ↓pm_0321, ↓pm_1023, ↓pm_1032, ↓pm_1203, ↓pm_1230, ↓pm_1302, ↓pm_1320, ↓pm_2013, ↓pm_2031, ↓pm_2103, ↓pm_2130, ↓pm_2301, ↓pm_2310, ↓pm_3012, ↓pm_3021, ↓pm_3102, ↓pm_3120, ↓pm_3201, ↓pm_3210, ↓o_sub, ↓o_lt, ↓o_le, ↓o_gt, ↓o_ge, ↓o_mod, ↓o_fdiv, ↓o_pow, ↓o_mul, ↓o_rep, ↓o_repT, ↓o_add, ↓o_addS, ↓o_addT, ↓o_addLL, ↓o_addLO, ↓o_addOL, ↓o_addOO, ↓o_ixT, ↓o_ixL, ↓o_ixO, ↓atS_0, ↓atS_1, ↓atS_2, ↓atS_3, ↓atS_4, ↓slc_T, ↓slc_L, ↓slc_O, ↓ext_own, ↓ext_OO, ↓lm_own, ↓append_own, ↓b_lenT, ↓b_lenL, ↓b_lenO, ↓b_lenS, ↓b_tupT, ↓b_tupL, ↓b_tupO, ↓b_lstT, ↓b_lstL, ↓b_lstO, ↓b_min2, ↓b_max2, ↓b_abs, ↓b_sumO, ↓b_sumL, ↓b_sumT, ↓b_anyO, ↓b_allO, ↓o_eqI, ↓o_neI, ↓o_eqSt, ↓o_neSt, ↓o_eqT, ↓o_neT, ↓isN_non, ↓isN_int, ↓isN_str, ↓isN_tup, ↓isN_lst, ↓nIsN_non, ↓nIsN_int, ↓nIsN_str, ↓nIsN_tup, ↓nIsN_lst, if_true, if_false, Bool.not_true, Bool.not_false, Bool.false_eq_true, decide_true, decide_false, String.reduceEq, decide_eq_true_eq, Int.toNat_natCast, List.length_map, List.length_cons, List.length_nil, sizeL, Nat.zero_add, Nat.reduceAdd, Nat.reduceLeDiff]
  · obtain ⟨c, hc⟩ : ∃ c : Nat, p.1 = c := ⟨p.1.toNat, by omega⟩
    have c1 : c < ss.length := by omega
    have le : (st.count (c : Int) : Int) ≤ ss.getD c 0 := h.cap c c1
    have le2 := count_take_le (st := st) (j := j + 1) (x := (c : Int))
    have g2 : ¬ (c : Int) = -1 := by omega
    have c2 : c < (cnt ss.length (st.take j ++ [(c : Int)])).length := by rw [cnt_len]; exact c1
    simp only [↓k_V, ↓k_C, ↓k_Op2, ↓k_Fz, ↓k_wNil, ↓k_wCons, ↓k_Tup, ↓k_Lst, ↓k_oNo, ↓k_oPart, ↓k_Sl, ↓k_sNil, ↓k_sCons, ↓k_CB, ↓k_tYes, ↓k_tTst, ↓k_tAnd, ↓k_tOr, ↓k_tNot, ↓k_If, ↓k_And, ↓k_Or, ↓k_Not, ↓k_Neg, ↓k_Chn, ↓k_Call, ↓k_Call0, ↓k_wPerm, ↓k_iItems, ↓k_iRng1, ↓k_iRng2, ↓k_iZip, ↓k_iEnum, ↓k_iEnz, ↓k_ifC, ↓k_Lrg1, ↓k_parC, ↓k_starC, ↓k_setC, ↓k_setC2, ↓k_augC, ↓k_lcb, ↓k_Lc, ↓k_forC, ↓str_lit, ↓fz_val, ↓fz_seq, ↓rr_val, ↓rr_own, ↓sv_val, ↓sv_own, ↓asI_int, ↓asB_bl, ↓items_tup, ↓items_lst, ↓un2_tup, ↓un3_tup, ↓un5_tup, ↓uq2_tup, ↓uq3_tup, ↓uq2_lst, ↓uq3_lst, ↓uq4_tup, ↓uq5_tup, ↓star_tup, ↓star_lst, ↓pr2_2, ↓zip2_tup, ↓zip2_lst, ↓enz_2, ↓rng1_int, ↓rng2_int, ↓lrg1_int, ↓req_T, ↓ret_at, ↓raise_at, ↓call_ret, ↓call0_ret, ↓call_raise, ↓pm_0, ↓pm_01, ↓pm_10, ↓pm_012, ↓pm_021, ↓pm_102, ↓pm_120, ↓pm_201, ↓pm_210, ↓pm_0123, ↓pm_0132, ↓pm_0213, ↓pm_0231, ↓pm_0312, ↓pm_0321, ↓pm_1023, ↓pm_1032, ↓pm_1203, ↓pm_1230, ↓pm_1302, ↓pm_1320, ↓pm_2013, ↓pm_2031, ↓pm_2103, ↓pm_2130, ↓pm_2301, ↓pm_2310, ↓pm_3012, ↓pm_3021, ↓pm_3102, ↓pm_3120, ↓pm_3201, ↓pm_3210, ↓o_sub, ↓o_lt, ↓o_le, ↓o_gt, ↓o_ge, ↓o_mod, ↓o_fdiv, ↓o_pow, ↓o_mul, ↓o_rep, ↓o_repT, ↓o_add, ↓o_addS, ↓o_addT, ↓o_addLL, ↓o_addLO, ↓o_addOL, ↓o_addOO, ↓o_ixT, ↓o_ixL, ↓o_ixO, ↓atS_0, ↓atS_1, ↓atS_2, ↓atS_3, ↓atS_4, ↓slc_T, ↓slc_L, ↓slc_O, ↓ext_own, ↓ext_OO, ↓lm_own, ↓append_own, ↓b_lenT, ↓b_lenL, ↓b_lenO, ↓b_lenS, ↓b_tupT, ↓b_tupL, ↓b_tupO, ↓b_lstT, ↓b_lstL, ↓b_lstO, ↓b_min2, ↓b_max2, ↓b_abs, ↓b_sumO, ↓b_sumL, ↓b_sumT, ↓b_anyO, ↓b_allO, ↓o_eqI, ↓o_neI, ↓o_eqSt, ↓o_neSt, ↓o_eqT, ↓o_neT, ↓isN_non, ↓isN_int, ↓isN_str, ↓isN_tup, ↓isN_lst, ↓nIsN_non, ↓nIsN_int, ↓nIsN_str, ↓nIsN_tup, ↓nIsN_lst, if_true, if_false, Bool.not_true, Bool.not_false, Bool.false_eq_true, decide_true, decide_false, String.reduceEq, decide_eq_true_eq, Int.toNat_natCast, List.length_map, List.length_cons, List.length_nil, sizeL, Nat.zero_add, Nat.reduceAdd, Nat.reduceLeDiff, hc, decide_eq_false g2, cnt_aug c1 (show ss.length ≤ 100 by omega), ↓atS_ints c1, ↓atS_ints c2, cnt_get c1]
    rw [← hc, tk, hc, if_neg (by omega)]
theorem counted_ok {n : Nat} {st : List Int} (hn : n ≤ 100) (h : ∀ p ∈ st, -1 ≤ p ∧ p < n) : m_counted [.int n, .tup (st.map .int)] = ret (.val (.tup ((cnt n st).map .int))) := by
  show mf_counted _ _ = _
  unfold mf_counted
  simp only [↓k_V, ↓k_C, ↓k_Op2, ↓k_Fz, ↓k_wNil, ↓k_wCons, ↓k_Tup, ↓k_Lst, ↓k_oNo, ↓k_oPart, ↓k_Sl, ↓k_sNil, ↓k_sCons, ↓k_CB, ↓k_tYes, ↓k_tTst, ↓k_tAnd, ↓k_tOr, ↓k_tNot, ↓k_If, ↓k_And, ↓k_Or, ↓k_Not, ↓k_Neg, ↓k_Chn, ↓k_Call, ↓k_Call0, ↓k_wPerm, ↓k_iItems, ↓k_iRng1, ↓k_iRng2, ↓k_iZip, ↓k_iEnum, ↓k_iEnz, ↓k_ifC, ↓k_Lrg1, ↓k_parC, ↓k_starC, ↓k_setC, ↓k_setC2, ↓k_augC, ↓k_lcb, ↓k_Lc, ↓k_forC, ↓str_lit, ↓fz_val, ↓fz_seq, ↓rr_val, ↓rr_own, ↓sv_val, ↓sv_own, ↓asI_int, ↓asB_bl, ↓items_tup, ↓items_lst, ↓un2_tup, ↓un3_tup, ↓un5_tup, ↓uq2_tup, ↓uq3_tup, ↓uq2_lst, ↓uq3_lst, ↓uq4_tup, ↓uq5_tup, ↓star_tup, ↓star_lst, ↓pr2_2, ↓zip2_tup, ↓zip2_lst, ↓enz_2, ↓rng1_int, ↓rng2_int, ↓lrg1_int, ↓req_T, ↓ret_at, ↓raise_at, ↓call_ret, ↓call0_ret, ↓call_raise, ↓pm_0, ↓pm_01, ↓pm_10, ↓pm_012, ↓pm_021, ↓pm_102, ↓pm_120, ↓pm_201, ↓pm_210, ↓pm_0123, ↓pm_0132, ↓pm_0213, ↓pm_0231, ↓pm_0312, ↓pm_0321, ↓pm_1023, ↓pm_1032, ↓pm_1203, ↓pm_1230, ↓pm_1302, ↓pm_1320, ↓pm_2013, ↓pm_2031, ↓pm_2103, ↓pm_2130, ↓pm_2301, ↓pm_2310, ↓pm_3012, ↓pm_3021, ↓pm_3102, ↓pm_3120, ↓pm_3201, ↓pm_3210, ↓o_sub, ↓o_lt, ↓o_le, ↓o_gt, ↓o_ge, ↓o_mod, ↓o_fdiv, ↓o_pow, ↓o_mul, ↓o_rep, ↓o_repT, ↓o_add, ↓o_addS, ↓o_addT, ↓o_addLL, ↓o_addLO, ↓o_addOL, ↓o_addOO, ↓o_ixT, ↓o_ixL, ↓o_ixO, ↓atS_0, ↓atS_1, ↓atS_2, ↓atS_3, ↓atS_4, ↓slc_T, ↓slc_L, ↓slc_O, ↓ext_own, ↓ext_OO, ↓lm_own, ↓append_own, ↓b_lenT, ↓b_lenL, ↓b_lenO, ↓b_lenS, ↓b_tupT, ↓b_tupL, ↓b_tupO, ↓b_lstT, ↓b_lstL, ↓b_lstO, ↓b_min2, ↓b_max2, ↓b_abs, ↓b_sumO, ↓b_sumL, ↓b_sumT, ↓b_anyO, ↓b_allO, ↓o_eqI, ↓o_neI, ↓o_eqSt, ↓o_neSt, ↓o_eqT, ↓o_neT, ↓isN_non, ↓isN_int, ↓isN_str, ↓isN_tup, ↓isN_lst, ↓nIsN_non, ↓nIsN_int, ↓nIsN_str, ↓nIsN_tup, ↓nIsN_lst, if_true, if_false, Bool.not_true, Bool.not_false, Bool.false_eq_true, decide_true, decide_false, String.reduceEq, decide_eq_true_eq, Int.toNat_natCast, List.length_map, List.length_cons, List.length_nil, sizeL, Nat.zero_add, Nat.reduceAdd, Nat.reduceLeDiff]
  rw [req_of (by omega), rep0, ← cnt_nil (n := n),
    for_enc W.int (fun pre : List Int => SV.own (.seq ((cnt n pre).map W.int))) (fun pre p => pre ++ [p]) (fun j pre => pre = st.take j) st [] 0 (by simp) fun j p hj pre e => ?_]
  · have e : st.foldl (fun pre p => pre ++ [p]) [] = st := foldl_snoc st
    rw [e]
    exact b_tupO
  subst e
  rw [Nat.zero_add]
  have tk : st.take j ++ [p] = st.take (j + 1) := by rw [List.take_succ, hj]; rfl
  refine ⟨tk, fun kn => ?_⟩
  obtain ⟨a0, a1⟩ := h p (List.mem_of_getElem? hj)
  by_cases g : p = -1
  · rw [g, cnt_gone (by omega)]
    simp only [↓k_V, ↓k_C, ↓k_Op2, ↓k_Fz, ↓k_wNil, ↓k_wCons, ↓k_Tup, ↓k_Lst, ↓k_oNo, ↓k_oPart, ↓k_Sl, ↓k_sNil, ↓k_sCons, ↓k_CB, ↓k_tYes, ↓k_tTst, ↓k_tAnd, ↓k_tOr, ↓k_tNot, ↓k_If, ↓k_And, ↓k_Or, ↓k_Not, ↓k_Neg, ↓k_Chn, ↓k_Call, ↓k_Call0, ↓k_wPerm, ↓k_iItems, ↓k_iRng1, ↓k_iRng2, ↓k_iZip, ↓k_iEnum, ↓k_iEnz, ↓k_ifC, ↓k_Lrg1, ↓k_parC, ↓k_starC, ↓k_setC, ↓k_setC2, ↓k_augC, ↓k_lcb, ↓k_Lc, ↓k_forC, ↓str_lit, ↓fz_val, ↓fz_seq, ↓rr_val, ↓rr_own, ↓sv_val, ↓sv_own, ↓asI_int, ↓asB_bl, ↓items_tup, ↓items_lst, ↓un2_tup, ↓un3_tup, ↓un5_tup, ↓uq2_tup, ↓uq3_tup, ↓uq2_lst, ↓uq3_lst, ↓uq4_tup, ↓uq5_tup, ↓star_tup, ↓star_lst, ↓pr2_2, ↓zip2_tup, ↓zip2_lst, ↓enz_2, ↓rng1_int, ↓rng2_int, ↓lrg1_int, ↓req_T, ↓ret_at, ↓raise_at, ↓call_ret, ↓call0_ret, ↓call_raise, ↓pm_0, ↓pm_01, ↓pm_10, ↓pm_012, ↓pm_021, ↓pm_102, ↓pm_120, ↓pm_201, ↓pm_210, ↓pm_0123, ↓pm_0132, ↓pm_0213, ↓pm_0231, ↓pm_0312, ↓pm_0321, ↓pm_1023, ↓pm_1032, ↓pm_1203, ↓pm_1230, ↓pm_1302, ↓pm_1320, ↓pm_2013, ↓pm_2031, ↓pm_2103, ↓pm_2130, ↓pm_2301, ↓pm_2310, ↓pm_3012, ↓pm_3021, ↓pm_3102, ↓pm_3120, ↓pm_3201, ↓pm_3210, ↓o_sub, ↓o_lt, ↓o_le, ↓o_gt, ↓o_ge, ↓o_mod, ↓o_fdiv, ↓o_pow, ↓o_mul, ↓o_rep, ↓o_repT, ↓o_add, ↓o_addS, ↓o_addT, ↓o_addLL, ↓o_addLO, ↓o_addOL, ↓o_addOO, ↓o_ixT, ↓o_ixL, ↓o_ixO, ↓atS_0, ↓atS_1, ↓atS_2, ↓atS_3, ↓atS_4, ↓slc_T, ↓slc_L, ↓slc_O, ↓ext_own, ↓ext_OO, ↓lm_own, ↓append_own, ↓b_lenT, ↓b_lenL, ↓b_lenO, ↓b_lenS, ↓b_tupT, ↓b_tupL, ↓b_tupO, ↓b_lstT, ↓b_lstL, ↓b_lstO, ↓b_min2, ↓b_max2, ↓b_abs, ↓b_sumO, ↓b_sumL, ↓b_sumT, ↓b_anyO, ↓b_allO, ↓o_eqI, ↓o_neI, ↓o_eqSt, ↓o_neSt, ↓o_eqT, ↓o_neT, ↓isN_non, ↓isN_int, ↓isN_str, ↓isN_tup, ↓isN_lst, ↓nIsN_non, ↓nIsN_int, ↓nIsN_str, ↓nIsN_tup, ↓nIsN_lst, if_true, if_false, Bool.not_true, Bool.not_false, Bool.false_eq_true, decide_true, decide_false, String.reduceEq, decide_eq_true_eq, Int.toNat_natCast, List.length_map, List.length_cons, List.length_nil, sizeL, Nat.zero_add, Nat.reduceAdd, Nat.reduceLeDiff]
  · obtain ⟨c, hc⟩ : ∃ c : Nat, p = c := ⟨p.toNat, by omega⟩
    have c1 : c < n := by omega
    have g2 : ¬ (c : Int) = -1 := by omega
    simp only [↓k_V, ↓k_C, ↓k_Op2, ↓k_Fz, ↓k_wNil, ↓k_wCons, ↓k_Tup, ↓k_Lst, ↓k_oNo, ↓k_oPart, ↓k_Sl, ↓k_sNil, ↓k_sCons, ↓k_CB, ↓k_tYes, ↓k_tTst, ↓k_tAnd, ↓k_tOr, ↓k_tNot, ↓k_If, ↓k_And, ↓k_Or, ↓k_Not, ↓k_Neg, ↓k_Chn, ↓k_Call, ↓k_Call0, ↓k_wPerm, ↓k_iItems, ↓k_iRng1, ↓k_iRng2, ↓k_iZip, ↓k_iEnum, ↓k_iEnz, ↓k_ifC, ↓k_Lrg1, ↓k_parC, ↓k_starC, ↓k_setC, ↓k_setC2, ↓k_augC, ↓k_lcb, ↓k_Lc, ↓k_forC, ↓str_lit, ↓fz_val, ↓fz_seq, ↓rr_val, ↓rr_own, ↓sv_val, ↓sv_own, ↓asI_int, ↓asB_bl, ↓items_tup, ↓items_lst, ↓un2_tup, ↓un3_tup, ↓un5_tup, ↓uq2_tup, ↓uq3_tup, ↓uq2_lst, ↓uq3_lst, ↓uq4_tup, ↓uq5_tup, ↓star_tup, ↓star_lst, ↓pr2_2, ↓zip2_tup, ↓zip2_lst, ↓enz_2, ↓rng1_int, ↓rng2_int, ↓lrg1_int, ↓req_T, ↓ret_at, ↓raise_at, ↓call_ret, ↓call0_ret, ↓call_raise, ↓pm_0, ↓pm_01, ↓pm_10, ↓pm_012, ↓pm_021, ↓pm_102, ↓pm_120, ↓pm_201, ↓pm_210, ↓pm_0123, ↓pm_0132, ↓pm_0213, ↓pm_0231, ↓pm_0312, ↓pm_0321, ↓pm_1023, ↓pm_1032, ↓pm_1203, ↓pm_1230, ↓pm_1302, ↓pm_1320, ↓pm_2013, ↓pm_2031, ↓pm_2103, ↓pm_2130, ↓pm_2301, ↓pm_2310, ↓pm_3012, ↓pm_3021, ↓pm_3102, ↓pm_3120, ↓pm_3201, ↓pm_3210, ↓o_sub, ↓o_lt, ↓o_le, ↓o_gt, ↓o_ge, ↓o_mod, ↓o_fdiv, ↓o_pow, ↓o_mul, ↓o_rep, ↓o_repT, ↓o_add, ↓o_addS, ↓o_addT, ↓o_addLL, ↓o_addLO, ↓o_addOL, ↓o_addOO, ↓o_ixT, ↓o_ixL, ↓o_ixO, ↓atS_0, ↓atS_1, ↓atS_2, ↓atS_3, ↓atS_4, ↓slc_T, ↓slc_L, ↓slc_O, ↓ext_own, ↓ext_OO, ↓lm_own, ↓append_own, ↓b_lenT, ↓b_lenL, ↓b_lenO, ↓b_lenS, ↓b_tupT, ↓b_tupL, ↓b_tupO, ↓b_lstT, ↓b_lstL, ↓b_lstO, ↓b_min2, ↓b_max2, ↓b_abs, ↓b_sumO, ↓b_sumL, ↓b_sumT, ↓b_anyO, ↓b_allO, ↓o_eqI, ↓o_neI, ↓o_eqSt, ↓o_neSt, ↓o_eqT, ↓o_neT, ↓isN_non, ↓isN_int, ↓isN_str, ↓isN_tup, ↓isN_lst, ↓nIsN_non, ↓nIsN_int, ↓nIsN_str, ↓nIsN_tup, ↓nIsN_lst, if_true, if_false, Bool.not_true, Bool.not_false, Bool.false_eq_true, decide_true, decide_false, String.reduceEq, decide_eq_true_eq, Int.toNat_natCast, List.length_map, List.length_cons, List.length_nil, sizeL, Nat.zero_add, Nat.reduceAdd, Nat.reduceLeDiff, hc, decide_eq_false g2, cnt_aug c1 hn]
theorem counts_of_ok {ss st : List Int} (hs : SzOk ss) (h : StOk ss st) : m_counts_of [.tup (ss.map .int), .tup (st.map .int)] = ret (.val (.tup ((cnt ss.length st).map .int))) := by
  show mf_counts_of _ _ = _
  unfold mf_counts_of
  obtain ⟨l1, l2, s3⟩ := id hs
  simp only [↓k_V, ↓k_C, ↓k_Op2, ↓k_Fz, ↓k_wNil, ↓k_wCons, ↓k_Tup, ↓k_Lst, ↓k_oNo, ↓k_oPart, ↓k_Sl, ↓k_sNil, ↓k_sCons, ↓k_CB, ↓k_tYes, ↓k_tTst, ↓k_tAnd, ↓k_tOr, ↓k_tNot, ↓k_If, ↓k_And, ↓k_Or, ↓k_Not, ↓k_Neg, ↓k_Chn, ↓k_Call, ↓k_Call0, ↓k_wPerm, ↓k_iItems, ↓k_iRng1, ↓k_iRng2, ↓k_iZip, ↓k_iEnum, ↓k_iEnz, ↓k_ifC, ↓k_Lrg1, ↓k_parC, ↓k_starC, ↓k_setC, ↓k_setC2, ↓k_augC, ↓k_lcb, ↓k_Lc, ↓k_forC, ↓str_lit, ↓fz_val, ↓fz_seq, ↓rr_val, ↓rr_own, ↓sv_val, ↓sv_own, ↓asI_int, ↓asB_bl, ↓items_tup, ↓items_lst, ↓un2_tup, ↓un3_tup, ↓un5_tup, ↓uq2_tup, ↓uq3_tup, ↓uq2_lst, ↓uq3_lst, ↓uq4_tup, ↓uq5_tup, ↓star_tup, ↓star_lst, ↓pr2_2, ↓zip2_tup, ↓zip2_lst, ↓enz_2, ↓rng1_int, ↓rng2_int, ↓lrg1_int, ↓req_T, ↓ret_at, ↓raise_at, ↓call_ret, ↓call0_ret, ↓call_raise, ↓pm_0, ↓pm_01, ↓pm_10, ↓pm_012, ↓pm_021, ↓pm_102, ↓pm_120, ↓pm_201, ↓pm_210, ↓pm_0123, ↓pm_0132, ↓pm_0213, ↓pm_0231, ↓pm_0312, ↓pm_0321, ↓pm_1023, ↓pm_1032, ↓pm_1203, ↓pm_1230, ↓pm_1302, ↓pm_1320, ↓pm_2013, ↓pm_2031, ↓pm_2103, ↓pm_2130, ↓pm_2301, ↓pm_2310, ↓pm_3012, ↓pm_3021, ↓pm_3102, ↓pm_3120, ↓pm_3201, ↓pm_3210, ↓o_sub, ↓o_lt, ↓o_le, ↓o_gt, ↓o_ge, ↓o_mod, ↓o_fdiv, ↓o_pow, ↓o_mul, ↓o_rep, ↓o_repT, ↓o_add, ↓o_addS, ↓o_addT, ↓o_addLL, ↓o_addLO, ↓o_addOL, ↓o_addOO, ↓o_ixT, ↓o_ixL, ↓o_ixO, ↓atS_0, ↓atS_1, ↓atS_2, ↓atS_3, ↓atS_4, ↓slc_T, ↓slc_L, ↓slc_O, ↓ext_own, ↓ext_OO, ↓lm_own, ↓append_own, ↓b_lenT, ↓b_lenL, ↓b_lenO, ↓b_lenS, ↓b_tupT, ↓b_tupL, ↓b_tupO, ↓b_lstT, ↓b_lstL, ↓b_lstO, ↓b_min2, ↓b_max2, ↓b_abs, ↓b_sumO, ↓b_sumL, ↓b_sumT, ↓b_anyO, ↓b_allO, ↓o_eqI, ↓o_neI, ↓o_eqSt, ↓o_neSt, ↓o_eqT, ↓o_neT, ↓isN_non, ↓isN_int, ↓isN_str, ↓isN_tup, ↓isN_lst, ↓nIsN_non, ↓nIsN_int, ↓nIsN_str, ↓nIsN_tup, ↓nIsN_lst, if_true, if_false, Bool.not_true, Bool.not_false, Bool.false_eq_true, decide_true, decide_false, String.reduceEq, decide_eq_true_eq, Int.toNat_natCast, List.length_map, List.length_cons, List.length_nil, sizeL, Nat.zero_add, Nat.reduceAdd, Nat.reduceLeDiff, look_stand_ok hs h, counted_ok (show ss.length ≤ 100 by omega) h.at_]
theorem hidden_ok {st : List Int} {n : Int} (h0 : 0 ≤ n) (h1 : n ≤ st.length) : m_hidden [.tup (st.map .int), .int n] = ret (.val (.tup ((st.take n.toNat).map .int))) := by
  show mf_hidden _ _ = _
  unfold mf_hidden
  obtain ⟨k, rfl⟩ : ∃ k : Nat, n = k := ⟨n.toNat, by omega⟩
  simp only [↓k_V, ↓k_C, ↓k_Op2, ↓k_Fz, ↓k_wNil, ↓k_wCons, ↓k_Tup, ↓k_Lst, ↓k_oNo, ↓k_oPart, ↓k_Sl, ↓k_sNil, ↓k_sCons, ↓k_CB, ↓k_tYes, ↓k_tTst, ↓k_tAnd, ↓k_tOr, ↓k_tNot, ↓k_If, ↓k_And, ↓k_Or, ↓k_Not, ↓k_Neg, ↓k_Chn, ↓k_Call, ↓k_Call0, ↓k_wPerm, ↓k_iItems, ↓k_iRng1, ↓k_iRng2, ↓k_iZip, ↓k_iEnum, ↓k_iEnz, ↓k_ifC, ↓k_Lrg1, ↓k_parC, ↓k_starC, ↓k_setC, ↓k_setC2, ↓k_augC, ↓k_lcb, ↓k_Lc, ↓k_forC, ↓str_lit, ↓fz_val, ↓fz_seq, ↓rr_val, ↓rr_own, ↓sv_val, ↓sv_own, ↓asI_int, ↓asB_bl, ↓items_tup, ↓items_lst, ↓un2_tup, ↓un3_tup, ↓un5_tup, ↓uq2_tup, ↓uq3_tup, ↓uq2_lst, ↓uq3_lst, ↓uq4_tup, ↓uq5_tup, ↓star_tup, ↓star_lst, ↓pr2_2, ↓zip2_tup, ↓zip2_lst, ↓enz_2, ↓rng1_int, ↓rng2_int, ↓lrg1_int, ↓req_T, ↓ret_at, ↓raise_at, ↓call_ret, ↓call0_ret, ↓call_raise, ↓pm_0, ↓pm_01, ↓pm_10, ↓pm_012, ↓pm_021, ↓pm_102, ↓pm_120, ↓pm_201, ↓pm_210, ↓pm_0123, ↓pm_0132, ↓pm_0213, ↓pm_0231, ↓pm_0312, ↓pm_0321, ↓pm_1023, ↓pm_1032, ↓pm_1203, ↓pm_1230, ↓pm_1302, ↓pm_1320, ↓pm_2013, ↓pm_2031, ↓pm_2103, ↓pm_2130, ↓pm_2301, ↓pm_2310, ↓pm_3012, ↓pm_3021, ↓pm_3102, ↓pm_3120, ↓pm_3201, ↓pm_3210, ↓o_sub, ↓o_lt, ↓o_le, ↓o_gt, ↓o_ge, ↓o_mod, ↓o_fdiv, ↓o_pow, ↓o_mul, ↓o_rep, ↓o_repT, ↓o_add, ↓o_addS, ↓o_addT, ↓o_addLL, ↓o_addLO, ↓o_addOL, ↓o_addOO, ↓o_ixT, ↓o_ixL, ↓o_ixO, ↓atS_0, ↓atS_1, ↓atS_2, ↓atS_3, ↓atS_4, ↓slc_T, ↓slc_L, ↓slc_O, ↓ext_own, ↓ext_OO, ↓lm_own, ↓append_own, ↓b_lenT, ↓b_lenL, ↓b_lenO, ↓b_lenS, ↓b_tupT, ↓b_tupL, ↓b_tupO, ↓b_lstT, ↓b_lstL, ↓b_lstO, ↓b_min2, ↓b_max2, ↓b_abs, ↓b_sumO, ↓b_sumL, ↓b_sumT, ↓b_anyO, ↓b_allO, ↓o_eqI, ↓o_neI, ↓o_eqSt, ↓o_neSt, ↓o_eqT, ↓o_neT, ↓isN_non, ↓isN_int, ↓isN_str, ↓isN_tup, ↓isN_lst, ↓nIsN_non, ↓nIsN_int, ↓nIsN_str, ↓nIsN_tup, ↓nIsN_lst, if_true, if_false, Bool.not_true, Bool.not_false, Bool.false_eq_true, decide_true, decide_false, String.reduceEq, decide_eq_true_eq, Int.toNat_natCast, List.length_map, List.length_cons, List.length_nil, sizeL, Nat.zero_add, Nat.reduceAdd, Nat.reduceLeDiff]
  rw [if_pos h0, decide_eq_true h1, cut_to, ← List.map_take]
  rfl
/-- the ranks that stand in a cask -/
def ranksAt (st : List Int) (c : Int) : List Nat := (st.zipIdx.filter fun p => decide (p.1 = c)).map (·.2)
theorem ranks_in_ok {st : List Int} {c : Int} (hl : st.length ≤ 100) : m_ranks_in [.tup (st.map .int), .int c] = ret (.own (.seq ((ranksAt st c).map natW))) := by
  show mf_ranks_in _ _ = _
  unfold mf_ranks_in
  simp only [↓k_V, ↓k_C, ↓k_Op2, ↓k_Fz, ↓k_wNil, ↓k_wCons, ↓k_Tup, ↓k_Lst, ↓k_oNo, ↓k_oPart, ↓k_Sl, ↓k_sNil, ↓k_sCons, ↓k_CB, ↓k_tYes, ↓k_tTst, ↓k_tAnd, ↓k_tOr, ↓k_tNot, ↓k_If, ↓k_And, ↓k_Or, ↓k_Not, ↓k_Neg, ↓k_Chn, ↓k_Call, ↓k_Call0, ↓k_wPerm, ↓k_iItems, ↓k_iRng1, ↓k_iRng2, ↓k_iZip, ↓k_iEnum, ↓k_iEnz, ↓k_ifC, ↓k_Lrg1, ↓k_parC, ↓k_starC, ↓k_setC, ↓k_setC2, ↓k_augC, ↓k_lcb, ↓k_Lc, ↓k_forC, ↓str_lit, ↓fz_val, ↓fz_seq, ↓rr_val, ↓rr_own, ↓sv_val, ↓sv_own, ↓asI_int, ↓asB_bl, ↓items_tup, ↓items_lst, ↓un2_tup, ↓un3_tup, ↓un5_tup, ↓uq2_tup, ↓uq3_tup, ↓uq2_lst, ↓uq3_lst, ↓uq4_tup, ↓uq5_tup, ↓star_tup, ↓star_lst, ↓pr2_2, ↓zip2_tup, ↓zip2_lst, ↓enz_2, ↓rng1_int, ↓rng2_int, ↓lrg1_int, ↓req_T, ↓ret_at, ↓raise_at, ↓call_ret, ↓call0_ret, ↓call_raise, ↓pm_0, ↓pm_01, ↓pm_10, ↓pm_012, ↓pm_021, ↓pm_102, ↓pm_120, ↓pm_201, ↓pm_210, ↓pm_0123, ↓pm_0132, ↓pm_0213, ↓pm_0231, ↓pm_0312, ↓pm_0321, ↓pm_1023, ↓pm_1032, ↓pm_1203, ↓pm_1230, ↓pm_1302, ↓pm_1320, ↓pm_2013, ↓pm_2031, ↓pm_2103, ↓pm_2130, ↓pm_2301, ↓pm_2310, ↓pm_3012, ↓pm_3021, ↓pm_3102, ↓pm_3120, ↓pm_3201, ↓pm_3210, ↓o_sub, ↓o_lt, ↓o_le, ↓o_gt, ↓o_ge, ↓o_mod, ↓o_fdiv, ↓o_pow, ↓o_mul, ↓o_rep, ↓o_repT, ↓o_add, ↓o_addS, ↓o_addT, ↓o_addLL, ↓o_addLO, ↓o_addOL, ↓o_addOO, ↓o_ixT, ↓o_ixL, ↓o_ixO, ↓atS_0, ↓atS_1, ↓atS_2, ↓atS_3, ↓atS_4, ↓slc_T, ↓slc_L, ↓slc_O, ↓ext_own, ↓ext_OO, ↓lm_own, ↓append_own, ↓b_lenT, ↓b_lenL, ↓b_lenO, ↓b_lenS, ↓b_tupT, ↓b_tupL, ↓b_tupO, ↓b_lstT, ↓b_lstL, ↓b_lstO, ↓b_min2, ↓b_max2, ↓b_abs, ↓b_sumO, ↓b_sumL, ↓b_sumT, ↓b_anyO, ↓b_allO, ↓o_eqI, ↓o_neI, ↓o_eqSt, ↓o_neSt, ↓o_eqT, ↓o_neT, ↓isN_non, ↓isN_int, ↓isN_str, ↓isN_tup, ↓isN_lst, ↓nIsN_non, ↓nIsN_int, ↓nIsN_str, ↓nIsN_tup, ↓nIsN_lst, if_true, if_false, Bool.not_true, Bool.not_false, Bool.false_eq_true, decide_true, decide_false, String.reduceEq, decide_eq_true_eq, Int.toNat_natCast, List.length_map, List.length_cons, List.length_nil, sizeL, Nat.zero_add, Nat.reduceAdd, Nat.reduceLeDiff]
  rw [en_map]
  rw [lc_if (fun p : Int × Nat => W.tup [.int (p.2 : Int), .int p.1]) (fun p => decide (p.1 = c)) (fun p => natW p.2) st.zipIdx (fun p _ kk => ?_) (by simp only [List.length_zipIdx, sizeL]; omega)]
  · rw [ranksAt, List.map_map]
    rfl
  · simp only [↓k_V, ↓k_C, ↓k_Op2, ↓k_Fz, ↓k_wNil, ↓k_wCons, ↓k_Tup, ↓k_Lst, ↓k_oNo, ↓k_oPart, ↓k_Sl, ↓k_sNil, ↓k_sCons, ↓k_CB, ↓k_tYes, ↓k_tTst, ↓k_tAnd, ↓k_tOr, ↓k_tNot, ↓k_If, ↓k_And, ↓k_Or, ↓k_Not, ↓k_Neg, ↓k_Chn, ↓k_Call, ↓k_Call0, ↓k_wPerm, ↓k_iItems, ↓k_iRng1, ↓k_iRng2, ↓k_iZip, ↓k_iEnum, ↓k_iEnz, ↓k_ifC, ↓k_Lrg1, ↓k_parC, ↓k_starC, ↓k_setC, ↓k_setC2, ↓k_augC, ↓k_lcb, ↓k_Lc, ↓k_forC, ↓str_lit, ↓fz_val, ↓fz_seq, ↓rr_val, ↓rr_own, ↓sv_val, ↓sv_own, ↓asI_int, ↓asB_bl, ↓items_tup, ↓items_lst, ↓un2_tup, ↓un3_tup, ↓un5_tup, ↓uq2_tup, ↓uq3_tup, ↓uq2_lst, ↓uq3_lst, ↓uq4_tup, ↓uq5_tup, ↓star_tup, ↓star_lst, ↓pr2_2, ↓zip2_tup, ↓zip2_lst, ↓enz_2, ↓rng1_int, ↓rng2_int, ↓lrg1_int, ↓req_T, ↓ret_at, ↓raise_at, ↓call_ret, ↓call0_ret, ↓call_raise, ↓pm_0, ↓pm_01, ↓pm_10, ↓pm_012, ↓pm_021, ↓pm_102, ↓pm_120, ↓pm_201, ↓pm_210, ↓pm_0123, ↓pm_0132, ↓pm_0213, ↓pm_0231, ↓pm_0312, ↓pm_0321, ↓pm_1023, ↓pm_1032, ↓pm_1203, ↓pm_1230, ↓pm_1302, ↓pm_1320, ↓pm_2013, ↓pm_2031, ↓pm_2103, ↓pm_2130, ↓pm_2301, ↓pm_2310, ↓pm_3012, ↓pm_3021, ↓pm_3102, ↓pm_3120, ↓pm_3201, ↓pm_3210, ↓o_sub, ↓o_lt, ↓o_le, ↓o_gt, ↓o_ge, ↓o_mod, ↓o_fdiv, ↓o_pow, ↓o_mul, ↓o_rep, ↓o_repT, ↓o_add, ↓o_addS, ↓o_addT, ↓o_addLL, ↓o_addLO, ↓o_addOL, ↓o_addOO, ↓o_ixT, ↓o_ixL, ↓o_ixO, ↓atS_0, ↓atS_1, ↓atS_2, ↓atS_3, ↓atS_4, ↓slc_T, ↓slc_L, ↓slc_O, ↓ext_own, ↓ext_OO, ↓lm_own, ↓append_own, ↓b_lenT, ↓b_lenL, ↓b_lenO, ↓b_lenS, ↓b_tupT, ↓b_tupL, ↓b_tupO, ↓b_lstT, ↓b_lstL, ↓b_lstO, ↓b_min2, ↓b_max2, ↓b_abs, ↓b_sumO, ↓b_sumL, ↓b_sumT, ↓b_anyO, ↓b_allO, ↓o_eqI, ↓o_neI, ↓o_eqSt, ↓o_neSt, ↓o_eqT, ↓o_neT, ↓isN_non, ↓isN_int, ↓isN_str, ↓isN_tup, ↓isN_lst, ↓nIsN_non, ↓nIsN_int, ↓nIsN_str, ↓nIsN_tup, ↓nIsN_lst, if_true, if_false, Bool.not_true, Bool.not_false, Bool.false_eq_true, decide_true, decide_false, String.reduceEq, decide_eq_true_eq, Int.toNat_natCast, List.length_map, List.length_cons, List.length_nil, sizeL, Nat.zero_add, Nat.reduceAdd, Nat.reduceLeDiff]
def movedTo (st : List Int) (rs : List Nat) (c : Int) : List Int := st.zipIdx.map fun p => if p.2 ∈ rs then c else p.1
theorem moved_ok {st : List Int} {rs : List Nat} {c : Int} (hl : st.length ≤ 100) : m_moved [.tup (st.map .int), .lst (rs.map natW), .int c] = ret (.val (.tup ((movedTo st rs c).map .int))) := by
  show mf_moved _ _ _ = _
  unfold mf_moved
  simp only [↓k_V, ↓k_C, ↓k_Op2, ↓k_Fz, ↓k_wNil, ↓k_wCons, ↓k_Tup, ↓k_Lst, ↓k_oNo, ↓k_oPart, ↓k_Sl, ↓k_sNil, ↓k_sCons, ↓k_CB, ↓k_tYes, ↓k_tTst, ↓k_tAnd, ↓k_tOr, ↓k_tNot, ↓k_If, ↓k_And, ↓k_Or, ↓k_Not, ↓k_Neg, ↓k_Chn, ↓k_Call, ↓k_Call0, ↓k_wPerm, ↓k_iItems, ↓k_iRng1, ↓k_iRng2, ↓k_iZip, ↓k_iEnum, ↓k_iEnz, ↓k_ifC, ↓k_Lrg1, ↓k_parC, ↓k_starC, ↓k_setC, ↓k_setC2, ↓k_augC, ↓k_lcb, ↓k_Lc, ↓k_forC, ↓str_lit, ↓fz_val, ↓fz_seq, ↓rr_val, ↓rr_own, ↓sv_val, ↓sv_own, ↓asI_int, ↓asB_bl, ↓items_tup, ↓items_lst, ↓un2_tup, ↓un3_tup, ↓un5_tup, ↓uq2_tup, ↓uq3_tup, ↓uq2_lst, ↓uq3_lst, ↓uq4_tup, ↓uq5_tup, ↓star_tup, ↓star_lst, ↓pr2_2, ↓zip2_tup, ↓zip2_lst, ↓enz_2, ↓rng1_int, ↓rng2_int, ↓lrg1_int, ↓req_T, ↓ret_at, ↓raise_at, ↓call_ret, ↓call0_ret, ↓call_raise, ↓pm_0, ↓pm_01, ↓pm_10, ↓pm_012, ↓pm_021, ↓pm_102, ↓pm_120, ↓pm_201, ↓pm_210, ↓pm_0123, ↓pm_0132, ↓pm_0213, ↓pm_0231, ↓pm_0312, ↓pm_0321, ↓pm_1023, ↓pm_1032, ↓pm_1203, ↓pm_1230, ↓pm_1302, ↓pm_1320, ↓pm_2013, ↓pm_2031, ↓pm_2103, ↓pm_2130, ↓pm_2301, ↓pm_2310, ↓pm_3012, ↓pm_3021, ↓pm_3102, ↓pm_3120, ↓pm_3201, ↓pm_3210, ↓o_sub, ↓o_lt, ↓o_le, ↓o_gt, ↓o_ge, ↓o_mod, ↓o_fdiv, ↓o_pow, ↓o_mul, ↓o_rep, ↓o_repT, ↓o_add, ↓o_addS, ↓o_addT, ↓o_addLL, ↓o_addLO, ↓o_addOL, ↓o_addOO, ↓o_ixT, ↓o_ixL, ↓o_ixO, ↓atS_0, ↓atS_1, ↓atS_2, ↓atS_3, ↓atS_4, ↓slc_T, ↓slc_L, ↓slc_O, ↓ext_own, ↓ext_OO, ↓lm_own, ↓append_own, ↓b_lenT, ↓b_lenL, ↓b_lenO, ↓b_lenS, ↓b_tupT, ↓b_tupL, ↓b_tupO, ↓b_lstT, ↓b_lstL, ↓b_lstO, ↓b_min2, ↓b_max2, ↓b_abs, ↓b_sumO, ↓b_sumL, ↓b_sumT, ↓b_anyO, ↓b_allO, ↓o_eqI, ↓o_neI, ↓o_eqSt, ↓o_neSt, ↓o_eqT, ↓o_neT, ↓isN_non, ↓isN_int, ↓isN_str, ↓isN_tup, ↓isN_lst, ↓nIsN_non, ↓nIsN_int, ↓nIsN_str, ↓nIsN_tup, ↓nIsN_lst, if_true, if_false, Bool.not_true, Bool.not_false, Bool.false_eq_true, decide_true, decide_false, String.reduceEq, decide_eq_true_eq, Int.toNat_natCast, List.length_map, List.length_cons, List.length_nil, sizeL, Nat.zero_add, Nat.reduceAdd, Nat.reduceLeDiff]
  rw [en_map]
  rw [lc_all (fun p : Int × Nat => W.tup [.int (p.2 : Int), .int p.1]) (fun p => W.int (if p.2 ∈ rs then c else p.1)) st.zipIdx (fun p _ kk => ?_) (by simp only [List.length_zipIdx, sizeL]; omega)]
  · rw [movedTo, List.map_map]
    rfl
  · simp only [↓k_V, ↓k_C, ↓k_Op2, ↓k_Fz, ↓k_wNil, ↓k_wCons, ↓k_Tup, ↓k_Lst, ↓k_oNo, ↓k_oPart, ↓k_Sl, ↓k_sNil, ↓k_sCons, ↓k_CB, ↓k_tYes, ↓k_tTst, ↓k_tAnd, ↓k_tOr, ↓k_tNot, ↓k_If, ↓k_And, ↓k_Or, ↓k_Not, ↓k_Neg, ↓k_Chn, ↓k_Call, ↓k_Call0, ↓k_wPerm, ↓k_iItems, ↓k_iRng1, ↓k_iRng2, ↓k_iZip, ↓k_iEnum, ↓k_iEnz, ↓k_ifC, ↓k_Lrg1, ↓k_parC, ↓k_starC, ↓k_setC, ↓k_setC2, ↓k_augC, ↓k_lcb, ↓k_Lc, ↓k_forC, ↓str_lit, ↓fz_val, ↓fz_seq, ↓rr_val, ↓rr_own, ↓sv_val, ↓sv_own, ↓asI_int, ↓asB_bl, ↓items_tup, ↓items_lst, ↓un2_tup, ↓un3_tup, ↓un5_tup, ↓uq2_tup, ↓uq3_tup, ↓uq2_lst, ↓uq3_lst, ↓uq4_tup, ↓uq5_tup, ↓star_tup, ↓star_lst, ↓pr2_2, ↓zip2_tup, ↓zip2_lst, ↓enz_2, ↓rng1_int, ↓rng2_int, ↓lrg1_int, ↓req_T, ↓ret_at, ↓raise_at, ↓call_ret, ↓call0_ret, ↓call_raise, ↓pm_0, ↓pm_01, ↓pm_10, ↓pm_012, ↓pm_021, ↓pm_102, ↓pm_120, ↓pm_201, ↓pm_210, ↓pm_0123, ↓pm_0132, ↓pm_0213, ↓pm_0231, ↓pm_0312, ↓pm_0321, ↓pm_1023, ↓pm_1032, ↓pm_1203, ↓pm_1230, ↓pm_1302, ↓pm_1320, ↓pm_2013, ↓pm_2031, ↓pm_2103, ↓pm_2130, ↓pm_2301, ↓pm_2310, ↓pm_3012, ↓pm_3021, ↓pm_3102, ↓pm_3120, ↓pm_3201, ↓pm_3210, ↓o_sub, ↓o_lt, ↓o_le, ↓o_gt, ↓o_ge, ↓o_mod, ↓o_fdiv, ↓o_pow, ↓o_mul, ↓o_rep, ↓o_repT, ↓o_add, ↓o_addS, ↓o_addT, ↓o_addLL, ↓o_addLO, ↓o_addOL, ↓o_addOO, ↓o_ixT, ↓o_ixL, ↓o_ixO, ↓atS_0, ↓atS_1, ↓atS_2, ↓atS_3, ↓atS_4, ↓slc_T, ↓slc_L, ↓slc_O, ↓ext_own, ↓ext_OO, ↓lm_own, ↓append_own, ↓b_lenT, ↓b_lenL, ↓b_lenO, ↓b_lenS, ↓b_tupT, ↓b_tupL, ↓b_tupO, ↓b_lstT, ↓b_lstL, ↓b_lstO, ↓b_min2, ↓b_max2, ↓b_abs, ↓b_sumO, ↓b_sumL, ↓b_sumT, ↓b_anyO, ↓b_allO, ↓o_eqI, ↓o_neI, ↓o_eqSt, ↓o_neSt, ↓o_eqT, ↓o_neT, ↓isN_non, ↓isN_int, ↓isN_str, ↓isN_tup, ↓isN_lst, ↓nIsN_non, ↓nIsN_int, ↓nIsN_str, ↓nIsN_tup, ↓nIsN_lst, if_true, if_false, Bool.not_true, Bool.not_false, Bool.false_eq_true, decide_true, decide_false, String.reduceEq, decide_eq_true_eq, Int.toNat_natCast, List.length_map, List.length_cons, List.length_nil, sizeL, Nat.zero_add, Nat.reduceAdd, Nat.reduceLeDiff, t_in (x := .val (natW p.2)) (y := .val (.lst (rs.map natW))) (sp pl_int) (fun _ => rfl) (fun z hz => by obtain ⟨a, _, rfl⟩ := List.mem_map.mp hz; exact nb_nat)]
    by_cases g : p.2 ∈ rs
    · rw [if_pos g]
      exact if_pos (decide_eq_true (p := (SV.val (natW p.2)).fz ∈ rs.map natW) (List.mem_map.mpr ⟨_, g, rfl⟩))
    · rw [if_neg g]
      refine if_neg fun z => g ?_
      obtain ⟨a, ha, e⟩ := List.mem_map.mp (of_decide_eq_true z)
      rw [← natW_inj.mp e]
      exact ha
/-- what a deed makes of a stand -/
def ledStep (ss : List Int) (p : List Int × List Nat) (c : Nat) : List Int × List Nat := (movedTo p.1 p.2 (c : Int), (ranksAt (movedTo p.1 p.2 (c : Int)) (c : Int)).drop (ss.getD c 0).toNat)
def ledTo (ss st : List Int) (g : List Nat) : List Nat → List Int
  | [] => st
  | c :: r => movedTo (r.foldl (ledStep ss) (st, g)).1 (r.foldl (ledStep ss) (st, g)).2 (c : Int)
def Dd.beh (ss st : List Int) : Dd → List Int
  | .swap i j => st.map fun p => if p = (i : Int) then (j : Int) else if p = (j : Int) then (i : Int) else p
  | .tap n c => st ++ List.replicate (min n (ss.getD c 0 - (ranksAt st (c : Int)).length)).toNat (c : Int)
  | .drain n c => movedTo st ((ranksAt st (c : Int)).take n.toNat) (-1)
  | .over n cs => ledTo ss st ((ranksAt st ((cs.headD 0 : Nat) : Int)).take n.toNat) cs
  | .down n cs => ledTo ss st ((ranksAt st ((cs.headD 0 : Nat) : Int)).drop n.toNat) cs
theorem movedTo_len {st : List Int} {g : List Nat} {c : Int} : (movedTo st g c).length = st.length := by simp [movedTo]
theorem ranksAt_len {st : List Int} {c : Int} : (ranksAt st c).length ≤ st.length := by
  have z := List.length_filter_le (fun p : Int × Nat => decide (p.1 = c)) st.zipIdx
  simpa [ranksAt] using z
theorem ledStep_len {ss : List Int} : ∀ (r : List Nat) (p : List Int × List Nat), (r.foldl (ledStep ss) p).1.length = p.1.length
  | [], _ => rfl
  | c :: r, p => by rw [List.foldl_cons, ledStep_len r]; exact movedTo_len
theorem cut_fromW {xs : List Nat} {n : Int} (h : 0 ≤ n) : cutW (xs.map natW) (some n) none = (xs.drop n.toNat).map natW := by
  obtain ⟨k, rfl⟩ : ∃ k : Nat, n = k := ⟨n.toNat, by omega⟩
  rw [cut_from, List.map_drop]
  rfl
theorem cut_toW {xs : List Nat} {n : Int} (h : 0 ≤ n) : cutW (xs.map natW) none (some n) = (xs.take n.toNat).map natW := by
  obtain ⟨k, rfl⟩ : ∃ k : Nat, n = k := ⟨n.toNat, by omega⟩
  rw [cut_to, List.map_take]
  rfl
theorem getD_ok {ss : List Int} {c : Nat} (sz : ∀ s ∈ ss, 1 ≤ s ∧ s ≤ 40) (h : c < ss.length) : 1 ≤ ss.getD c 0 ∧ ss.getD c 0 ≤ 40 := by
  rw [List.getD_eq_getElem?_getD, List.getElem?_eq_getElem h]
  exact sz _ (List.getElem_mem h)
theorem led_ok {ss st : List Int} {g cs : List Nat} (sz : ∀ s ∈ ss, 1 ≤ s ∧ s ≤ 40) (hl : st.length ≤ 100) (h1 : 1 ≤ cs.length) (h2 : ∀ c ∈ cs, c < ss.length) : m_led [.tup (ss.map .int), .tup (st.map .int), .lst (g.map natW), .lst (cs.map natW)] = ret (.val (.tup ((ledTo ss st g cs).map .int))) := by
  show mf_led _ _ _ _ = _
  unfold mf_led
  cases cs with
  | nil => simp at h1
  | cons c r =>
    simp only [List.map_cons, ↓k_V, ↓k_C, ↓k_Op2, ↓k_Fz, ↓k_wNil, ↓k_wCons, ↓k_Tup, ↓k_Lst, ↓k_oNo, ↓k_oPart, ↓k_Sl, ↓k_sNil, ↓k_sCons, ↓k_CB, ↓k_tYes, ↓k_tTst, ↓k_tAnd, ↓k_tOr, ↓k_tNot, ↓k_If, ↓k_And, ↓k_Or, ↓k_Not, ↓k_Neg, ↓k_Chn, ↓k_Call, ↓k_Call0, ↓k_wPerm, ↓k_iItems, ↓k_iRng1, ↓k_iRng2, ↓k_iZip, ↓k_iEnum, ↓k_iEnz, ↓k_ifC, ↓k_Lrg1, ↓k_parC, ↓k_starC, ↓k_setC, ↓k_setC2, ↓k_augC, ↓k_lcb, ↓k_Lc, ↓k_forC, ↓str_lit, ↓fz_val, ↓fz_seq, ↓rr_val, ↓rr_own, ↓sv_val, ↓sv_own, ↓asI_int, ↓asB_bl, ↓items_tup, ↓items_lst, ↓un2_tup, ↓un3_tup, ↓un5_tup, ↓uq2_tup, ↓uq3_tup, ↓uq2_lst, ↓uq3_lst, ↓uq4_tup, ↓uq5_tup, ↓star_tup, ↓star_lst, ↓pr2_2, ↓zip2_tup, ↓zip2_lst, ↓enz_2, ↓rng1_int, ↓rng2_int, ↓lrg1_int, ↓req_T, ↓ret_at, ↓raise_at, ↓call_ret, ↓call0_ret, ↓call_raise, ↓pm_0, ↓pm_01, ↓pm_10, ↓pm_012, ↓pm_021, ↓pm_102, ↓pm_120, ↓pm_201, ↓pm_210, ↓pm_0123, ↓pm_0132, ↓pm_0213, ↓pm_0231, ↓pm_0312, ↓pm_0321, ↓pm_1023, ↓pm_1032, ↓pm_1203, ↓pm_1230, ↓pm_1302, ↓pm_1320, ↓pm_2013, ↓pm_2031, ↓pm_2103, ↓pm_2130, ↓pm_2301, ↓pm_2310, ↓pm_3012, ↓pm_3021, ↓pm_3102, ↓pm_3120, ↓pm_3201, ↓pm_3210, ↓o_sub, ↓o_lt, ↓o_le, ↓o_gt, ↓o_ge, ↓o_mod, ↓o_fdiv, ↓o_pow, ↓o_mul, ↓o_rep, ↓o_repT, ↓o_add, ↓o_addS, ↓o_addT, ↓o_addLL, ↓o_addLO, ↓o_addOL, ↓o_addOO, ↓o_ixT, ↓o_ixL, ↓o_ixO, ↓atS_0, ↓atS_1, ↓atS_2, ↓atS_3, ↓atS_4, ↓slc_T, ↓slc_L, ↓slc_O, ↓ext_own, ↓ext_OO, ↓lm_own, ↓append_own, ↓b_lenT, ↓b_lenL, ↓b_lenO, ↓b_lenS, ↓b_tupT, ↓b_tupL, ↓b_tupO, ↓b_lstT, ↓b_lstL, ↓b_lstO, ↓b_min2, ↓b_max2, ↓b_abs, ↓b_sumO, ↓b_sumL, ↓b_sumT, ↓b_anyO, ↓b_allO, ↓o_eqI, ↓o_neI, ↓o_eqSt, ↓o_neSt, ↓o_eqT, ↓o_neT, ↓isN_non, ↓isN_int, ↓isN_str, ↓isN_tup, ↓isN_lst, ↓nIsN_non, ↓nIsN_int, ↓nIsN_str, ↓nIsN_tup, ↓nIsN_lst, if_true, if_false, Bool.not_true, Bool.not_false, Bool.false_eq_true, decide_true, decide_false, String.reduceEq, decide_eq_true_eq, Int.toNat_natCast, List.length_map, List.length_cons, List.length_nil, sizeL, Nat.zero_add, Nat.reduceAdd, Nat.reduceLeDiff]
    rw [show (W.tup (st.map W.int), W.lst (g.map natW)) = (fun p : List Int × List Nat => (W.tup (p.1.map W.int), W.lst (p.2.map natW))) (st, g) from rfl,
      for_enc natW (fun p : List Int × List Nat => (W.tup (p.1.map W.int), W.lst (p.2.map natW))) (ledStep ss) (fun _ p => p.1.length ≤ 100) r _ 0 hl fun j x hx p hp => ⟨by show (movedTo _ _ _).length ≤ 100; rw [movedTo_len]; exact hp, fun kn => ?_⟩]
    · have hl2 : (r.foldl (ledStep ss) (st, g)).1.length ≤ 100 := by rw [ledStep_len]; exact hl
      simp only [↓k_V, ↓k_C, ↓k_Op2, ↓k_Fz, ↓k_wNil, ↓k_wCons, ↓k_Tup, ↓k_Lst, ↓k_oNo, ↓k_oPart, ↓k_Sl, ↓k_sNil, ↓k_sCons, ↓k_CB, ↓k_tYes, ↓k_tTst, ↓k_tAnd, ↓k_tOr, ↓k_tNot, ↓k_If, ↓k_And, ↓k_Or, ↓k_Not, ↓k_Neg, ↓k_Chn, ↓k_Call, ↓k_Call0, ↓k_wPerm, ↓k_iItems, ↓k_iRng1, ↓k_iRng2, ↓k_iZip, ↓k_iEnum, ↓k_iEnz, ↓k_ifC, ↓k_Lrg1, ↓k_parC, ↓k_starC, ↓k_setC, ↓k_setC2, ↓k_augC, ↓k_lcb, ↓k_Lc, ↓k_forC, ↓str_lit, ↓fz_val, ↓fz_seq, ↓rr_val, ↓rr_own, ↓sv_val, ↓sv_own, ↓asI_int, ↓asB_bl, ↓items_tup, ↓items_lst, ↓un2_tup, ↓un3_tup, ↓un5_tup, ↓uq2_tup, ↓uq3_tup, ↓uq2_lst, ↓uq3_lst, ↓uq4_tup, ↓uq5_tup, ↓star_tup, ↓star_lst, ↓pr2_2, ↓zip2_tup, ↓zip2_lst, ↓enz_2, ↓rng1_int, ↓rng2_int, ↓lrg1_int, ↓req_T, ↓ret_at, ↓raise_at, ↓call_ret, ↓call0_ret, ↓call_raise, ↓pm_0, ↓pm_01, ↓pm_10, ↓pm_012, ↓pm_021, ↓pm_102, ↓pm_120, ↓pm_201, ↓pm_210, ↓pm_0123, ↓pm_0132, ↓pm_0213, ↓pm_0231, ↓pm_0312, ↓pm_0321, ↓pm_1023, ↓pm_1032, ↓pm_1203, ↓pm_1230, ↓pm_1302, ↓pm_1320, ↓pm_2013, ↓pm_2031, ↓pm_2103, ↓pm_2130, ↓pm_2301, ↓pm_2310, ↓pm_3012, ↓pm_3021, ↓pm_3102, ↓pm_3120, ↓pm_3201, ↓pm_3210, ↓o_sub, ↓o_lt, ↓o_le, ↓o_gt, ↓o_ge, ↓o_mod, ↓o_fdiv, ↓o_pow, ↓o_mul, ↓o_rep, ↓o_repT, ↓o_add, ↓o_addS, ↓o_addT, ↓o_addLL, ↓o_addLO, ↓o_addOL, ↓o_addOO, ↓o_ixT, ↓o_ixL, ↓o_ixO, ↓atS_0, ↓atS_1, ↓atS_2, ↓atS_3, ↓atS_4, ↓slc_T, ↓slc_L, ↓slc_O, ↓ext_own, ↓ext_OO, ↓lm_own, ↓append_own, ↓b_lenT, ↓b_lenL, ↓b_lenO, ↓b_lenS, ↓b_tupT, ↓b_tupL, ↓b_tupO, ↓b_lstT, ↓b_lstL, ↓b_lstO, ↓b_min2, ↓b_max2, ↓b_abs, ↓b_sumO, ↓b_sumL, ↓b_sumT, ↓b_anyO, ↓b_allO, ↓o_eqI, ↓o_neI, ↓o_eqSt, ↓o_neSt, ↓o_eqT, ↓o_neT, ↓isN_non, ↓isN_int, ↓isN_str, ↓isN_tup, ↓isN_lst, ↓nIsN_non, ↓nIsN_int, ↓nIsN_str, ↓nIsN_tup, ↓nIsN_lst, if_true, if_false, Bool.not_true, Bool.not_false, Bool.false_eq_true, decide_true, decide_false, String.reduceEq, decide_eq_true_eq, Int.toNat_natCast, List.length_map, List.length_cons, List.length_nil, sizeL, Nat.zero_add, Nat.reduceAdd, Nat.reduceLeDiff, moved_ok hl2]
      rfl
    · have hx1 : x < ss.length := h2 x (by simp [List.mem_of_getElem? hx])
      have s0 := getD_ok sz hx1
      simp only [↓k_V, ↓k_C, ↓k_Op2, ↓k_Fz, ↓k_wNil, ↓k_wCons, ↓k_Tup, ↓k_Lst, ↓k_oNo, ↓k_oPart, ↓k_Sl, ↓k_sNil, ↓k_sCons, ↓k_CB, ↓k_tYes, ↓k_tTst, ↓k_tAnd, ↓k_tOr, ↓k_tNot, ↓k_If, ↓k_And, ↓k_Or, ↓k_Not, ↓k_Neg, ↓k_Chn, ↓k_Call, ↓k_Call0, ↓k_wPerm, ↓k_iItems, ↓k_iRng1, ↓k_iRng2, ↓k_iZip, ↓k_iEnum, ↓k_iEnz, ↓k_ifC, ↓k_Lrg1, ↓k_parC, ↓k_starC, ↓k_setC, ↓k_setC2, ↓k_augC, ↓k_lcb, ↓k_Lc, ↓k_forC, ↓str_lit, ↓fz_val, ↓fz_seq, ↓rr_val, ↓rr_own, ↓sv_val, ↓sv_own, ↓asI_int, ↓asB_bl, ↓items_tup, ↓items_lst, ↓un2_tup, ↓un3_tup, ↓un5_tup, ↓uq2_tup, ↓uq3_tup, ↓uq2_lst, ↓uq3_lst, ↓uq4_tup, ↓uq5_tup, ↓star_tup, ↓star_lst, ↓pr2_2, ↓zip2_tup, ↓zip2_lst, ↓enz_2, ↓rng1_int, ↓rng2_int, ↓lrg1_int, ↓req_T, ↓ret_at, ↓raise_at, ↓call_ret, ↓call0_ret, ↓call_raise, ↓pm_0, ↓pm_01, ↓pm_10, ↓pm_012, ↓pm_021, ↓pm_102, ↓pm_120, ↓pm_201, ↓pm_210, ↓pm_0123, ↓pm_0132, ↓pm_0213, ↓pm_0231, ↓pm_0312, ↓pm_0321, ↓pm_1023, ↓pm_1032, ↓pm_1203, ↓pm_1230, ↓pm_1302, ↓pm_1320, ↓pm_2013, ↓pm_2031, ↓pm_2103, ↓pm_2130, ↓pm_2301, ↓pm_2310, ↓pm_3012, ↓pm_3021, ↓pm_3102, ↓pm_3120, ↓pm_3201, ↓pm_3210, ↓o_sub, ↓o_lt, ↓o_le, ↓o_gt, ↓o_ge, ↓o_mod, ↓o_fdiv, ↓o_pow, ↓o_mul, ↓o_rep, ↓o_repT, ↓o_add, ↓o_addS, ↓o_addT, ↓o_addLL, ↓o_addLO, ↓o_addOL, ↓o_addOO, ↓o_ixT, ↓o_ixL, ↓o_ixO, ↓atS_0, ↓atS_1, ↓atS_2, ↓atS_3, ↓atS_4, ↓slc_T, ↓slc_L, ↓slc_O, ↓ext_own, ↓ext_OO, ↓lm_own, ↓append_own, ↓b_lenT, ↓b_lenL, ↓b_lenO, ↓b_lenS, ↓b_tupT, ↓b_tupL, ↓b_tupO, ↓b_lstT, ↓b_lstL, ↓b_lstO, ↓b_min2, ↓b_max2, ↓b_abs, ↓b_sumO, ↓b_sumL, ↓b_sumT, ↓b_anyO, ↓b_allO, ↓o_eqI, ↓o_neI, ↓o_eqSt, ↓o_neSt, ↓o_eqT, ↓o_neT, ↓isN_non, ↓isN_int, ↓isN_str, ↓isN_tup, ↓isN_lst, ↓nIsN_non, ↓nIsN_int, ↓nIsN_str, ↓nIsN_tup, ↓nIsN_lst, if_true, if_false, Bool.not_true, Bool.not_false, Bool.false_eq_true, decide_true, decide_false, String.reduceEq, decide_eq_true_eq, Int.toNat_natCast, List.length_map, List.length_cons, List.length_nil, sizeL, Nat.zero_add, Nat.reduceAdd, Nat.reduceLeDiff, moved_ok hp, ranks_in_ok (show (movedTo p.1 p.2 (x : Int)).length ≤ 100 by rw [movedTo_len]; exact hp), ↓atS_ints hx1, cut_fromW (show 0 ≤ ss.getD x 0 by omega)]
      rfl
theorem flat_rep (n : Nat) (w : W) : (List.replicate n [w]).flatten = List.replicate n w := by
  induction n with
  | zero => rfl
  | succ n ih => rw [List.replicate_succ, List.flatten_cons, ih, List.replicate_succ]; rfl
theorem tapped_ok {ss st : List Int} {n : Int} {c : Nat} (h0 : 0 ≤ n) (hc : c < ss.length) (hl : st.length ≤ 60) (sz : ∀ s ∈ ss, 1 ≤ s ∧ s ≤ 40) (hf : st.length + min n (ss.getD c 0 - (ranksAt st (c : Int)).length) ≤ 60) : m_tapped [.tup (ss.map .int), .tup (st.map .int), .int n, natW c] = ret (.val (.tup ((Dd.beh ss st (.tap n c)).map .int))) := by
  show mf_tapped _ _ _ _ = _
  unfold mf_tapped
  have s0 := getD_ok sz hc
  have r0 := ranksAt_len (st := st) (c := (c : Int))
  simp only [↓k_V, ↓k_C, ↓k_Op2, ↓k_Fz, ↓k_wNil, ↓k_wCons, ↓k_Tup, ↓k_Lst, ↓k_oNo, ↓k_oPart, ↓k_Sl, ↓k_sNil, ↓k_sCons, ↓k_CB, ↓k_tYes, ↓k_tTst, ↓k_tAnd, ↓k_tOr, ↓k_tNot, ↓k_If, ↓k_And, ↓k_Or, ↓k_Not, ↓k_Neg, ↓k_Chn, ↓k_Call, ↓k_Call0, ↓k_wPerm, ↓k_iItems, ↓k_iRng1, ↓k_iRng2, ↓k_iZip, ↓k_iEnum, ↓k_iEnz, ↓k_ifC, ↓k_Lrg1, ↓k_parC, ↓k_starC, ↓k_setC, ↓k_setC2, ↓k_augC, ↓k_lcb, ↓k_Lc, ↓k_forC, ↓str_lit, ↓fz_val, ↓fz_seq, ↓rr_val, ↓rr_own, ↓sv_val, ↓sv_own, ↓asI_int, ↓asB_bl, ↓items_tup, ↓items_lst, ↓un2_tup, ↓un3_tup, ↓un5_tup, ↓uq2_tup, ↓uq3_tup, ↓uq2_lst, ↓uq3_lst, ↓uq4_tup, ↓uq5_tup, ↓star_tup, ↓star_lst, ↓pr2_2, ↓zip2_tup, ↓zip2_lst, ↓enz_2, ↓rng1_int, ↓rng2_int, ↓lrg1_int, ↓req_T, ↓ret_at, ↓raise_at, ↓call_ret, ↓call0_ret, ↓call_raise, ↓pm_0, ↓pm_01, ↓pm_10, ↓pm_012, ↓pm_021, ↓pm_102, ↓pm_120, ↓pm_201, ↓pm_210, ↓pm_0123, ↓pm_0132, ↓pm_0213, ↓pm_0231, ↓pm_0312, ↓pm_0321, ↓pm_1023, ↓pm_1032, ↓pm_1203, ↓pm_1230, ↓pm_1302, ↓pm_1320, ↓pm_2013, ↓pm_2031, ↓pm_2103, ↓pm_2130, ↓pm_2301, ↓pm_2310, ↓pm_3012, ↓pm_3021, ↓pm_3102, ↓pm_3120, ↓pm_3201, ↓pm_3210, ↓o_sub, ↓o_lt, ↓o_le, ↓o_gt, ↓o_ge, ↓o_mod, ↓o_fdiv, ↓o_pow, ↓o_mul, ↓o_rep, ↓o_repT, ↓o_add, ↓o_addS, ↓o_addT, ↓o_addLL, ↓o_addLO, ↓o_addOL, ↓o_addOO, ↓o_ixT, ↓o_ixL, ↓o_ixO, ↓atS_0, ↓atS_1, ↓atS_2, ↓atS_3, ↓atS_4, ↓slc_T, ↓slc_L, ↓slc_O, ↓ext_own, ↓ext_OO, ↓lm_own, ↓append_own, ↓b_lenT, ↓b_lenL, ↓b_lenO, ↓b_lenS, ↓b_tupT, ↓b_tupL, ↓b_tupO, ↓b_lstT, ↓b_lstL, ↓b_lstO, ↓b_min2, ↓b_max2, ↓b_abs, ↓b_sumO, ↓b_sumL, ↓b_sumT, ↓b_anyO, ↓b_allO, ↓o_eqI, ↓o_neI, ↓o_eqSt, ↓o_neSt, ↓o_eqT, ↓o_neT, ↓isN_non, ↓isN_int, ↓isN_str, ↓isN_tup, ↓isN_lst, ↓nIsN_non, ↓nIsN_int, ↓nIsN_str, ↓nIsN_tup, ↓nIsN_lst, if_true, if_false, Bool.not_true, Bool.not_false, Bool.false_eq_true, decide_true, decide_false, String.reduceEq, decide_eq_true_eq, Int.toNat_natCast, List.length_map, List.length_cons, List.length_nil, sizeL, Nat.zero_add, Nat.reduceAdd, Nat.reduceLeDiff, ↓atS_ints hc, ranks_in_ok (show st.length ≤ 100 by omega)]
  rw [if_neg (by omega), req_of ⟨by omega, by omega, trivial, trivial⟩, flat_rep, req_of (by rw [List.length_replicate]; omega)]
  rw [show Dd.beh ss st (.tap n c) = st ++ List.replicate (min n (ss.getD c 0 - (ranksAt st (c : Int)).length)).toNat (c : Int) from rfl, List.map_append, List.map_replicate]
theorem behind_deed_ok {ss st : List Int} {d : Dd} (hs : SzOk ss) (hl : st.length ≤ 60) (hd : d.ok ss) (nt : ¬ DdTap d) : m_behind_deed [.tup (ss.map .int), .tup (st.map .int), d.w] = ret (.val (.tup ((d.beh ss st).map .int))) := by
  show mf_behind_deed _ _ _ = _
  unfold mf_behind_deed
  obtain ⟨l1, l2, s3⟩ := hs
  have hl1 : st.length ≤ 100 := by omega
  cases d with
  | swap i j =>
    obtain ⟨hi, hj, ne, es⟩ := hd
    simp only [Dd.w, ↓k_V, ↓k_C, ↓k_Op2, ↓k_Fz, ↓k_wNil, ↓k_wCons, ↓k_Tup, ↓k_Lst, ↓k_oNo, ↓k_oPart, ↓k_Sl, ↓k_sNil, ↓k_sCons, ↓k_CB, ↓k_tYes, ↓k_tTst, ↓k_tAnd, ↓k_tOr, ↓k_tNot, ↓k_If, ↓k_And, ↓k_Or, ↓k_Not, ↓k_Neg, ↓k_Chn, ↓k_Call, ↓k_Call0, ↓k_wPerm, ↓k_iItems, ↓k_iRng1, ↓k_iRng2, ↓k_iZip, ↓k_iEnum, ↓k_iEnz, ↓k_ifC, ↓k_Lrg1, ↓k_parC, ↓k_starC, ↓k_setC, ↓k_setC2, ↓k_augC, ↓k_lcb, ↓k_Lc, ↓k_forC, ↓str_lit, ↓fz_val, ↓fz_seq, ↓rr_val, ↓rr_own, ↓sv_val, ↓sv_own, ↓asI_int, ↓asB_bl, ↓items_tup, ↓items_lst, ↓un2_tup, ↓un3_tup, ↓un5_tup, ↓uq2_tup, ↓uq3_tup, ↓uq2_lst, ↓uq3_lst, ↓uq4_tup, ↓uq5_tup, ↓star_tup, ↓star_lst, ↓pr2_2, ↓zip2_tup, ↓zip2_lst, ↓enz_2, ↓rng1_int, ↓rng2_int, ↓lrg1_int, ↓req_T, ↓ret_at, ↓raise_at, ↓call_ret, ↓call0_ret, ↓call_raise, ↓pm_0, ↓pm_01, ↓pm_10, ↓pm_012, ↓pm_021, ↓pm_102, ↓pm_120, ↓pm_201, ↓pm_210, ↓pm_0123, ↓pm_0132, ↓pm_0213, ↓pm_0231, ↓pm_0312, ↓pm_0321, ↓pm_1023, ↓pm_1032, ↓pm_1203, ↓pm_1230, ↓pm_1302, ↓pm_1320, ↓pm_2013, ↓pm_2031, ↓pm_2103, ↓pm_2130, ↓pm_2301, ↓pm_2310, ↓pm_3012, ↓pm_3021, ↓pm_3102, ↓pm_3120, ↓pm_3201, ↓pm_3210, ↓o_sub, ↓o_lt, ↓o_le, ↓o_gt, ↓o_ge, ↓o_mod, ↓o_fdiv, ↓o_pow, ↓o_mul, ↓o_rep, ↓o_repT, ↓o_add, ↓o_addS, ↓o_addT, ↓o_addLL, ↓o_addLO, ↓o_addOL, ↓o_addOO, ↓o_ixT, ↓o_ixL, ↓o_ixO, ↓atS_0, ↓atS_1, ↓atS_2, ↓atS_3, ↓atS_4, ↓slc_T, ↓slc_L, ↓slc_O, ↓ext_own, ↓ext_OO, ↓lm_own, ↓append_own, ↓b_lenT, ↓b_lenL, ↓b_lenO, ↓b_lenS, ↓b_tupT, ↓b_tupL, ↓b_tupO, ↓b_lstT, ↓b_lstL, ↓b_lstO, ↓b_min2, ↓b_max2, ↓b_abs, ↓b_sumO, ↓b_sumL, ↓b_sumT, ↓b_anyO, ↓b_allO, ↓o_eqI, ↓o_neI, ↓o_eqSt, ↓o_neSt, ↓o_eqT, ↓o_neT, ↓isN_non, ↓isN_int, ↓isN_str, ↓isN_tup, ↓isN_lst, ↓nIsN_non, ↓nIsN_int, ↓nIsN_str, ↓nIsN_tup, ↓nIsN_lst, if_true, if_false, Bool.not_true, Bool.not_false, Bool.false_eq_true, decide_true, decide_false, String.reduceEq, decide_eq_true_eq, Int.toNat_natCast, List.length_map, List.length_cons, List.length_nil, sizeL, Nat.zero_add, Nat.reduceAdd, Nat.reduceLeDiff]
    rw [lc_all W.int (fun p => W.int (if p = (i : Int) then (j : Int) else if p = (j : Int) then (i : Int) else p)) st (fun p _ kk => ?_) (by simp only [sizeL]; omega)]
    · rw [show Dd.beh ss st (.swap i j) = st.map fun p => if p = (i : Int) then (j : Int) else if p = (j : Int) then (i : Int) else p from rfl, List.map_map]
      rfl
    · simp only [natW_eq, ↓k_V, ↓k_C, ↓k_Op2, ↓k_Fz, ↓k_wNil, ↓k_wCons, ↓k_Tup, ↓k_Lst, ↓k_oNo, ↓k_oPart, ↓k_Sl, ↓k_sNil, ↓k_sCons, ↓k_CB, ↓k_tYes, ↓k_tTst, ↓k_tAnd, ↓k_tOr, ↓k_tNot, ↓k_If, ↓k_And, ↓k_Or, ↓k_Not, ↓k_Neg, ↓k_Chn, ↓k_Call, ↓k_Call0, ↓k_wPerm, ↓k_iItems, ↓k_iRng1, ↓k_iRng2, ↓k_iZip, ↓k_iEnum, ↓k_iEnz, ↓k_ifC, ↓k_Lrg1, ↓k_parC, ↓k_starC, ↓k_setC, ↓k_setC2, ↓k_augC, ↓k_lcb, ↓k_Lc, ↓k_forC, ↓str_lit, ↓fz_val, ↓fz_seq, ↓rr_val, ↓rr_own, ↓sv_val, ↓sv_own, ↓asI_int, ↓asB_bl, ↓items_tup, ↓items_lst, ↓un2_tup, ↓un3_tup, ↓un5_tup, ↓uq2_tup, ↓uq3_tup, ↓uq2_lst, ↓uq3_lst, ↓uq4_tup, ↓uq5_tup, ↓star_tup, ↓star_lst, ↓pr2_2, ↓zip2_tup, ↓zip2_lst, ↓enz_2, ↓rng1_int, ↓rng2_int, ↓lrg1_int, ↓req_T, ↓ret_at, ↓raise_at, ↓call_ret, ↓call0_ret, ↓call_raise, ↓pm_0, ↓pm_01, ↓pm_10, ↓pm_012, ↓pm_021, ↓pm_102, ↓pm_120, ↓pm_201, ↓pm_210, ↓pm_0123, ↓pm_0132, ↓pm_0213, ↓pm_0231, ↓pm_0312, ↓pm_0321, ↓pm_1023, ↓pm_1032, ↓pm_1203, ↓pm_1230, ↓pm_1302, ↓pm_1320, ↓pm_2013, ↓pm_2031, ↓pm_2103, ↓pm_2130, ↓pm_2301, ↓pm_2310, ↓pm_3012, ↓pm_3021, ↓pm_3102, ↓pm_3120, ↓pm_3201, ↓pm_3210, ↓o_sub, ↓o_lt, ↓o_le, ↓o_gt, ↓o_ge, ↓o_mod, ↓o_fdiv, ↓o_pow, ↓o_mul, ↓o_rep, ↓o_repT, ↓o_add, ↓o_addS, ↓o_addT, ↓o_addLL, ↓o_addLO, ↓o_addOL, ↓o_addOO, ↓o_ixT, ↓o_ixL, ↓o_ixO, ↓atS_0, ↓atS_1, ↓atS_2, ↓atS_3, ↓atS_4, ↓slc_T, ↓slc_L, ↓slc_O, ↓ext_own, ↓ext_OO, ↓lm_own, ↓append_own, ↓b_lenT, ↓b_lenL, ↓b_lenO, ↓b_lenS, ↓b_tupT, ↓b_tupL, ↓b_tupO, ↓b_lstT, ↓b_lstL, ↓b_lstO, ↓b_min2, ↓b_max2, ↓b_abs, ↓b_sumO, ↓b_sumL, ↓b_sumT, ↓b_anyO, ↓b_allO, ↓o_eqI, ↓o_neI, ↓o_eqSt, ↓o_neSt, ↓o_eqT, ↓o_neT, ↓isN_non, ↓isN_int, ↓isN_str, ↓isN_tup, ↓isN_lst, ↓nIsN_non, ↓nIsN_int, ↓nIsN_str, ↓nIsN_tup, ↓nIsN_lst, if_true, if_false, Bool.not_true, Bool.not_false, Bool.false_eq_true, decide_true, decide_false, String.reduceEq, decide_eq_true_eq, Int.toNat_natCast, List.length_map, List.length_cons, List.length_nil, sizeL, Nat.zero_add, Nat.reduceAdd, Nat.reduceLeDiff]
      by_cases g1 : p = (i : Int)
      · rw [if_pos g1, if_pos g1]
      · rw [if_neg g1, if_neg g1]
        by_cases g2 : p = (j : Int)
        · rw [if_pos g2, if_pos g2]
        · rw [if_neg g2, if_neg g2]
  | tap n c => exact absurd (by simp [DdTap]) nt
  | drain n c =>
    obtain ⟨n0, n1, hc⟩ := hd
    simp only [Dd.w, ↓k_V, ↓k_C, ↓k_Op2, ↓k_Fz, ↓k_wNil, ↓k_wCons, ↓k_Tup, ↓k_Lst, ↓k_oNo, ↓k_oPart, ↓k_Sl, ↓k_sNil, ↓k_sCons, ↓k_CB, ↓k_tYes, ↓k_tTst, ↓k_tAnd, ↓k_tOr, ↓k_tNot, ↓k_If, ↓k_And, ↓k_Or, ↓k_Not, ↓k_Neg, ↓k_Chn, ↓k_Call, ↓k_Call0, ↓k_wPerm, ↓k_iItems, ↓k_iRng1, ↓k_iRng2, ↓k_iZip, ↓k_iEnum, ↓k_iEnz, ↓k_ifC, ↓k_Lrg1, ↓k_parC, ↓k_starC, ↓k_setC, ↓k_setC2, ↓k_augC, ↓k_lcb, ↓k_Lc, ↓k_forC, ↓str_lit, ↓fz_val, ↓fz_seq, ↓rr_val, ↓rr_own, ↓sv_val, ↓sv_own, ↓asI_int, ↓asB_bl, ↓items_tup, ↓items_lst, ↓un2_tup, ↓un3_tup, ↓un5_tup, ↓uq2_tup, ↓uq3_tup, ↓uq2_lst, ↓uq3_lst, ↓uq4_tup, ↓uq5_tup, ↓star_tup, ↓star_lst, ↓pr2_2, ↓zip2_tup, ↓zip2_lst, ↓enz_2, ↓rng1_int, ↓rng2_int, ↓lrg1_int, ↓req_T, ↓ret_at, ↓raise_at, ↓call_ret, ↓call0_ret, ↓call_raise, ↓pm_0, ↓pm_01, ↓pm_10, ↓pm_012, ↓pm_021, ↓pm_102, ↓pm_120, ↓pm_201, ↓pm_210, ↓pm_0123, ↓pm_0132, ↓pm_0213, ↓pm_0231, ↓pm_0312, ↓pm_0321, ↓pm_1023, ↓pm_1032, ↓pm_1203, ↓pm_1230, ↓pm_1302, ↓pm_1320, ↓pm_2013, ↓pm_2031, ↓pm_2103, ↓pm_2130, ↓pm_2301, ↓pm_2310, ↓pm_3012, ↓pm_3021, ↓pm_3102, ↓pm_3120, ↓pm_3201, ↓pm_3210, ↓o_sub, ↓o_lt, ↓o_le, ↓o_gt, ↓o_ge, ↓o_mod, ↓o_fdiv, ↓o_pow, ↓o_mul, ↓o_rep, ↓o_repT, ↓o_add, ↓o_addS, ↓o_addT, ↓o_addLL, ↓o_addLO, ↓o_addOL, ↓o_addOO, ↓o_ixT, ↓o_ixL, ↓o_ixO, ↓atS_0, ↓atS_1, ↓atS_2, ↓atS_3, ↓atS_4, ↓slc_T, ↓slc_L, ↓slc_O, ↓ext_own, ↓ext_OO, ↓lm_own, ↓append_own, ↓b_lenT, ↓b_lenL, ↓b_lenO, ↓b_lenS, ↓b_tupT, ↓b_tupL, ↓b_tupO, ↓b_lstT, ↓b_lstL, ↓b_lstO, ↓b_min2, ↓b_max2, ↓b_abs, ↓b_sumO, ↓b_sumL, ↓b_sumT, ↓b_anyO, ↓b_allO, ↓o_eqI, ↓o_neI, ↓o_eqSt, ↓o_neSt, ↓o_eqT, ↓o_neT, ↓isN_non, ↓isN_int, ↓isN_str, ↓isN_tup, ↓isN_lst, ↓nIsN_non, ↓nIsN_int, ↓nIsN_str, ↓nIsN_tup, ↓nIsN_lst, if_true, if_false, Bool.not_true, Bool.not_false, Bool.false_eq_true, decide_true, decide_false, String.reduceEq, decide_eq_true_eq, Int.toNat_natCast, List.length_map, List.length_cons, List.length_nil, sizeL, Nat.zero_add, Nat.reduceAdd, Nat.reduceLeDiff, ranks_in_ok hl1, cut_toW n0, moved_ok hl1]
    rfl
  | over n cs' =>
    obtain ⟨n0, n1, c1, c2, c3, c4⟩ := hd
    obtain ⟨c, r, rfl⟩ : ∃ c r, cs' = c :: r := by
      cases cs' with
      | nil => simp at c1
      | cons c r => exact ⟨c, r, rfl⟩
    have z := led_ok (g := (ranksAt st (c : Int)).take n.toNat) s3 hl1 (show 1 ≤ (c :: r).length by omega) c4
    simp only [List.map_cons] at z
    simp only [Dd.w, List.map_cons, ↓k_V, ↓k_C, ↓k_Op2, ↓k_Fz, ↓k_wNil, ↓k_wCons, ↓k_Tup, ↓k_Lst, ↓k_oNo, ↓k_oPart, ↓k_Sl, ↓k_sNil, ↓k_sCons, ↓k_CB, ↓k_tYes, ↓k_tTst, ↓k_tAnd, ↓k_tOr, ↓k_tNot, ↓k_If, ↓k_And, ↓k_Or, ↓k_Not, ↓k_Neg, ↓k_Chn, ↓k_Call, ↓k_Call0, ↓k_wPerm, ↓k_iItems, ↓k_iRng1, ↓k_iRng2, ↓k_iZip, ↓k_iEnum, ↓k_iEnz, ↓k_ifC, ↓k_Lrg1, ↓k_parC, ↓k_starC, ↓k_setC, ↓k_setC2, ↓k_augC, ↓k_lcb, ↓k_Lc, ↓k_forC, ↓str_lit, ↓fz_val, ↓fz_seq, ↓rr_val, ↓rr_own, ↓sv_val, ↓sv_own, ↓asI_int, ↓asB_bl, ↓items_tup, ↓items_lst, ↓un2_tup, ↓un3_tup, ↓un5_tup, ↓uq2_tup, ↓uq3_tup, ↓uq2_lst, ↓uq3_lst, ↓uq4_tup, ↓uq5_tup, ↓star_tup, ↓star_lst, ↓pr2_2, ↓zip2_tup, ↓zip2_lst, ↓enz_2, ↓rng1_int, ↓rng2_int, ↓lrg1_int, ↓req_T, ↓ret_at, ↓raise_at, ↓call_ret, ↓call0_ret, ↓call_raise, ↓pm_0, ↓pm_01, ↓pm_10, ↓pm_012, ↓pm_021, ↓pm_102, ↓pm_120, ↓pm_201, ↓pm_210, ↓pm_0123, ↓pm_0132, ↓pm_0213, ↓pm_0231, ↓pm_0312, ↓pm_0321, ↓pm_1023, ↓pm_1032, ↓pm_1203, ↓pm_1230, ↓pm_1302, ↓pm_1320, ↓pm_2013, ↓pm_2031, ↓pm_2103, ↓pm_2130, ↓pm_2301, ↓pm_2310, ↓pm_3012, ↓pm_3021, ↓pm_3102, ↓pm_3120, ↓pm_3201, ↓pm_3210, ↓o_sub, ↓o_lt, ↓o_le, ↓o_gt, ↓o_ge, ↓o_mod, ↓o_fdiv, ↓o_pow, ↓o_mul, ↓o_rep, ↓o_repT, ↓o_add, ↓o_addS, ↓o_addT, ↓o_addLL, ↓o_addLO, ↓o_addOL, ↓o_addOO, ↓o_ixT, ↓o_ixL, ↓o_ixO, ↓atS_0, ↓atS_1, ↓atS_2, ↓atS_3, ↓atS_4, ↓slc_T, ↓slc_L, ↓slc_O, ↓ext_own, ↓ext_OO, ↓lm_own, ↓append_own, ↓b_lenT, ↓b_lenL, ↓b_lenO, ↓b_lenS, ↓b_tupT, ↓b_tupL, ↓b_tupO, ↓b_lstT, ↓b_lstL, ↓b_lstO, ↓b_min2, ↓b_max2, ↓b_abs, ↓b_sumO, ↓b_sumL, ↓b_sumT, ↓b_anyO, ↓b_allO, ↓o_eqI, ↓o_neI, ↓o_eqSt, ↓o_neSt, ↓o_eqT, ↓o_neT, ↓isN_non, ↓isN_int, ↓isN_str, ↓isN_tup, ↓isN_lst, ↓nIsN_non, ↓nIsN_int, ↓nIsN_str, ↓nIsN_tup, ↓nIsN_lst, if_true, if_false, Bool.not_true, Bool.not_false, Bool.false_eq_true, decide_true, decide_false, String.reduceEq, decide_eq_true_eq, Int.toNat_natCast, List.length_map, List.length_cons, List.length_nil, sizeL, Nat.zero_add, Nat.reduceAdd, Nat.reduceLeDiff, ranks_in_ok hl1, cut_toW n0, z]
    rfl
  | down n cs' =>
    obtain ⟨n0, n1, c1, c2, c3, c4⟩ := hd
    obtain ⟨c, r, rfl⟩ : ∃ c r, cs' = c :: r := by
      cases cs' with
      | nil => simp at c1
      | cons c r => exact ⟨c, r, rfl⟩
    have z := led_ok (g := (ranksAt st (c : Int)).drop n.toNat) s3 hl1 (show 1 ≤ (c :: r).length by omega) c4
    simp only [List.map_cons] at z
    simp only [Dd.w, List.map_cons, ↓k_V, ↓k_C, ↓k_Op2, ↓k_Fz, ↓k_wNil, ↓k_wCons, ↓k_Tup, ↓k_Lst, ↓k_oNo, ↓k_oPart, ↓k_Sl, ↓k_sNil, ↓k_sCons, ↓k_CB, ↓k_tYes, ↓k_tTst, ↓k_tAnd, ↓k_tOr, ↓k_tNot, ↓k_If, ↓k_And, ↓k_Or, ↓k_Not, ↓k_Neg, ↓k_Chn, ↓k_Call, ↓k_Call0, ↓k_wPerm, ↓k_iItems, ↓k_iRng1, ↓k_iRng2, ↓k_iZip, ↓k_iEnum, ↓k_iEnz, ↓k_ifC, ↓k_Lrg1, ↓k_parC, ↓k_starC, ↓k_setC, ↓k_setC2, ↓k_augC, ↓k_lcb, ↓k_Lc, ↓k_forC, ↓str_lit, ↓fz_val, ↓fz_seq, ↓rr_val, ↓rr_own, ↓sv_val, ↓sv_own, ↓asI_int, ↓asB_bl, ↓items_tup, ↓items_lst, ↓un2_tup, ↓un3_tup, ↓un5_tup, ↓uq2_tup, ↓uq3_tup, ↓uq2_lst, ↓uq3_lst, ↓uq4_tup, ↓uq5_tup, ↓star_tup, ↓star_lst, ↓pr2_2, ↓zip2_tup, ↓zip2_lst, ↓enz_2, ↓rng1_int, ↓rng2_int, ↓lrg1_int, ↓req_T, ↓ret_at, ↓raise_at, ↓call_ret, ↓call0_ret, ↓call_raise, ↓pm_0, ↓pm_01, ↓pm_10, ↓pm_012, ↓pm_021, ↓pm_102, ↓pm_120, ↓pm_201, ↓pm_210, ↓pm_0123, ↓pm_0132, ↓pm_0213, ↓pm_0231, ↓pm_0312, ↓pm_0321, ↓pm_1023, ↓pm_1032, ↓pm_1203, ↓pm_1230, ↓pm_1302, ↓pm_1320, ↓pm_2013, ↓pm_2031, ↓pm_2103, ↓pm_2130, ↓pm_2301, ↓pm_2310, ↓pm_3012, ↓pm_3021, ↓pm_3102, ↓pm_3120, ↓pm_3201, ↓pm_3210, ↓o_sub, ↓o_lt, ↓o_le, ↓o_gt, ↓o_ge, ↓o_mod, ↓o_fdiv, ↓o_pow, ↓o_mul, ↓o_rep, ↓o_repT, ↓o_add, ↓o_addS, ↓o_addT, ↓o_addLL, ↓o_addLO, ↓o_addOL, ↓o_addOO, ↓o_ixT, ↓o_ixL, ↓o_ixO, ↓atS_0, ↓atS_1, ↓atS_2, ↓atS_3, ↓atS_4, ↓slc_T, ↓slc_L, ↓slc_O, ↓ext_own, ↓ext_OO, ↓lm_own, ↓append_own, ↓b_lenT, ↓b_lenL, ↓b_lenO, ↓b_lenS, ↓b_tupT, ↓b_tupL, ↓b_tupO, ↓b_lstT, ↓b_lstL, ↓b_lstO, ↓b_min2, ↓b_max2, ↓b_abs, ↓b_sumO, ↓b_sumL, ↓b_sumT, ↓b_anyO, ↓b_allO, ↓o_eqI, ↓o_neI, ↓o_eqSt, ↓o_neSt, ↓o_eqT, ↓o_neT, ↓isN_non, ↓isN_int, ↓isN_str, ↓isN_tup, ↓isN_lst, ↓nIsN_non, ↓nIsN_int, ↓nIsN_str, ↓nIsN_tup, ↓nIsN_lst, if_true, if_false, Bool.not_true, Bool.not_false, Bool.false_eq_true, decide_true, decide_false, String.reduceEq, decide_eq_true_eq, Int.toNat_natCast, List.length_map, List.length_cons, List.length_nil, sizeL, Nat.zero_add, Nat.reduceAdd, Nat.reduceLeDiff, ranks_in_ok hl1, cut_fromW n0, z]
    rfl
theorem ledTo_len {ss st : List Int} {g cs : List Nat} : (ledTo ss st g cs).length = st.length := by
  cases cs with
  | nil => rfl
  | cons c r => rw [show ledTo ss st g (c :: r) = movedTo (r.foldl (ledStep ss) (st, g)).1 (r.foldl (ledStep ss) (st, g)).2 (c : Int) from rfl, movedTo_len, ledStep_len]
theorem beh_len {ss st : List Int} {d : Dd} (nt : ¬ DdTap d) : (d.beh ss st).length = st.length := by
  cases d with
  | swap i j => simp [Dd.beh]
  | tap n c => exact absurd (by simp [DdTap]) nt
  | drain n c => exact movedTo_len
  | over n cs => exact ledTo_len
  | down n cs => exact ledTo_len
/-- where a drop stands, deed by deed -/
def trackStep (ss : List Int) (r : Nat) (p : List Int × List Int) (d : Dd) : List Int × List Int := (d.beh ss p.1, p.2 ++ [(d.beh ss p.1).getD r 0])
def track (ss st : List Int) (r : Nat) (ds : List Dd) : List Int := (ds.foldl (trackStep ss r) (st, [st.getD r 0])).2
theorem path_ok {ss st : List Int} {ds : List Dd} {r : Nat} {x : W} (hs : SzOk ss) (h : StOk ss st) (hx : RowW x ds) (hd : ∀ d ∈ ds, d.ok ss ∧ ¬ DdTap d) (ld : ds.length ≤ 1000) (hr : r < st.length) : m_path [.tup (ss.map .int), .tup (st.map .int), x, natW r] = ret (.own (.seq ((track ss st r ds).map .int))) := by
  show mf_path _ _ _ _ = _
  unfold mf_path
  have l0 := h.len
  simp only [natW_eq, ↓k_V, ↓k_C, ↓k_Op2, ↓k_Fz, ↓k_wNil, ↓k_wCons, ↓k_Tup, ↓k_Lst, ↓k_oNo, ↓k_oPart, ↓k_Sl, ↓k_sNil, ↓k_sCons, ↓k_CB, ↓k_tYes, ↓k_tTst, ↓k_tAnd, ↓k_tOr, ↓k_tNot, ↓k_If, ↓k_And, ↓k_Or, ↓k_Not, ↓k_Neg, ↓k_Chn, ↓k_Call, ↓k_Call0, ↓k_wPerm, ↓k_iItems, ↓k_iRng1, ↓k_iRng2, ↓k_iZip, ↓k_iEnum, ↓k_iEnz, ↓k_ifC, ↓k_Lrg1, ↓k_parC, ↓k_starC, ↓k_setC, ↓k_setC2, ↓k_augC, ↓k_lcb, ↓k_Lc, ↓k_forC, ↓str_lit, ↓fz_val, ↓fz_seq, ↓rr_val, ↓rr_own, ↓sv_val, ↓sv_own, ↓asI_int, ↓asB_bl, ↓items_tup, ↓items_lst, ↓un2_tup, ↓un3_tup, ↓un5_tup, ↓uq2_tup, ↓uq3_tup, ↓uq2_lst, ↓uq3_lst, ↓uq4_tup, ↓uq5_tup, ↓star_tup, ↓star_lst, ↓pr2_2, ↓zip2_tup, ↓zip2_lst, ↓enz_2, ↓rng1_int, ↓rng2_int, ↓lrg1_int, ↓req_T, ↓ret_at, ↓raise_at, ↓call_ret, ↓call0_ret, ↓call_raise, ↓pm_0, ↓pm_01, ↓pm_10, ↓pm_012, ↓pm_021, ↓pm_102, ↓pm_120, ↓pm_201, ↓pm_210, ↓pm_0123, ↓pm_0132, ↓pm_0213, ↓pm_0231, ↓pm_0312, ↓pm_0321, ↓pm_1023, ↓pm_1032, ↓pm_1203, ↓pm_1230, ↓pm_1302, ↓pm_1320, ↓pm_2013, ↓pm_2031, ↓pm_2103, ↓pm_2130, ↓pm_2301, ↓pm_2310, ↓pm_3012, ↓pm_3021, ↓pm_3102, ↓pm_3120, ↓pm_3201, ↓pm_3210, ↓o_sub, ↓o_lt, ↓o_le, ↓o_gt, ↓o_ge, ↓o_mod, ↓o_fdiv, ↓o_pow, ↓o_mul, ↓o_rep, ↓o_repT, ↓o_add, ↓o_addS, ↓o_addT, ↓o_addLL, ↓o_addLO, ↓o_addOL, ↓o_addOO, ↓o_ixT, ↓o_ixL, ↓o_ixO, ↓atS_0, ↓atS_1, ↓atS_2, ↓atS_3, ↓atS_4, ↓slc_T, ↓slc_L, ↓slc_O, ↓ext_own, ↓ext_OO, ↓lm_own, ↓append_own, ↓b_lenT, ↓b_lenL, ↓b_lenO, ↓b_lenS, ↓b_tupT, ↓b_tupL, ↓b_tupO, ↓b_lstT, ↓b_lstL, ↓b_lstO, ↓b_min2, ↓b_max2, ↓b_abs, ↓b_sumO, ↓b_sumL, ↓b_sumT, ↓b_anyO, ↓b_allO, ↓o_eqI, ↓o_neI, ↓o_eqSt, ↓o_neSt, ↓o_eqT, ↓o_neT, ↓isN_non, ↓isN_int, ↓isN_str, ↓isN_tup, ↓isN_lst, ↓nIsN_non, ↓nIsN_int, ↓nIsN_str, ↓nIsN_tup, ↓nIsN_lst, if_true, if_false, Bool.not_true, Bool.not_false, Bool.false_eq_true, decide_true, decide_false, String.reduceEq, decide_eq_true_eq, Int.toNat_natCast, List.length_map, List.length_cons, List.length_nil, sizeL, Nat.zero_add, Nat.reduceAdd, Nat.reduceLeDiff, look_stand_ok hs h, look_row_ok hs hx fun d m => (hd d m).1, items_row hx]
  rw [if_pos (by omega), decide_eq_true (by omega)]
  simp only [↓k_V, ↓k_C, ↓k_Op2, ↓k_Fz, ↓k_wNil, ↓k_wCons, ↓k_Tup, ↓k_Lst, ↓k_oNo, ↓k_oPart, ↓k_Sl, ↓k_sNil, ↓k_sCons, ↓k_CB, ↓k_tYes, ↓k_tTst, ↓k_tAnd, ↓k_tOr, ↓k_tNot, ↓k_If, ↓k_And, ↓k_Or, ↓k_Not, ↓k_Neg, ↓k_Chn, ↓k_Call, ↓k_Call0, ↓k_wPerm, ↓k_iItems, ↓k_iRng1, ↓k_iRng2, ↓k_iZip, ↓k_iEnum, ↓k_iEnz, ↓k_ifC, ↓k_Lrg1, ↓k_parC, ↓k_starC, ↓k_setC, ↓k_setC2, ↓k_augC, ↓k_lcb, ↓k_Lc, ↓k_forC, ↓str_lit, ↓fz_val, ↓fz_seq, ↓rr_val, ↓rr_own, ↓sv_val, ↓sv_own, ↓asI_int, ↓asB_bl, ↓items_tup, ↓items_lst, ↓un2_tup, ↓un3_tup, ↓un5_tup, ↓uq2_tup, ↓uq3_tup, ↓uq2_lst, ↓uq3_lst, ↓uq4_tup, ↓uq5_tup, ↓star_tup, ↓star_lst, ↓pr2_2, ↓zip2_tup, ↓zip2_lst, ↓enz_2, ↓rng1_int, ↓rng2_int, ↓lrg1_int, ↓req_T, ↓ret_at, ↓raise_at, ↓call_ret, ↓call0_ret, ↓call_raise, ↓pm_0, ↓pm_01, ↓pm_10, ↓pm_012, ↓pm_021, ↓pm_102, ↓pm_120, ↓pm_201, ↓pm_210, ↓pm_0123, ↓pm_0132, ↓pm_0213, ↓pm_0231, ↓pm_0312, ↓pm_0321, ↓pm_1023, ↓pm_1032, ↓pm_1203, ↓pm_1230, ↓pm_1302, ↓pm_1320, ↓pm_2013, ↓pm_2031, ↓pm_2103, ↓pm_2130, ↓pm_2301, ↓pm_2310, ↓pm_3012, ↓pm_3021, ↓pm_3102, ↓pm_3120, ↓pm_3201, ↓pm_3210, ↓o_sub, ↓o_lt, ↓o_le, ↓o_gt, ↓o_ge, ↓o_mod, ↓o_fdiv, ↓o_pow, ↓o_mul, ↓o_rep, ↓o_repT, ↓o_add, ↓o_addS, ↓o_addT, ↓o_addLL, ↓o_addLO, ↓o_addOL, ↓o_addOO, ↓o_ixT, ↓o_ixL, ↓o_ixO, ↓atS_0, ↓atS_1, ↓atS_2, ↓atS_3, ↓atS_4, ↓slc_T, ↓slc_L, ↓slc_O, ↓ext_own, ↓ext_OO, ↓lm_own, ↓append_own, ↓b_lenT, ↓b_lenL, ↓b_lenO, ↓b_lenS, ↓b_tupT, ↓b_tupL, ↓b_tupO, ↓b_lstT, ↓b_lstL, ↓b_lstO, ↓b_min2, ↓b_max2, ↓b_abs, ↓b_sumO, ↓b_sumL, ↓b_sumT, ↓b_anyO, ↓b_allO, ↓o_eqI, ↓o_neI, ↓o_eqSt, ↓o_neSt, ↓o_eqT, ↓o_neT, ↓isN_non, ↓isN_int, ↓isN_str, ↓isN_tup, ↓isN_lst, ↓nIsN_non, ↓nIsN_int, ↓nIsN_str, ↓nIsN_tup, ↓nIsN_lst, if_true, if_false, Bool.not_true, Bool.not_false, Bool.false_eq_true, decide_true, decide_false, String.reduceEq, decide_eq_true_eq, Int.toNat_natCast, List.length_map, List.length_cons, List.length_nil, sizeL, Nat.zero_add, Nat.reduceAdd, Nat.reduceLeDiff, ↓atS_ints hr]
  rw [show (W.tup (st.map W.int), SV.own (.seq [W.int (st.getD r 0)])) = (fun p : List Int × List Int => (W.tup (p.1.map W.int), SV.own (.seq (p.2.map W.int)))) (st, [st.getD r 0]) from rfl,
    for_enc Dd.w (fun p : List Int × List Int => (W.tup (p.1.map W.int), SV.own (.seq (p.2.map W.int)))) (trackStep ss r) (fun j p => p.1.length = st.length ∧ p.2.length = j + 1) ds _ 0 ⟨rfl, rfl⟩ fun j d hj p hp => ?_]
  · rfl
  · have dm := hd d (List.mem_of_getElem? hj)
    obtain ⟨hp1, hp2⟩ := hp
    have jl : j < ds.length := (List.getElem?_eq_some_iff.mp hj).1
    have bl := beh_len (ss := ss) (st := p.1) dm.2
    refine ⟨⟨by rw [show (trackStep ss r p d).1 = d.beh ss p.1 from rfl, bl, hp1], by rw [show (trackStep ss r p d).2 = p.2 ++ [(d.beh ss p.1).getD r 0] from rfl, List.length_append, hp2]; rfl⟩, fun kn => ?_⟩
    have hr2 : r < (d.beh ss p.1).length := by omega
    simp only [natW_eq, ↓k_V, ↓k_C, ↓k_Op2, ↓k_Fz, ↓k_wNil, ↓k_wCons, ↓k_Tup, ↓k_Lst, ↓k_oNo, ↓k_oPart, ↓k_Sl, ↓k_sNil, ↓k_sCons, ↓k_CB, ↓k_tYes, ↓k_tTst, ↓k_tAnd, ↓k_tOr, ↓k_tNot, ↓k_If, ↓k_And, ↓k_Or, ↓k_Not, ↓k_Neg, ↓k_Chn, ↓k_Call, ↓k_Call0, ↓k_wPerm, ↓k_iItems, ↓k_iRng1, ↓k_iRng2, ↓k_iZip, ↓k_iEnum, ↓k_iEnz, ↓k_ifC, ↓k_Lrg1, ↓k_parC, ↓k_starC, ↓k_setC, ↓k_setC2, ↓k_augC, ↓k_lcb, ↓k_Lc, ↓k_forC, ↓str_lit, ↓fz_val, ↓fz_seq, ↓rr_val, ↓rr_own, ↓sv_val, ↓sv_own, ↓asI_int, ↓asB_bl, ↓items_tup, ↓items_lst, ↓un2_tup, ↓un3_tup, ↓un5_tup, ↓uq2_tup, ↓uq3_tup, ↓uq2_lst, ↓uq3_lst, ↓uq4_tup, ↓uq5_tup, ↓star_tup, ↓star_lst, ↓pr2_2, ↓zip2_tup, ↓zip2_lst, ↓enz_2, ↓rng1_int, ↓rng2_int, ↓lrg1_int, ↓req_T, ↓ret_at, ↓raise_at, ↓call_ret, ↓call0_ret, ↓call_raise, ↓pm_0, ↓pm_01, ↓pm_10, ↓pm_012, ↓pm_021, ↓pm_102, ↓pm_120, ↓pm_201, ↓pm_210, ↓pm_0123, ↓pm_0132, ↓pm_0213, ↓pm_0231, ↓pm_0312, ↓pm_0321, ↓pm_1023, ↓pm_1032, ↓pm_1203, ↓pm_1230, ↓pm_1302, ↓pm_1320, ↓pm_2013, ↓pm_2031, ↓pm_2103, ↓pm_2130, ↓pm_2301, ↓pm_2310, ↓pm_3012, ↓pm_3021, ↓pm_3102, ↓pm_3120, ↓pm_3201, ↓pm_3210, ↓o_sub, ↓o_lt, ↓o_le, ↓o_gt, ↓o_ge, ↓o_mod, ↓o_fdiv, ↓o_pow, ↓o_mul, ↓o_rep, ↓o_repT, ↓o_add, ↓o_addS, ↓o_addT, ↓o_addLL, ↓o_addLO, ↓o_addOL, ↓o_addOO, ↓o_ixT, ↓o_ixL, ↓o_ixO, ↓atS_0, ↓atS_1, ↓atS_2, ↓atS_3, ↓atS_4, ↓slc_T, ↓slc_L, ↓slc_O, ↓ext_own, ↓ext_OO, ↓lm_own, ↓append_own, ↓b_lenT, ↓b_lenL, ↓b_lenO, ↓b_lenS, ↓b_tupT, ↓b_tupL, ↓b_tupO, ↓b_lstT, ↓b_lstL, ↓b_lstO, ↓b_min2, ↓b_max2, ↓b_abs, ↓b_sumO, ↓b_sumL, ↓b_sumT, ↓b_anyO, ↓b_allO, ↓o_eqI, ↓o_neI, ↓o_eqSt, ↓o_neSt, ↓o_eqT, ↓o_neT, ↓isN_non, ↓isN_int, ↓isN_str, ↓isN_tup, ↓isN_lst, ↓nIsN_non, ↓nIsN_int, ↓nIsN_str, ↓nIsN_tup, ↓nIsN_lst, if_true, if_false, Bool.not_true, Bool.not_false, Bool.false_eq_true, decide_true, decide_false, String.reduceEq, decide_eq_true_eq, Int.toNat_natCast, List.length_map, List.length_cons, List.length_nil, sizeL, Nat.zero_add, Nat.reduceAdd, Nat.reduceLeDiff, behind_deed_ok hs (show p.1.length ≤ 60 by omega) dm.1 dm.2, ↓atS_ints hr2]
    rw [req_of (by omega)]
    rw [show trackStep ss r p d = (d.beh ss p.1, p.2 ++ [(d.beh ss p.1).getD r 0]) from rfl, List.map_append]
    rfl
/-! ### what stands before is not moved by what stands behind -/
theorem ranksAt_app {a x : List Int} {c : Int} : ∃ b : List Nat, ranksAt (a ++ x) c = ranksAt a c ++ b ∧ ∀ r ∈ b, a.length ≤ r := by
  refine ⟨((x.zipIdx a.length).filter fun p => decide (p.1 = c)).map (·.2), ?_, ?_⟩
  · unfold ranksAt
    rw [List.zipIdx_append, List.filter_append, List.map_append, Nat.zero_add]
  · intro r hr
    obtain ⟨p, hp, rfl⟩ := List.mem_map.mp hr
    exact (List.mem_zipIdx (List.mem_filter.mp hp).1).1
theorem movedTo_app {a x : List Int} {g g' : List Nat} {c : Int} (h : ∀ r < a.length, r ∈ g' ↔ r ∈ g) : ∃ y, movedTo (a ++ x) g' c = movedTo a g c ++ y := by
  refine ⟨(x.zipIdx a.length).map fun p => if p.2 ∈ g' then c else p.1, ?_⟩
  unfold movedTo
  rw [List.zipIdx_append, List.map_append, Nat.zero_add]
  congr 1
  refine List.map_congr_left fun p hp => ?_
  have l := (List.mem_zipIdx hp).2.1
  by_cases q : p.2 ∈ g
  · rw [if_pos q, if_pos ((h _ (by omega)).mpr q)]
  · rw [if_neg q, if_neg fun z => q ((h _ (by omega)).mp z)]
theorem take_ag {a b : List Nat} {n L : Nat} (h : ∀ r ∈ b, L ≤ r) : ∀ r < L, r ∈ (a ++ b).take n ↔ r ∈ a.take n := fun r hr => by
  rw [List.take_append, List.mem_append]
  exact ⟨fun z => z.elim id fun z => absurd (h r (List.mem_of_mem_take z)) (by omega), .inl⟩
theorem drop_ag {a b : List Nat} {n L : Nat} (h : ∀ r ∈ b, L ≤ r) : ∀ r < L, r ∈ (a ++ b).drop n ↔ r ∈ a.drop n := fun r hr => by
  rw [List.drop_append, List.mem_append]
  exact ⟨fun z => z.elim id fun z => absurd (h r (List.mem_of_mem_drop z)) (by omega), .inl⟩
theorem ledStep_app {ss : List Int} : ∀ (r : List Nat) (a x : List Int) (g g' : List Nat), (∀ r < a.length, r ∈ g' ↔ r ∈ g) → ∃ y, (r.foldl (ledStep ss) (a ++ x, g')).1 = (r.foldl (ledStep ss) (a, g)).1 ++ y ∧ ∀ i < a.length, i ∈ (r.foldl (ledStep ss) (a ++ x, g')).2 ↔ i ∈ (r.foldl (ledStep ss) (a, g)).2
  | [], a, x, g, g', h => ⟨x, rfl, h⟩
  | c :: r, a, x, g, g', h => by
    obtain ⟨y, e⟩ := movedTo_app (x := x) (c := (c : Int)) h
    obtain ⟨b, e2, hb⟩ := ranksAt_app (a := movedTo a g (c : Int)) (x := y) (c := (c : Int))
    rw [List.foldl_cons, List.foldl_cons]
    rw [show ledStep ss (a ++ x, g') c = (movedTo a g (c : Int) ++ y, (ranksAt (movedTo a g (c : Int)) (c : Int) ++ b).drop (ss.getD c 0).toNat) by unfold ledStep; rw [e, e2],
      show ledStep ss (a, g) c = (movedTo a g (c : Int), (ranksAt (movedTo a g (c : Int)) (c : Int)).drop (ss.getD c 0).toNat) from rfl]
    have z := ledStep_app (ss := ss) r (movedTo a g (c : Int)) y ((ranksAt (movedTo a g (c : Int)) (c : Int)).drop (ss.getD c 0).toNat) ((ranksAt (movedTo a g (c : Int)) (c : Int) ++ b).drop (ss.getD c 0).toNat) (drop_ag hb)
    rw [movedTo_len] at z
    exact z
theorem ledTo_app {ss a x : List Int} {g g' : List Nat} (h : ∀ r < a.length, r ∈ g' ↔ r ∈ g) : ∀ cs, ∃ y, ledTo ss (a ++ x) g' cs = ledTo ss a g cs ++ y
  | [] => ⟨x, rfl⟩
  | c :: r => by
    obtain ⟨y, e, h2⟩ := ledStep_app (ss := ss) r a x g g' h
    obtain ⟨z, e2⟩ := movedTo_app (a := (r.foldl (ledStep ss) (a, g)).1) (x := y) (c := (c : Int)) (g := (r.foldl (ledStep ss) (a, g)).2) (g' := (r.foldl (ledStep ss) (a ++ x, g')).2) (by rw [ledStep_len]; exact h2)
    exact ⟨z, (congrArg (fun q => movedTo q (r.foldl (ledStep ss) (a ++ x, g')).2 (c : Int)) e).trans e2⟩
theorem beh_app {ss a x : List Int} {d : Dd} (nt : ¬ DdTap d) : ∃ y, d.beh ss (a ++ x) = d.beh ss a ++ y := by
  cases d with
  | swap i j => exact ⟨_, List.map_append⟩
  | tap n c => exact absurd (by simp [DdTap]) nt
  | drain n c =>
    obtain ⟨b, e, hb⟩ := ranksAt_app (a := a) (x := x) (c := (c : Int))
    obtain ⟨y, e2⟩ := movedTo_app (a := a) (x := x) (c := -1) (take_ag (n := n.toNat) (a := ranksAt a (c : Int)) hb)
    exact ⟨y, by show movedTo _ ((ranksAt (a ++ x) (c : Int)).take n.toNat) _ = _; rw [e]; exact e2⟩
  | over n cs =>
    obtain ⟨b, e, hb⟩ := ranksAt_app (a := a) (x := x) (c := ((cs.headD 0 : Nat) : Int))
    obtain ⟨y, e2⟩ := ledTo_app (ss := ss) (a := a) (x := x) (take_ag (n := n.toNat) (a := ranksAt a ((cs.headD 0 : Nat) : Int)) hb) cs
    exact ⟨y, by show ledTo ss _ ((ranksAt (a ++ x) ((cs.headD 0 : Nat) : Int)).take n.toNat) _ = _; rw [e]; exact e2⟩
  | down n cs =>
    obtain ⟨b, e, hb⟩ := ranksAt_app (a := a) (x := x) (c := ((cs.headD 0 : Nat) : Int))
    obtain ⟨y, e2⟩ := ledTo_app (ss := ss) (a := a) (x := x) (drop_ag (n := n.toNat) (a := ranksAt a ((cs.headD 0 : Nat) : Int)) hb) cs
    exact ⟨y, by show ledTo ss _ ((ranksAt (a ++ x) ((cs.headD 0 : Nat) : Int)).drop n.toNat) _ = _; rw [e]; exact e2⟩
theorem getD_app {a y : List Int} {r : Nat} (h : r < a.length) : (a ++ y).getD r 0 = a.getD r 0 := by
  rw [List.getD_eq_getElem?_getD, List.getD_eq_getElem?_getD, List.getElem?_append_left h]
theorem track_app_aux {ss : List Int} {r : Nat} : ∀ (ds : List Dd) (a x f : List Int), (∀ d ∈ ds, ¬ DdTap d) → r < a.length → (ds.foldl (trackStep ss r) (a ++ x, f)).2 = (ds.foldl (trackStep ss r) (a, f)).2
  | [], _, _, _, _, _ => rfl
  | d :: ds, a, x, f, hd, hr => by
    obtain ⟨y, e⟩ := beh_app (ss := ss) (a := a) (x := x) (hd d (by simp))
    have l := beh_len (ss := ss) (st := a) (hd d (by simp))
    rw [List.foldl_cons, List.foldl_cons,
      show trackStep ss r (a ++ x, f) d = (d.beh ss a ++ y, f ++ [(d.beh ss a).getD r 0]) by unfold trackStep; rw [e]; exact congrArg _ (congrArg (fun z => f ++ [z]) (getD_app (by omega))),
      show trackStep ss r (a, f) d = (d.beh ss a, f ++ [(d.beh ss a).getD r 0]) from rfl]
    exact track_app_aux ds _ _ _ (fun d hd2 => hd d (by simp [hd2])) (by omega)
theorem track_app {ss a x : List Int} {r : Nat} {ds : List Dd} (hd : ∀ d ∈ ds, ¬ DdTap d) (hr : r < a.length) : track ss (a ++ x) r ds = track ss a r ds := by
  unfold track
  rw [getD_app hr]
  exact track_app_aux ds a x _ hd hr
/-! ### stands drawn -/
theorem st_gone {ss st : List Int} (h : StOk ss st) (l : st.length < 60) : StOk ss (st ++ [-1]) :=
  ⟨by rw [List.length_append]; exact l, fun p hp => by
    rcases List.mem_append.mp hp with hp | hp
    · exact h.at_ p hp
    · rw [List.mem_singleton.mp hp]; omega, fun c hc => by
    rw [List.count_append, List.count_singleton, if_neg (by simp)]
    exact h.cap c hc⟩
theorem st_snoc {ss st : List Int} {c : Nat} (h : StOk ss st) (l : st.length < 60) (hc : c < ss.length) (hk : (st.count (c : Int) : Int) < ss.getD c 0) : StOk ss (st ++ [(c : Int)]) :=
  ⟨by rw [List.length_append]; exact l, fun p hp => by
    rcases List.mem_append.mp hp with hp | hp
    · exact h.at_ p hp
    · rw [List.mem_singleton.mp hp]; omega, fun i hi => by
    rw [List.count_append, List.count_singleton]
    by_cases e : (c : Int) = (i : Int)
    · have e2 : c = i := by omega
      subst e2
      simp only [BEq.rfl, if_true]
      omega
    · rw [if_neg (by simpa using e)]
      exact h.cap i hi⟩
theorem st_nil {ss : List Int} (sz : ∀ s ∈ ss, 1 ≤ s ∧ s ≤ 40) : StOk ss [] := ⟨by simp, fun p hp => (by cases hp), fun c hc => (by have z := getD_ok sz hc; rw [List.count_nil]; omega)⟩
theorem law_stand_dr {ss : List Int} {mm g : Int} (hs : SzOk ss) (m0 : 0 ≤ mm) (m1 : mm ≤ 60) (g0 : 0 ≤ g) (g1 : g ≤ 1) : Dr 100 (fun p => m__law_stand [.ref p, .tup (ss.map .int), .int mm, .int g]) fun r => ∃ st : List Int, r = .val (.tup (st.map .int)) ∧ StOk ss st ∧ (st.length : Int) ≤ mm ∧ (g = 0 → ∀ x ∈ st, 0 ≤ x) := by
  intro p n h Q E b hn q
  obtain ⟨l1, l2, s3⟩ := id hs
  show mf__law_stand (.ref p) (.tup (ss.map .int)) (.int mm) (.int g) h Q E
  unfold mf__law_stand
  simp only [↓k_V, ↓k_C, ↓k_Op2, ↓k_Fz, ↓k_wNil, ↓k_wCons, ↓k_Tup, ↓k_Lst, ↓k_oNo, ↓k_oPart, ↓k_Sl, ↓k_sNil, ↓k_sCons, ↓k_CB, ↓k_tYes, ↓k_tTst, ↓k_tAnd, ↓k_tOr, ↓k_tNot, ↓k_If, ↓k_And, ↓k_Or, ↓k_Not, ↓k_Neg, ↓k_Chn, ↓k_Call, ↓k_Call0, ↓k_wPerm, ↓k_iItems, ↓k_iRng1, ↓k_iRng2, ↓k_iZip, ↓k_iEnum, ↓k_iEnz, ↓k_ifC, ↓k_Lrg1, ↓k_parC, ↓k_starC, ↓k_setC, ↓k_setC2, ↓k_augC, ↓k_lcb, ↓k_Lc, ↓k_forC, ↓str_lit, ↓fz_val, ↓fz_seq, ↓rr_val, ↓rr_own, ↓sv_val, ↓sv_own, ↓asI_int, ↓asB_bl, ↓items_tup, ↓items_lst, ↓un2_tup, ↓un3_tup, ↓un5_tup, ↓uq2_tup, ↓uq3_tup, ↓uq2_lst, ↓uq3_lst, ↓uq4_tup, ↓uq5_tup, ↓star_tup, ↓star_lst, ↓pr2_2, ↓zip2_tup, ↓zip2_lst, ↓enz_2, ↓rng1_int, ↓rng2_int, ↓lrg1_int, ↓req_T, ↓ret_at, ↓raise_at, ↓call_ret, ↓call0_ret, ↓call_raise, ↓pm_0, ↓pm_01, ↓pm_10, ↓pm_012, ↓pm_021, ↓pm_102, ↓pm_120, ↓pm_201, ↓pm_210, ↓pm_0123, ↓pm_0132, ↓pm_0213, ↓pm_0231, ↓pm_0312, ↓pm_0321, ↓pm_1023, ↓pm_1032, ↓pm_1203, ↓pm_1230, ↓pm_1302, ↓pm_1320, ↓pm_2013, ↓pm_2031, ↓pm_2103, ↓pm_2130, ↓pm_2301, ↓pm_2310, ↓pm_3012, ↓pm_3021, ↓pm_3102, ↓pm_3120, ↓pm_3201, ↓pm_3210, ↓o_sub, ↓o_lt, ↓o_le, ↓o_gt, ↓o_ge, ↓o_mod, ↓o_fdiv, ↓o_pow, ↓o_mul, ↓o_rep, ↓o_repT, ↓o_add, ↓o_addS, ↓o_addT, ↓o_addLL, ↓o_addLO, ↓o_addOL, ↓o_addOO, ↓o_ixT, ↓o_ixL, ↓o_ixO, ↓atS_0, ↓atS_1, ↓atS_2, ↓atS_3, ↓atS_4, ↓slc_T, ↓slc_L, ↓slc_O, ↓ext_own, ↓ext_OO, ↓lm_own, ↓append_own, ↓b_lenT, ↓b_lenL, ↓b_lenO, ↓b_lenS, ↓b_tupT, ↓b_tupL, ↓b_tupO, ↓b_lstT, ↓b_lstL, ↓b_lstO, ↓b_min2, ↓b_max2, ↓b_abs, ↓b_sumO, ↓b_sumL, ↓b_sumT, ↓b_anyO, ↓b_allO, ↓o_eqI, ↓o_neI, ↓o_eqSt, ↓o_neSt, ↓o_eqT, ↓o_neT, ↓isN_non, ↓isN_int, ↓isN_str, ↓isN_tup, ↓isN_lst, ↓nIsN_non, ↓nIsN_int, ↓nIsN_str, ↓nIsN_tup, ↓nIsN_lst, if_true, if_false, Bool.not_true, Bool.not_false, Bool.false_eq_true, decide_true, decide_false, String.reduceEq, decide_eq_true_eq, Int.toNat_natCast, List.length_map, List.length_cons, List.length_nil, sizeL, Nat.zero_add, Nat.reduceAdd, Nat.reduceLeDiff]
  rw [req_of (by omega)]
  refine (take_dr (by omega) (by omega)).call b (by omega) fun r h1 ⟨k, e, k0, k1⟩ b1 t1 => ?_
  subst e
  rw [rep0, ← cnt_nil (n := ss.length)]
  simp only [↓k_V, ↓k_C, ↓k_Op2, ↓k_Fz, ↓k_wNil, ↓k_wCons, ↓k_Tup, ↓k_Lst, ↓k_oNo, ↓k_oPart, ↓k_Sl, ↓k_sNil, ↓k_sCons, ↓k_CB, ↓k_tYes, ↓k_tTst, ↓k_tAnd, ↓k_tOr, ↓k_tNot, ↓k_If, ↓k_And, ↓k_Or, ↓k_Not, ↓k_Neg, ↓k_Chn, ↓k_Call, ↓k_Call0, ↓k_wPerm, ↓k_iItems, ↓k_iRng1, ↓k_iRng2, ↓k_iZip, ↓k_iEnum, ↓k_iEnz, ↓k_ifC, ↓k_Lrg1, ↓k_parC, ↓k_starC, ↓k_setC, ↓k_setC2, ↓k_augC, ↓k_lcb, ↓k_Lc, ↓k_forC, ↓str_lit, ↓fz_val, ↓fz_seq, ↓rr_val, ↓rr_own, ↓sv_val, ↓sv_own, ↓asI_int, ↓asB_bl, ↓items_tup, ↓items_lst, ↓un2_tup, ↓un3_tup, ↓un5_tup, ↓uq2_tup, ↓uq3_tup, ↓uq2_lst, ↓uq3_lst, ↓uq4_tup, ↓uq5_tup, ↓star_tup, ↓star_lst, ↓pr2_2, ↓zip2_tup, ↓zip2_lst, ↓enz_2, ↓rng1_int, ↓rng2_int, ↓lrg1_int, ↓req_T, ↓ret_at, ↓raise_at, ↓call_ret, ↓call0_ret, ↓call_raise, ↓pm_0, ↓pm_01, ↓pm_10, ↓pm_012, ↓pm_021, ↓pm_102, ↓pm_120, ↓pm_201, ↓pm_210, ↓pm_0123, ↓pm_0132, ↓pm_0213, ↓pm_0231, ↓pm_0312, ↓pm_0321, ↓pm_1023, ↓pm_1032, ↓pm_1203, ↓pm_1230, ↓pm_1302, ↓pm_1320, ↓pm_2013, ↓pm_2031, ↓pm_2103, ↓pm_2130, ↓pm_2301, ↓pm_2310, ↓pm_3012, ↓pm_3021, ↓pm_3102, ↓pm_3120, ↓pm_3201, ↓pm_3210, ↓o_sub, ↓o_lt, ↓o_le, ↓o_gt, ↓o_ge, ↓o_mod, ↓o_fdiv, ↓o_pow, ↓o_mul, ↓o_rep, ↓o_repT, ↓o_add, ↓o_addS, ↓o_addT, ↓o_addLL, ↓o_addLO, ↓o_addOL, ↓o_addOO, ↓o_ixT, ↓o_ixL, ↓o_ixO, ↓atS_0, ↓atS_1, ↓atS_2, ↓atS_3, ↓atS_4, ↓slc_T, ↓slc_L, ↓slc_O, ↓ext_own, ↓ext_OO, ↓lm_own, ↓append_own, ↓b_lenT, ↓b_lenL, ↓b_lenO, ↓b_lenS, ↓b_tupT, ↓b_tupL, ↓b_tupO, ↓b_lstT, ↓b_lstL, ↓b_lstO, ↓b_min2, ↓b_max2, ↓b_abs, ↓b_sumO, ↓b_sumL, ↓b_sumT, ↓b_anyO, ↓b_allO, ↓o_eqI, ↓o_neI, ↓o_eqSt, ↓o_neSt, ↓o_eqT, ↓o_neT, ↓isN_non, ↓isN_int, ↓isN_str, ↓isN_tup, ↓isN_lst, ↓nIsN_non, ↓nIsN_int, ↓nIsN_str, ↓nIsN_tup, ↓nIsN_lst, if_true, if_false, Bool.not_true, Bool.not_false, Bool.false_eq_true, decide_true, decide_false, String.reduceEq, decide_eq_true_eq, Int.toNat_natCast, List.length_map, List.length_cons, List.length_nil, sizeL, Nat.zero_add, Nat.reduceAdd, Nat.reduceLeDiff]
  refine ⟨by omega, for_wp (fun ws s h' => ∃ st : List Int, s = (W.tup (st.map .int), SV.own (.seq ((cnt ss.length st).map .int))) ∧ StOk ss st ∧ st.length + ws.length ≤ mm.toNat ∧ (g = 0 → ∀ x ∈ st, 0 ≤ x) ∧ Bag (n + 100 - ws.length) h' p ∧ Bt p h h') (fun s h' ⟨st, e, o, l, gg, b2, t2⟩ => ?_) (fun w ws s h' kn ⟨st, e, o, l, gg, b2, t2⟩ hk => ?_) _ _ _ ⟨[], rfl, st_nil s3, by rw [rngW_len]; show 0 + _ ≤ _; omega, fun _ x hx => (by cases hx), b1.le (by rw [rngW_len]; omega), t1⟩⟩
  · subst e
    exact q _ _ ⟨st, rfl, o, by rw [List.length_nil] at l; omega, gg⟩ b2 t2
  · subst e
    rw [List.length_cons] at l b2
    have fin : ∀ st' : List Int, StOk ss st' → st'.length ≤ st.length + 1 → (g = 0 → ∀ x ∈ st', 0 ≤ x) → ∀ h2, Bag (n + 100 - ws.length) h2 p → Bt p h h2 → kn (W.tup (st'.map .int), SV.own (.seq ((cnt ss.length st').map .int))) h2 Q E := fun st' o' l' g' h2 b3 t3 => hk _ _ ⟨st', rfl, o', by omega, g', b3, t3⟩
    refine (take_dr (by omega) (by omega)).call b2 (by omega) fun r h3 ⟨k, e, k0, k1⟩ b3 t3 => ?_
    subst e
    have b3 := b3.le (show n + 100 - (ws.length + 1) + 1 ≤ n + 100 - ws.length by omega)
    simp only [↓k_V, ↓k_C, ↓k_Op2, ↓k_Fz, ↓k_wNil, ↓k_wCons, ↓k_Tup, ↓k_Lst, ↓k_oNo, ↓k_oPart, ↓k_Sl, ↓k_sNil, ↓k_sCons, ↓k_CB, ↓k_tYes, ↓k_tTst, ↓k_tAnd, ↓k_tOr, ↓k_tNot, ↓k_If, ↓k_And, ↓k_Or, ↓k_Not, ↓k_Neg, ↓k_Chn, ↓k_Call, ↓k_Call0, ↓k_wPerm, ↓k_iItems, ↓k_iRng1, ↓k_iRng2, ↓k_iZip, ↓k_iEnum, ↓k_iEnz, ↓k_ifC, ↓k_Lrg1, ↓k_parC, ↓k_starC, ↓k_setC, ↓k_setC2, ↓k_augC, ↓k_lcb, ↓k_Lc, ↓k_forC, ↓str_lit, ↓fz_val, ↓fz_seq, ↓rr_val, ↓rr_own, ↓sv_val, ↓sv_own, ↓asI_int, ↓asB_bl, ↓items_tup, ↓items_lst, ↓un2_tup, ↓un3_tup, ↓un5_tup, ↓uq2_tup, ↓uq3_tup, ↓uq2_lst, ↓uq3_lst, ↓uq4_tup, ↓uq5_tup, ↓star_tup, ↓star_lst, ↓pr2_2, ↓zip2_tup, ↓zip2_lst, ↓enz_2, ↓rng1_int, ↓rng2_int, ↓lrg1_int, ↓req_T, ↓ret_at, ↓raise_at, ↓call_ret, ↓call0_ret, ↓call_raise, ↓pm_0, ↓pm_01, ↓pm_10, ↓pm_012, ↓pm_021, ↓pm_102, ↓pm_120, ↓pm_201, ↓pm_210, ↓pm_0123, ↓pm_0132, ↓pm_0213, ↓pm_0231, ↓pm_0312, ↓pm_0321, ↓pm_1023, ↓pm_1032, ↓pm_1203, ↓pm_1230, ↓pm_1302, ↓pm_1320, ↓pm_2013, ↓pm_2031, ↓pm_2103, ↓pm_2130, ↓pm_2301, ↓pm_2310, ↓pm_3012, ↓pm_3021, ↓pm_3102, ↓pm_3120, ↓pm_3201, ↓pm_3210, ↓o_sub, ↓o_lt, ↓o_le, ↓o_gt, ↓o_ge, ↓o_mod, ↓o_fdiv, ↓o_pow, ↓o_mul, ↓o_rep, ↓o_repT, ↓o_add, ↓o_addS, ↓o_addT, ↓o_addLL, ↓o_addLO, ↓o_addOL, ↓o_addOO, ↓o_ixT, ↓o_ixL, ↓o_ixO, ↓atS_0, ↓atS_1, ↓atS_2, ↓atS_3, ↓atS_4, ↓slc_T, ↓slc_L, ↓slc_O, ↓ext_own, ↓ext_OO, ↓lm_own, ↓append_own, ↓b_lenT, ↓b_lenL, ↓b_lenO, ↓b_lenS, ↓b_tupT, ↓b_tupL, ↓b_tupO, ↓b_lstT, ↓b_lstL, ↓b_lstO, ↓b_min2, ↓b_max2, ↓b_abs, ↓b_sumO, ↓b_sumL, ↓b_sumT, ↓b_anyO, ↓b_allO, ↓o_eqI, ↓o_neI, ↓o_eqSt, ↓o_neSt, ↓o_eqT, ↓o_neT, ↓isN_non, ↓isN_int, ↓isN_str, ↓isN_tup, ↓isN_lst, ↓nIsN_non, ↓nIsN_int, ↓nIsN_str, ↓nIsN_tup, ↓nIsN_lst, if_true, if_false, Bool.not_true, Bool.not_false, Bool.false_eq_true, decide_true, decide_false, String.reduceEq, decide_eq_true_eq, Int.toNat_natCast, List.length_map, List.length_cons, List.length_nil, sizeL, Nat.zero_add, Nat.reduceAdd, Nat.reduceLeDiff]
    by_cases z : k - g < 0
    · rw [if_pos z, req_of (by omega)]
      have z2 : k - g = -1 := by omega
      have o2 := fin (st ++ [-1]) (st_gone o (by omega)) (by rw [List.length_append]; exact Nat.le_refl _) (fun g' => by omega) h3 b3 (t2.trans t3)
      rw [cnt_gone (by omega), List.map_append] at o2
      exact o2
    · rw [if_neg z]
      obtain ⟨c, hc⟩ : ∃ c : Nat, k - g = c := ⟨(k - g).toNat, by omega⟩
      have c1 : c < ss.length := by omega
      have c2 : c < (cnt ss.length st).length := by rw [cnt_len]; exact c1
      rw [hc]
      simp only [↓k_V, ↓k_C, ↓k_Op2, ↓k_Fz, ↓k_wNil, ↓k_wCons, ↓k_Tup, ↓k_Lst, ↓k_oNo, ↓k_oPart, ↓k_Sl, ↓k_sNil, ↓k_sCons, ↓k_CB, ↓k_tYes, ↓k_tTst, ↓k_tAnd, ↓k_tOr, ↓k_tNot, ↓k_If, ↓k_And, ↓k_Or, ↓k_Not, ↓k_Neg, ↓k_Chn, ↓k_Call, ↓k_Call0, ↓k_wPerm, ↓k_iItems, ↓k_iRng1, ↓k_iRng2, ↓k_iZip, ↓k_iEnum, ↓k_iEnz, ↓k_ifC, ↓k_Lrg1, ↓k_parC, ↓k_starC, ↓k_setC, ↓k_setC2, ↓k_augC, ↓k_lcb, ↓k_Lc, ↓k_forC, ↓str_lit, ↓fz_val, ↓fz_seq, ↓rr_val, ↓rr_own, ↓sv_val, ↓sv_own, ↓asI_int, ↓asB_bl, ↓items_tup, ↓items_lst, ↓un2_tup, ↓un3_tup, ↓un5_tup, ↓uq2_tup, ↓uq3_tup, ↓uq2_lst, ↓uq3_lst, ↓uq4_tup, ↓uq5_tup, ↓star_tup, ↓star_lst, ↓pr2_2, ↓zip2_tup, ↓zip2_lst, ↓enz_2, ↓rng1_int, ↓rng2_int, ↓lrg1_int, ↓req_T, ↓ret_at, ↓raise_at, ↓call_ret, ↓call0_ret, ↓call_raise, ↓pm_0, ↓pm_01, ↓pm_10, ↓pm_012, ↓pm_021, ↓pm_102, ↓pm_120, ↓pm_201, ↓pm_210, ↓pm_0123, ↓pm_0132, ↓pm_0213, ↓pm_0231, ↓pm_0312, ↓pm_0321, ↓pm_1023, ↓pm_1032, ↓pm_1203, ↓pm_1230, ↓pm_1302, ↓pm_1320, ↓pm_2013, ↓pm_2031, ↓pm_2103, ↓pm_2130, ↓pm_2301, ↓pm_2310, ↓pm_3012, ↓pm_3021, ↓pm_3102, ↓pm_3120, ↓pm_3201, ↓pm_3210, ↓o_sub, ↓o_lt, ↓o_le, ↓o_gt, ↓o_ge, ↓o_mod, ↓o_fdiv, ↓o_pow, ↓o_mul, ↓o_rep, ↓o_repT, ↓o_add, ↓o_addS, ↓o_addT, ↓o_addLL, ↓o_addLO, ↓o_addOL, ↓o_addOO, ↓o_ixT, ↓o_ixL, ↓o_ixO, ↓atS_0, ↓atS_1, ↓atS_2, ↓atS_3, ↓atS_4, ↓slc_T, ↓slc_L, ↓slc_O, ↓ext_own, ↓ext_OO, ↓lm_own, ↓append_own, ↓b_lenT, ↓b_lenL, ↓b_lenO, ↓b_lenS, ↓b_tupT, ↓b_tupL, ↓b_tupO, ↓b_lstT, ↓b_lstL, ↓b_lstO, ↓b_min2, ↓b_max2, ↓b_abs, ↓b_sumO, ↓b_sumL, ↓b_sumT, ↓b_anyO, ↓b_allO, ↓o_eqI, ↓o_neI, ↓o_eqSt, ↓o_neSt, ↓o_eqT, ↓o_neT, ↓isN_non, ↓isN_int, ↓isN_str, ↓isN_tup, ↓isN_lst, ↓nIsN_non, ↓nIsN_int, ↓nIsN_str, ↓nIsN_tup, ↓nIsN_lst, if_true, if_false, Bool.not_true, Bool.not_false, Bool.false_eq_true, decide_true, decide_false, String.reduceEq, decide_eq_true_eq, Int.toNat_natCast, List.length_map, List.length_cons, List.length_nil, sizeL, Nat.zero_add, Nat.reduceAdd, Nat.reduceLeDiff, ↓atS_ints c1, ↓atS_ints c2, cnt_get c1]
      by_cases y : (st.count (c : Int) : Int) < ss.getD c 0
      · rw [if_pos y, set_own (by rw [List.length_map]; exact c2), set_map, req_of (by omega)]
        have o2 := fin (st ++ [(c : Int)]) (st_snoc o (by omega) c1 y) (by rw [List.length_append]; exact Nat.le_refl _) (fun g' x hx => by
          rcases List.mem_append.mp hx with hx | hx
          · exact gg g' x hx
          · rw [List.mem_singleton.mp hx]; omega) h3 b3 (t2.trans t3)
        rw [← cnt_snoc c1, cnt_get c1, List.map_append] at o2
        exact o2
      · rw [if_neg y]
        exact fin st o (by omega) gg h3 b3 (t2.trans t3)
end Ab
namespace Ab
open PySem PySem.Spec PyProof.Rows L2 RZ
def mf__law_more (x_bag x_msizes x_mstand x_mmany : W) : MC :=
  ((eFz (eV (.val x_mstand))) fun x_found => (forC (iRng1 (sCons (eCall m__law_take (wCons (eFz (eV (.val x_bag))) (wCons (eFz (eOp2 oAdd (eV (.val x_mmany)) (eC (.int 1)))) wNil))) sNil)) x_found (fun x_k (s1 : W) kn3 kb4 => ((eFz (eOp2 oSub (eCall m__law_take (wCons (eFz (eV (.val x_bag))) (wCons (eFz (eOp2 oAdd (eCB oLen (sCons (eV (.val x_msizes)) sNil)) (eC (.int 1)))) wNil))) (eC (.int 1)))) fun x_place => (ifC (tOr (tTst (eOp2 oLt (eV (.val x_place)) (eC (.int 0)))) (tTst (eOp2 oLt (eCB oLen (sCons (eLc (iItems (eFz (eV (.val s1)))) fun x_here kk => lcb (tTst (eOp2 (oEq false) (eV (.val x_here)) (eV (.val x_place)))) (eFz (eV (.val x_here))) kk) sNil)) (eOp2 oIx (eV (.val x_msizes)) (eV (.val x_place)))))) ((eFz (eOp2 oAdd (eV (.val s1)) (eTup (wCons (eFz (eV (.val x_place))) wNil)))) fun x_found => (kn3 x_found)) (kn3 s1)))) fun (s1 : W) => ((eV (.val s1)) ret)))
def m__law_more : List W → MC
  | [x_bag, x_msizes, x_mstand, x_mmany] => mf__law_more x_bag x_msizes x_mstand x_mmany
  | _ => bad
def mf_law (x_script : W) : MC :=
  ((eCall m__law_open (wCons (eFz (eV (.val x_script))) wNil)) fun x_bag => (prom x_bag fun x_bag => (forC (iRng1 (sCons (eC (.int 2)) sNil)) () (fun x_turn (s12 : Unit) kn14 kb15 => ((eFz (eCall m__law_any_sizes (wCons (eFz (eV (.val x_bag))) wNil))) fun x_msizes => ((eFz (eCall m__law_stand (wCons (eFz (eV (.val x_bag))) (wCons (eFz (eV (.val x_msizes))) (wCons (eFz (eC (.int 20))) (wCons (eFz (eC (.int 1))) wNil)))))) fun x_mstand => (parC (wCons (eFz (eCall m__law_more (wCons (eFz (eV (.val x_bag))) (wCons (eFz (eV (.val x_msizes))) (wCons (eFz (eV (.val x_mstand))) (wCons (eFz (eC (.int 20))) wNil)))))) (wCons (eFz (eCall m__law_more (wCons (eFz (eV (.val x_bag))) (wCons (eFz (eV (.val x_msizes))) (wCons (eFz (eV (.val x_mstand))) (wCons (eFz (eC (.int 20))) wNil)))))) wNil)) fun x_left x_right => ((eFz (eCall m__law_row (wCons (eFz (eV (.val x_bag))) (wCons (eFz (eV (.val x_msizes))) (wCons (eFz (eC (.int 8))) (wCons (eFz (eC (.bl false))) wNil)))))) fun x_mdeeds => (forC (iRng1 (sCons (eCB oLen (sCons (eV (.val x_mstand)) sNil)) sNil)) () (fun x_mrank (s18 : Unit) kn20 kb21 => ((eFz (eCall m_path (wCons (eFz (eV (.val x_msizes))) (wCons (eFz (eV (.val x_mstand))) (wCons (eFz (eV (.val x_mdeeds))) (wCons (eFz (eV (.val x_mrank))) wNil)))))) fun x_due => (ifC (tNot (tTst (eCall (m__law_same 8) (wCons (eFz (eLc (iItems (eFz (eTup (wCons (eFz (eV (.val x_left))) (wCons (eFz (eV (.val x_right))) wNil))))) fun x_here kk => lcb tYes (eFz (eCall0 m_path (wCons (eFz (eV (.val x_msizes))) (wCons (eFz (eV (.val x_here))) (wCons (eFz (eV (.val x_mdeeds))) (wCons (eFz (eV (.val x_mrank))) wNil)))))) kk)) (wCons (eFz (eLst (wCons (eFz (eV (.val x_due))) (wCons (eFz (eV (.val x_due))) wNil)))) wNil))))) ((eC (.bl false)) ret) (kn20 ())))) fun (s18 : Unit) => (kn14 ()))))))) fun (s12 : Unit) => ((eC (.bl true)) ret))))
def m_law : List W → MC
  | [x_script] => mf_law x_script
  | _ => bad
end Ab
namespace Ab
open PySem PySem.Spec PyProof.Rows L2 RZ
/-! ### whole later drops are not seen -/
theorem here_count {st : List Int} {c : Int} {k : List W → MC} (hl : st.length ≤ 100) : lcL (fun x_here kk => op2 (oEq false) (.val x_here) (.val (.int c)) fun r => asB r fun x => if x = true then kk (some x_here) else kk none) k (st.map .int) [] = k ((st.filter fun p => decide (p = c)).map W.int) :=
  lc_if W.int (fun p => decide (p = c)) W.int st (fun p _ kk => by simp only [↓k_V, ↓k_C, ↓k_Op2, ↓k_Fz, ↓k_wNil, ↓k_wCons, ↓k_Tup, ↓k_Lst, ↓k_oNo, ↓k_oPart, ↓k_Sl, ↓k_sNil, ↓k_sCons, ↓k_CB, ↓k_tYes, ↓k_tTst, ↓k_tAnd, ↓k_tOr, ↓k_tNot, ↓k_If, ↓k_And, ↓k_Or, ↓k_Not, ↓k_Neg, ↓k_Chn, ↓k_Call, ↓k_Call0, ↓k_wPerm, ↓k_iItems, ↓k_iRng1, ↓k_iRng2, ↓k_iZip, ↓k_iEnum, ↓k_iEnz, ↓k_ifC, ↓k_Lrg1, ↓k_parC, ↓k_starC, ↓k_setC, ↓k_setC2, ↓k_augC, ↓k_lcb, ↓k_Lc, ↓k_forC, ↓str_lit, ↓fz_val, ↓fz_seq, ↓rr_val, ↓rr_own, ↓sv_val, ↓sv_own, ↓asI_int, ↓asB_bl, ↓items_tup, ↓items_lst, ↓un2_tup, ↓un3_tup, ↓un5_tup, ↓uq2_tup, ↓uq3_tup, ↓uq2_lst, ↓uq3_lst, ↓uq4_tup, ↓uq5_tup, ↓star_tup, ↓star_lst, ↓pr2_2, ↓zip2_tup, ↓zip2_lst, ↓enz_2, ↓rng1_int, ↓rng2_int, ↓lrg1_int, ↓req_T, ↓ret_at, ↓raise_at, ↓call_ret, ↓call0_ret, ↓call_raise, ↓pm_0, ↓pm_01, ↓pm_10, ↓pm_012, ↓pm_021, ↓pm_102, ↓pm_120, ↓pm_201, ↓pm_210, ↓pm_0123, ↓pm_0132, ↓pm_0213, ↓pm_0231, ↓pm_0312, ↓pm_0321, ↓pm_1023, ↓pm_1032, ↓pm_1203, ↓pm_1230, ↓pm_1302, ↓pm_1320, ↓pm_2013, ↓pm_2031, ↓pm_2103, ↓pm_2130, ↓pm_2301, ↓pm_2310, ↓pm_3012, ↓pm_3021, ↓pm_3102, ↓pm_3120, ↓pm_3201, ↓pm_3210, ↓o_sub, ↓o_lt, ↓o_le, ↓o_gt, ↓o_ge, ↓o_mod, ↓o_fdiv, ↓o_pow, ↓o_mul, ↓o_rep, ↓o_repT, ↓o_add, ↓o_addS, ↓o_addT, ↓o_addLL, ↓o_addLO, ↓o_addOL, ↓o_addOO, ↓o_ixT, ↓o_ixL, ↓o_ixO, ↓atS_0, ↓atS_1, ↓atS_2, ↓atS_3, ↓atS_4, ↓slc_T, ↓slc_L, ↓slc_O, ↓ext_own, ↓ext_OO, ↓lm_own, ↓append_own, ↓b_lenT, ↓b_lenL, ↓b_lenO, ↓b_lenS, ↓b_tupT, ↓b_tupL, ↓b_tupO, ↓b_lstT, ↓b_lstL, ↓b_lstO, ↓b_min2, ↓b_max2, ↓b_abs, ↓b_sumO, ↓b_sumL, ↓b_sumT, ↓b_anyO, ↓b_allO, ↓o_eqI, ↓o_neI, ↓o_eqSt, ↓o_neSt, ↓o_eqT, ↓o_neT, ↓isN_non, ↓isN_int, ↓isN_str, ↓isN_tup, ↓isN_lst, ↓nIsN_non, ↓nIsN_int, ↓nIsN_str, ↓nIsN_tup, ↓nIsN_lst, if_true, if_false, Bool.not_true, Bool.not_false, Bool.false_eq_true, decide_true, decide_false, String.reduceEq, decide_eq_true_eq, Int.toNat_natCast, List.length_map, List.length_cons, List.length_nil, sizeL, Nat.zero_add, Nat.reduceAdd, Nat.reduceLeDiff]) (by simp only [sizeL]; omega)
theorem filter_count {st : List Int} {c : Int} : (st.filter fun p => decide (p = c)).length = st.count c := by
  rw [← List.countP_eq_length_filter, List.count]
  exact List.countP_congr fun x _ => by simp
theorem more_dr {ss st : List Int} {mm : Int} (hs : SzOk ss) (h0 : StOk ss st) (m0 : 0 ≤ mm) (m1 : mm ≤ 60) (hl : st.length + mm ≤ 60) : Dr 100 (fun p => m__law_more [.ref p, .tup (ss.map .int), .tup (st.map .int), .int mm]) fun r => ∃ x : List Int, r = .val (.tup ((st ++ x).map .int)) ∧ StOk ss (st ++ x) := by
  intro p n h Q E b hn q
  obtain ⟨l1, l2, s3⟩ := id hs
  show mf__law_more (.ref p) (.tup (ss.map .int)) (.tup (st.map .int)) (.int mm) h Q E
  unfold mf__law_more
  simp only [↓k_V, ↓k_C, ↓k_Op2, ↓k_Fz, ↓k_wNil, ↓k_wCons, ↓k_Tup, ↓k_Lst, ↓k_oNo, ↓k_oPart, ↓k_Sl, ↓k_sNil, ↓k_sCons, ↓k_CB, ↓k_tYes, ↓k_tTst, ↓k_tAnd, ↓k_tOr, ↓k_tNot, ↓k_If, ↓k_And, ↓k_Or, ↓k_Not, ↓k_Neg, ↓k_Chn, ↓k_Call, ↓k_Call0, ↓k_wPerm, ↓k_iItems, ↓k_iRng1, ↓k_iRng2, ↓k_iZip, ↓k_iEnum, ↓k_iEnz, ↓k_ifC, ↓k_Lrg1, ↓k_parC, ↓k_starC, ↓k_setC, ↓k_setC2, ↓k_augC, ↓k_lcb, ↓k_Lc, ↓k_forC, ↓str_lit, ↓fz_val, ↓fz_seq, ↓rr_val, ↓rr_own, ↓sv_val, ↓sv_own, ↓asI_int, ↓asB_bl, ↓items_tup, ↓items_lst, ↓un2_tup, ↓un3_tup, ↓un5_tup, ↓uq2_tup, ↓uq3_tup, ↓uq2_lst, ↓uq3_lst, ↓uq4_tup, ↓uq5_tup, ↓star_tup, ↓star_lst, ↓pr2_2, ↓zip2_tup, ↓zip2_lst, ↓enz_2, ↓rng1_int, ↓rng2_int, ↓lrg1_int, ↓req_T, ↓ret_at, ↓raise_at, ↓call_ret, ↓call0_ret, ↓call_raise, ↓pm_0, ↓pm_01, ↓pm_10, ↓pm_012, ↓pm_021, ↓pm_102, ↓pm_120, ↓pm_201, ↓pm_210, ↓pm_0123, ↓pm_0132, ↓pm_0213, ↓pm_0231, ↓pm_0312, ↓pm_0321, ↓pm_1023, ↓pm_1032, ↓pm_1203, ↓pm_1230, ↓pm_1302, ↓pm_1320, ↓pm_2013, ↓pm_2031, ↓pm_2103, ↓pm_2130, ↓pm_2301, ↓pm_2310, ↓pm_3012, ↓pm_3021, ↓pm_3102, ↓pm_3120, ↓pm_3201, ↓pm_3210, ↓o_sub, ↓o_lt, ↓o_le, ↓o_gt, ↓o_ge, ↓o_mod, ↓o_fdiv, ↓o_pow, ↓o_mul, ↓o_rep, ↓o_repT, ↓o_add, ↓o_addS, ↓o_addT, ↓o_addLL, ↓o_addLO, ↓o_addOL, ↓o_addOO, ↓o_ixT, ↓o_ixL, ↓o_ixO, ↓atS_0, ↓atS_1, ↓atS_2, ↓atS_3, ↓atS_4, ↓slc_T, ↓slc_L, ↓slc_O, ↓ext_own, ↓ext_OO, ↓lm_own, ↓append_own, ↓b_lenT, ↓b_lenL, ↓b_lenO, ↓b_lenS, ↓b_tupT, ↓b_tupL, ↓b_tupO, ↓b_lstT, ↓b_lstL, ↓b_lstO, ↓b_min2, ↓b_max2, ↓b_abs, ↓b_sumO, ↓b_sumL, ↓b_sumT, ↓b_anyO, ↓b_allO, ↓o_eqI, ↓o_neI, ↓o_eqSt, ↓o_neSt, ↓o_eqT, ↓o_neT, ↓isN_non, ↓isN_int, ↓isN_str, ↓isN_tup, ↓isN_lst, ↓nIsN_non, ↓nIsN_int, ↓nIsN_str, ↓nIsN_tup, ↓nIsN_lst, if_true, if_false, Bool.not_true, Bool.not_false, Bool.false_eq_true, decide_true, decide_false, String.reduceEq, decide_eq_true_eq, Int.toNat_natCast, List.length_map, List.length_cons, List.length_nil, sizeL, Nat.zero_add, Nat.reduceAdd, Nat.reduceLeDiff]
  refine (take_dr (by omega) (by omega)).call b (by omega) fun r h1 ⟨k, e, k0, k1⟩ b1 t1 => ?_
  subst e
  simp only [↓k_V, ↓k_C, ↓k_Op2, ↓k_Fz, ↓k_wNil, ↓k_wCons, ↓k_Tup, ↓k_Lst, ↓k_oNo, ↓k_oPart, ↓k_Sl, ↓k_sNil, ↓k_sCons, ↓k_CB, ↓k_tYes, ↓k_tTst, ↓k_tAnd, ↓k_tOr, ↓k_tNot, ↓k_If, ↓k_And, ↓k_Or, ↓k_Not, ↓k_Neg, ↓k_Chn, ↓k_Call, ↓k_Call0, ↓k_wPerm, ↓k_iItems, ↓k_iRng1, ↓k_iRng2, ↓k_iZip, ↓k_iEnum, ↓k_iEnz, ↓k_ifC, ↓k_Lrg1, ↓k_parC, ↓k_starC, ↓k_setC, ↓k_setC2, ↓k_augC, ↓k_lcb, ↓k_Lc, ↓k_forC, ↓str_lit, ↓fz_val, ↓fz_seq, ↓rr_val, ↓rr_own, ↓sv_val, ↓sv_own, ↓asI_int, ↓asB_bl, ↓items_tup, ↓items_lst, ↓un2_tup, ↓un3_tup, ↓un5_tup, ↓uq2_tup, ↓uq3_tup, ↓uq2_lst, ↓uq3_lst, ↓uq4_tup, ↓uq5_tup, ↓star_tup, ↓star_lst, ↓pr2_2, ↓zip2_tup, ↓zip2_lst, ↓enz_2, ↓rng1_int, ↓rng2_int, ↓lrg1_int, ↓req_T, ↓ret_at, ↓raise_at, ↓call_ret, ↓call0_ret, ↓call_raise, ↓pm_0, ↓pm_01, ↓pm_10, ↓pm_012, ↓pm_021, ↓pm_102, ↓pm_120, ↓pm_201, ↓pm_210, ↓pm_0123, ↓pm_0132, ↓pm_0213, ↓pm_0231, ↓pm_0312, ↓pm_0321, ↓pm_1023, ↓pm_1032, ↓pm_1203, ↓pm_1230, ↓pm_1302, ↓pm_1320, ↓pm_2013, ↓pm_2031, ↓pm_2103, ↓pm_2130, ↓pm_2301, ↓pm_2310, ↓pm_3012, ↓pm_3021, ↓pm_3102, ↓pm_3120, ↓pm_3201, ↓pm_3210, ↓o_sub, ↓o_lt, ↓o_le, ↓o_gt, ↓o_ge, ↓o_mod, ↓o_fdiv, ↓o_pow, ↓o_mul, ↓o_rep, ↓o_repT, ↓o_add, ↓o_addS, ↓o_addT, ↓o_addLL, ↓o_addLO, ↓o_addOL, ↓o_addOO, ↓o_ixT, ↓o_ixL, ↓o_ixO, ↓atS_0, ↓atS_1, ↓atS_2, ↓atS_3, ↓atS_4, ↓slc_T, ↓slc_L, ↓slc_O, ↓ext_own, ↓ext_OO, ↓lm_own, ↓append_own, ↓b_lenT, ↓b_lenL, ↓b_lenO, ↓b_lenS, ↓b_tupT, ↓b_tupL, ↓b_tupO, ↓b_lstT, ↓b_lstL, ↓b_lstO, ↓b_min2, ↓b_max2, ↓b_abs, ↓b_sumO, ↓b_sumL, ↓b_sumT, ↓b_anyO, ↓b_allO, ↓o_eqI, ↓o_neI, ↓o_eqSt, ↓o_neSt, ↓o_eqT, ↓o_neT, ↓isN_non, ↓isN_int, ↓isN_str, ↓isN_tup, ↓isN_lst, ↓nIsN_non, ↓nIsN_int, ↓nIsN_str, ↓nIsN_tup, ↓nIsN_lst, if_true, if_false, Bool.not_true, Bool.not_false, Bool.false_eq_true, decide_true, decide_false, String.reduceEq, decide_eq_true_eq, Int.toNat_natCast, List.length_map, List.length_cons, List.length_nil, sizeL, Nat.zero_add, Nat.reduceAdd, Nat.reduceLeDiff]
  refine ⟨by omega, for_wp (fun ws s h' => ∃ x : List Int, s = W.tup ((st ++ x).map .int) ∧ StOk ss (st ++ x) ∧ (st ++ x).length + ws.length ≤ 60 ∧ Bag (n + 100 - ws.length) h' p ∧ Bt p h h') (fun s h' ⟨x, e, o, l, b2, t2⟩ => ?_) (fun w ws s h' kn ⟨x, e, o, l, b2, t2⟩ hk => ?_) _ _ _ ⟨[], by rw [List.append_nil], by rw [List.append_nil]; exact h0, by rw [rngW_len, List.append_nil]; omega, b1.le (by rw [rngW_len]; omega), t1⟩⟩
  · subst e
    exact q _ _ ⟨x, rfl, o⟩ b2 t2
  · subst e
    rw [List.length_cons] at l b2
    have fin : ∀ y : List Int, StOk ss (st ++ y) → (st ++ y).length ≤ (st ++ x).length + 1 → ∀ h2, Bag (n + 100 - ws.length) h2 p → Bt p h h2 → kn (W.tup ((st ++ y).map .int)) h2 Q E := fun y o' l' h2 b3 t3 => hk _ _ ⟨y, rfl, o', by omega, b3, t3⟩
    refine (take_dr (by omega) (by omega)).call b2 (by omega) fun r h3 ⟨k, e, k0, k1⟩ b3 t3 => ?_
    subst e
    have b3 := b3.le (show n + 100 - (ws.length + 1) + 1 ≤ n + 100 - ws.length by omega)
    have f0 := fin x o (by omega) h3 b3 (t2.trans t3)
    have f1 : ∀ c : Int, StOk ss (st ++ x ++ [c]) → kn (W.tup ((st ++ x ++ [c]).map .int)) h3 Q E := fun c o2 => by
      rw [List.append_assoc] at o2 ⊢
      exact fin (x ++ [c]) o2 (by rw [← List.append_assoc, List.length_append]; exact Nat.le_refl _) h3 b3 (t2.trans t3)
    clear fin hk q
    generalize st ++ x = cu at *
    simp only [↓k_V, ↓k_C, ↓k_Op2, ↓k_Fz, ↓k_wNil, ↓k_wCons, ↓k_Tup, ↓k_Lst, ↓k_oNo, ↓k_oPart, ↓k_Sl, ↓k_sNil, ↓k_sCons, ↓k_CB, ↓k_tYes, ↓k_tTst, ↓k_tAnd, ↓k_tOr, ↓k_tNot, ↓k_If, ↓k_And, ↓k_Or, ↓k_Not, ↓k_Neg, ↓k_Chn, ↓k_Call, ↓k_Call0, ↓k_wPerm, ↓k_iItems, ↓k_iRng1, ↓k_iRng2, ↓k_iZip, ↓k_iEnum, ↓k_iEnz, ↓k_ifC, ↓k_Lrg1, ↓k_parC, ↓k_starC, ↓k_setC, ↓k_setC2, ↓k_augC, ↓k_lcb, ↓k_Lc, ↓k_forC, ↓str_lit, ↓fz_val, ↓fz_seq, ↓rr_val, ↓rr_own, ↓sv_val, ↓sv_own, ↓asI_int, ↓asB_bl, ↓items_tup, ↓items_lst, ↓un2_tup, ↓un3_tup, ↓un5_tup, ↓uq2_tup, ↓uq3_tup, ↓uq2_lst, ↓uq3_lst, ↓uq4_tup, ↓uq5_tup, ↓star_tup, ↓star_lst, ↓pr2_2, ↓zip2_tup, ↓zip2_lst, ↓enz_2, ↓rng1_int, ↓rng2_int, ↓lrg1_int, ↓req_T, ↓ret_at, ↓raise_at, ↓call_ret, ↓call0_ret, ↓call_raise, ↓pm_0, ↓pm_01, ↓pm_10, ↓pm_012, ↓pm_021, ↓pm_102, ↓pm_120, ↓pm_201, ↓pm_210, ↓pm_0123, ↓pm_0132, ↓pm_0213, ↓pm_0231, ↓pm_0312, ↓pm_0321, ↓pm_1023, ↓pm_1032, ↓pm_1203, ↓pm_1230, ↓pm_1302, ↓pm_1320, ↓pm_2013, ↓pm_2031, ↓pm_2103, ↓pm_2130, ↓pm_2301, ↓pm_2310, ↓pm_3012, ↓pm_3021, ↓pm_3102, ↓pm_3120, ↓pm_3201, ↓pm_3210, ↓o_sub, ↓o_lt, ↓o_le, ↓o_gt, ↓o_ge, ↓o_mod, ↓o_fdiv, ↓o_pow, ↓o_mul, ↓o_rep, ↓o_repT, ↓o_add, ↓o_addS, ↓o_addT, ↓o_addLL, ↓o_addLO, ↓o_addOL, ↓o_addOO, ↓o_ixT, ↓o_ixL, ↓o_ixO, ↓atS_0, ↓atS_1, ↓atS_2, ↓atS_3, ↓atS_4, ↓slc_T, ↓slc_L, ↓slc_O, ↓ext_own, ↓ext_OO, ↓lm_own, ↓append_own, ↓b_lenT, ↓b_lenL, ↓b_lenO, ↓b_lenS, ↓b_tupT, ↓b_tupL, ↓b_tupO, ↓b_lstT, ↓b_lstL, ↓b_lstO, ↓b_min2, ↓b_max2, ↓b_abs, ↓b_sumO, ↓b_sumL, ↓b_sumT, ↓b_anyO, ↓b_allO, ↓o_eqI, ↓o_neI, ↓o_eqSt, ↓o_neSt, ↓o_eqT, ↓o_neT, ↓isN_non, ↓isN_int, ↓isN_str, ↓isN_tup, ↓isN_lst, ↓nIsN_non, ↓nIsN_int, ↓nIsN_str, ↓nIsN_tup, ↓nIsN_lst, if_true, if_false, Bool.not_true, Bool.not_false, Bool.false_eq_true, decide_true, decide_false, String.reduceEq, decide_eq_true_eq, Int.toNat_natCast, List.length_map, List.length_cons, List.length_nil, sizeL, Nat.zero_add, Nat.reduceAdd, Nat.reduceLeDiff]
    by_cases z : k - 1 < 0
    · have z2 : k - 1 = -1 := by omega
      have o2 := f1 (-1) (st_gone o (by omega))
      rw [List.map_append] at o2
      rw [if_pos z, req_of (by omega), z2]
      exact o2
    · obtain ⟨c, hc⟩ : ∃ c : Nat, k - 1 = c := ⟨(k - 1).toNat, by omega⟩
      have c1 : c < ss.length := by omega
      rw [if_neg z, hc, here_count (by omega)]
      simp only [↓k_V, ↓k_C, ↓k_Op2, ↓k_Fz, ↓k_wNil, ↓k_wCons, ↓k_Tup, ↓k_Lst, ↓k_oNo, ↓k_oPart, ↓k_Sl, ↓k_sNil, ↓k_sCons, ↓k_CB, ↓k_tYes, ↓k_tTst, ↓k_tAnd, ↓k_tOr, ↓k_tNot, ↓k_If, ↓k_And, ↓k_Or, ↓k_Not, ↓k_Neg, ↓k_Chn, ↓k_Call, ↓k_Call0, ↓k_wPerm, ↓k_iItems, ↓k_iRng1, ↓k_iRng2, ↓k_iZip, ↓k_iEnum, ↓k_iEnz, ↓k_ifC, ↓k_Lrg1, ↓k_parC, ↓k_starC, ↓k_setC, ↓k_setC2, ↓k_augC, ↓k_lcb, ↓k_Lc, ↓k_forC, ↓str_lit, ↓fz_val, ↓fz_seq, ↓rr_val, ↓rr_own, ↓sv_val, ↓sv_own, ↓asI_int, ↓asB_bl, ↓items_tup, ↓items_lst, ↓un2_tup, ↓un3_tup, ↓un5_tup, ↓uq2_tup, ↓uq3_tup, ↓uq2_lst, ↓uq3_lst, ↓uq4_tup, ↓uq5_tup, ↓star_tup, ↓star_lst, ↓pr2_2, ↓zip2_tup, ↓zip2_lst, ↓enz_2, ↓rng1_int, ↓rng2_int, ↓lrg1_int, ↓req_T, ↓ret_at, ↓raise_at, ↓call_ret, ↓call0_ret, ↓call_raise, ↓pm_0, ↓pm_01, ↓pm_10, ↓pm_012, ↓pm_021, ↓pm_102, ↓pm_120, ↓pm_201, ↓pm_210, ↓pm_0123, ↓pm_0132, ↓pm_0213, ↓pm_0231, ↓pm_0312, ↓pm_0321, ↓pm_1023, ↓pm_1032, ↓pm_1203, ↓pm_1230, ↓pm_1302, ↓pm_1320, ↓pm_2013, ↓pm_2031, ↓pm_2103, ↓pm_2130, ↓pm_2301, ↓pm_2310, ↓pm_3012, ↓pm_3021, ↓pm_3102, ↓pm_3120, ↓pm_3201, ↓pm_3210, ↓o_sub, ↓o_lt, ↓o_le, ↓o_gt, ↓o_ge, ↓o_mod, ↓o_fdiv, ↓o_pow, ↓o_mul, ↓o_rep, ↓o_repT, ↓o_add, ↓o_addS, ↓o_addT, ↓o_addLL, ↓o_addLO, ↓o_addOL, ↓o_addOO, ↓o_ixT, ↓o_ixL, ↓o_ixO, ↓atS_0, ↓atS_1, ↓atS_2, ↓atS_3, ↓atS_4, ↓slc_T, ↓slc_L, ↓slc_O, ↓ext_own, ↓ext_OO, ↓lm_own, ↓append_own, ↓b_lenT, ↓b_lenL, ↓b_lenO, ↓b_lenS, ↓b_tupT, ↓b_tupL, ↓b_tupO, ↓b_lstT, ↓b_lstL, ↓b_lstO, ↓b_min2, ↓b_max2, ↓b_abs, ↓b_sumO, ↓b_sumL, ↓b_sumT, ↓b_anyO, ↓b_allO, ↓o_eqI, ↓o_neI, ↓o_eqSt, ↓o_neSt, ↓o_eqT, ↓o_neT, ↓isN_non, ↓isN_int, ↓isN_str, ↓isN_tup, ↓isN_lst, ↓nIsN_non, ↓nIsN_int, ↓nIsN_str, ↓nIsN_tup, ↓nIsN_lst, if_true, if_false, Bool.not_true, Bool.not_false, Bool.false_eq_true, decide_true, decide_false, String.reduceEq, decide_eq_true_eq, Int.toNat_natCast, List.length_map, List.length_cons, List.length_nil, sizeL, Nat.zero_add, Nat.reduceAdd, Nat.reduceLeDiff, ↓atS_ints c1, filter_count]
      by_cases y : (cu.count (c : Int) : Int) < ss.getD c 0
      · have o2 := f1 (c : Int) (st_snoc o (by omega) c1 y)
        rw [List.map_append] at o2
        rw [if_pos y, req_of (by omega)]
        exact o2
      · rw [if_neg y]
        exact f0
theorem same2L {as : List Int} (hl : as.length ≤ 100) : m__law_same 8 [.lst [.lst (as.map .int), .lst (as.map .int)], .lst [.lst (as.map .int), .lst (as.map .int)]] = ret (.val (.bl true)) :=
  same_ok 7 _ (sm_lst (by simp) fun x hx => by
    simp only [List.mem_cons, List.not_mem_nil, or_false] at hx
    rcases hx with rfl | rfl <;> exact sm_lst (by rw [List.length_map]; omega) fun y hy => by
      obtain ⟨i, _, rfl⟩ := List.mem_map.mp hy
      rfl)
theorem track_len {ss : List Int} {r : Nat} : ∀ (ds : List Dd) (p : List Int × List Int), (ds.foldl (trackStep ss r) p).2.length = p.2.length + ds.length
  | [], _ => rfl
  | d :: ds, p => by rw [List.foldl_cons, track_len ds, List.length_cons, show (trackStep ss r p d).2 = p.2 ++ [(d.beh ss p.1).getD r 0] from rfl, List.length_append, List.length_singleton]; omega
theorem law_ok {ns : List Int} (hn : ns.length ≤ 63) (h : AH) (Q : RR → AH → Prop) (E : AExc → AH → Prop) (q : ∀ h', Q (.val (.bl true)) h') : m_law [.lst (ns.map .int)] h Q E := by
  show mf_law _ h Q E
  unfold mf_law
  simp only [k_Call, k_wCons, k_wNil, k_Fz, k_V, fz_val, open_ok hn, call_ret]
  intro p hp
  simp only [k_forC, k_iRng1, k_sCons, k_sNil, k_C, rng1_int, req_at]
  refine ⟨by decide, ?_⟩
  refine for_wp (fun ws _ h' => ws.length ≤ 4 ∧ Bag ((4 - ws.length) * 1000000) h' p) (fun s h' _ => q h') (fun w ws s h' kn ⟨l, b⟩ hk => ?_) _ _ _ ⟨by rw [rngW_len]; decide, bag_new.le (by omega)⟩
  rw [List.length_cons] at l b
  generalize hm : (4 - (ws.length + 1)) * 1000000 = m at b
  have hm2 : m + 1000000 = (4 - ws.length) * 1000000 := by omega
  try simp only [↓k_V, ↓k_C, ↓k_Op2, ↓k_Fz, ↓k_wNil, ↓k_wCons, ↓k_Tup, ↓k_Lst, ↓k_oNo, ↓k_oPart, ↓k_Sl, ↓k_sNil, ↓k_sCons, ↓k_CB, ↓k_tYes, ↓k_tTst, ↓k_tAnd, ↓k_tOr, ↓k_tNot, ↓k_If, ↓k_And, ↓k_Or, ↓k_Not, ↓k_Neg, ↓k_Chn, ↓k_Call, ↓k_Call0, ↓k_wPerm, ↓k_iItems, ↓k_iRng1, ↓k_iRng2, ↓k_iZip, ↓k_iEnum, ↓k_iEnz, ↓k_ifC, ↓k_Lrg1, ↓k_parC, ↓k_starC, ↓k_setC, ↓k_setC2, ↓k_augC, ↓k_lcb, ↓k_Lc, ↓k_forC, ↓str_lit, ↓fz_val, ↓fz_seq, ↓rr_val, ↓rr_own, ↓sv_val, ↓sv_own, ↓asI_int, ↓asB_bl, ↓items_tup, ↓items_lst, ↓un2_tup, ↓un3_tup, ↓un5_tup, ↓uq2_tup, ↓uq3_tup, ↓uq2_lst, ↓uq3_lst, ↓uq4_tup, ↓uq5_tup, ↓star_tup, ↓star_lst, ↓pr2_2, ↓zip2_tup, ↓zip2_lst, ↓enz_2, ↓rng1_int, ↓rng2_int, ↓lrg1_int, ↓req_T, ↓ret_at, ↓raise_at, ↓call_ret, ↓call0_ret, ↓call_raise, ↓pm_0, ↓pm_01, ↓pm_10, ↓pm_012, ↓pm_021, ↓pm_102, ↓pm_120, ↓pm_201, ↓pm_210, ↓pm_0123, ↓pm_0132, ↓pm_0213, ↓pm_0231, ↓pm_0312, ↓pm_0321, ↓pm_1023, ↓pm_1032, ↓pm_1203, ↓pm_1230, ↓pm_1302, ↓pm_1320, ↓pm_2013, ↓pm_2031, ↓pm_2103, ↓pm_2130, ↓pm_2301, ↓pm_2310, ↓pm_3012, ↓pm_3021, ↓pm_3102, ↓pm_3120, ↓pm_3201, ↓pm_3210, ↓o_sub, ↓o_lt, ↓o_le, ↓o_gt, ↓o_ge, ↓o_mod, ↓o_fdiv, ↓o_pow, ↓o_mul, ↓o_rep, ↓o_repT, ↓o_add, ↓o_addS, ↓o_addT, ↓o_addLL, ↓o_addLO, ↓o_addOL, ↓o_addOO, ↓o_ixT, ↓o_ixL, ↓o_ixO, ↓atS_0, ↓atS_1, ↓atS_2, ↓atS_3, ↓atS_4, ↓slc_T, ↓slc_L, ↓slc_O, ↓ext_own, ↓ext_OO, ↓lm_own, ↓append_own, ↓b_lenT, ↓b_lenL, ↓b_lenO, ↓b_lenS, ↓b_tupT, ↓b_tupL, ↓b_tupO, ↓b_lstT, ↓b_lstL, ↓b_lstO, ↓b_min2, ↓b_max2, ↓b_abs, ↓b_sumO, ↓b_sumL, ↓b_sumT, ↓b_anyO, ↓b_allO, ↓o_eqI, ↓o_neI, ↓o_eqSt, ↓o_neSt, ↓o_eqT, ↓o_neT, ↓isN_non, ↓isN_int, ↓isN_str, ↓isN_tup, ↓isN_lst, ↓nIsN_non, ↓nIsN_int, ↓nIsN_str, ↓nIsN_tup, ↓nIsN_lst, if_true, if_false, Bool.not_true, Bool.not_false, Bool.false_eq_true, decide_true, decide_false, String.reduceEq, decide_eq_true_eq, Int.toNat_natCast, List.length_map, List.length_cons, List.length_nil, sizeL, Nat.zero_add, Nat.reduceAdd, Nat.reduceLeDiff]
  refine any_sizes_dr.call b (by omega) fun r h1 hr b1 _ => ?_
  obtain ⟨ss, rfl, sz⟩ := hr
  try simp only [↓k_V, ↓k_C, ↓k_Op2, ↓k_Fz, ↓k_wNil, ↓k_wCons, ↓k_Tup, ↓k_Lst, ↓k_oNo, ↓k_oPart, ↓k_Sl, ↓k_sNil, ↓k_sCons, ↓k_CB, ↓k_tYes, ↓k_tTst, ↓k_tAnd, ↓k_tOr, ↓k_tNot, ↓k_If, ↓k_And, ↓k_Or, ↓k_Not, ↓k_Neg, ↓k_Chn, ↓k_Call, ↓k_Call0, ↓k_wPerm, ↓k_iItems, ↓k_iRng1, ↓k_iRng2, ↓k_iZip, ↓k_iEnum, ↓k_iEnz, ↓k_ifC, ↓k_Lrg1, ↓k_parC, ↓k_starC, ↓k_setC, ↓k_setC2, ↓k_augC, ↓k_lcb, ↓k_Lc, ↓k_forC, ↓str_lit, ↓fz_val, ↓fz_seq, ↓rr_val, ↓rr_own, ↓sv_val, ↓sv_own, ↓asI_int, ↓asB_bl, ↓items_tup, ↓items_lst, ↓un2_tup, ↓un3_tup, ↓un5_tup, ↓uq2_tup, ↓uq3_tup, ↓uq2_lst, ↓uq3_lst, ↓uq4_tup, ↓uq5_tup, ↓star_tup, ↓star_lst, ↓pr2_2, ↓zip2_tup, ↓zip2_lst, ↓enz_2, ↓rng1_int, ↓rng2_int, ↓lrg1_int, ↓req_T, ↓ret_at, ↓raise_at, ↓call_ret, ↓call0_ret, ↓call_raise, ↓pm_0, ↓pm_01, ↓pm_10, ↓pm_012, ↓pm_021, ↓pm_102, ↓pm_120, ↓pm_201, ↓pm_210, ↓pm_0123, ↓pm_0132, ↓pm_0213, ↓pm_0231, ↓pm_0312, ↓pm_0321, ↓pm_1023, ↓pm_1032, ↓pm_1203, ↓pm_1230, ↓pm_1302, ↓pm_1320, ↓pm_2013, ↓pm_2031, ↓pm_2103, ↓pm_2130, ↓pm_2301, ↓pm_2310, ↓pm_3012, ↓pm_3021, ↓pm_3102, ↓pm_3120, ↓pm_3201, ↓pm_3210, ↓o_sub, ↓o_lt, ↓o_le, ↓o_gt, ↓o_ge, ↓o_mod, ↓o_fdiv, ↓o_pow, ↓o_mul, ↓o_rep, ↓o_repT, ↓o_add, ↓o_addS, ↓o_addT, ↓o_addLL, ↓o_addLO, ↓o_addOL, ↓o_addOO, ↓o_ixT, ↓o_ixL, ↓o_ixO, ↓atS_0, ↓atS_1, ↓atS_2, ↓atS_3, ↓atS_4, ↓slc_T, ↓slc_L, ↓slc_O, ↓ext_own, ↓ext_OO, ↓lm_own, ↓append_own, ↓b_lenT, ↓b_lenL, ↓b_lenO, ↓b_lenS, ↓b_tupT, ↓b_tupL, ↓b_tupO, ↓b_lstT, ↓b_lstL, ↓b_lstO, ↓b_min2, ↓b_max2, ↓b_abs, ↓b_sumO, ↓b_sumL, ↓b_sumT, ↓b_anyO, ↓b_allO, ↓o_eqI, ↓o_neI, ↓o_eqSt, ↓o_neSt, ↓o_eqT, ↓o_neT, ↓isN_non, ↓isN_int, ↓isN_str, ↓isN_tup, ↓isN_lst, ↓nIsN_non, ↓nIsN_int, ↓nIsN_str, ↓nIsN_tup, ↓nIsN_lst, if_true, if_false, Bool.not_true, Bool.not_false, Bool.false_eq_true, decide_true, decide_false, String.reduceEq, decide_eq_true_eq, Int.toNat_natCast, List.length_map, List.length_cons, List.length_nil, sizeL, Nat.zero_add, Nat.reduceAdd, Nat.reduceLeDiff]
  refine (law_stand_dr sz (by omega) (by omega) (by omega) (by omega)).call b1 (by omega) fun r h2 hr b2 _ => ?_
  obtain ⟨st, rfl, so, sl, _⟩ := hr
  try simp only [↓k_V, ↓k_C, ↓k_Op2, ↓k_Fz, ↓k_wNil, ↓k_wCons, ↓k_Tup, ↓k_Lst, ↓k_oNo, ↓k_oPart, ↓k_Sl, ↓k_sNil, ↓k_sCons, ↓k_CB, ↓k_tYes, ↓k_tTst, ↓k_tAnd, ↓k_tOr, ↓k_tNot, ↓k_If, ↓k_And, ↓k_Or, ↓k_Not, ↓k_Neg, ↓k_Chn, ↓k_Call, ↓k_Call0, ↓k_wPerm, ↓k_iItems, ↓k_iRng1, ↓k_iRng2, ↓k_iZip, ↓k_iEnum, ↓k_iEnz, ↓k_ifC, ↓k_Lrg1, ↓k_parC, ↓k_starC, ↓k_setC, ↓k_setC2, ↓k_augC, ↓k_lcb, ↓k_Lc, ↓k_forC, ↓str_lit, ↓fz_val, ↓fz_seq, ↓rr_val, ↓rr_own, ↓sv_val, ↓sv_own, ↓asI_int, ↓asB_bl, ↓items_tup, ↓items_lst, ↓un2_tup, ↓un3_tup, ↓un5_tup, ↓uq2_tup, ↓uq3_tup, ↓uq2_lst, ↓uq3_lst, ↓uq4_tup, ↓uq5_tup, ↓star_tup, ↓star_lst, ↓pr2_2, ↓zip2_tup, ↓zip2_lst, ↓enz_2, ↓rng1_int, ↓rng2_int, ↓lrg1_int, ↓req_T, ↓ret_at, ↓raise_at, ↓call_ret, ↓call0_ret, ↓call_raise, ↓pm_0, ↓pm_01, ↓pm_10, ↓pm_012, ↓pm_021, ↓pm_102, ↓pm_120, ↓pm_201, ↓pm_210, ↓pm_0123, ↓pm_0132, ↓pm_0213, ↓pm_0231, ↓pm_0312, ↓pm_0321, ↓pm_1023, ↓pm_1032, ↓pm_1203, ↓pm_1230, ↓pm_1302, ↓pm_1320, ↓pm_2013, ↓pm_2031, ↓pm_2103, ↓pm_2130, ↓pm_2301, ↓pm_2310, ↓pm_3012, ↓pm_3021, ↓pm_3102, ↓pm_3120, ↓pm_3201, ↓pm_3210, ↓o_sub, ↓o_lt, ↓o_le, ↓o_gt, ↓o_ge, ↓o_mod, ↓o_fdiv, ↓o_pow, ↓o_mul, ↓o_rep, ↓o_repT, ↓o_add, ↓o_addS, ↓o_addT, ↓o_addLL, ↓o_addLO, ↓o_addOL, ↓o_addOO, ↓o_ixT, ↓o_ixL, ↓o_ixO, ↓atS_0, ↓atS_1, ↓atS_2, ↓atS_3, ↓atS_4, ↓slc_T, ↓slc_L, ↓slc_O, ↓ext_own, ↓ext_OO, ↓lm_own, ↓append_own, ↓b_lenT, ↓b_lenL, ↓b_lenO, ↓b_lenS, ↓b_tupT, ↓b_tupL, ↓b_tupO, ↓b_lstT, ↓b_lstL, ↓b_lstO, ↓b_min2, ↓b_max2, ↓b_abs, ↓b_sumO, ↓b_sumL, ↓b_sumT, ↓b_anyO, ↓b_allO, ↓o_eqI, ↓o_neI, ↓o_eqSt, ↓o_neSt, ↓o_eqT, ↓o_neT, ↓isN_non, ↓isN_int, ↓isN_str, ↓isN_tup, ↓isN_lst, ↓nIsN_non, ↓nIsN_int, ↓nIsN_str, ↓nIsN_tup, ↓nIsN_lst, if_true, if_false, Bool.not_true, Bool.not_false, Bool.false_eq_true, decide_true, decide_false, String.reduceEq, decide_eq_true_eq, Int.toNat_natCast, List.length_map, List.length_cons, List.length_nil, sizeL, Nat.zero_add, Nat.reduceAdd, Nat.reduceLeDiff]
  refine (more_dr sz so (by omega) (by omega) (by omega)).call b2 (by omega) fun r h3 hr b3 _ => ?_
  obtain ⟨x1, rfl, o1⟩ := hr
  try simp only [↓k_V, ↓k_C, ↓k_Op2, ↓k_Fz, ↓k_wNil, ↓k_wCons, ↓k_Tup, ↓k_Lst, ↓k_oNo, ↓k_oPart, ↓k_Sl, ↓k_sNil, ↓k_sCons, ↓k_CB, ↓k_tYes, ↓k_tTst, ↓k_tAnd, ↓k_tOr, ↓k_tNot, ↓k_If, ↓k_And, ↓k_Or, ↓k_Not, ↓k_Neg, ↓k_Chn, ↓k_Call, ↓k_Call0, ↓k_wPerm, ↓k_iItems, ↓k_iRng1, ↓k_iRng2, ↓k_iZip, ↓k_iEnum, ↓k_iEnz, ↓k_ifC, ↓k_Lrg1, ↓k_parC, ↓k_starC, ↓k_setC, ↓k_setC2, ↓k_augC, ↓k_lcb, ↓k_Lc, ↓k_forC, ↓str_lit, ↓fz_val, ↓fz_seq, ↓rr_val, ↓rr_own, ↓sv_val, ↓sv_own, ↓asI_int, ↓asB_bl, ↓items_tup, ↓items_lst, ↓un2_tup, ↓un3_tup, ↓un5_tup, ↓uq2_tup, ↓uq3_tup, ↓uq2_lst, ↓uq3_lst, ↓uq4_tup, ↓uq5_tup, ↓star_tup, ↓star_lst, ↓pr2_2, ↓zip2_tup, ↓zip2_lst, ↓enz_2, ↓rng1_int, ↓rng2_int, ↓lrg1_int, ↓req_T, ↓ret_at, ↓raise_at, ↓call_ret, ↓call0_ret, ↓call_raise, ↓pm_0, ↓pm_01, ↓pm_10, ↓pm_012, ↓pm_021, ↓pm_102, ↓pm_120, ↓pm_201, ↓pm_210, ↓pm_0123, ↓pm_0132, ↓pm_0213, ↓pm_0231, ↓pm_0312, ↓pm_0321, ↓pm_1023, ↓pm_1032, ↓pm_1203, ↓pm_1230, ↓pm_1302, ↓pm_1320, ↓pm_2013, ↓pm_2031, ↓pm_2103, ↓pm_2130, ↓pm_2301, ↓pm_2310, ↓pm_3012, ↓pm_3021, ↓pm_3102, ↓pm_3120, ↓pm_3201, ↓pm_3210, ↓o_sub, ↓o_lt, ↓o_le, ↓o_gt, ↓o_ge, ↓o_mod, ↓o_fdiv, ↓o_pow, ↓o_mul, ↓o_rep, ↓o_repT, ↓o_add, ↓o_addS, ↓o_addT, ↓o_addLL, ↓o_addLO, ↓o_addOL, ↓o_addOO, ↓o_ixT, ↓o_ixL, ↓o_ixO, ↓atS_0, ↓atS_1, ↓atS_2, ↓atS_3, ↓atS_4, ↓slc_T, ↓slc_L, ↓slc_O, ↓ext_own, ↓ext_OO, ↓lm_own, ↓append_own, ↓b_lenT, ↓b_lenL, ↓b_lenO, ↓b_lenS, ↓b_tupT, ↓b_tupL, ↓b_tupO, ↓b_lstT, ↓b_lstL, ↓b_lstO, ↓b_min2, ↓b_max2, ↓b_abs, ↓b_sumO, ↓b_sumL, ↓b_sumT, ↓b_anyO, ↓b_allO, ↓o_eqI, ↓o_neI, ↓o_eqSt, ↓o_neSt, ↓o_eqT, ↓o_neT, ↓isN_non, ↓isN_int, ↓isN_str, ↓isN_tup, ↓isN_lst, ↓nIsN_non, ↓nIsN_int, ↓nIsN_str, ↓nIsN_tup, ↓nIsN_lst, if_true, if_false, Bool.not_true, Bool.not_false, Bool.false_eq_true, decide_true, decide_false, String.reduceEq, decide_eq_true_eq, Int.toNat_natCast, List.length_map, List.length_cons, List.length_nil, sizeL, Nat.zero_add, Nat.reduceAdd, Nat.reduceLeDiff]
  refine (more_dr sz so (by omega) (by omega) (by omega)).call b3 (by omega) fun r h4 hr b4 _ => ?_
  obtain ⟨x2, rfl, o2⟩ := hr
  try simp only [↓k_V, ↓k_C, ↓k_Op2, ↓k_Fz, ↓k_wNil, ↓k_wCons, ↓k_Tup, ↓k_Lst, ↓k_oNo, ↓k_oPart, ↓k_Sl, ↓k_sNil, ↓k_sCons, ↓k_CB, ↓k_tYes, ↓k_tTst, ↓k_tAnd, ↓k_tOr, ↓k_tNot, ↓k_If, ↓k_And, ↓k_Or, ↓k_Not, ↓k_Neg, ↓k_Chn, ↓k_Call, ↓k_Call0, ↓k_wPerm, ↓k_iItems, ↓k_iRng1, ↓k_iRng2, ↓k_iZip, ↓k_iEnum, ↓k_iEnz, ↓k_ifC, ↓k_Lrg1, ↓k_parC, ↓k_starC, ↓k_setC, ↓k_setC2, ↓k_augC, ↓k_lcb, ↓k_Lc, ↓k_forC, ↓str_lit, ↓fz_val, ↓fz_seq, ↓rr_val, ↓rr_own, ↓sv_val, ↓sv_own, ↓asI_int, ↓asB_bl, ↓items_tup, ↓items_lst, ↓un2_tup, ↓un3_tup, ↓un5_tup, ↓uq2_tup, ↓uq3_tup, ↓uq2_lst, ↓uq3_lst, ↓uq4_tup, ↓uq5_tup, ↓star_tup, ↓star_lst, ↓pr2_2, ↓zip2_tup, ↓zip2_lst, ↓enz_2, ↓rng1_int, ↓rng2_int, ↓lrg1_int, ↓req_T, ↓ret_at, ↓raise_at, ↓call_ret, ↓call0_ret, ↓call_raise, ↓pm_0, ↓pm_01, ↓pm_10, ↓pm_012, ↓pm_021, ↓pm_102, ↓pm_120, ↓pm_201, ↓pm_210, ↓pm_0123, ↓pm_0132, ↓pm_0213, ↓pm_0231, ↓pm_0312, ↓pm_0321, ↓pm_1023, ↓pm_1032, ↓pm_1203, ↓pm_1230, ↓pm_1302, ↓pm_1320, ↓pm_2013, ↓pm_2031, ↓pm_2103, ↓pm_2130, ↓pm_2301, ↓pm_2310, ↓pm_3012, ↓pm_3021, ↓pm_3102, ↓pm_3120, ↓pm_3201, ↓pm_3210, ↓o_sub, ↓o_lt, ↓o_le, ↓o_gt, ↓o_ge, ↓o_mod, ↓o_fdiv, ↓o_pow, ↓o_mul, ↓o_rep, ↓o_repT, ↓o_add, ↓o_addS, ↓o_addT, ↓o_addLL, ↓o_addLO, ↓o_addOL, ↓o_addOO, ↓o_ixT, ↓o_ixL, ↓o_ixO, ↓atS_0, ↓atS_1, ↓atS_2, ↓atS_3, ↓atS_4, ↓slc_T, ↓slc_L, ↓slc_O, ↓ext_own, ↓ext_OO, ↓lm_own, ↓append_own, ↓b_lenT, ↓b_lenL, ↓b_lenO, ↓b_lenS, ↓b_tupT, ↓b_tupL, ↓b_tupO, ↓b_lstT, ↓b_lstL, ↓b_lstO, ↓b_min2, ↓b_max2, ↓b_abs, ↓b_sumO, ↓b_sumL, ↓b_sumT, ↓b_anyO, ↓b_allO, ↓o_eqI, ↓o_neI, ↓o_eqSt, ↓o_neSt, ↓o_eqT, ↓o_neT, ↓isN_non, ↓isN_int, ↓isN_str, ↓isN_tup, ↓isN_lst, ↓nIsN_non, ↓nIsN_int, ↓nIsN_str, ↓nIsN_tup, ↓nIsN_lst, if_true, if_false, Bool.not_true, Bool.not_false, Bool.false_eq_true, decide_true, decide_false, String.reduceEq, decide_eq_true_eq, Int.toNat_natCast, List.length_map, List.length_cons, List.length_nil, sizeL, Nat.zero_add, Nat.reduceAdd, Nat.reduceLeDiff]
  refine (row_dr sz (by omega) (by omega)).call b4 (by omega) fun r h5 hr b5 _ => ?_
  obtain ⟨ds, rfl, ld, hd⟩ := hr
  have hd : ∀ d ∈ ds, d.ok ss ∧ ¬ DdTap d := fun d h => ⟨(hd d h).1, (hd d h).2 rfl⟩
  have rl : RowW (.lst (ds.map Dd.w)) ds := .inl rfl
  simp only [↓k_V, ↓k_C, ↓k_Op2, ↓k_Fz, ↓k_wNil, ↓k_wCons, ↓k_Tup, ↓k_Lst, ↓k_oNo, ↓k_oPart, ↓k_Sl, ↓k_sNil, ↓k_sCons, ↓k_CB, ↓k_tYes, ↓k_tTst, ↓k_tAnd, ↓k_tOr, ↓k_tNot, ↓k_If, ↓k_And, ↓k_Or, ↓k_Not, ↓k_Neg, ↓k_Chn, ↓k_Call, ↓k_Call0, ↓k_wPerm, ↓k_iItems, ↓k_iRng1, ↓k_iRng2, ↓k_iZip, ↓k_iEnum, ↓k_iEnz, ↓k_ifC, ↓k_Lrg1, ↓k_parC, ↓k_starC, ↓k_setC, ↓k_setC2, ↓k_augC, ↓k_lcb, ↓k_Lc, ↓k_forC, ↓str_lit, ↓fz_val, ↓fz_seq, ↓rr_val, ↓rr_own, ↓sv_val, ↓sv_own, ↓asI_int, ↓asB_bl, ↓items_tup, ↓items_lst, ↓un2_tup, ↓un3_tup, ↓un5_tup, ↓uq2_tup, ↓uq3_tup, ↓uq2_lst, ↓uq3_lst, ↓uq4_tup, ↓uq5_tup, ↓star_tup, ↓star_lst, ↓pr2_2, ↓zip2_tup, ↓zip2_lst, ↓enz_2, ↓rng1_int, ↓rng2_int, ↓lrg1_int, ↓req_T, ↓ret_at, ↓raise_at, ↓call_ret, ↓call0_ret, ↓call_raise, ↓pm_0, ↓pm_01, ↓pm_10, ↓pm_012, ↓pm_021, ↓pm_102, ↓pm_120, ↓pm_201, ↓pm_210, ↓pm_0123, ↓pm_0132, ↓pm_0213, ↓pm_0231, ↓pm_0312, ↓pm_0321, ↓pm_1023, ↓pm_1032, ↓pm_1203, ↓pm_1230, ↓pm_1302, ↓pm_1320, ↓pm_2013, ↓pm_2031, ↓pm_2103, ↓pm_2130, ↓pm_2301, ↓pm_2310, ↓pm_3012, ↓pm_3021, ↓pm_3102, ↓pm_3120, ↓pm_3201, ↓pm_3210, ↓o_sub, ↓o_lt, ↓o_le, ↓o_gt, ↓o_ge, ↓o_mod, ↓o_fdiv, ↓o_pow, ↓o_mul, ↓o_rep, ↓o_repT, ↓o_add, ↓o_addS, ↓o_addT, ↓o_addLL, ↓o_addLO, ↓o_addOL, ↓o_addOO, ↓o_ixT, ↓o_ixL, ↓o_ixO, ↓atS_0, ↓atS_1, ↓atS_2, ↓atS_3, ↓atS_4, ↓slc_T, ↓slc_L, ↓slc_O, ↓ext_own, ↓ext_OO, ↓lm_own, ↓append_own, ↓b_lenT, ↓b_lenL, ↓b_lenO, ↓b_lenS, ↓b_tupT, ↓b_tupL, ↓b_tupO, ↓b_lstT, ↓b_lstL, ↓b_lstO, ↓b_min2, ↓b_max2, ↓b_abs, ↓b_sumO, ↓b_sumL, ↓b_sumT, ↓b_anyO, ↓b_allO, ↓o_eqI, ↓o_neI, ↓o_eqSt, ↓o_neSt, ↓o_eqT, ↓o_neT, ↓isN_non, ↓isN_int, ↓isN_str, ↓isN_tup, ↓isN_lst, ↓nIsN_non, ↓nIsN_int, ↓nIsN_str, ↓nIsN_tup, ↓nIsN_lst, if_true, if_false, Bool.not_true, Bool.not_false, Bool.false_eq_true, decide_true, decide_false, String.reduceEq, decide_eq_true_eq, Int.toNat_natCast, List.length_map, List.length_cons, List.length_nil, sizeL, Nat.zero_add, Nat.reduceAdd, Nat.reduceLeDiff]
  rw [req_of (by have := so.len; omega), range_nat, for_none _ fun w hw kn2 => ?_]
  · exact hk () h5 ⟨by omega, b5.le (by omega)⟩
  · obtain ⟨r, hr, rfl⟩ := List.mem_map.mp hw
    have hr := List.mem_range.mp hr
    have r1 : r < (st ++ x1).length := by rw [List.length_append]; omega
    have r2 : r < (st ++ x2).length := by rw [List.length_append]; omega
    have nt : ∀ d ∈ ds, ¬ DdTap d := fun d m => (hd d m).2
    have tl : (track ss st r ds).length ≤ 100 := by
      have z := track_len (ss := ss) (r := r) ds (st, [st.getD r 0])
      rw [track, z]
      show 1 + _ ≤ 100
      omega
    rw [show [W.tup ((st ++ x1).map W.int), W.tup ((st ++ x2).map W.int)] = [st ++ x1, st ++ x2].map (fun l : List Int => W.tup (l.map .int)) from rfl]
    simp only [path_ok sz so rl hd (show ds.length ≤ 1000 by omega) hr, call_ret]
    rw [lc_all (fun l : List Int => W.tup (l.map .int)) (fun _ => W.lst ((track ss st r ds).map .int)) [st ++ x1, st ++ x2] (fun l hl kk => ?_) (by simp [sizeL])]
    · simp only [List.map_cons, List.map_nil, ↓k_V, ↓k_C, ↓k_Op2, ↓k_Fz, ↓k_wNil, ↓k_wCons, ↓k_Tup, ↓k_Lst, ↓k_oNo, ↓k_oPart, ↓k_Sl, ↓k_sNil, ↓k_sCons, ↓k_CB, ↓k_tYes, ↓k_tTst, ↓k_tAnd, ↓k_tOr, ↓k_tNot, ↓k_If, ↓k_And, ↓k_Or, ↓k_Not, ↓k_Neg, ↓k_Chn, ↓k_Call, ↓k_Call0, ↓k_wPerm, ↓k_iItems, ↓k_iRng1, ↓k_iRng2, ↓k_iZip, ↓k_iEnum, ↓k_iEnz, ↓k_ifC, ↓k_Lrg1, ↓k_parC, ↓k_starC, ↓k_setC, ↓k_setC2, ↓k_augC, ↓k_lcb, ↓k_Lc, ↓k_forC, ↓str_lit, ↓fz_val, ↓fz_seq, ↓rr_val, ↓rr_own, ↓sv_val, ↓sv_own, ↓asI_int, ↓asB_bl, ↓items_tup, ↓items_lst, ↓un2_tup, ↓un3_tup, ↓un5_tup, ↓uq2_tup, ↓uq3_tup, ↓uq2_lst, ↓uq3_lst, ↓uq4_tup, ↓uq5_tup, ↓star_tup, ↓star_lst, ↓pr2_2, ↓zip2_tup, ↓zip2_lst, ↓enz_2, ↓rng1_int, ↓rng2_int, ↓lrg1_int, ↓req_T, ↓ret_at, ↓raise_at, ↓call_ret, ↓call0_ret, ↓call_raise, ↓pm_0, ↓pm_01, ↓pm_10, ↓pm_012, ↓pm_021, ↓pm_102, ↓pm_120, ↓pm_201, ↓pm_210, ↓pm_0123, ↓pm_0132, ↓pm_0213, ↓pm_0231, ↓pm_0312, ↓pm_0321, ↓pm_1023, ↓pm_1032, ↓pm_1203, ↓pm_1230, ↓pm_1302, ↓pm_1320, ↓pm_2013, ↓pm_2031, ↓pm_2103, ↓pm_2130, ↓pm_2301, ↓pm_2310, ↓pm_3012, ↓pm_3021, ↓pm_3102, ↓pm_3120, ↓pm_3201, ↓pm_3210, ↓o_sub, ↓o_lt, ↓o_le, ↓o_gt, ↓o_ge, ↓o_mod, ↓o_fdiv, ↓o_pow, ↓o_mul, ↓o_rep, ↓o_repT, ↓o_add, ↓o_addS, ↓o_addT, ↓o_addLL, ↓o_addLO, ↓o_addOL, ↓o_addOO, ↓o_ixT, ↓o_ixL, ↓o_ixO, ↓atS_0, ↓atS_1, ↓atS_2, ↓atS_3, ↓atS_4, ↓slc_T, ↓slc_L, ↓slc_O, ↓ext_own, ↓ext_OO, ↓lm_own, ↓append_own, ↓b_lenT, ↓b_lenL, ↓b_lenO, ↓b_lenS, ↓b_tupT, ↓b_tupL, ↓b_tupO, ↓b_lstT, ↓b_lstL, ↓b_lstO, ↓b_min2, ↓b_max2, ↓b_abs, ↓b_sumO, ↓b_sumL, ↓b_sumT, ↓b_anyO, ↓b_allO, ↓o_eqI, ↓o_neI, ↓o_eqSt, ↓o_neSt, ↓o_eqT, ↓o_neT, ↓isN_non, ↓isN_int, ↓isN_str, ↓isN_tup, ↓isN_lst, ↓nIsN_non, ↓nIsN_int, ↓nIsN_str, ↓nIsN_tup, ↓nIsN_lst, if_true, if_false, Bool.not_true, Bool.not_false, Bool.false_eq_true, decide_true, decide_false, String.reduceEq, decide_eq_true_eq, Int.toNat_natCast, List.length_map, List.length_cons, List.length_nil, sizeL, Nat.zero_add, Nat.reduceAdd, Nat.reduceLeDiff, same2L tl]
    · simp only [List.mem_cons, List.not_mem_nil, or_false] at hl
      rcases hl with rfl | rfl
      · rw [path_ok sz o1 rl hd (by omega) r1, track_app nt hr]
        simp only [↓k_V, ↓k_C, ↓k_Op2, ↓k_Fz, ↓k_wNil, ↓k_wCons, ↓k_Tup, ↓k_Lst, ↓k_oNo, ↓k_oPart, ↓k_Sl, ↓k_sNil, ↓k_sCons, ↓k_CB, ↓k_tYes, ↓k_tTst, ↓k_tAnd, ↓k_tOr, ↓k_tNot, ↓k_If, ↓k_And, ↓k_Or, ↓k_Not, ↓k_Neg, ↓k_Chn, ↓k_Call, ↓k_Call0, ↓k_wPerm, ↓k_iItems, ↓k_iRng1, ↓k_iRng2, ↓k_iZip, ↓k_iEnum, ↓k_iEnz, ↓k_ifC, ↓k_Lrg1, ↓k_parC, ↓k_starC, ↓k_setC, ↓k_setC2, ↓k_augC, ↓k_lcb, ↓k_Lc, ↓k_forC, ↓str_lit, ↓fz_val, ↓fz_seq, ↓rr_val, ↓rr_own, ↓sv_val, ↓sv_own, ↓asI_int, ↓asB_bl, ↓items_tup, ↓items_lst, ↓un2_tup, ↓un3_tup, ↓un5_tup, ↓uq2_tup, ↓uq3_tup, ↓uq2_lst, ↓uq3_lst, ↓uq4_tup, ↓uq5_tup, ↓star_tup, ↓star_lst, ↓pr2_2, ↓zip2_tup, ↓zip2_lst, ↓enz_2, ↓rng1_int, ↓rng2_int, ↓lrg1_int, ↓req_T, ↓ret_at, ↓raise_at, ↓call_ret, ↓call0_ret, ↓call_raise, ↓pm_0, ↓pm_01, ↓pm_10, ↓pm_012, ↓pm_021, ↓pm_102, ↓pm_120, ↓pm_201, ↓pm_210, ↓pm_0123, ↓pm_0132, ↓pm_0213, ↓pm_0231, ↓pm_0312, ↓pm_0321, ↓pm_1023, ↓pm_1032, ↓pm_1203, ↓pm_1230, ↓pm_1302, ↓pm_1320, ↓pm_2013, ↓pm_2031, ↓pm_2103, ↓pm_2130, ↓pm_2301, ↓pm_2310, ↓pm_3012, ↓pm_3021, ↓pm_3102, ↓pm_3120, ↓pm_3201, ↓pm_3210, ↓o_sub, ↓o_lt, ↓o_le, ↓o_gt, ↓o_ge, ↓o_mod, ↓o_fdiv, ↓o_pow, ↓o_mul, ↓o_rep, ↓o_repT, ↓o_add, ↓o_addS, ↓o_addT, ↓o_addLL, ↓o_addLO, ↓o_addOL, ↓o_addOO, ↓o_ixT, ↓o_ixL, ↓o_ixO, ↓atS_0, ↓atS_1, ↓atS_2, ↓atS_3, ↓atS_4, ↓slc_T, ↓slc_L, ↓slc_O, ↓ext_own, ↓ext_OO, ↓lm_own, ↓append_own, ↓b_lenT, ↓b_lenL, ↓b_lenO, ↓b_lenS, ↓b_tupT, ↓b_tupL, ↓b_tupO, ↓b_lstT, ↓b_lstL, ↓b_lstO, ↓b_min2, ↓b_max2, ↓b_abs, ↓b_sumO, ↓b_sumL, ↓b_sumT, ↓b_anyO, ↓b_allO, ↓o_eqI, ↓o_neI, ↓o_eqSt, ↓o_neSt, ↓o_eqT, ↓o_neT, ↓isN_non, ↓isN_int, ↓isN_str, ↓isN_tup, ↓isN_lst, ↓nIsN_non, ↓nIsN_int, ↓nIsN_str, ↓nIsN_tup, ↓nIsN_lst, if_true, if_false, Bool.not_true, Bool.not_false, Bool.false_eq_true, decide_true, decide_false, String.reduceEq, decide_eq_true_eq, Int.toNat_natCast, List.length_map, List.length_cons, List.length_nil, sizeL, Nat.zero_add, Nat.reduceAdd, Nat.reduceLeDiff]
      · rw [path_ok sz o2 rl hd (by omega) r2, track_app nt hr]
        simp only [↓k_V, ↓k_C, ↓k_Op2, ↓k_Fz, ↓k_wNil, ↓k_wCons, ↓k_Tup, ↓k_Lst, ↓k_oNo, ↓k_oPart, ↓k_Sl, ↓k_sNil, ↓k_sCons, ↓k_CB, ↓k_tYes, ↓k_tTst, ↓k_tAnd, ↓k_tOr, ↓k_tNot, ↓k_If, ↓k_And, ↓k_Or, ↓k_Not, ↓k_Neg, ↓k_Chn, ↓k_Call, ↓k_Call0, ↓k_wPerm, ↓k_iItems, ↓k_iRng1, ↓k_iRng2, ↓k_iZip, ↓k_iEnum, ↓k_iEnz, ↓k_ifC, ↓k_Lrg1, ↓k_parC, ↓k_starC, ↓k_setC, ↓k_setC2, ↓k_augC, ↓k_lcb, ↓k_Lc, ↓k_forC, ↓str_lit, ↓fz_val, ↓fz_seq, ↓rr_val, ↓rr_own, ↓sv_val, ↓sv_own, ↓asI_int, ↓asB_bl, ↓items_tup, ↓items_lst, ↓un2_tup, ↓un3_tup, ↓un5_tup, ↓uq2_tup, ↓uq3_tup, ↓uq2_lst, ↓uq3_lst, ↓uq4_tup, ↓uq5_tup, ↓star_tup, ↓star_lst, ↓pr2_2, ↓zip2_tup, ↓zip2_lst, ↓enz_2, ↓rng1_int, ↓rng2_int, ↓lrg1_int, ↓req_T, ↓ret_at, ↓raise_at, ↓call_ret, ↓call0_ret, ↓call_raise, ↓pm_0, ↓pm_01, ↓pm_10, ↓pm_012, ↓pm_021, ↓pm_102, ↓pm_120, ↓pm_201, ↓pm_210, ↓pm_0123, ↓pm_0132, ↓pm_0213, ↓pm_0231, ↓pm_0312, ↓pm_0321, ↓pm_1023, ↓pm_1032, ↓pm_1203, ↓pm_1230, ↓pm_1302, ↓pm_1320, ↓pm_2013, ↓pm_2031, ↓pm_2103, ↓pm_2130, ↓pm_2301, ↓pm_2310, ↓pm_3012, ↓pm_3021, ↓pm_3102, ↓pm_3120, ↓pm_3201, ↓pm_3210, ↓o_sub, ↓o_lt, ↓o_le, ↓o_gt, ↓o_ge, ↓o_mod, ↓o_fdiv, ↓o_pow, ↓o_mul, ↓o_rep, ↓o_repT, ↓o_add, ↓o_addS, ↓o_addT, ↓o_addLL, ↓o_addLO, ↓o_addOL, ↓o_addOO, ↓o_ixT, ↓o_ixL, ↓o_ixO, ↓atS_0, ↓atS_1, ↓atS_2, ↓atS_3, ↓atS_4, ↓slc_T, ↓slc_L, ↓slc_O, ↓ext_own, ↓ext_OO, ↓lm_own, ↓append_own, ↓b_lenT, ↓b_lenL, ↓b_lenO, ↓b_lenS, ↓b_tupT, ↓b_tupL, ↓b_tupO, ↓b_lstT, ↓b_lstL, ↓b_lstO, ↓b_min2, ↓b_max2, ↓b_abs, ↓b_sumO, ↓b_sumL, ↓b_sumT, ↓b_anyO, ↓b_allO, ↓o_eqI, ↓o_neI, ↓o_eqSt, ↓o_neSt, ↓o_eqT, ↓o_neT, ↓isN_non, ↓isN_int, ↓isN_str, ↓isN_tup, ↓isN_lst, ↓nIsN_non, ↓nIsN_int, ↓nIsN_str, ↓nIsN_tup, ↓nIsN_lst, if_true, if_false, Bool.not_true, Bool.not_false, Bool.false_eq_true, decide_true, decide_false, String.reduceEq, decide_eq_true_eq, Int.toNat_natCast, List.length_map, List.length_cons, List.length_nil, sizeL, Nat.zero_add, Nat.reduceAdd, Nat.reduceLeDiff]
theorem law_says : ∀ ns : List Int, ns.length ≤ 63 → upc m_law [W.lst (ns.map .int)] (fun _ => none) (fun r _ => r = .val (.bl true)) fun _ _ => False := fun ns h => ⟨_, _, fun _ _ z => z, fun _ _ z => z, law_ok h _ _ _ fun _ => rfl⟩
end Ab
namespace Ab
open PySem PySem.Spec PyProof.Rows L2 RZ
def t_look_sizes (E : AExc → AEnv → AH → Prop) : ATS :=
  (aSeq (aIf (aNotT (aTst (aChn (fun i j => decide (i ≤ j)) (fun i j => decide (i ≤ j)) (aC (.int 1)) (aCB oLen (rCons (aVar 0) rNil)) (aC (.int 6))))) aNever aNext) (aFor (iEn (aFz (aVar 0))) (gTp 2 (gsCons (gNm 1) (gsCons (gNm 2) gsNil))) (aIf (aNotT (aTst (aChn (fun i j => decide (i ≤ j)) (fun i j => decide (i ≤ j)) (aC (.int 1)) (aVar 2) (aC (.int 40))))) aNever aNext)))
def t_look_stand (E : AExc → AEnv → AH → Prop) : ATS :=
  (aSeq (aDrop (aCall E (upc m_look_sizes) (aCons (aFz (aVar 0)) aNil))) (aSeq (aIf (aTst (aOp2 oGt (aCB oLen (rCons (aVar 1) rNil)) (aC (.int 60)))) aNever aNext) (aSeq (aSet 2 (aOp2 oMulT (aLst (aCons (aFz (aC (.int 0))) aNil)) (aCB oLen (rCons (aVar 0) rNil)))) (aFor (iEn (aFz (aVar 1))) (gTp 2 (gsCons (gNm 3) (gsCons (gNm 4) gsNil))) (aSeq (aIf (aNotT (aTst (aChn (fun i j => decide (i ≤ j)) (fun i j => decide (i < j)) (aC (.int (-1))) (aVar 4) (aCB oLen (rCons (aVar 0) rNil))))) aNever aNext) (aIf (aTst (aOp2 (oEq true) (aVar 4) (aC (.int (-1))))) (aSeq (aAugS (fun i j => i + j) (aVar 2) (aVar 4) (aC (.int 1))) (aIf (aTst (aOp2 oGt (aOp2 oIx (aVar 2) (aVar 4)) (aOp2 oIx (aVar 0) (aVar 4)))) aNever aNext)) aNext))))))
def t_has_count (E : AExc → AEnv → AH → Prop) : ATS :=
  (aRet (aIfE (aTst (aOp2 (oInL false) (aVar 0) (aC (.tup [.str ("over" : Str), .str ("down" : Str)])))) (aChn (fun i j => decide (i ≤ j)) (fun i j => decide (i ≤ j)) (aC (.int 4)) (aVar 1) (aOp2 oAdd (aC (.int 2)) (aVar 2))) (aOp2 (oEq false) (aVar 1) (aC (.int 3)))))
def t_first_bad (E : AExc → AEnv → AH → Prop) : ATS :=
  (aSeq (aFor (iEn (aFz (aVar 0))) (gTp 2 (gsCons (gNm 3) (gsCons (gNm 4) gsNil))) (aIf (aOrT (aNotT (aTst (aChn (fun i j => decide (i ≤ j)) (fun i j => decide (i < j)) (aC (.int 0)) (aVar 4) (aVar 2)))) (aTst (aOp2 (oInL false) (aVar 4) (aSl (aVar 0) aNoPart (aPart (aVar 3)))))) (aRet (aOp2 oAdd (aVar 1) (aVar 3))) aNext)) (aRet (aC .non)))
def t_fault_of (E : AExc → AEnv → AH → Prop) : ATS :=
  (aSeq (aIf (aOrT (aTst (aOp2 (oEq false) (aCB oLen (rCons (aVar 1) rNil)) (aC (.int 0)))) (aTst (aOp2 (oInL true) (aOp2 oIx (aVar 1) (aC (.int 0))) (aOp2 oAdd (aC (.tup [.str ("over" : Str), .str ("down" : Str)])) (aC (.tup [.str ("swap" : Str), .str ("tap" : Str), .str ("drain" : Str)])))))) (aRet (aC (.int 0))) aNext) (aSeq (aIf (aNotT (aTst (aCall E (upc m_has_count) (aCons (aFz (aOp2 oIx (aVar 1) (aC (.int 0)))) (aCons (aFz (aCB oLen (rCons (aVar 1) rNil))) (aCons (aFz (aCB oLen (rCons (aVar 0) rNil))) aNil)))))) (aRet (aNeg (aC (.int 1)))) aNext) (aSeq (aStar 2 3 (aFz (aVar 1))) (aSeq (aIf (aTst (aOp2 (oEq false) (aVar 2) (aC (.str ("swap" : Str))))) (aSeq (aFrz 3 (aAsg (aFz (aCall E (upc m_first_bad) (aCons (aFz (aVar 3)) (aCons (aFz (aC (.int 1))) (aCons (aFz (aCB oLen (rCons (aVar 0) rNil))) aNil))))) (gNm 4))) (aSeq (aIf (aTst (aOp2 (oIsN true) (aVar 4) (aC .non))) (aRet (aVar 4)) aNext) (aRet (aIfE (aTst (aOp2 (oEq false) (aOp2 oIx (aVar 0) (aOp2 oIx (aVar 3) (aC (.int 0)))) (aOp2 oIx (aVar 0) (aOp2 oIx (aVar 3) (aC (.int 1)))))) (aC .non) (aC (.int 2)))))) aNext) (aSeq (aFrz 3 (aStar 5 6 (aFz (aVar 3)))) (aSeq (aIf (aNotT (aTst (aChn (fun i j => decide (i ≤ j)) (fun i j => decide (i < j)) (aC (.int 0)) (aVar 5) (aC (.int 1000000000000000000000000000000))))) (aRet (aC (.int 1))) aNext) (aFrz 6 (aRet (aCall E (upc m_first_bad) (aCons (aFz (aVar 6)) (aCons (aFz (aC (.int 2))) (aCons (aFz (aCB oLen (rCons (aVar 0) rNil))) aNil))))))))))))
def t_look_row (E : AExc → AEnv → AH → Prop) : ATS :=
  (aSeq (aDrop (aCall E (upc m_look_sizes) (aCons (aFz (aVar 0)) aNil))) (aFor (iEn (aFz (aVar 1))) (gTp 2 (gsCons (gNm 2) (gsCons (gNm 3) gsNil))) (aSeq (aAsg (aFz (aCall E (upc m_fault_of) (aCons (aFz (aVar 0)) (aCons (aFz (aVar 3)) aNil)))) (gNm 4)) (aIf (aTst (aOp2 (oIsN true) (aVar 4) (aC .non))) aNever aNext))))
def t_ranks_in (E : AExc → AEnv → AH → Prop) : ATS :=
  (aRet (aLc [2, 3] (iEn (aFz (aVar 0))) (gTp 2 (gsCons (gNm 2) (gsCons (gNm 3) gsNil))) (aTst (aOp2 (oEq false) (aVar 3) (aVar 1))) (aFz (aVar 2))))
def t_moved (E : AExc → AEnv → AH → Prop) : ATS :=
  (aRet (aCB oTupC (rCons (aLc [3, 4] (iEn (aFz (aVar 0))) (gTp 2 (gsCons (gNm 3) (gsCons (gNm 4) gsNil))) aYes (aFz (aIfE (aTst (aOp2 (oInL false) (aVar 3) (aVar 1))) (aVar 2) (aVar 4)))) rNil)))
def t_led (E : AExc → AEnv → AH → Prop) : ATS :=
  (aSeq (aStar 4 5 (aFz (aVar 3))) (aSeq (aFrz 5 (aFor (iSq (aFz (aVar 5))) (gNm 6) (aSeq (aAsg (aFz (aCall E (upc m_moved) (aCons (aFz (aVar 1)) (aCons (aFz (aVar 2)) (aCons (aFz (aVar 6)) aNil))))) (gNm 1)) (aAsg (aFz (aSl (aCall E (upc m_ranks_in) (aCons (aFz (aVar 1)) (aCons (aFz (aVar 6)) aNil))) (aPart (aOp2 oIx (aVar 0) (aVar 6))) aNoPart)) (gNm 2))))) (aRet (aCall E (upc m_moved) (aCons (aFz (aVar 1)) (aCons (aFz (aVar 2)) (aCons (aFz (aVar 4)) aNil)))))))
def t_tapped (E : AExc → AEnv → AH → Prop) : ATS :=
  (aSeq (aAsg (aFz (aCB oMin2 (rCons (aVar 2) (rCons (aOp2 oSub (aOp2 oIx (aVar 0) (aVar 3)) (aCB oLen (rCons (aCall E (upc m_ranks_in) (aCons (aFz (aVar 1)) (aCons (aFz (aVar 3)) aNil))) rNil))) rNil)))) (gNm 4)) (aSeq (aIf (aTst (aOp2 oGt (aOp2 oAdd (aCB oLen (rCons (aVar 1) rNil)) (aVar 4)) (aC (.int 60)))) aNever aNext) (aRet (aOp2 oAdd (aVar 1) (aOp2 oMulT (aTup (aCons (aFz (aVar 3)) aNil)) (aVar 4))))))
def t_behind_deed (E : AExc → AEnv → AH → Prop) : ATS :=
  (aSeq (aStar 3 4 (aFz (aVar 2))) (aSeq (aIf (aTst (aOp2 (oEq false) (aVar 3) (aC (.str ("swap" : Str))))) (aSeq (aFrz 4 (aAsg (aFz (aVar 4)) (gUn 2 (gsCons (gNm 5) (gsCons (gNm 6) gsNil))))) (aRet (aCB oTupC (rCons (aLc [7] (iSq (aFz (aVar 1))) (gNm 7) aYes (aFz (aIfE (aTst (aOp2 (oEq false) (aVar 7) (aVar 5))) (aVar 6) (aIfE (aTst (aOp2 (oEq false) (aVar 7) (aVar 6))) (aVar 5) (aVar 7))))) rNil)))) aNext) (aSeq (aFrz 4 (aStar 8 9 (aFz (aVar 4)))) (aSeq (aAsg (aFz (aCall E (upc m_ranks_in) (aCons (aFz (aVar 1)) (aCons (aFz (aOp2 oIx (aVar 9) (aC (.int 0)))) aNil)))) (gNm 10)) (aSeq (aIf (aTst (aOp2 (oEq false) (aVar 3) (aC (.str ("over" : Str))))) (aFrz 9 (aRet (aCall E (upc m_led) (aCons (aFz (aVar 0)) (aCons (aFz (aVar 1)) (aCons (aFz (aSl (aVar 10) aNoPart (aPart (aVar 8)))) (aCons (aFz (aVar 9)) aNil))))))) aNext) (aSeq (aIf (aTst (aOp2 (oEq false) (aVar 3) (aC (.str ("down" : Str))))) (aFrz 9 (aRet (aCall E (upc m_led) (aCons (aFz (aVar 0)) (aCons (aFz (aVar 1)) (aCons (aFz (aSl (aVar 10) (aPart (aVar 8)) aNoPart)) (aCons (aFz (aVar 9)) aNil))))))) aNext) (aSeq (aIf (aTst (aOp2 (oEq false) (aVar 3) (aC (.str ("tap" : Str))))) (aRet (aCall E (upc m_tapped) (aCons (aFz (aVar 0)) (aCons (aFz (aVar 1)) (aCons (aFz (aVar 8)) (aCons (aFz (aOp2 oIx (aVar 9) (aC (.int 0)))) aNil)))))) aNext) (aRet (aCall E (upc m_moved) (aCons (aFz (aVar 1)) (aCons (aFz (aSl (aVar 10) aNoPart (aPart (aVar 8)))) (aCons (aFz (aC (.int (-1)))) aNil))))))))))))
def t_path (E : AExc → AEnv → AH → Prop) : ATS :=
  (aSeq (aDrop (aCall E (upc m_look_stand) (aCons (aFz (aVar 0)) (aCons (aFz (aVar 1)) aNil)))) (aSeq (aDrop (aCall E (upc m_look_row) (aCons (aFz (aVar 0)) (aCons (aFz (aVar 2)) aNil)))) (aSeq (aIf (aNotT (aTst (aChn (fun i j => decide (i ≤ j)) (fun i j => decide (i < j)) (aC (.int 0)) (aVar 3) (aCB oLen (rCons (aVar 1) rNil))))) aNever aNext) (aSeq (aSet 4 (aLst (aCons (aFz (aOp2 oIx (aVar 1) (aVar 3))) aNil))) (aSeq (aFor (iSq (aFz (aVar 2))) (gNm 5) (aSeq (aAsg (aFz (aCall E (upc m_behind_deed) (aCons (aFz (aVar 0)) (aCons (aFz (aVar 1)) (aCons (aFz (aVar 5)) aNil))))) (gNm 1)) (aDrop (aLm fAppend (aVar 4) (aCons (aFz (aOp2 oIx (aVar 1) (aVar 3))) aNil))))) (aRet (aVar 4)))))))
def t__law_open (E : AExc → AEnv → AH → Prop) : ATS :=
  (aRet (aLst (aCons (aFz (aCB oLstC (rCons (aSl (aVar 0) aNoPart (aPart (aC (.int 63)))) rNil))) (aCons (aFz (aC (.int 0))) (aCons (aFz (aC (.int 0))) (aCons (aFz (aC (.int 9465))) (aCons (aFz (aC (.int 0))) aNil)))))))
def t__law_take (E : AExc → AEnv → AH → Prop) : ATS :=
  (aSeq (aIf (aAndT (aTst (aOp2 oLt (aOp2 oIx (aVar 0) (aC (.int 2))) (aVar 1))) (aTst (aOp2 oLt (aOp2 oIx (aVar 0) (aC (.int 1))) (aCB oLen (rCons (aOp2 oIx (aVar 0) (aC (.int 0))) rNil))))) (aSeq (aAsg (aFz (aOp2 oIx (aOp2 oIx (aVar 0) (aC (.int 0))) (aOp2 oIx (aVar 0) (aC (.int 1))))) (gNm 2)) (aSeq (aAsg (aFz (aOp2 oAdd (aOp2 oIx (aVar 0) (aC (.int 1))) (aC (.int 1)))) (gSet (aVar 0) (aC (.int 1)))) (aSeq (aAsg (aFz (aC (.int 0))) (gSet (aVar 0) (aC (.int 2)))) (aIf (aTst (aOp2 oGe (aVar 2) (aOp2 oPow (aC (.int 10)) (aC (.int 18))))) (aAsg (aFz (aVar 2)) (gSet (aVar 0) (aC (.int 2)))) (aAsg (aFz (aOp2 oMod (aOp2 oAdd (aOp2 oAdd (aOp2 oMulT (aOp2 oIx (aVar 0) (aC (.int 3))) (aC (.int 48271))) (aOp2 oMulT (aOp2 oMod (aVar 2) (aC (.int 2147483629))) (aC (.int 69621)))) (aC (.int 12345))) (aC (.int 2147483647)))) (gSet (aVar 0) (aC (.int 3)))))))) aNext) (aSeq (aIf (aTst (aOp2 oGe (aOp2 oIx (aVar 0) (aC (.int 2))) (aVar 1))) (aSeq (aAsg (aFz (aOp2 oMod (aOp2 oIx (aVar 0) (aC (.int 2))) (aVar 1))) (gNm 3)) (aSeq (aAsg (aFz (aOp2 oFdiv (aOp2 oIx (aVar 0) (aC (.int 2))) (aVar 1))) (gSet (aVar 0) (aC (.int 2)))) (aRet (aVar 3)))) aNext) (aSeq (aAsg (aFz (aOp2 oAdd (aOp2 oIx (aVar 0) (aC (.int 4))) (aC (.int 1)))) (gSet (aVar 0) (aC (.int 4)))) (aSeq (aAsg (aFz (aOp2 oIx (aVar 0) (aC (.int 3)))) (gNm 4)) (aSeq (aAsg (aFz (aOp2 oMod (aOp2 oAdd (aOp2 oAdd (aOp2 oAdd (aOp2 oMulT (aOp2 oMod (aOp2 oMulT (aVar 4) (aVar 4)) (aC (.int 2147483629))) (aC (.int 5))) (aOp2 oMulT (aVar 4) (aC (.int 16811)))) (aOp2 oMulT (aC (.int 7919)) (aOp2 oIx (aVar 0) (aC (.int 4))))) (aC (.int 2531011))) (aC (.int 2147483647)))) (gSet (aVar 0) (aC (.int 3)))) (aRet (aOp2 oMod (aOp2 oAdd (aOp2 oFdiv (aOp2 oIx (aVar 0) (aC (.int 3))) (aC (.int 61))) (aOp2 oMulT (aOp2 oMod (aOp2 oIx (aVar 0) (aC (.int 3))) (aC (.int 8191))) (aC (.int 31)))) (aVar 1))))))))
def t__law_pick (E : AExc → AEnv → AH → Prop) : ATS :=
  (aRet (aOp2 oIx (aVar 1) (aCall E (upc m__law_take) (aCons (aFz (aVar 0)) (aCons (aFz (aCB oLen (rCons (aVar 1) rNil))) aNil)))))
def t__law_same (d : Nat) (E : AExc → AEnv → AH → Prop) : ATS :=
  (aSeq (aIf (aTst (aOp2 (oIsN false) (aVar 1) (aC .non))) (aRet (aOp2 (oIsN false) (aVar 0) (aC .non))) aNext) (aSeq (aIf (aTst (aCB oIsi (rCons (aVar 1) (rCons (aC (.ty "bool")) rNil)))) (aRet (aAndV (aCB oIsi (rCons (aVar 0) (rCons (aC (.ty "bool")) rNil))) (aOp2 (oEq false) (aVar 0) (aVar 1)))) aNext) (aSeq (aIf (aTst (aCB oIsi (rCons (aVar 1) (rCons (aC (.ty "int")) rNil)))) (aRet (aAndV (aCB oIsi (rCons (aVar 0) (rCons (aC (.ty "int")) rNil))) (aAndV (aNotV (aCB oIsi (rCons (aVar 0) (rCons (aC (.ty "bool")) rNil)))) (aOp2 (oEq false) (aVar 0) (aVar 1))))) aNext) (aSeq (aIf (aTst (aCB oIsi (rCons (aVar 1) (rCons (aC (.ty "str")) rNil)))) (aRet (aAndV (aCB oIsi (rCons (aVar 0) (rCons (aC (.ty "str")) rNil))) (aOp2 (oEq false) (aVar 0) (aVar 1)))) aNext) (aSeq (aIf (aOrT (aTst (aOp2 (oEq true) (aCB oIsi (rCons (aVar 1) (rCons (aC (.ty "tuple")) rNil))) (aCB oIsi (rCons (aVar 0) (rCons (aC (.ty "tuple")) rNil))))) (aTst (aOp2 (oEq true) (aCB oIsi (rCons (aVar 1) (rCons (aC (.ty "list")) rNil))) (aCB oIsi (rCons (aVar 0) (rCons (aC (.ty "list")) rNil)))))) (aRet (aC (.bl false))) aNext) (aSeq (aIf (aTst (aOp2 (oEq true) (aCB oLen (rCons (aVar 0) rNil)) (aCB oLen (rCons (aVar 1) rNil)))) (aRet (aC (.bl false))) aNext) (aRet (aCB oAll (rCons (aLc [2] (iRg1 (rCons (aCB oLen (rCons (aVar 1) rNil)) rNil)) (gNm 2) aYes (aFz (aCall E0 (upc (m__law_same d)) (aCons (aFz (aOp2 oIx (aVar 0) (aVar 2))) (aCons (aFz (aOp2 oIx (aVar 1) (aVar 2))) aNil))))) rNil)))))))))
def t__law_sizes (E : AExc → AEnv → AH → Prop) : ATS :=
  (aRet (aCB oTupC (rCons (aLc [3] (iRg1 (rCons (aOp2 oAdd (aC (.int 1)) (aCall E (upc m__law_take) (aCons (aFz (aVar 0)) (aCons (aFz (aVar 1)) aNil)))) rNil)) (gNm 3) aYes (aFz (aOp2 oAdd (aC (.int 1)) (aCall E0 (upc m__law_take) (aCons (aFz (aVar 0)) (aCons (aFz (aVar 2)) aNil)))))) rNil)))
def t__law_any_sizes (E : AExc → AEnv → AH → Prop) : ATS :=
  (aRet (aCall E (upc m__law_sizes) (aCons (aFz (aVar 0)) (aCons (aFz (aC (.int 6))) (aCons (aFz (aCall E (upc m__law_pick) (aCons (aFz (aVar 0)) (aCons (aFz (aLst (aCons (aFz (aC (.int 40))) (aCons (aFz (aC (.int 9))) (aCons (aFz (aC (.int 4))) (aCons (aFz (aC (.int 2))) aNil)))))) aNil)))) aNil)))))
def t__law_stand (E : AExc → AEnv → AH → Prop) : ATS :=
  (aSeq (aAsg (aFz (aTup aNil)) (gNm 4)) (aSeq (aSet 5 (aOp2 oMulT (aLst (aCons (aFz (aC (.int 0))) aNil)) (aCB oLen (rCons (aVar 1) rNil)))) (aSeq (aFor (iRg1 (rCons (aCall E (upc m__law_take) (aCons (aFz (aVar 0)) (aCons (aFz (aOp2 oAdd (aVar 2) (aC (.int 1)))) aNil))) rNil)) (gNm 6) (aSeq (aAsg (aFz (aOp2 oSub (aCall E (upc m__law_take) (aCons (aFz (aVar 0)) (aCons (aFz (aOp2 oAdd (aCB oLen (rCons (aVar 1) rNil)) (aVar 3))) aNil))) (aVar 3))) (gNm 7)) (aIf (aTst (aOp2 oLt (aVar 7) (aC (.int 0)))) (aAsg (aFz (aOp2 oAdd (aVar 4) (aTup (aCons (aFz (aNeg (aC (.int 1)))) aNil)))) (gNm 4)) (aIf (aTst (aOp2 oLt (aOp2 oIx (aVar 5) (aVar 7)) (aOp2 oIx (aVar 1) (aVar 7)))) (aSeq (aAsg (aFz (aOp2 oAdd (aOp2 oIx (aVar 5) (aVar 7)) (aC (.int 1)))) (gSet (aVar 5) (aVar 7))) (aAsg (aFz (aOp2 oAdd (aVar 4) (aTup (aCons (aFz (aVar 7)) aNil)))) (gNm 4))) aNext)))) (aRet (aVar 4)))))
def t__law_number (E : AExc → AEnv → AH → Prop) : ATS :=
  (aSeq (aAsg (aFz (aLst (aCons (aFz (aC (.int 0))) (aCons (aFz (aC (.int 1))) (aCons (aFz (aC (.int 2))) (aCons (aFz (aC (.int 3))) (aCons (aFz (aOp2 oAdd (aC (.int 1)) (aCall E (upc m__law_take) (aCons (aFz (aVar 0)) (aCons (aFz (aC (.int 9))) aNil))))) (aCons (aFz (aCall E (upc m__law_take) (aCons (aFz (aVar 0)) (aCons (aFz (aC (.int 45))) aNil)))) (aCons (aFz (aOp2 oSub (aOp2 oPow (aC (.int 10)) (aC (.int 30))) (aC (.int 1)))) (aCons (aFz (aCall E (upc m__law_take) (aCons (aFz (aVar 0)) (aCons (aFz (aOp2 oPow (aC (.int 10)) (aC (.int 30)))) aNil)))) aNil)))))))))) (gNm 1)) (aRet (aCall E (upc m__law_pick) (aCons (aFz (aVar 0)) (aCons (aFz (aVar 1)) aNil)))))
def t__law_shuffled (E : AExc → AEnv → AH → Prop) : ATS :=
  (aSeq (aSet 2 (aCB oLstC (rCons (aVar 1) rNil))) (aRet (aLc [3] (iSq (aFz (aVar 1))) (gNm 3) aYes (aFz (aLm fPopAt (aVar 2) (aCons (aFz (aCall E0 (upc m__law_take) (aCons (aFz (aVar 0)) (aCons (aFz (aCB oLen (rCons (aVar 2) rNil))) aNil)))) aNil))))))
def t__law_some_casks (E : AExc → AEnv → AH → Prop) : ATS :=
  (aRet (aCB oTupC (rCons (aSl (aCall E (upc m__law_shuffled) (aCons (aFz (aVar 0)) (aCons (aFz (aLRg1 (aVar 1))) aNil))) aNoPart (aPart (aVar 2))) rNil)))
def t__law_alike (E : AExc → AEnv → AH → Prop) : ATS :=
  (aSeq (aSet 1 (aLst aNil)) (aSeq (aFor (iRg1 (rCons (aCB oLen (rCons (aVar 0) rNil)) rNil)) (gNm 2) (aSeq (aSetLc 3 (aLc [4] (iRg1 (rCons (aCB oLen (rCons (aVar 0) rNil)) rNil)) (gNm 4) (aAndT (aTst (aOp2 (oEq true) (aVar 4) (aVar 2))) (aTst (aOp2 (oEq false) (aOp2 oIx (aVar 0) (aVar 4)) (aOp2 oIx (aVar 0) (aVar 2))))) (aFz (aVar 4)))) (aFrz 3 (aDrop (aExt (aVar 1) (aLc [4] (iSq (aFz (aVar 3))) (gNm 4) aYes (aFz (aTup (aCons (aFz (aVar 2)) (aCons (aFz (aVar 4)) aNil)))))))))) (aRet (aVar 1))))
def t__law_deed (E : AExc → AEnv → AH → Prop) : ATS :=
  (aSeq (aAsg (aFz (aCall E (upc m__law_take) (aCons (aFz (aVar 0)) (aCons (aFz (aC (.int 12))) aNil)))) (gNm 4)) (aSeq (aAsg (aFz (aCall E (upc m__law_alike) (aCons (aFz (aVar 1)) aNil))) (gNm 5)) (aSeq (aIf (aAndT (aTst (aOp2 (oEq false) (aVar 4) (aC (.int 0)))) (aTst (aOp2 (oEq true) (aVar 5) (aLst aNil)))) (aRet (aOp2 oAdd (aTup (aCons (aFz (aC (.str ("swap" : Str)))) aNil)) (aCall E (upc m__law_pick) (aCons (aFz (aVar 0)) (aCons (aFz (aVar 5)) aNil))))) aNext) (aSeq (aIf (aAndT (aTst (aOp2 oLt (aVar 4) (aC (.int 3)))) (aTst (aVar 3))) (aRet (aTup (aCons (aFz (aC (.str ("tap" : Str)))) (aCons (aFz (aCall E (upc m__law_pick) (aCons (aFz (aVar 0)) (aCons (aFz (aLst (aCons (aFz (aC (.int 1))) (aCons (aFz (aC (.int 1))) (aCons (aFz (aC (.int 2))) (aCons (aFz (aC (.int 3))) (aCons (aFz (aVar 2)) aNil))))))) aNil)))) (aCons (aFz (aCall E (upc m__law_take) (aCons (aFz (aVar 0)) (aCons (aFz (aCB oLen (rCons (aVar 1) rNil))) aNil)))) aNil))))) aNext) (aSeq (aIf (aOrT (aTst (aOp2 (oEq false) (aVar 4) (aC (.int 3)))) (aTst (aOp2 (oEq false) (aCB oLen (rCons (aVar 1) rNil)) (aC (.int 1))))) (aRet (aTup (aCons (aFz (aC (.str ("drain" : Str)))) (aCons (aFz (aVar 2)) (aCons (aFz (aCall E (upc m__law_take) (aCons (aFz (aVar 0)) (aCons (aFz (aCB oLen (rCons (aVar 1) rNil))) aNil)))) aNil))))) aNext) (aSeq (aAsg (aFz (aOp2 oAdd (aC (.int 2)) (aCall E (upc m__law_take) (aCons (aFz (aVar 0)) (aCons (aFz (aOp2 oSub (aCB oLen (rCons (aVar 1) rNil)) (aC (.int 1)))) aNil))))) (gNm 6)) (aSeq (aAsg (aFz (aOp2 oIx (aLst (aCons (aFz (aC (.str ("over" : Str)))) (aCons (aFz (aC (.str ("down" : Str)))) aNil))) (aOp2 oFdiv (aCall E (upc m__law_take) (aCons (aFz (aVar 0)) (aCons (aFz (aC (.int 3))) aNil))) (aC (.int 2))))) (gNm 7)) (aRet (aOp2 oAdd (aTup (aCons (aFz (aVar 7)) (aCons (aFz (aVar 2)) aNil))) (aCall E (upc m__law_some_casks) (aCons (aFz (aVar 0)) (aCons (aFz (aCB oLen (rCons (aVar 1) rNil))) (aCons (aFz (aVar 6)) aNil)))))))))))))
def t__law_row (E : AExc → AEnv → AH → Prop) : ATS :=
  (aRet (aLc [4] (iRg1 (rCons (aCall E (upc m__law_take) (aCons (aFz (aVar 0)) (aCons (aFz (aOp2 oAdd (aVar 2) (aC (.int 1)))) aNil))) rNil)) (gNm 4) aYes (aFz (aCall E0 (upc m__law_deed) (aCons (aFz (aVar 0)) (aCons (aFz (aVar 1)) (aCons (aFz (aCall E0 (upc m__law_number) (aCons (aFz (aVar 0)) aNil))) (aCons (aFz (aVar 3)) aNil))))))))
def t__law_more (E : AExc → AEnv → AH → Prop) : ATS :=
  (aSeq (aAsg (aFz (aVar 2)) (gNm 4)) (aSeq (aFor (iRg1 (rCons (aCall E (upc m__law_take) (aCons (aFz (aVar 0)) (aCons (aFz (aOp2 oAdd (aVar 3) (aC (.int 1)))) aNil))) rNil)) (gNm 5) (aSeq (aAsg (aFz (aOp2 oSub (aCall E (upc m__law_take) (aCons (aFz (aVar 0)) (aCons (aFz (aOp2 oAdd (aCB oLen (rCons (aVar 1) rNil)) (aC (.int 1)))) aNil))) (aC (.int 1)))) (gNm 6)) (aIf (aOrT (aTst (aOp2 oLt (aVar 6) (aC (.int 0)))) (aTst (aOp2 oLt (aCB oLen (rCons (aLc [7] (iSq (aFz (aVar 4))) (gNm 7) (aTst (aOp2 (oEq false) (aVar 7) (aVar 6))) (aFz (aVar 7))) rNil)) (aOp2 oIx (aVar 1) (aVar 6))))) (aAsg (aFz (aOp2 oAdd (aVar 4) (aTup (aCons (aFz (aVar 6)) aNil)))) (gNm 4)) aNext))) (aRet (aVar 4))))
def t_law (E : AExc → AEnv → AH → Prop) : ATS :=
  (aSeq (aSet 1 (aCall E (upc m__law_open) (aCons (aFz (aVar 0)) aNil))) (aSeq (aProm 1 (aFor (iRg1 (rCons (aC (.int 2)) rNil)) (gNm 2) (aSeq (aAsg (aFz (aCall E (upc m__law_any_sizes) (aCons (aFz (aVar 1)) aNil))) (gNm 3)) (aSeq (aAsg (aFz (aCall E (upc m__law_stand) (aCons (aFz (aVar 1)) (aCons (aFz (aVar 3)) (aCons (aFz (aC (.int 20))) (aCons (aFz (aC (.int 1))) aNil)))))) (gNm 4)) (aSeq (aPar 5 6 (aCons (aFz (aCall E (upc m__law_more) (aCons (aFz (aVar 1)) (aCons (aFz (aVar 3)) (aCons (aFz (aVar 4)) (aCons (aFz (aC (.int 20))) aNil)))))) (aCons (aFz (aCall E (upc m__law_more) (aCons (aFz (aVar 1)) (aCons (aFz (aVar 3)) (aCons (aFz (aVar 4)) (aCons (aFz (aC (.int 20))) aNil)))))) aNil))) (aSeq (aAsg (aFz (aCall E (upc m__law_row) (aCons (aFz (aVar 1)) (aCons (aFz (aVar 3)) (aCons (aFz (aC (.int 8))) (aCons (aFz (aC (.bl false))) aNil)))))) (gNm 7)) (aFor (iRg1 (rCons (aCB oLen (rCons (aVar 4) rNil)) rNil)) (gNm 8) (aSeq (aAsg (aFz (aCall E (upc m_path) (aCons (aFz (aVar 3)) (aCons (aFz (aVar 4)) (aCons (aFz (aVar 7)) (aCons (aFz (aVar 8)) aNil)))))) (gNm 9)) (aIf (aNotT (aTst (aCall E (upc (m__law_same 8)) (aCons (aFz (aLc [10] (iSq (aFz (aTup (aCons (aFz (aVar 5)) (aCons (aFz (aVar 6)) aNil))))) (gNm 10) aYes (aFz (aCall E0 (upc m_path) (aCons (aFz (aVar 3)) (aCons (aFz (aVar 10)) (aCons (aFz (aVar 7)) (aCons (aFz (aVar 8)) aNil)))))))) (aCons (aFz (aLst (aCons (aFz (aVar 9)) (aCons (aFz (aVar 9)) aNil)))) aNil))))) (aRet (aC (.bl false))) aNext))))))))) (aRet (aC (.bl true)))))
theorem z_look_sizes {Q : RR → AH → Prop} {E : AExc → AH → Prop} {Q' : RR → AH → Prop} {E' : AExc → AH → Prop} (hQ : ∀ r h, Q r h → Q' r h) (hE : ∀ x h, E x h → E' x h) (x_sizes : W) : ∀ h, mf_look_sizes x_sizes h Q E → t_look_sizes (excOf E') (endsOf Q') [some (.val x_sizes), none, none] h := by
  have hr_ := hr_top hQ
  have he := he_top hE
  unfold mf_look_sizes t_look_sizes
  exact (ss_seq (ss_if (st_not (st_tst (SN.se (sn_chn (SN.se sn_c) (SN.se (sn_cb on_len (sr_cons (SN.se (sn_var rfl)) sr_nil))) (SN.se sn_c))))) ss_never (ss_nx (nx_of (ss_for (fun (s10 : Unit) (j11 : Option SV × Option SV) => [some (.val x_sizes), j11.1, j11.2]) () (none, none) rfl (si_enum (sw_fz (sn_var rfl))) (fun s10 j11 => (nx_top hQ _)) (fun R18 w15 s10 j11 kn12 _ N14 h z => by obtain ⟨x_cask, x_size, rfl, z17⟩ := un2_ok z; refine gd_lit [some (.val x_sizes), some (.val x_cask), some (.val x_size)] (gd_2 gd_nm gd_nm) rfl h _ ?_; exact go_at h z17 (ss_if (st_not (st_tst (SN.se (sn_chn (SN.se sn_c) (SN.se (sn_var rfl)) (SN.se sn_c))))) ss_never (ss_nx (fun h z => N14 () (some (.val x_cask), some (.val x_size)) h z)))))))))
theorem q_look_sizes (ws : List W) (h : AH) (Qa : RR → AH → Prop) (Ea : AExc → AH → Prop) (hl : ws.length = 1) (z : upc m_look_sizes ws h Qa Ea) : t_look_sizes (excOf Ea) (endsOf Qa) (startA 3 ws) h := by
  obtain ⟨Q0, E0, hQ, hE, z⟩ := z
  match ws, hl with
  | [x_sizes], _ => exact z_look_sizes hQ hE x_sizes h z
theorem z_look_stand {Q : RR → AH → Prop} {E : AExc → AH → Prop} {Q' : RR → AH → Prop} {E' : AExc → AH → Prop} (hQ : ∀ r h, Q r h → Q' r h) (hE : ∀ x h, E x h → E' x h) (x_sizes x_stand : W) : ∀ h, mf_look_stand x_sizes x_stand h Q E → t_look_stand (excOf E') (endsOf Q') [some (.val x_sizes), some (.val x_stand), none, none, none] h := by
  have hr_ := hr_top hQ
  have he := he_top hE
  unfold mf_look_stand t_look_stand
  exact (ss_seq (ss_drop (SN.se (sn_call (he _) (sws_cons (sw_fz (sn_var rfl)) sws_nil))) (fun _ => (nx_of (ss_seq (ss_if (st_tst (SN.se (sn_op2 om_gt (SN.se (sn_cb on_len (sr_cons (SN.se (sn_var rfl)) sr_nil))) (SN.se sn_c)))) ss_never (ss_nx (nx_of (ss_seq (ss_set (fun x_held => [some (.val x_sizes), some (.val x_stand), some x_held, none, none]) (fun _ => rfl) (sn_op2 om_mulT (SN.se (sn_lst (sws_cons (sw_fz sn_c) sws_nil))) (SN.se (sn_cb on_len (sr_cons (SN.se (sn_var rfl)) sr_nil)))) (fun x_held => (nx_of (ss_for (fun (s10 : SV) (j11 : Option SV × Option SV) => [some (.val x_sizes), some (.val x_stand), some s10, j11.1, j11.2]) x_held (none, none) rfl (si_enum (sw_fz (sn_var rfl))) (fun s10 j11 => (nx_top hQ _)) (fun R18 w15 s10 j11 kn12 _ N14 h z => by obtain ⟨x_rank, x_place, rfl, z17⟩ := un2_ok z; refine gd_lit [some (.val x_sizes), some (.val x_stand), some s10, some (.val x_rank), some (.val x_place)] (gd_2 gd_nm gd_nm) rfl h _ ?_; exact go_at h z17 (ss_seq (ss_if (st_not (st_tst (SN.se (sn_chn (SN.se sn_c) (SN.se (sn_var rfl)) (SN.se (sn_cb on_len (sr_cons (SN.se (sn_var rfl)) sr_nil))))))) ss_never (ss_nx (nx_of (ss_if (st_tst (SN.se (sn_op2 om_eq (SN.se (sn_var rfl)) (SN.se sn_c)))) (ss_seq (ss_augIx (fun x_held => [some (.val x_sizes), some (.val x_stand), some x_held, some (.val x_rank), some (.val x_place)]) (fun _ => rfl) rfl (SN.se (sn_var rfl)) (SN.se sn_c) (fun x_held => (nx_of (ss_if (st_tst (SN.se (sn_op2 om_gt (SN.se (sn_op2 om_ix (se_var rfl) (SN.se (sn_var rfl)))) (SN.se (sn_op2 om_ix (SN.se (sn_var rfl)) (SN.se (sn_var rfl))))))) ss_never (ss_nx (fun h z => N14 x_held (some (.val x_rank), some (.val x_place)) h z))))))) (ss_nx (fun h z => N14 s10 (some (.val x_rank), some (.val x_place)) h z)))))))))))))))))))))
theorem q_look_stand (ws : List W) (h : AH) (Qa : RR → AH → Prop) (Ea : AExc → AH → Prop) (hl : ws.length = 2) (z : upc m_look_stand ws h Qa Ea) : t_look_stand (excOf Ea) (endsOf Qa) (startA 5 ws) h := by
  obtain ⟨Q0, E0, hQ, hE, z⟩ := z
  match ws, hl with
  | [x_sizes, x_stand], _ => exact z_look_stand hQ hE x_sizes x_stand h z
theorem z_has_count {Q : RR → AH → Prop} {E : AExc → AH → Prop} {Q' : RR → AH → Prop} {E' : AExc → AH → Prop} (hQ : ∀ r h, Q r h → Q' r h) (hE : ∀ x h, E x h → E' x h) (x_word x_many x_casks : W) : ∀ h, mf_has_count x_word x_many x_casks h Q E → t_has_count (excOf E') (endsOf Q') [some (.val x_word), some (.val x_many), some (.val x_casks)] h := by
  have hr_ := hr_top hQ
  have he := he_top hE
  unfold mf_has_count t_has_count
  exact (ss_ret hr_ (SN.se (sn_if (st_tst (SN.se (sn_op2 om_inL (SN.se (sn_var rfl)) (SN.se sn_c)))) (sn_chn (SN.se sn_c) (SN.se (sn_var rfl)) (SN.se (sn_op2 om_add (SN.se sn_c) (SN.se (sn_var rfl))))) (sn_op2 om_eq (SN.se (sn_var rfl)) (SN.se sn_c)))))
theorem q_has_count (ws : List W) (h : AH) (Qa : RR → AH → Prop) (Ea : AExc → AH → Prop) (hl : ws.length = 3) (z : upc m_has_count ws h Qa Ea) : t_has_count (excOf Ea) (endsOf Qa) (startA 3 ws) h := by
  obtain ⟨Q0, E0, hQ, hE, z⟩ := z
  match ws, hl with
  | [x_word, x_many, x_casks], _ => exact z_has_count hQ hE x_word x_many x_casks h z
theorem z_first_bad {Q : RR → AH → Prop} {E : AExc → AH → Prop} {Q' : RR → AH → Prop} {E' : AExc → AH → Prop} (hQ : ∀ r h, Q r h → Q' r h) (hE : ∀ x h, E x h → E' x h) (x_things x_start x_casks : W) : ∀ h, mf_first_bad x_things x_start x_casks h Q E → t_first_bad (excOf E') (endsOf Q') [some (.val x_things), some (.val x_start), some (.val x_casks), none, none] h := by
  have hr_ := hr_top hQ
  have he := he_top hE
  unfold mf_first_bad t_first_bad
  exact (ss_seq (ss_for (fun (s10 : Unit) (j11 : Option SV × Option SV) => [some (.val x_things), some (.val x_start), some (.val x_casks), j11.1, j11.2]) () (none, none) rfl (si_enum (sw_fz (sn_var rfl))) (fun s10 j11 => (nx_of (ss_ret hr_ (SN.se sn_c)))) (fun R18 w15 s10 j11 kn12 _ N14 h z => by obtain ⟨x_at, x_cask, rfl, z17⟩ := un2_ok z; refine gd_lit [some (.val x_things), some (.val x_start), some (.val x_casks), some (.val x_at), some (.val x_cask)] (gd_2 gd_nm gd_nm) rfl h _ ?_; exact go_at h z17 (ss_if (st_or (st_not (st_tst (SN.se (sn_chn (SN.se sn_c) (SN.se (sn_var rfl)) (SN.se (sn_var rfl)))))) (st_tst (SN.se (sn_op2 om_inL (SN.se (sn_var rfl)) (SN.se (sn_sl (SN.se (sn_var rfl)) so_no (so_part (SN.se (sn_var rfl))))))))) (ss_ret hr_ (SN.se (sn_op2 om_add (SN.se (sn_var rfl)) (SN.se (sn_var rfl))))) (ss_nx (fun h z => N14 () (some (.val x_at), some (.val x_cask)) h z))))))
theorem q_first_bad (ws : List W) (h : AH) (Qa : RR → AH → Prop) (Ea : AExc → AH → Prop) (hl : ws.length = 3) (z : upc m_first_bad ws h Qa Ea) : t_first_bad (excOf Ea) (endsOf Qa) (startA 5 ws) h := by
  obtain ⟨Q0, E0, hQ, hE, z⟩ := z
  match ws, hl with
  | [x_things, x_start, x_casks], _ => exact z_first_bad hQ hE x_things x_start x_casks h z
theorem z_fault_of {Q : RR → AH → Prop} {E : AExc → AH → Prop} {Q' : RR → AH → Prop} {E' : AExc → AH → Prop} (hQ : ∀ r h, Q r h → Q' r h) (hE : ∀ x h, E x h → E' x h) (x_sizes x_deed : W) : ∀ h, mf_fault_of x_sizes x_deed h Q E → t_fault_of (excOf E') (endsOf Q') [some (.val x_sizes), some (.val x_deed), none, none, none, none, none] h := by
  have hr_ := hr_top hQ
  have he := he_top hE
  unfold mf_fault_of t_fault_of
  exact (ss_seq (ss_if (st_or (st_tst (SN.se (sn_op2 om_eq (SN.se (sn_cb on_len (sr_cons (SN.se (sn_var rfl)) sr_nil))) (SN.se sn_c)))) (st_tst (SN.se (sn_op2 om_inL (SN.se (sn_op2 om_ix (SN.se (sn_var rfl)) (SN.se sn_c))) (SN.se (sn_op2 om_add (SN.se sn_c) (SN.se sn_c))))))) (ss_ret hr_ (SN.se sn_c)) (ss_nx (nx_of (ss_seq (ss_if (st_not (st_tst (SN.se (sn_call (he _) (sws_cons (sw_fz (sn_op2 om_ix (SN.se (sn_var rfl)) (SN.se sn_c))) (sws_cons (sw_fz (sn_cb on_len (sr_cons (SN.se (sn_var rfl)) sr_nil))) (sws_cons (sw_fz (sn_cb on_len (sr_cons (SN.se (sn_var rfl)) sr_nil))) sws_nil))))))) (ss_ret hr_ (SN.se (sn_neg (SN.se sn_c)))) (ss_nx (nx_of (ss_seq (ss_star (fun x_word x_things => [some (.val x_sizes), some (.val x_deed), some (.val x_word), some x_things, none, none, none]) (fun _ _ => rfl) (sw_fz (sn_var rfl)) (fun x_word x_things => (nx_of (ss_seq (ss_if (st_tst (SN.se (sn_op2 om_eq (SN.se (sn_var rfl)) (SN.se sn_c)))) (ss_seq (ss_frz [some (.val x_sizes), some (.val x_deed), some (.val x_word), some (.val (SV.fz x_things)), none, none, none] rfl rfl (ss_asg (fun x_bad => [some (.val x_sizes), some (.val x_deed), some (.val x_word), some (.val (SV.fz x_things)), some (.val x_bad), none, none]) (fun _ => rfl) (sw_fz (sn_call (he _) (sws_cons (sw_fz (sn_var rfl)) (sws_cons (sw_fz sn_c) (sws_cons (sw_fz (sn_cb on_len (sr_cons (SN.se (sn_var rfl)) sr_nil))) sws_nil))))) (fun x_bad => (nx_of (ss_seq (ss_if (st_tst (SN.se (sn_op2 om_isN (SN.se (sn_var rfl)) (SN.se sn_c)))) (ss_ret hr_ (SN.se (sn_var rfl))) (ss_nx (nx_of (ss_ret hr_ (SN.se (sn_if (st_tst (SN.se (sn_op2 om_eq (SN.se (sn_op2 om_ix (SN.se (sn_var rfl)) (SN.se (sn_op2 om_ix (SN.se (sn_var rfl)) (SN.se sn_c))))) (SN.se (sn_op2 om_ix (SN.se (sn_var rfl)) (SN.se (sn_op2 om_ix (SN.se (sn_var rfl)) (SN.se sn_c)))))))) sn_c sn_c)))))))))))) (ss_nx (nx_of (ss_seq (ss_frz [some (.val x_sizes), some (.val x_deed), some (.val x_word), some (.val (SV.fz x_things)), none, none, none] rfl rfl (ss_star (fun x_many x_casks => [some (.val x_sizes), some (.val x_deed), some (.val x_word), some (.val (SV.fz x_things)), none, some (.val x_many), some x_casks]) (fun _ _ => rfl) (sw_fz (sn_var rfl)) (fun x_many x_casks => (nx_of (ss_seq (ss_if (st_not (st_tst (SN.se (sn_chn (SN.se sn_c) (SN.se (sn_var rfl)) (SN.se sn_c))))) (ss_ret hr_ (SN.se sn_c)) (ss_nx (nx_of (ss_frz [some (.val x_sizes), some (.val x_deed), some (.val x_word), some (.val (SV.fz x_things)), none, some (.val x_many), some (.val (SV.fz x_casks))] rfl rfl (ss_ret hr_ (SN.se (sn_call (he _) (sws_cons (sw_fz (sn_var rfl)) (sws_cons (sw_fz sn_c) (sws_cons (sw_fz (sn_cb on_len (sr_cons (SN.se (sn_var rfl)) sr_nil))) sws_nil))))))))))))))))))))))))))))))))
theorem q_fault_of (ws : List W) (h : AH) (Qa : RR → AH → Prop) (Ea : AExc → AH → Prop) (hl : ws.length = 2) (z : upc m_fault_of ws h Qa Ea) : t_fault_of (excOf Ea) (endsOf Qa) (startA 7 ws) h := by
  obtain ⟨Q0, E0, hQ, hE, z⟩ := z
  match ws, hl with
  | [x_sizes, x_deed], _ => exact z_fault_of hQ hE x_sizes x_deed h z
theorem z_look_row {Q : RR → AH → Prop} {E : AExc → AH → Prop} {Q' : RR → AH → Prop} {E' : AExc → AH → Prop} (hQ : ∀ r h, Q r h → Q' r h) (hE : ∀ x h, E x h → E' x h) (x_sizes x_deeds : W) : ∀ h, mf_look_row x_sizes x_deeds h Q E → t_look_row (excOf E') (endsOf Q') [some (.val x_sizes), some (.val x_deeds), none, none, none] h := by
  have hr_ := hr_top hQ
  have he := he_top hE
  unfold mf_look_row t_look_row
  exact (ss_seq (ss_drop (SN.se (sn_call (he _) (sws_cons (sw_fz (sn_var rfl)) sws_nil))) (fun _ => (nx_of (ss_for (fun (s10 : Unit) (j11 : Option SV × Option SV × Option SV) => [some (.val x_sizes), some (.val x_deeds), j11.1, j11.2.1, j11.2.2]) () (none, none, none) rfl (si_enum (sw_fz (sn_var rfl))) (fun s10 j11 => (nx_top hQ _)) (fun R18 w15 s10 j11 kn12 _ N14 h z => by obtain ⟨x_step, x_deed, rfl, z17⟩ := un2_ok z; refine gd_lit [some (.val x_sizes), some (.val x_deeds), some (.val x_step), some (.val x_deed), j11.2.2] (gd_2 gd_nm gd_nm) rfl h _ ?_; exact go_at h z17 (ss_seq (ss_asg (fun x_place => [some (.val x_sizes), some (.val x_deeds), some (.val x_step), some (.val x_deed), some (.val x_place)]) (fun _ => rfl) (sw_fz (sn_call (he _) (sws_cons (sw_fz (sn_var rfl)) (sws_cons (sw_fz (sn_var rfl)) sws_nil)))) (fun x_place => (nx_of (ss_if (st_tst (SN.se (sn_op2 om_isN (SN.se (sn_var rfl)) (SN.se sn_c)))) ss_never (ss_nx (fun h z => N14 () (some (.val x_step), some (.val x_deed), some (.val x_place)) h z)))))))))))))
theorem q_look_row (ws : List W) (h : AH) (Qa : RR → AH → Prop) (Ea : AExc → AH → Prop) (hl : ws.length = 2) (z : upc m_look_row ws h Qa Ea) : t_look_row (excOf Ea) (endsOf Qa) (startA 5 ws) h := by
  obtain ⟨Q0, E0, hQ, hE, z⟩ := z
  match ws, hl with
  | [x_sizes, x_deeds], _ => exact z_look_row hQ hE x_sizes x_deeds h z
theorem z_ranks_in {Q : RR → AH → Prop} {E : AExc → AH → Prop} {Q' : RR → AH → Prop} {E' : AExc → AH → Prop} (hQ : ∀ r h, Q r h → Q' r h) (hE : ∀ x h, E x h → E' x h) (x_stand x_cask : W) : ∀ h, mf_ranks_in x_stand x_cask h Q E → t_ranks_in (excOf E') (endsOf Q') [some (.val x_stand), some (.val x_cask), none, none] h := by
  have hr_ := hr_top hQ
  have he := he_top hE
  unfold mf_ranks_in t_ranks_in
  exact (ss_ret hr_ (SN.se (sn_lc (si_enum (sw_fz (sn_var rfl))) (fun w4 h kk K1 K0 h1 h0 z => by obtain ⟨x_rank, x_place, rfl, z6⟩ := un2_ok z; exact lc_body (e1 := [some (.val x_stand), some (.val x_cask), some (.val x_rank), some (.val x_place)]) (gd_2 gd_nm gd_nm) (st_tst (SN.se (sn_op2 om_eq (SN.se (sn_var rfl)) (SN.se (sn_var rfl))))) (sw_fz (sn_var rfl)) rfl h1 h0 z6))))
theorem q_ranks_in (ws : List W) (h : AH) (Qa : RR → AH → Prop) (Ea : AExc → AH → Prop) (hl : ws.length = 2) (z : upc m_ranks_in ws h Qa Ea) : t_ranks_in (excOf Ea) (endsOf Qa) (startA 4 ws) h := by
  obtain ⟨Q0, E0, hQ, hE, z⟩ := z
  match ws, hl with
  | [x_stand, x_cask], _ => exact z_ranks_in hQ hE x_stand x_cask h z
theorem z_moved {Q : RR → AH → Prop} {E : AExc → AH → Prop} {Q' : RR → AH → Prop} {E' : AExc → AH → Prop} (hQ : ∀ r h, Q r h → Q' r h) (hE : ∀ x h, E x h → E' x h) (x_stand x_ranks x_cask : W) : ∀ h, mf_moved x_stand x_ranks x_cask h Q E → t_moved (excOf E') (endsOf Q') [some (.val x_stand), some (.val x_ranks), some (.val x_cask), none, none] h := by
  have hr_ := hr_top hQ
  have he := he_top hE
  unfold mf_moved t_moved
  exact (ss_ret hr_ (SN.se (sn_cb on_tupC (sr_cons (SN.se (sn_lc (si_enum (sw_fz (sn_var rfl))) (fun w4 h kk K1 K0 h1 h0 z => by obtain ⟨x_rank, x_place, rfl, z6⟩ := un2_ok z; exact lc_body (e1 := [some (.val x_stand), some (.val x_ranks), some (.val x_cask), some (.val x_rank), some (.val x_place)]) (gd_2 gd_nm gd_nm) st_yes (sw_fz (sn_if (st_tst (SN.se (sn_op2 om_inL (SN.se (sn_var rfl)) (SN.se (sn_var rfl))))) (sn_var rfl) (sn_var rfl))) rfl h1 h0 z6))) sr_nil))))
theorem q_moved (ws : List W) (h : AH) (Qa : RR → AH → Prop) (Ea : AExc → AH → Prop) (hl : ws.length = 3) (z : upc m_moved ws h Qa Ea) : t_moved (excOf Ea) (endsOf Qa) (startA 5 ws) h := by
  obtain ⟨Q0, E0, hQ, hE, z⟩ := z
  match ws, hl with
  | [x_stand, x_ranks, x_cask], _ => exact z_moved hQ hE x_stand x_ranks x_cask h z
theorem z_led {Q : RR → AH → Prop} {E : AExc → AH → Prop} {Q' : RR → AH → Prop} {E' : AExc → AH → Prop} (hQ : ∀ r h, Q r h → Q' r h) (hE : ∀ x h, E x h → E' x h) (x_sizes x_stand x_going x_casks : W) : ∀ h, mf_led x_sizes x_stand x_going x_casks h Q E → t_led (excOf E') (endsOf Q') [some (.val x_sizes), some (.val x_stand), some (.val x_going), some (.val x_casks), none, none, none] h := by
  have hr_ := hr_top hQ
  have he := he_top hE
  unfold mf_led t_led
  exact (ss_seq (ss_star (fun x_first x_others => [some (.val x_sizes), some (.val x_stand), some (.val x_going), some (.val x_casks), some (.val x_first), some x_others, none]) (fun _ _ => rfl) (sw_fz (sn_var rfl)) (fun x_first x_others => (nx_of (ss_seq (ss_frz [some (.val x_sizes), some (.val x_stand), some (.val x_going), some (.val x_casks), some (.val x_first), some (.val (SV.fz x_others)), none] rfl rfl (ss_for (fun (s7 : W × W) (j8 : Option SV) => [some (.val x_sizes), some (.val s7.1), some (.val s7.2), some (.val x_casks), some (.val x_first), some (.val (SV.fz x_others)), j8]) (x_stand, x_going) (none) rfl (si_items (sw_fz (sn_var rfl))) (fun s7 j8 => (nx_of (ss_ret hr_ (SN.se (sn_call (he _) (sws_cons (sw_fz (sn_var rfl)) (sws_cons (sw_fz (sn_var rfl)) (sws_cons (sw_fz (sn_var rfl)) sws_nil)))))))) (fun R12 x_cask s7 j8 kn9 _ N11 h z => by refine gd_lit [some (.val x_sizes), some (.val s7.1), some (.val s7.2), some (.val x_casks), some (.val x_first), some (.val (SV.fz x_others)), some (.val x_cask)] gd_nm rfl h _ ?_; exact go_at h z (ss_seq (ss_asg (fun x_stand => [some (.val x_sizes), some (.val x_stand), some (.val s7.2), some (.val x_casks), some (.val x_first), some (.val (SV.fz x_others)), some (.val x_cask)]) (fun _ => rfl) (sw_fz (sn_call (he _) (sws_cons (sw_fz (sn_var rfl)) (sws_cons (sw_fz (sn_var rfl)) (sws_cons (sw_fz (sn_var rfl)) sws_nil))))) (fun x_stand => (nx_of (ss_asg (fun x_going => [some (.val x_sizes), some (.val x_stand), some (.val x_going), some (.val x_casks), some (.val x_first), some (.val (SV.fz x_others)), some (.val x_cask)]) (fun _ => rfl) (sw_fz (sn_sl (SN.se (sn_call (he _) (sws_cons (sw_fz (sn_var rfl)) (sws_cons (sw_fz (sn_var rfl)) sws_nil)))) (so_part (SN.se (sn_op2 om_ix (SN.se (sn_var rfl)) (SN.se (sn_var rfl))))) so_no)) (fun x_going => (fun h z => N11 (x_stand, x_going) (some (.val x_cask)) h z)))))))))))))))
theorem q_led (ws : List W) (h : AH) (Qa : RR → AH → Prop) (Ea : AExc → AH → Prop) (hl : ws.length = 4) (z : upc m_led ws h Qa Ea) : t_led (excOf Ea) (endsOf Qa) (startA 7 ws) h := by
  obtain ⟨Q0, E0, hQ, hE, z⟩ := z
  match ws, hl with
  | [x_sizes, x_stand, x_going, x_casks], _ => exact z_led hQ hE x_sizes x_stand x_going x_casks h z
theorem z_tapped {Q : RR → AH → Prop} {E : AExc → AH → Prop} {Q' : RR → AH → Prop} {E' : AExc → AH → Prop} (hQ : ∀ r h, Q r h → Q' r h) (hE : ∀ x h, E x h → E' x h) (x_sizes x_stand x_many x_cask : W) : ∀ h, mf_tapped x_sizes x_stand x_many x_cask h Q E → t_tapped (excOf E') (endsOf Q') [some (.val x_sizes), some (.val x_stand), some (.val x_many), some (.val x_cask), none] h := by
  have hr_ := hr_top hQ
  have he := he_top hE
  unfold mf_tapped t_tapped
  exact (ss_seq (ss_asg (fun x_fresh => [some (.val x_sizes), some (.val x_stand), some (.val x_many), some (.val x_cask), some (.val x_fresh)]) (fun _ => rfl) (sw_fz (sn_cb on_2I (sr_cons (SN.se (sn_var rfl)) (sr_cons (SN.se (sn_op2 om_sub (SN.se (sn_op2 om_ix (SN.se (sn_var rfl)) (SN.se (sn_var rfl)))) (SN.se (sn_cb on_len (sr_cons (SN.se (sn_call (he _) (sws_cons (sw_fz (sn_var rfl)) (sws_cons (sw_fz (sn_var rfl)) sws_nil)))) sr_nil))))) sr_nil)))) (fun x_fresh => (nx_of (ss_seq (ss_if (st_tst (SN.se (sn_op2 om_gt (SN.se (sn_op2 om_add (SN.se (sn_cb on_len (sr_cons (SN.se (sn_var rfl)) sr_nil))) (SN.se (sn_var rfl)))) (SN.se sn_c)))) ss_never (ss_nx (nx_of (ss_ret hr_ (SN.se (sn_op2 om_add (SN.se (sn_var rfl)) (SN.se (sn_op2 om_mulT (SN.se (sn_tup (sws_cons (sw_fz (sn_var rfl)) sws_nil))) (SN.se (sn_var rfl)))))))))))))))
theorem q_tapped (ws : List W) (h : AH) (Qa : RR → AH → Prop) (Ea : AExc → AH → Prop) (hl : ws.length = 4) (z : upc m_tapped ws h Qa Ea) : t_tapped (excOf Ea) (endsOf Qa) (startA 5 ws) h := by
  obtain ⟨Q0, E0, hQ, hE, z⟩ := z
  match ws, hl with
  | [x_sizes, x_stand, x_many, x_cask], _ => exact z_tapped hQ hE x_sizes x_stand x_many x_cask h z
theorem z_behind_deed {Q : RR → AH → Prop} {E : AExc → AH → Prop} {Q' : RR → AH → Prop} {E' : AExc → AH → Prop} (hQ : ∀ r h, Q r h → Q' r h) (hE : ∀ x h, E x h → E' x h) (x_sizes x_stand x_deed : W) : ∀ h, mf_behind_deed x_sizes x_stand x_deed h Q E → t_behind_deed (excOf E') (endsOf Q') [some (.val x_sizes), some (.val x_stand), some (.val x_deed), none, none, none, none, none, none, none, none] h := by
  have hr_ := hr_top hQ
  have he := he_top hE
  unfold mf_behind_deed t_behind_deed
  exact (ss_seq (ss_star (fun x_word x_things => [some (.val x_sizes), some (.val x_stand), some (.val x_deed), some (.val x_word), some x_things, none, none, none, none, none, none]) (fun _ _ => rfl) (sw_fz (sn_var rfl)) (fun x_word x_things => (nx_of (ss_seq (ss_if (st_tst (SN.se (sn_op2 om_eq (SN.se (sn_var rfl)) (SN.se sn_c)))) (ss_seq (ss_frz [some (.val x_sizes), some (.val x_stand), some (.val x_deed), some (.val x_word), some (.val (SV.fz x_things)), none, none, none, none, none, none] rfl rfl (ss_asgG (sw_fz (sn_var rfl)) (fun w4 h z => by obtain ⟨x_one, x_other, e5, z6⟩ := uq2_ok z; refine gd_lit [some (.val x_sizes), some (.val x_stand), some (.val x_deed), some (.val x_word), some (.val (SV.fz x_things)), some (.val x_one), some (.val x_other), none, none, none, none] (gq_2 e5 gd_nm gd_nm) rfl h _ ?_; exact go_at h z6 (nx_of (ss_ret hr_ (SN.se (sn_cb on_tupC (sr_cons (SN.se (sn_lc (si_items (sw_fz (sn_var rfl))) (fun x_place h kk K1 K0 h1 h0 z => by exact lc_body (e1 := [some (.val x_sizes), some (.val x_stand), some (.val x_deed), some (.val x_word), some (.val (SV.fz x_things)), some (.val x_one), some (.val x_other), some (.val x_place), none, none, none]) gd_nm st_yes (sw_fz (sn_if (st_tst (SN.se (sn_op2 om_eq (SN.se (sn_var rfl)) (SN.se (sn_var rfl))))) (sn_var rfl) (sn_if (st_tst (SN.se (sn_op2 om_eq (SN.se (sn_var rfl)) (SN.se (sn_var rfl))))) (sn_var rfl) (sn_var rfl)))) rfl h1 h0 z))) sr_nil))))))))) (ss_nx (nx_of (ss_seq (ss_frz [some (.val x_sizes), some (.val x_stand), some (.val x_deed), some (.val x_word), some (.val (SV.fz x_things)), none, none, none, none, none, none] rfl rfl (ss_star (fun x_many x_casks => [some (.val x_sizes), some (.val x_stand), some (.val x_deed), some (.val x_word), some (.val (SV.fz x_things)), none, none, none, some (.val x_many), some x_casks, none]) (fun _ _ => rfl) (sw_fz (sn_var rfl)) (fun x_many x_casks => (nx_of (ss_seq (ss_asg (fun x_here => [some (.val x_sizes), some (.val x_stand), some (.val x_deed), some (.val x_word), some (.val (SV.fz x_things)), none, none, none, some (.val x_many), some x_casks, some (.val x_here)]) (fun _ => rfl) (sw_fz (sn_call (he _) (sws_cons (sw_fz (sn_var rfl)) (sws_cons (sw_fz (sn_op2 om_ix (se_var rfl) (SN.se sn_c))) sws_nil)))) (fun x_here => (nx_of (ss_seq (ss_if (st_tst (SN.se (sn_op2 om_eq (SN.se (sn_var rfl)) (SN.se sn_c)))) (ss_frz [some (.val x_sizes), some (.val x_stand), some (.val x_deed), some (.val x_word), some (.val (SV.fz x_things)), none, none, none, some (.val x_many), some (.val (SV.fz x_casks)), some (.val x_here)] rfl rfl (ss_ret hr_ (SN.se (sn_call (he _) (sws_cons (sw_fz (sn_var rfl)) (sws_cons (sw_fz (sn_var rfl)) (sws_cons (sw_fz (sn_sl (SN.se (sn_var rfl)) so_no (so_part (SN.se (sn_var rfl))))) (sws_cons (sw_fz (sn_var rfl)) sws_nil)))))))) (ss_nx (nx_of (ss_seq (ss_if (st_tst (SN.se (sn_op2 om_eq (SN.se (sn_var rfl)) (SN.se sn_c)))) (ss_frz [some (.val x_sizes), some (.val x_stand), some (.val x_deed), some (.val x_word), some (.val (SV.fz x_things)), none, none, none, some (.val x_many), some (.val (SV.fz x_casks)), some (.val x_here)] rfl rfl (ss_ret hr_ (SN.se (sn_call (he _) (sws_cons (sw_fz (sn_var rfl)) (sws_cons (sw_fz (sn_var rfl)) (sws_cons (sw_fz (sn_sl (SN.se (sn_var rfl)) (so_part (SN.se (sn_var rfl))) so_no)) (sws_cons (sw_fz (sn_var rfl)) sws_nil)))))))) (ss_nx (nx_of (ss_seq (ss_if (st_tst (SN.se (sn_op2 om_eq (SN.se (sn_var rfl)) (SN.se sn_c)))) (ss_ret hr_ (SN.se (sn_call (he _) (sws_cons (sw_fz (sn_var rfl)) (sws_cons (sw_fz (sn_var rfl)) (sws_cons (sw_fz (sn_var rfl)) (sws_cons (sw_fz (sn_op2 om_ix (se_var rfl) (SN.se sn_c))) sws_nil))))))) (ss_nx (nx_of (ss_ret hr_ (SN.se (sn_call (he _) (sws_cons (sw_fz (sn_var rfl)) (sws_cons (sw_fz (sn_sl (SN.se (sn_var rfl)) so_no (so_part (SN.se (sn_var rfl))))) (sws_cons (sw_fz sn_c) sws_nil)))))))))))))))))))))))))))))))))))
theorem q_behind_deed (ws : List W) (h : AH) (Qa : RR → AH → Prop) (Ea : AExc → AH → Prop) (hl : ws.length = 3) (z : upc m_behind_deed ws h Qa Ea) : t_behind_deed (excOf Ea) (endsOf Qa) (startA 11 ws) h := by
  obtain ⟨Q0, E0, hQ, hE, z⟩ := z
  match ws, hl with
  | [x_sizes, x_stand, x_deed], _ => exact z_behind_deed hQ hE x_sizes x_stand x_deed h z
theorem z_path {Q : RR → AH → Prop} {E : AExc → AH → Prop} {Q' : RR → AH → Prop} {E' : AExc → AH → Prop} (hQ : ∀ r h, Q r h → Q' r h) (hE : ∀ x h, E x h → E' x h) (x_sizes x_stand x_deeds x_rank : W) : ∀ h, mf_path x_sizes x_stand x_deeds x_rank h Q E → t_path (excOf E') (endsOf Q') [some (.val x_sizes), some (.val x_stand), some (.val x_deeds), some (.val x_rank), none, none] h := by
  have hr_ := hr_top hQ
  have he := he_top hE
  unfold mf_path t_path
  exact (ss_seq (ss_drop (SN.se (sn_call (he _) (sws_cons (sw_fz (sn_var rfl)) (sws_cons (sw_fz (sn_var rfl)) sws_nil)))) (fun _ => (nx_of (ss_seq (ss_drop (SN.se (sn_call (he _) (sws_cons (sw_fz (sn_var rfl)) (sws_cons (sw_fz (sn_var rfl)) sws_nil)))) (fun _ => (nx_of (ss_seq (ss_if (st_not (st_tst (SN.se (sn_chn (SN.se sn_c) (SN.se (sn_var rfl)) (SN.se (sn_cb on_len (sr_cons (SN.se (sn_var rfl)) sr_nil))))))) ss_never (ss_nx (nx_of (ss_seq (ss_set (fun x_found => [some (.val x_sizes), some (.val x_stand), some (.val x_deeds), some (.val x_rank), some x_found, none]) (fun _ => rfl) (sn_lst (sws_cons (sw_fz (sn_op2 om_ix (SN.se (sn_var rfl)) (SN.se (sn_var rfl)))) sws_nil)) (fun x_found => (nx_of (ss_seq (ss_for (fun (s7 : W × SV) (j8 : Option SV) => [some (.val x_sizes), some (.val s7.1), some (.val x_deeds), some (.val x_rank), some s7.2, j8]) (x_stand, x_found) (none) rfl (si_items (sw_fz (sn_var rfl))) (fun s7 j8 => (nx_of (ss_ret hr_ (se_var rfl)))) (fun R12 x_deed s7 j8 kn9 _ N11 h z => by refine gd_lit [some (.val x_sizes), some (.val s7.1), some (.val x_deeds), some (.val x_rank), some s7.2, some (.val x_deed)] gd_nm rfl h _ ?_; exact go_at h z (ss_seq (ss_asg (fun x_stand => [some (.val x_sizes), some (.val x_stand), some (.val x_deeds), some (.val x_rank), some s7.2, some (.val x_deed)]) (fun _ => rfl) (sw_fz (sn_call (he _) (sws_cons (sw_fz (sn_var rfl)) (sws_cons (sw_fz (sn_var rfl)) (sws_cons (sw_fz (sn_var rfl)) sws_nil))))) (fun x_stand => (nx_of (ss_lm (fun x_found => [some (.val x_sizes), some (.val x_stand), some (.val x_deeds), some (.val x_rank), some x_found, some (.val x_deed)]) (fun _ => rfl) lm_mAppend rfl (sws_cons (sw_fz (sn_op2 om_ix (SN.se (sn_var rfl)) (SN.se (sn_var rfl)))) sws_nil) (fun x_found _ => (fun h z => N11 (x_stand, x_found) (some (.val x_deed)) h z))))))))))))))))))))))))))
theorem q_path (ws : List W) (h : AH) (Qa : RR → AH → Prop) (Ea : AExc → AH → Prop) (hl : ws.length = 4) (z : upc m_path ws h Qa Ea) : t_path (excOf Ea) (endsOf Qa) (startA 6 ws) h := by
  obtain ⟨Q0, E0, hQ, hE, z⟩ := z
  match ws, hl with
  | [x_sizes, x_stand, x_deeds, x_rank], _ => exact z_path hQ hE x_sizes x_stand x_deeds x_rank h z
theorem z__law_open {Q : RR → AH → Prop} {E : AExc → AH → Prop} {Q' : RR → AH → Prop} {E' : AExc → AH → Prop} (hQ : ∀ r h, Q r h → Q' r h) (hE : ∀ x h, E x h → E' x h) (x_script : W) : ∀ h, mf__law_open x_script h Q E → t__law_open (excOf E') (endsOf Q') [some (.val x_script)] h := by
  have hr_ := hr_top hQ
  have he := he_top hE
  unfold mf__law_open t__law_open
  exact (ss_ret hr_ (SN.se (sn_lst (sws_cons (sw_fz (sn_cb on_lstC (sr_cons (SN.se (sn_sl (SN.se (sn_var rfl)) so_no (so_part (SN.se sn_c)))) sr_nil))) (sws_cons (sw_fz sn_c) (sws_cons (sw_fz sn_c) (sws_cons (sw_fz sn_c) (sws_cons (sw_fz sn_c) sws_nil))))))))
theorem q__law_open (ws : List W) (h : AH) (Qa : RR → AH → Prop) (Ea : AExc → AH → Prop) (hl : ws.length = 1) (z : upc m__law_open ws h Qa Ea) : t__law_open (excOf Ea) (endsOf Qa) (startA 1 ws) h := by
  obtain ⟨Q0, E0, hQ, hE, z⟩ := z
  match ws, hl with
  | [x_script], _ => exact z__law_open hQ hE x_script h z
theorem z__law_take {Q : RR → AH → Prop} {E : AExc → AH → Prop} {Q' : RR → AH → Prop} {E' : AExc → AH → Prop} (hQ : ∀ r h, Q r h → Q' r h) (hE : ∀ x h, E x h → E' x h) (x_bag x_sides : W) : ∀ h, mf__law_take x_bag x_sides h Q E → t__law_take (excOf E') (endsOf Q') [some (.val x_bag), some (.val x_sides), none, none, none] h := by
  have hr_ := hr_top hQ
  have he := he_top hE
  unfold mf__law_take t__law_take
  exact (ss_join (fun (s5 : SV) (j6 : Option SV) => [some s5, some (.val x_sides), j6, none, none]) (fun s5 j6 => (ss_seq (ss_if (st_tst (SN.se (sn_op2 om_ge (SN.se (sn_op2 om_ix (se_var rfl) (SN.se sn_c))) (SN.se (sn_var rfl))))) (ss_seq (ss_asg (fun x_side => [some s5, some (.val x_sides), j6, some (.val x_side), none]) (fun _ => rfl) (sw_fz (sn_op2 om_mod (SN.se (sn_op2 om_ix (se_var rfl) (SN.se sn_c))) (SN.se (sn_var rfl)))) (fun x_side => (nx_of (ss_seq (ss_setIx (fun x_bag => [some x_bag, some (.val x_sides), j6, some (.val x_side), none]) (fun _ => rfl) (sw_fz (sn_op2 om_fdiv (SN.se (sn_op2 om_ix (se_var rfl) (SN.se sn_c))) (SN.se (sn_var rfl)))) rfl (SN.se sn_c) (fun x_bag => (nx_of (ss_ret hr_ (SN.se (sn_var rfl))))))))))) (ss_nx (nx_of (ss_seq (ss_setIx (fun x_bag => [some x_bag, some (.val x_sides), j6, none, none]) (fun _ => rfl) (sw_fz (sn_op2 om_add (SN.se (sn_op2 om_ix (se_var rfl) (SN.se sn_c))) (SN.se sn_c))) rfl (SN.se sn_c) (fun x_bag => (nx_of (ss_seq (ss_asg (fun x_mix => [some x_bag, some (.val x_sides), j6, none, some (.val x_mix)]) (fun _ => rfl) (sw_fz (sn_op2 om_ix (se_var rfl) (SN.se sn_c))) (fun x_mix => (nx_of (ss_seq (ss_setIx (fun x_bag => [some x_bag, some (.val x_sides), j6, none, some (.val x_mix)]) (fun _ => rfl) (sw_fz (sn_op2 om_mod (SN.se (sn_op2 om_add (SN.se (sn_op2 om_add (SN.se (sn_op2 om_add (SN.se (sn_op2 om_mulT (SN.se (sn_op2 om_mod (SN.se (sn_op2 om_mulT (SN.se (sn_var rfl)) (SN.se (sn_var rfl)))) (SN.se sn_c))) (SN.se sn_c))) (SN.se (sn_op2 om_mulT (SN.se (sn_var rfl)) (SN.se sn_c))))) (SN.se (sn_op2 om_mulT (SN.se sn_c) (SN.se (sn_op2 om_ix (se_var rfl) (SN.se sn_c))))))) (SN.se sn_c))) (SN.se sn_c))) rfl (SN.se sn_c) (fun x_bag => (nx_of (ss_ret hr_ (SN.se (sn_op2 om_mod (SN.se (sn_op2 om_add (SN.se (sn_op2 om_fdiv (SN.se (sn_op2 om_ix (se_var rfl) (SN.se sn_c))) (SN.se sn_c))) (SN.se (sn_op2 om_mulT (SN.se (sn_op2 om_mod (SN.se (sn_op2 om_ix (se_var rfl) (SN.se sn_c))) (SN.se sn_c))) (SN.se sn_c))))) (SN.se (sn_var rfl)))))))))))))))))))))) (fun N8 => (ss_if (st_and (st_tst (SN.se (sn_op2 om_lt (SN.se (sn_op2 om_ix (SN.se (sn_var rfl)) (SN.se sn_c))) (SN.se (sn_var rfl))))) (st_tst (SN.se (sn_op2 om_lt (SN.se (sn_op2 om_ix (SN.se (sn_var rfl)) (SN.se sn_c))) (SN.se (sn_cb on_len (sr_cons (SN.se (sn_op2 om_ix (SN.se (sn_var rfl)) (SN.se sn_c))) sr_nil))))))) (ss_seq (ss_asg (fun x_cell => [some (.val x_bag), some (.val x_sides), some (.val x_cell), none, none]) (fun _ => rfl) (sw_fz (sn_op2 om_ix (SN.se (sn_op2 om_ix (SN.se (sn_var rfl)) (SN.se sn_c))) (SN.se (sn_op2 om_ix (SN.se (sn_var rfl)) (SN.se sn_c))))) (fun x_cell => (nx_of (ss_seq (ss_setIx (fun x_bag => [some x_bag, some (.val x_sides), some (.val x_cell), none, none]) (fun _ => rfl) (sw_fz (sn_op2 om_add (SN.se (sn_op2 om_ix (SN.se (sn_var rfl)) (SN.se sn_c))) (SN.se sn_c))) rfl (SN.se sn_c) (fun x_bag => (nx_of (ss_seq (ss_setIx (fun x_bag => [some x_bag, some (.val x_sides), some (.val x_cell), none, none]) (fun _ => rfl) (sw_fz sn_c) rfl (SN.se sn_c) (fun x_bag => (nx_of (ss_if (st_tst (SN.se (sn_op2 om_ge (SN.se (sn_var rfl)) (SN.se (sn_op2 om_pow (SN.se sn_c) (SN.se sn_c)))))) (ss_setIx (fun x_bag => [some x_bag, some (.val x_sides), some (.val x_cell), none, none]) (fun _ => rfl) (sw_fz (sn_var rfl)) rfl (SN.se sn_c) (fun x_bag => (fun h z => N8 x_bag (some (.val x_cell)) h z))) (ss_setIx (fun x_bag => [some x_bag, some (.val x_sides), some (.val x_cell), none, none]) (fun _ => rfl) (sw_fz (sn_op2 om_mod (SN.se (sn_op2 om_add (SN.se (sn_op2 om_add (SN.se (sn_op2 om_mulT (SN.se (sn_op2 om_ix (se_var rfl) (SN.se sn_c))) (SN.se sn_c))) (SN.se (sn_op2 om_mulT (SN.se (sn_op2 om_mod (SN.se (sn_var rfl)) (SN.se sn_c))) (SN.se sn_c))))) (SN.se sn_c))) (SN.se sn_c))) rfl (SN.se sn_c) (fun x_bag => (fun h z => N8 x_bag (some (.val x_cell)) h z)))))))))))))))) (ss_nx (fun h z => N8 (.val x_bag) (none) h z)))))
theorem q__law_take (ws : List W) (h : AH) (Qa : RR → AH → Prop) (Ea : AExc → AH → Prop) (hl : ws.length = 2) (z : upc m__law_take ws h Qa Ea) : t__law_take (excOf Ea) (endsOf Qa) (startA 5 ws) h := by
  obtain ⟨Q0, E0, hQ, hE, z⟩ := z
  match ws, hl with
  | [x_bag, x_sides], _ => exact z__law_take hQ hE x_bag x_sides h z
theorem z__law_pick {Q : RR → AH → Prop} {E : AExc → AH → Prop} {Q' : RR → AH → Prop} {E' : AExc → AH → Prop} (hQ : ∀ r h, Q r h → Q' r h) (hE : ∀ x h, E x h → E' x h) (x_bag x_row_here : W) : ∀ h, mf__law_pick x_bag x_row_here h Q E → t__law_pick (excOf E') (endsOf Q') [some (.val x_bag), some (.val x_row_here)] h := by
  have hr_ := hr_top hQ
  have he := he_top hE
  unfold mf__law_pick t__law_pick
  exact (ss_ret hr_ (SN.se (sn_op2 om_ix (SN.se (sn_var rfl)) (SN.se (sn_call (he _) (sws_cons (sw_fz (sn_var rfl)) (sws_cons (sw_fz (sn_cb on_len (sr_cons (SN.se (sn_var rfl)) sr_nil))) sws_nil)))))))
theorem q__law_pick (ws : List W) (h : AH) (Qa : RR → AH → Prop) (Ea : AExc → AH → Prop) (hl : ws.length = 2) (z : upc m__law_pick ws h Qa Ea) : t__law_pick (excOf Ea) (endsOf Qa) (startA 2 ws) h := by
  obtain ⟨Q0, E0, hQ, hE, z⟩ := z
  match ws, hl with
  | [x_bag, x_row_here], _ => exact z__law_pick hQ hE x_bag x_row_here h z
theorem z__law_same (d : Nat) {Q : RR → AH → Prop} {E : AExc → AH → Prop} {Q' : RR → AH → Prop} {E' : AExc → AH → Prop} (hQ : ∀ r h, Q r h → Q' r h) (hE : ∀ x h, E x h → E' x h) (x_found x_due : W) : ∀ h, mf__law_same (m__law_same d) x_found x_due h Q E → t__law_same d (excOf E') (endsOf Q') [some (.val x_found), some (.val x_due), none] h := by
  have hr_ := hr_top hQ
  have he := he_top hE
  unfold mf__law_same t__law_same
  exact (ss_seq (ss_if (st_tst (SN.se (sn_op2 om_isN (SN.se (sn_var rfl)) (SN.se sn_c)))) (ss_ret hr_ (SN.se (sn_op2 om_isN (SN.se (sn_var rfl)) (SN.se sn_c)))) (ss_nx (nx_of (ss_seq (ss_if (st_tst (SN.se (sn_cb on_isi (sr_cons (SN.se (sn_var rfl)) (sr_cons (SN.se sn_c) sr_nil))))) (ss_ret hr_ (SN.se (sn_and (SN.se (sn_cb on_isi (sr_cons (SN.se (sn_var rfl)) (sr_cons (SN.se sn_c) sr_nil)))) (sn_op2 om_eq (SN.se (sn_var rfl)) (SN.se (sn_var rfl)))))) (ss_nx (nx_of (ss_seq (ss_if (st_tst (SN.se (sn_cb on_isi (sr_cons (SN.se (sn_var rfl)) (sr_cons (SN.se sn_c) sr_nil))))) (ss_ret hr_ (SN.se (sn_and (SN.se (sn_cb on_isi (sr_cons (SN.se (sn_var rfl)) (sr_cons (SN.se sn_c) sr_nil)))) (sn_and (SN.se (sn_not (SN.se (sn_cb on_isi (sr_cons (SN.se (sn_var rfl)) (sr_cons (SN.se sn_c) sr_nil)))))) (sn_op2 om_eq (SN.se (sn_var rfl)) (SN.se (sn_var rfl))))))) (ss_nx (nx_of (ss_seq (ss_if (st_tst (SN.se (sn_cb on_isi (sr_cons (SN.se (sn_var rfl)) (sr_cons (SN.se sn_c) sr_nil))))) (ss_ret hr_ (SN.se (sn_and (SN.se (sn_cb on_isi (sr_cons (SN.se (sn_var rfl)) (sr_cons (SN.se sn_c) sr_nil)))) (sn_op2 om_eq (SN.se (sn_var rfl)) (SN.se (sn_var rfl)))))) (ss_nx (nx_of (ss_seq (ss_if (st_or (st_tst (SN.se (sn_op2 om_eq (SN.se (sn_cb on_isi (sr_cons (SN.se (sn_var rfl)) (sr_cons (SN.se sn_c) sr_nil)))) (SN.se (sn_cb on_isi (sr_cons (SN.se (sn_var rfl)) (sr_cons (SN.se sn_c) sr_nil))))))) (st_tst (SN.se (sn_op2 om_eq (SN.se (sn_cb on_isi (sr_cons (SN.se (sn_var rfl)) (sr_cons (SN.se sn_c) sr_nil)))) (SN.se (sn_cb on_isi (sr_cons (SN.se (sn_var rfl)) (sr_cons (SN.se sn_c) sr_nil)))))))) (ss_ret hr_ (SN.se sn_c)) (ss_nx (nx_of (ss_seq (ss_if (st_tst (SN.se (sn_op2 om_eq (SN.se (sn_cb on_len (sr_cons (SN.se (sn_var rfl)) sr_nil))) (SN.se (sn_cb on_len (sr_cons (SN.se (sn_var rfl)) sr_nil)))))) (ss_ret hr_ (SN.se sn_c)) (ss_nx (nx_of (ss_ret hr_ (SN.se (sn_cb on_bls (sr_cons (SN.se (sn_lc (si_rng1 (sr_cons (SN.se (sn_cb on_len (sr_cons (SN.se (sn_var rfl)) sr_nil))) sr_nil)) (fun x_at h kk K1 K0 h1 h0 z => by exact lc_body (e1 := [some (.val x_found), some (.val x_due), some (.val x_at)]) gd_nm st_yes (sw_fz (sn_call0 (sws_cons (sw_fz (sn_op2 om_ix (SN.se (sn_var rfl)) (SN.se (sn_var rfl)))) (sws_cons (sw_fz (sn_op2 om_ix (SN.se (sn_var rfl)) (SN.se (sn_var rfl)))) sws_nil)))) rfl h1 h0 z))) sr_nil))))))))))))))))))))))))))))
theorem q__law_same (d : Nat) (ws : List W) (h : AH) (Qa : RR → AH → Prop) (Ea : AExc → AH → Prop) (hl : ws.length = 2) (z : upc (m__law_same (d + 1)) ws h Qa Ea) : t__law_same d (excOf Ea) (endsOf Qa) (startA 3 ws) h := by
  obtain ⟨Q0, E0, hQ, hE, z⟩ := z
  match ws, hl with
  | [x_found, x_due], _ => exact z__law_same d hQ hE x_found x_due h z
theorem z__law_sizes {Q : RR → AH → Prop} {E : AExc → AH → Prop} {Q' : RR → AH → Prop} {E' : AExc → AH → Prop} (hQ : ∀ r h, Q r h → Q' r h) (hE : ∀ x h, E x h → E' x h) (x_bag x_mcasks x_most : W) : ∀ h, mf__law_sizes x_bag x_mcasks x_most h Q E → t__law_sizes (excOf E') (endsOf Q') [some (.val x_bag), some (.val x_mcasks), some (.val x_most), none] h := by
  have hr_ := hr_top hQ
  have he := he_top hE
  unfold mf__law_sizes t__law_sizes
  exact (ss_ret hr_ (SN.se (sn_cb on_tupC (sr_cons (SN.se (sn_lc (si_rng1 (sr_cons (SN.se (sn_op2 om_add (SN.se sn_c) (SN.se (sn_call (he _) (sws_cons (sw_fz (sn_var rfl)) (sws_cons (sw_fz (sn_var rfl)) sws_nil)))))) sr_nil)) (fun x_mcask h kk K1 K0 h1 h0 z => by exact lc_body (e1 := [some (.val x_bag), some (.val x_mcasks), some (.val x_most), some (.val x_mcask)]) gd_nm st_yes (sw_fz (sn_op2 om_add (SN.se sn_c) (SN.se (sn_call0 (sws_cons (sw_fz (sn_var rfl)) (sws_cons (sw_fz (sn_var rfl)) sws_nil)))))) rfl h1 h0 z))) sr_nil))))
theorem q__law_sizes (ws : List W) (h : AH) (Qa : RR → AH → Prop) (Ea : AExc → AH → Prop) (hl : ws.length = 3) (z : upc m__law_sizes ws h Qa Ea) : t__law_sizes (excOf Ea) (endsOf Qa) (startA 4 ws) h := by
  obtain ⟨Q0, E0, hQ, hE, z⟩ := z
  match ws, hl with
  | [x_bag, x_mcasks, x_most], _ => exact z__law_sizes hQ hE x_bag x_mcasks x_most h z
theorem z__law_any_sizes {Q : RR → AH → Prop} {E : AExc → AH → Prop} {Q' : RR → AH → Prop} {E' : AExc → AH → Prop} (hQ : ∀ r h, Q r h → Q' r h) (hE : ∀ x h, E x h → E' x h) (x_bag : W) : ∀ h, mf__law_any_sizes x_bag h Q E → t__law_any_sizes (excOf E') (endsOf Q') [some (.val x_bag)] h := by
  have hr_ := hr_top hQ
  have he := he_top hE
  unfold mf__law_any_sizes t__law_any_sizes
  exact (ss_ret hr_ (SN.se (sn_call (he _) (sws_cons (sw_fz (sn_var rfl)) (sws_cons (sw_fz sn_c) (sws_cons (sw_fz (sn_call (he _) (sws_cons (sw_fz (sn_var rfl)) (sws_cons (sw_fz (sn_lst (sws_cons (sw_fz sn_c) (sws_cons (sw_fz sn_c) (sws_cons (sw_fz sn_c) (sws_cons (sw_fz sn_c) sws_nil)))))) sws_nil)))) sws_nil))))))
theorem q__law_any_sizes (ws : List W) (h : AH) (Qa : RR → AH → Prop) (Ea : AExc → AH → Prop) (hl : ws.length = 1) (z : upc m__law_any_sizes ws h Qa Ea) : t__law_any_sizes (excOf Ea) (endsOf Qa) (startA 1 ws) h := by
  obtain ⟨Q0, E0, hQ, hE, z⟩ := z
  match ws, hl with
  | [x_bag], _ => exact z__law_any_sizes hQ hE x_bag h z
theorem z__law_stand {Q : RR → AH → Prop} {E : AExc → AH → Prop} {Q' : RR → AH → Prop} {E' : AExc → AH → Prop} (hQ : ∀ r h, Q r h → Q' r h) (hE : ∀ x h, E x h → E' x h) (x_bag x_msizes x_mmany x_gone : W) : ∀ h, mf__law_stand x_bag x_msizes x_mmany x_gone h Q E → t__law_stand (excOf E') (endsOf Q') [some (.val x_bag), some (.val x_msizes), some (.val x_mmany), some (.val x_gone), none, none, none, none] h := by
  have hr_ := hr_top hQ
  have he := he_top hE
  unfold mf__law_stand t__law_stand
  exact (ss_seq (ss_asg (fun x_found => [some (.val x_bag), some (.val x_msizes), some (.val x_mmany), some (.val x_gone), some (.val x_found), none, none, none]) (fun _ => rfl) (sw_fz (sn_tup sws_nil)) (fun x_found => (nx_of (ss_seq (ss_set (fun x_held => [some (.val x_bag), some (.val x_msizes), some (.val x_mmany), some (.val x_gone), some (.val x_found), some x_held, none, none]) (fun _ => rfl) (sn_op2 om_mulT (SN.se (sn_lst (sws_cons (sw_fz sn_c) sws_nil))) (SN.se (sn_cb on_len (sr_cons (SN.se (sn_var rfl)) sr_nil)))) (fun x_held => (nx_of (ss_seq (ss_for (fun (s7 : W × SV) (j8 : Option SV × Option SV) => [some (.val x_bag), some (.val x_msizes), some (.val x_mmany), some (.val x_gone), some (.val s7.1), some s7.2, j8.1, j8.2]) (x_found, x_held) (none, none) rfl (si_rng1 (sr_cons (SN.se (sn_call (he _) (sws_cons (sw_fz (sn_var rfl)) (sws_cons (sw_fz (sn_op2 om_add (SN.se (sn_var rfl)) (SN.se sn_c))) sws_nil)))) sr_nil)) (fun s7 j8 => (nx_of (ss_ret hr_ (SN.se (sn_var rfl))))) (fun R12 x_k s7 j8 kn9 _ N11 h z => by refine gd_lit [some (.val x_bag), some (.val x_msizes), some (.val x_mmany), some (.val x_gone), some (.val s7.1), some s7.2, some (.val x_k), j8.2] gd_nm rfl h _ ?_; exact go_at h z (ss_seq (ss_asg (fun x_place => [some (.val x_bag), some (.val x_msizes), some (.val x_mmany), some (.val x_gone), some (.val s7.1), some s7.2, some (.val x_k), some (.val x_place)]) (fun _ => rfl) (sw_fz (sn_op2 om_sub (SN.se (sn_call (he _) (sws_cons (sw_fz (sn_var rfl)) (sws_cons (sw_fz (sn_op2 om_add (SN.se (sn_cb on_len (sr_cons (SN.se (sn_var rfl)) sr_nil))) (SN.se (sn_var rfl)))) sws_nil)))) (SN.se (sn_var rfl)))) (fun x_place => (nx_of (ss_if (st_tst (SN.se (sn_op2 om_lt (SN.se (sn_var rfl)) (SN.se sn_c)))) (ss_asg (fun x_found => [some (.val x_bag), some (.val x_msizes), some (.val x_mmany), some (.val x_gone), some (.val x_found), some s7.2, some (.val x_k), some (.val x_place)]) (fun _ => rfl) (sw_fz (sn_op2 om_add (SN.se (sn_var rfl)) (SN.se (sn_tup (sws_cons (sw_fz (sn_neg (SN.se sn_c))) sws_nil))))) (fun x_found => (fun h z => N11 (x_found, s7.2) (some (.val x_k), some (.val x_place)) h z))) (ss_if (st_tst (SN.se (sn_op2 om_lt (SN.se (sn_op2 om_ix (se_var rfl) (SN.se (sn_var rfl)))) (SN.se (sn_op2 om_ix (SN.se (sn_var rfl)) (SN.se (sn_var rfl))))))) (ss_seq (ss_setIx (fun x_held => [some (.val x_bag), some (.val x_msizes), some (.val x_mmany), some (.val x_gone), some (.val s7.1), some x_held, some (.val x_k), some (.val x_place)]) (fun _ => rfl) (sw_fz (sn_op2 om_add (SN.se (sn_op2 om_ix (se_var rfl) (SN.se (sn_var rfl)))) (SN.se sn_c))) rfl (SN.se (sn_var rfl)) (fun x_held => (nx_of (ss_asg (fun x_found => [some (.val x_bag), some (.val x_msizes), some (.val x_mmany), some (.val x_gone), some (.val x_found), some x_held, some (.val x_k), some (.val x_place)]) (fun _ => rfl) (sw_fz (sn_op2 om_add (SN.se (sn_var rfl)) (SN.se (sn_tup (sws_cons (sw_fz (sn_var rfl)) sws_nil))))) (fun x_found => (fun h z => N11 (x_found, x_held) (some (.val x_k), some (.val x_place)) h z))))))) (ss_nx (fun h z => N11 (s7.1, s7.2) (some (.val x_k), some (.val x_place)) h z)))))))))))))))))))
theorem q__law_stand (ws : List W) (h : AH) (Qa : RR → AH → Prop) (Ea : AExc → AH → Prop) (hl : ws.length = 4) (z : upc m__law_stand ws h Qa Ea) : t__law_stand (excOf Ea) (endsOf Qa) (startA 8 ws) h := by
  obtain ⟨Q0, E0, hQ, hE, z⟩ := z
  match ws, hl with
  | [x_bag, x_msizes, x_mmany, x_gone], _ => exact z__law_stand hQ hE x_bag x_msizes x_mmany x_gone h z
theorem z__law_number {Q : RR → AH → Prop} {E : AExc → AH → Prop} {Q' : RR → AH → Prop} {E' : AExc → AH → Prop} (hQ : ∀ r h, Q r h → Q' r h) (hE : ∀ x h, E x h → E' x h) (x_bag : W) : ∀ h, mf__law_number x_bag h Q E → t__law_number (excOf E') (endsOf Q') [some (.val x_bag), none] h := by
  have hr_ := hr_top hQ
  have he := he_top hE
  unfold mf__law_number t__law_number
  exact (ss_seq (ss_asg (fun x_some => [some (.val x_bag), some (.val x_some)]) (fun _ => rfl) (sw_fz (sn_lst (sws_cons (sw_fz sn_c) (sws_cons (sw_fz sn_c) (sws_cons (sw_fz sn_c) (sws_cons (sw_fz sn_c) (sws_cons (sw_fz (sn_op2 om_add (SN.se sn_c) (SN.se (sn_call (he _) (sws_cons (sw_fz (sn_var rfl)) (sws_cons (sw_fz sn_c) sws_nil)))))) (sws_cons (sw_fz (sn_call (he _) (sws_cons (sw_fz (sn_var rfl)) (sws_cons (sw_fz sn_c) sws_nil)))) (sws_cons (sw_fz (sn_op2 om_sub (SN.se (sn_op2 om_pow (SN.se sn_c) (SN.se sn_c))) (SN.se sn_c))) (sws_cons (sw_fz (sn_call (he _) (sws_cons (sw_fz (sn_var rfl)) (sws_cons (sw_fz (sn_op2 om_pow (SN.se sn_c) (SN.se sn_c))) sws_nil)))) sws_nil)))))))))) (fun x_some => (nx_of (ss_ret hr_ (SN.se (sn_call (he _) (sws_cons (sw_fz (sn_var rfl)) (sws_cons (sw_fz (sn_var rfl)) sws_nil)))))))))
theorem q__law_number (ws : List W) (h : AH) (Qa : RR → AH → Prop) (Ea : AExc → AH → Prop) (hl : ws.length = 1) (z : upc m__law_number ws h Qa Ea) : t__law_number (excOf Ea) (endsOf Qa) (startA 2 ws) h := by
  obtain ⟨Q0, E0, hQ, hE, z⟩ := z
  match ws, hl with
  | [x_bag], _ => exact z__law_number hQ hE x_bag h z
theorem lcS_go {Q : RR → AH → Prop} {E : AExc → AH → Prop} {envOf : SV → AEnv} {vs : List Nat} {g : AGT} {tb : ABT} {tv : AVT} {body : W → SV → (SV → Option W → MC) → MC} {k : SV → List W → MC} {K : List W → AEnv → AH → Prop} (hk : ∀ s acc h', k s acc h' Q E → K acc (envOf s) h')
    (b : ∀ w s h (kk : SV → Option W → MC) (K1 : W → AEnv → AH → Prop) (K0 : AEnv → AH → Prop), (∀ s y h', kk s (some y) h' Q E → K1 y (envOf s) h') → (∀ s h', kk s none h' Q E → K0 (envOf s) h') → body w s kk h Q E →
      g w (wipeA (envOf s) vs) h fun e1 h1 => tb e1 h1 fun b e2 h2 => if b = true then tv e2 h2 fun y e3 h3 => K1 y (mend (envOf s) e3 vs) h3 else K0 (mend (envOf s) e2 vs) h2) :
    ∀ (ws : List W) (s : SV) (acc : List W) (h : AH), lcSL body k ws s acc h Q E → lcLoop vs g tb tv K ws acc (envOf s) h
  | [], s, acc, h, z => hk s acc h z
  | w :: ws, s, acc, h, z => b w s h _ (fun y e3 h3 => acc.length < sizeLine ∧ lcLoop vs g tb tv K ws (acc ++ [y]) e3 h3) (fun e2 h2 => lcLoop vs g tb tv K ws acc e2 h2)
      (fun s y h' z => ⟨z.1, lcS_go hk b ws s (acc ++ [y]) h' z.2⟩) (fun s h' z => lcS_go hk b ws s acc h' z) z
theorem z__law_shuffled {Q : RR → AH → Prop} {E : AExc → AH → Prop} {Q' : RR → AH → Prop} {E' : AExc → AH → Prop} (hQ : ∀ r h, Q r h → Q' r h) (hE : ∀ x h, E x h → E' x h) (x_bag x_row : W) : ∀ h, mf__law_shuffled x_bag x_row h Q E → t__law_shuffled (excOf E') (endsOf Q') [some (.val x_bag), some (.val x_row), none, none] h := by
  have hr_ := hr_top hQ
  have he := he_top hE
  unfold mf__law_shuffled t__law_shuffled
  refine ss_seq (ss_set (fun x => [some (.val x_bag), some (.val x_row), some x, none]) (fun _ => rfl) (sn_cb on_lstC (sr_cons (SN.se (sn_var rfl)) sr_nil)) fun x_left => nx_of (ss_retK fun h z => ?_))
  refine si_items (env := [some (.val x_bag), some (.val x_row), some x_left, none]) (sw_fz (sn_var (i := 1) rfl)) h _ _ (fun ws h1 z => ?_) z
  refine lcS_go (envOf := fun s => [some (.val x_bag), some (.val x_row), some s, none]) (fun s acc h' z => hr_ (.own (.seq acc)) (.own (.seq acc)) _ _ rfl z) (fun v s h kk K1 K0 h1 h0 z => ?_) ws x_left [] h1 z
  refine gd_nm (i := 3) (env := [some (.val x_bag), some (.val x_row), some s, none]) h _ ?_
  refine yes_go ?_
  exact lm_go (i := 2) (env := [some (.val x_bag), some (.val x_row), some s, some (.val v)]) (K := fun r env' h' => match r with
    | .val w => K1 w (mend [some (.val x_bag), some (.val x_row), some s, none] env' [3]) h'
    | .own c => K1 c.fz (mend [some (.val x_bag), some (.val x_row), some s, none] env' [3]) h'
    | .slot i => match env'[i]? with
      | some (some (.val w)) => K1 w (mend [some (.val x_bag), some (.val x_row), some s, none] env' [3]) h'
      | some (some (.own c)) => K1 c.fz (mend [some (.val x_bag), some (.val x_row), some s, none] (env'.set i (some (.val c.fz))) [3]) h'
      | _ => False) lm_mPopAt rfl (sws_cons (sw_fz (sn_call0 (sws_cons (sw_fz (sn_var rfl)) (sws_cons (sw_fz (sn_cb on_len (sr_cons (se_var rfl) sr_nil))) sws_nil)))) sws_nil) (fun x' w h z => h1 x' w h z) h z
theorem q__law_shuffled (ws : List W) (h : AH) (Qa : RR → AH → Prop) (Ea : AExc → AH → Prop) (hl : ws.length = 2) (z : upc m__law_shuffled ws h Qa Ea) : t__law_shuffled (excOf Ea) (endsOf Qa) (startA 4 ws) h := by
  obtain ⟨Q0, E0, hQ, hE, z⟩ := z
  match ws, hl with
  | [x_bag, x_row], _ => exact z__law_shuffled hQ hE x_bag x_row h z
theorem z__law_some_casks {Q : RR → AH → Prop} {E : AExc → AH → Prop} {Q' : RR → AH → Prop} {E' : AExc → AH → Prop} (hQ : ∀ r h, Q r h → Q' r h) (hE : ∀ x h, E x h → E' x h) (x_bag x_mcasks x_mmany : W) : ∀ h, mf__law_some_casks x_bag x_mcasks x_mmany h Q E → t__law_some_casks (excOf E') (endsOf Q') [some (.val x_bag), some (.val x_mcasks), some (.val x_mmany)] h := by
  have hr_ := hr_top hQ
  have he := he_top hE
  unfold mf__law_some_casks t__law_some_casks
  exact (ss_ret hr_ (SN.se (sn_cb on_tupC (sr_cons (SN.se (sn_sl (SN.se (sn_call (he _) (sws_cons (sw_fz (sn_var rfl)) (sws_cons (sw_fz (sn_lrg1 (SN.se (sn_var rfl)))) sws_nil)))) so_no (so_part (SN.se (sn_var rfl))))) sr_nil))))
theorem q__law_some_casks (ws : List W) (h : AH) (Qa : RR → AH → Prop) (Ea : AExc → AH → Prop) (hl : ws.length = 3) (z : upc m__law_some_casks ws h Qa Ea) : t__law_some_casks (excOf Ea) (endsOf Qa) (startA 3 ws) h := by
  obtain ⟨Q0, E0, hQ, hE, z⟩ := z
  match ws, hl with
  | [x_bag, x_mcasks, x_mmany], _ => exact z__law_some_casks hQ hE x_bag x_mcasks x_mmany h z
theorem z__law_alike {Q : RR → AH → Prop} {E : AExc → AH → Prop} {Q' : RR → AH → Prop} {E' : AExc → AH → Prop} (hQ : ∀ r h, Q r h → Q' r h) (hE : ∀ x h, E x h → E' x h) (x_msizes : W) : ∀ h, mf__law_alike x_msizes h Q E → t__law_alike (excOf E') (endsOf Q') [some (.val x_msizes), none, none, none, none] h := by
  have hr_ := hr_top hQ
  have he := he_top hE
  unfold mf__law_alike t__law_alike
  exact (ss_seq (ss_set (fun x_found => [some (.val x_msizes), some x_found, none, none, none]) (fun _ => rfl) (sn_lst sws_nil) (fun x_found => (nx_of (ss_seq (ss_for (fun (s7 : SV) (j8 : Option SV × Option SV) => [some (.val x_msizes), some s7, j8.1, j8.2, none]) x_found (none, none) rfl (si_rng1 (sr_cons (SN.se (sn_cb on_len (sr_cons (SN.se (sn_var rfl)) sr_nil))) sr_nil)) (fun s7 j8 => (nx_of (ss_ret hr_ (se_var rfl)))) (fun R12 x_mone s7 j8 kn9 _ N11 h z => by refine gd_lit [some (.val x_msizes), some s7, some (.val x_mone), j8.2, none] gd_nm rfl h _ ?_; exact go_at h z (ss_seq (ss_setLc (fun x_near => [some (.val x_msizes), some s7, some (.val x_mone), some x_near, none]) (fun _ => rfl) (si_rng1 (sr_cons (SN.se (sn_cb on_len (sr_cons (SN.se (sn_var rfl)) sr_nil))) sr_nil)) (fun x_at h kk K1 K0 h1 h0 z => by exact lc_body (e1 := [some (.val x_msizes), some s7, some (.val x_mone), j8.2, some (.val x_at)]) gd_nm (st_and (st_tst (SN.se (sn_op2 om_eq (SN.se (sn_var rfl)) (SN.se (sn_var rfl))))) (st_tst (SN.se (sn_op2 om_eq (SN.se (sn_op2 om_ix (SN.se (sn_var rfl)) (SN.se (sn_var rfl)))) (SN.se (sn_op2 om_ix (SN.se (sn_var rfl)) (SN.se (sn_var rfl)))))))) (sw_fz (sn_var rfl)) rfl h1 h0 z) (fun x_near => (nx_of (ss_frz [some (.val x_msizes), some s7, some (.val x_mone), some (.val (SV.fz x_near)), none] rfl rfl (ss_ext (fun x_found => [some (.val x_msizes), some x_found, some (.val x_mone), some (.val (SV.fz x_near)), none]) (fun _ => rfl) rfl (SN.se (sn_lc (si_items (sw_fz (sn_var rfl))) (fun x_at h kk K1 K0 h1 h0 z => by exact lc_body (e1 := [some (.val x_msizes), some s7, some (.val x_mone), some (.val (SV.fz x_near)), some (.val x_at)]) gd_nm st_yes (sw_fz (sn_tup (sws_cons (sw_fz (sn_var rfl)) (sws_cons (sw_fz (sn_var rfl)) sws_nil)))) rfl h1 h0 z))) (fun x_found => (fun h z => N11 x_found (some (.val x_mone), some (.val (SV.fz x_near))) h z)))))))))))))))
theorem q__law_alike (ws : List W) (h : AH) (Qa : RR → AH → Prop) (Ea : AExc → AH → Prop) (hl : ws.length = 1) (z : upc m__law_alike ws h Qa Ea) : t__law_alike (excOf Ea) (endsOf Qa) (startA 5 ws) h := by
  obtain ⟨Q0, E0, hQ, hE, z⟩ := z
  match ws, hl with
  | [x_msizes], _ => exact z__law_alike hQ hE x_msizes h z
theorem z__law_deed {Q : RR → AH → Prop} {E : AExc → AH → Prop} {Q' : RR → AH → Prop} {E' : AExc → AH → Prop} (hQ : ∀ r h, Q r h → Q' r h) (hE : ∀ x h, E x h → E' x h) (x_bag x_msizes x_number_here x_taps : W) : ∀ h, mf__law_deed x_bag x_msizes x_number_here x_taps h Q E → t__law_deed (excOf E') (endsOf Q') [some (.val x_bag), some (.val x_msizes), some (.val x_number_here), some (.val x_taps), none, none, none, none] h := by
  have hr_ := hr_top hQ
  have he := he_top hE
  unfold mf__law_deed t__law_deed
  exact (ss_seq (ss_asg (fun x_how => [some (.val x_bag), some (.val x_msizes), some (.val x_number_here), some (.val x_taps), some (.val x_how), none, none, none]) (fun _ => rfl) (sw_fz (sn_call (he _) (sws_cons (sw_fz (sn_var rfl)) (sws_cons (sw_fz sn_c) sws_nil)))) (fun x_how => (nx_of (ss_seq (ss_asg (fun x_pairs => [some (.val x_bag), some (.val x_msizes), some (.val x_number_here), some (.val x_taps), some (.val x_how), some (.val x_pairs), none, none]) (fun _ => rfl) (sw_fz (sn_call (he _) (sws_cons (sw_fz (sn_var rfl)) sws_nil))) (fun x_pairs => (nx_of (ss_seq (ss_if (st_and (st_tst (SN.se (sn_op2 om_eq (SN.se (sn_var rfl)) (SN.se sn_c)))) (st_tst (SN.se (sn_op2 om_eq (SN.se (sn_var rfl)) (SN.se (sn_lst sws_nil)))))) (ss_ret hr_ (SN.se (sn_op2 om_add (SN.se (sn_tup (sws_cons (sw_fz sn_c) sws_nil))) (SN.se (sn_call (he _) (sws_cons (sw_fz (sn_var rfl)) (sws_cons (sw_fz (sn_var rfl)) sws_nil))))))) (ss_nx (nx_of (ss_seq (ss_if (st_and (st_tst (SN.se (sn_op2 om_lt (SN.se (sn_var rfl)) (SN.se sn_c)))) (st_tst (SN.se (sn_var rfl)))) (ss_ret hr_ (SN.se (sn_tup (sws_cons (sw_fz sn_c) (sws_cons (sw_fz (sn_call (he _) (sws_cons (sw_fz (sn_var rfl)) (sws_cons (sw_fz (sn_lst (sws_cons (sw_fz sn_c) (sws_cons (sw_fz sn_c) (sws_cons (sw_fz sn_c) (sws_cons (sw_fz sn_c) (sws_cons (sw_fz (sn_var rfl)) sws_nil))))))) sws_nil)))) (sws_cons (sw_fz (sn_call (he _) (sws_cons (sw_fz (sn_var rfl)) (sws_cons (sw_fz (sn_cb on_len (sr_cons (SN.se (sn_var rfl)) sr_nil))) sws_nil)))) sws_nil)))))) (ss_nx (nx_of (ss_seq (ss_if (st_or (st_tst (SN.se (sn_op2 om_eq (SN.se (sn_var rfl)) (SN.se sn_c)))) (st_tst (SN.se (sn_op2 om_eq (SN.se (sn_cb on_len (sr_cons (SN.se (sn_var rfl)) sr_nil))) (SN.se sn_c))))) (ss_ret hr_ (SN.se (sn_tup (sws_cons (sw_fz sn_c) (sws_cons (sw_fz (sn_var rfl)) (sws_cons (sw_fz (sn_call (he _) (sws_cons (sw_fz (sn_var rfl)) (sws_cons (sw_fz (sn_cb on_len (sr_cons (SN.se (sn_var rfl)) sr_nil))) sws_nil)))) sws_nil)))))) (ss_nx (nx_of (ss_seq (ss_asg (fun x_mmany => [some (.val x_bag), some (.val x_msizes), some (.val x_number_here), some (.val x_taps), some (.val x_how), some (.val x_pairs), some (.val x_mmany), none]) (fun _ => rfl) (sw_fz (sn_op2 om_add (SN.se sn_c) (SN.se (sn_call (he _) (sws_cons (sw_fz (sn_var rfl)) (sws_cons (sw_fz (sn_op2 om_sub (SN.se (sn_cb on_len (sr_cons (SN.se (sn_var rfl)) sr_nil))) (SN.se sn_c))) sws_nil)))))) (fun x_mmany => (nx_of (ss_seq (ss_asg (fun x_word => [some (.val x_bag), some (.val x_msizes), some (.val x_number_here), some (.val x_taps), some (.val x_how), some (.val x_pairs), some (.val x_mmany), some (.val x_word)]) (fun _ => rfl) (sw_fz (sn_op2 om_ix (SN.se (sn_lst (sws_cons (sw_fz sn_c) (sws_cons (sw_fz sn_c) sws_nil)))) (SN.se (sn_op2 om_fdiv (SN.se (sn_call (he _) (sws_cons (sw_fz (sn_var rfl)) (sws_cons (sw_fz sn_c) sws_nil)))) (SN.se sn_c))))) (fun x_word => (nx_of (ss_ret hr_ (SN.se (sn_op2 om_add (SN.se (sn_tup (sws_cons (sw_fz (sn_var rfl)) (sws_cons (sw_fz (sn_var rfl)) sws_nil)))) (SN.se (sn_call (he _) (sws_cons (sw_fz (sn_var rfl)) (sws_cons (sw_fz (sn_cb on_len (sr_cons (SN.se (sn_var rfl)) sr_nil))) (sws_cons (sw_fz (sn_var rfl)) sws_nil))))))))))))))))))))))))))))))))))))
theorem q__law_deed (ws : List W) (h : AH) (Qa : RR → AH → Prop) (Ea : AExc → AH → Prop) (hl : ws.length = 4) (z : upc m__law_deed ws h Qa Ea) : t__law_deed (excOf Ea) (endsOf Qa) (startA 8 ws) h := by
  obtain ⟨Q0, E0, hQ, hE, z⟩ := z
  match ws, hl with
  | [x_bag, x_msizes, x_number_here, x_taps], _ => exact z__law_deed hQ hE x_bag x_msizes x_number_here x_taps h z
theorem z__law_row {Q : RR → AH → Prop} {E : AExc → AH → Prop} {Q' : RR → AH → Prop} {E' : AExc → AH → Prop} (hQ : ∀ r h, Q r h → Q' r h) (hE : ∀ x h, E x h → E' x h) (x_bag x_msizes x_most x_taps : W) : ∀ h, mf__law_row x_bag x_msizes x_most x_taps h Q E → t__law_row (excOf E') (endsOf Q') [some (.val x_bag), some (.val x_msizes), some (.val x_most), some (.val x_taps), none] h := by
  have hr_ := hr_top hQ
  have he := he_top hE
  unfold mf__law_row t__law_row
  exact (ss_ret hr_ (SN.se (sn_lc (si_rng1 (sr_cons (SN.se (sn_call (he _) (sws_cons (sw_fz (sn_var rfl)) (sws_cons (sw_fz (sn_op2 om_add (SN.se (sn_var rfl)) (SN.se sn_c))) sws_nil)))) sr_nil)) (fun x_k h kk K1 K0 h1 h0 z => by exact lc_body (e1 := [some (.val x_bag), some (.val x_msizes), some (.val x_most), some (.val x_taps), some (.val x_k)]) gd_nm st_yes (sw_fz (sn_call0 (sws_cons (sw_fz (sn_var rfl)) (sws_cons (sw_fz (sn_var rfl)) (sws_cons (sw_fz (sn_call0 (sws_cons (sw_fz (sn_var rfl)) sws_nil))) (sws_cons (sw_fz (sn_var rfl)) sws_nil)))))) rfl h1 h0 z))))
theorem q__law_row (ws : List W) (h : AH) (Qa : RR → AH → Prop) (Ea : AExc → AH → Prop) (hl : ws.length = 4) (z : upc m__law_row ws h Qa Ea) : t__law_row (excOf Ea) (endsOf Qa) (startA 5 ws) h := by
  obtain ⟨Q0, E0, hQ, hE, z⟩ := z
  match ws, hl with
  | [x_bag, x_msizes, x_most, x_taps], _ => exact z__law_row hQ hE x_bag x_msizes x_most x_taps h z
theorem z__law_more {Q : RR → AH → Prop} {E : AExc → AH → Prop} {Q' : RR → AH → Prop} {E' : AExc → AH → Prop} (hQ : ∀ r h, Q r h → Q' r h) (hE : ∀ x h, E x h → E' x h) (x_bag x_msizes x_mstand x_mmany : W) : ∀ h, mf__law_more x_bag x_msizes x_mstand x_mmany h Q E → t__law_more (excOf E') (endsOf Q') [some (.val x_bag), some (.val x_msizes), some (.val x_mstand), some (.val x_mmany), none, none, none, none] h := by
  have hr_ := hr_top hQ
  have he := he_top hE
  unfold mf__law_more t__law_more
  exact (ss_seq (ss_asg (fun x_found => [some (.val x_bag), some (.val x_msizes), some (.val x_mstand), some (.val x_mmany), some (.val x_found), none, none, none]) (fun _ => rfl) (sw_fz (sn_var rfl)) (fun x_found => (nx_of (ss_seq (ss_for (fun (s13 : W) (j14 : Option SV × Option SV) => [some (.val x_bag), some (.val x_msizes), some (.val x_mstand), some (.val x_mmany), some (.val s13), j14.1, j14.2, none]) x_found (none, none) rfl (si_rng1 (sr_cons (SN.se (sn_call (he _) (sws_cons (sw_fz (sn_var rfl)) (sws_cons (sw_fz (sn_op2 om_add (SN.se (sn_var rfl)) (SN.se sn_c))) sws_nil)))) sr_nil)) (fun s13 j14 => (nx_of (ss_ret hr_ (SN.se (sn_var rfl))))) (fun R18 x_k s13 j14 kn15 _ N17 h z => by refine gd_lit [some (.val x_bag), some (.val x_msizes), some (.val x_mstand), some (.val x_mmany), some (.val s13), some (.val x_k), j14.2, none] gd_nm rfl h _ ?_; exact go_at h z (ss_seq (ss_asg (fun x_place => [some (.val x_bag), some (.val x_msizes), some (.val x_mstand), some (.val x_mmany), some (.val s13), some (.val x_k), some (.val x_place), none]) (fun _ => rfl) (sw_fz (sn_op2 om_sub (SN.se (sn_call (he _) (sws_cons (sw_fz (sn_var rfl)) (sws_cons (sw_fz (sn_op2 om_add (SN.se (sn_cb on_len (sr_cons (SN.se (sn_var rfl)) sr_nil))) (SN.se sn_c))) sws_nil)))) (SN.se sn_c))) (fun x_place => (nx_of (ss_if (st_or (st_tst (SN.se (sn_op2 om_lt (SN.se (sn_var rfl)) (SN.se sn_c)))) (st_tst (SN.se (sn_op2 om_lt (SN.se (sn_cb on_len (sr_cons (SN.se (sn_lc (si_items (sw_fz (sn_var rfl))) (fun x_here h kk K1 K0 h1 h0 z => by exact lc_body (e1 := [some (.val x_bag), some (.val x_msizes), some (.val x_mstand), some (.val x_mmany), some (.val s13), some (.val x_k), some (.val x_place), some (.val x_here)]) gd_nm (st_tst (SN.se (sn_op2 om_eq (SN.se (sn_var rfl)) (SN.se (sn_var rfl))))) (sw_fz (sn_var rfl)) rfl h1 h0 z))) sr_nil))) (SN.se (sn_op2 om_ix (SN.se (sn_var rfl)) (SN.se (sn_var rfl)))))))) (ss_asg (fun x_found => [some (.val x_bag), some (.val x_msizes), some (.val x_mstand), some (.val x_mmany), some (.val x_found), some (.val x_k), some (.val x_place), none]) (fun _ => rfl) (sw_fz (sn_op2 om_add (SN.se (sn_var rfl)) (SN.se (sn_tup (sws_cons (sw_fz (sn_var rfl)) sws_nil))))) (fun x_found => (fun h z => N17 x_found (some (.val x_k), some (.val x_place)) h z))) (ss_nx (fun h z => N17 s13 (some (.val x_k), some (.val x_place)) h z))))))))))))))
theorem q__law_more (ws : List W) (h : AH) (Qa : RR → AH → Prop) (Ea : AExc → AH → Prop) (hl : ws.length = 4) (z : upc m__law_more ws h Qa Ea) : t__law_more (excOf Ea) (endsOf Qa) (startA 8 ws) h := by
  obtain ⟨Q0, E0, hQ, hE, z⟩ := z
  match ws, hl with
  | [x_bag, x_msizes, x_mstand, x_mmany], _ => exact z__law_more hQ hE x_bag x_msizes x_mstand x_mmany h z
theorem z_law {Q : RR → AH → Prop} {E : AExc → AH → Prop} {Q' : RR → AH → Prop} {E' : AExc → AH → Prop} (hQ : ∀ r h, Q r h → Q' r h) (hE : ∀ x h, E x h → E' x h) (x_script : W) : ∀ h, mf_law x_script h Q E → t_law (excOf E') (endsOf Q') [some (.val x_script), none, none, none, none, none, none, none, none, none, none] h := by
  have hr_ := hr_top hQ
  have he := he_top hE
  unfold mf_law t_law
  exact (ss_seq (ss_set (fun x_bag => [some (.val x_script), some x_bag, none, none, none, none, none, none, none, none, none]) (fun _ => rfl) (sn_call (he _) (sws_cons (sw_fz (sn_var rfl)) sws_nil)) (fun x_bag => (nx_of (ss_seq (ss_prom (fun x_bag => [some (.val x_script), some (.val x_bag), none, none, none, none, none, none, none, none, none]) (fun _ => rfl) rfl (fun x_bag => (ss_for (fun (s58 : Unit) (j59 : Option SV × Option SV × Option SV × Option SV × Option SV × Option SV × Option SV × Option SV) => [some (.val x_script), some (.val x_bag), j59.1, j59.2.1, j59.2.2.1, j59.2.2.2.1, j59.2.2.2.2.1, j59.2.2.2.2.2.1, j59.2.2.2.2.2.2.1, j59.2.2.2.2.2.2.2, none]) () (none, none, none, none, none, none, none, none) rfl (si_rng1 (sr_cons (SN.se sn_c) sr_nil)) (fun s58 j59 => (nx_of (ss_ret hr_ (SN.se sn_c)))) (fun R63 x_turn s58 j59 kn60 _ N62 h z => by refine gd_lit [some (.val x_script), some (.val x_bag), some (.val x_turn), j59.2.1, j59.2.2.1, j59.2.2.2.1, j59.2.2.2.2.1, j59.2.2.2.2.2.1, j59.2.2.2.2.2.2.1, j59.2.2.2.2.2.2.2, none] gd_nm rfl h _ ?_; exact go_at h z (ss_seq (ss_asg (fun x_msizes => [some (.val x_script), some (.val x_bag), some (.val x_turn), some (.val x_msizes), j59.2.2.1, j59.2.2.2.1, j59.2.2.2.2.1, j59.2.2.2.2.2.1, j59.2.2.2.2.2.2.1, j59.2.2.2.2.2.2.2, none]) (fun _ => rfl) (sw_fz (sn_call (he _) (sws_cons (sw_fz (sn_var rfl)) sws_nil))) (fun x_msizes => (nx_of (ss_seq (ss_asg (fun x_mstand => [some (.val x_script), some (.val x_bag), some (.val x_turn), some (.val x_msizes), some (.val x_mstand), j59.2.2.2.1, j59.2.2.2.2.1, j59.2.2.2.2.2.1, j59.2.2.2.2.2.2.1, j59.2.2.2.2.2.2.2, none]) (fun _ => rfl) (sw_fz (sn_call (he _) (sws_cons (sw_fz (sn_var rfl)) (sws_cons (sw_fz (sn_var rfl)) (sws_cons (sw_fz sn_c) (sws_cons (sw_fz sn_c) sws_nil)))))) (fun x_mstand => (nx_of (ss_seq (ss_par (fun x_left x_right => [some (.val x_script), some (.val x_bag), some (.val x_turn), some (.val x_msizes), some (.val x_mstand), some (.val x_left), some (.val x_right), j59.2.2.2.2.2.1, j59.2.2.2.2.2.2.1, j59.2.2.2.2.2.2.2, none]) (fun _ _ => rfl) (sws_cons (sw_fz (sn_call (he _) (sws_cons (sw_fz (sn_var rfl)) (sws_cons (sw_fz (sn_var rfl)) (sws_cons (sw_fz (sn_var rfl)) (sws_cons (sw_fz sn_c) sws_nil)))))) (sws_cons (sw_fz (sn_call (he _) (sws_cons (sw_fz (sn_var rfl)) (sws_cons (sw_fz (sn_var rfl)) (sws_cons (sw_fz (sn_var rfl)) (sws_cons (sw_fz sn_c) sws_nil)))))) sws_nil)) (fun x_left x_right => (nx_of (ss_seq (ss_asg (fun x_mdeeds => [some (.val x_script), some (.val x_bag), some (.val x_turn), some (.val x_msizes), some (.val x_mstand), some (.val x_left), some (.val x_right), some (.val x_mdeeds), j59.2.2.2.2.2.2.1, j59.2.2.2.2.2.2.2, none]) (fun _ => rfl) (sw_fz (sn_call (he _) (sws_cons (sw_fz (sn_var rfl)) (sws_cons (sw_fz (sn_var rfl)) (sws_cons (sw_fz sn_c) (sws_cons (sw_fz sn_c) sws_nil)))))) (fun x_mdeeds => (nx_of (ss_for (fun (s64 : Unit) (j65 : Option SV × Option SV) => [some (.val x_script), some (.val x_bag), some (.val x_turn), some (.val x_msizes), some (.val x_mstand), some (.val x_left), some (.val x_right), some (.val x_mdeeds), j65.1, j65.2, none]) () (j59.2.2.2.2.2.2.1, j59.2.2.2.2.2.2.2) rfl (si_rng1 (sr_cons (SN.se (sn_cb on_len (sr_cons (SN.se (sn_var rfl)) sr_nil))) sr_nil)) (fun s64 j65 => (fun h z => N62 () (some (.val x_turn), some (.val x_msizes), some (.val x_mstand), some (.val x_left), some (.val x_right), some (.val x_mdeeds), j65.1, j65.2) h z)) (fun R69 x_mrank s64 j65 kn66 _ N68 h z => by refine gd_lit [some (.val x_script), some (.val x_bag), some (.val x_turn), some (.val x_msizes), some (.val x_mstand), some (.val x_left), some (.val x_right), some (.val x_mdeeds), some (.val x_mrank), j65.2, none] gd_nm rfl h _ ?_; exact go_at h z (ss_seq (ss_asg (fun x_due => [some (.val x_script), some (.val x_bag), some (.val x_turn), some (.val x_msizes), some (.val x_mstand), some (.val x_left), some (.val x_right), some (.val x_mdeeds), some (.val x_mrank), some (.val x_due), none]) (fun _ => rfl) (sw_fz (sn_call (he _) (sws_cons (sw_fz (sn_var rfl)) (sws_cons (sw_fz (sn_var rfl)) (sws_cons (sw_fz (sn_var rfl)) (sws_cons (sw_fz (sn_var rfl)) sws_nil)))))) (fun x_due => (nx_of (ss_if (st_not (st_tst (SN.se (sn_call (he _) (sws_cons (sw_fz (sn_lc (si_items (sw_fz (sn_tup (sws_cons (sw_fz (sn_var rfl)) (sws_cons (sw_fz (sn_var rfl)) sws_nil))))) (fun x_here h kk K1 K0 h1 h0 z => by exact lc_body (e1 := [some (.val x_script), some (.val x_bag), some (.val x_turn), some (.val x_msizes), some (.val x_mstand), some (.val x_left), some (.val x_right), some (.val x_mdeeds), some (.val x_mrank), some (.val x_due), some (.val x_here)]) gd_nm st_yes (sw_fz (sn_call0 (sws_cons (sw_fz (sn_var rfl)) (sws_cons (sw_fz (sn_var rfl)) (sws_cons (sw_fz (sn_var rfl)) (sws_cons (sw_fz (sn_var rfl)) sws_nil)))))) rfl h1 h0 z))) (sws_cons (sw_fz (sn_lst (sws_cons (sw_fz (sn_var rfl)) (sws_cons (sw_fz (sn_var rfl)) sws_nil)))) sws_nil)))))) (ss_ret hr_ (SN.se sn_c)) (ss_nx (fun h z => N68 () (some (.val x_mrank), some (.val x_due)) h z))))))))))))))))))))))))))))))))))
theorem q_law (ws : List W) (h : AH) (Qa : RR → AH → Prop) (Ea : AExc → AH → Prop) (hl : ws.length = 1) (z : upc m_law ws h Qa Ea) : t_law (excOf Ea) (endsOf Qa) (startA 11 ws) h := by
  obtain ⟨Q0, E0, hQ, hE, z⟩ := z
  match ws, hl with
  | [x_script], _ => exact z_law hQ hE x_script h z
end Ab
namespace Ab
open PySem PySem.Spec PyProof.Rows L2 RZ
def top (i : Nat) : Stmt := PySem.Challenge.pw_hidelater_k16_whole_later_drops_are_not.main.body.getD i (.Pass ⟨0, 0, 0, 0⟩)
abbrev s_look_sizes : Stmt := top 13
abbrev N_look_sizes : List Str := ["sizes", "cask", "size"]
abbrev P_look_sizes : List Str := ["sizes"]
theorem c_look_sizes : FnScope N_look_sizes P_look_sizes (defScope s_look_sizes) := ⟨rfl, rfl, rfl, by decide +kernel, rfl, by decide +kernel, by decide +kernel⟩
theorem a_look_sizes : BindsAll "look_sizes" s_look_sizes P_look_sizes := fun _ _ _ _ _ _ us hl => match us, hl with | [_], _ => rfl
abbrev s_look_stand : Stmt := top 14
abbrev N_look_stand : List Str := ["sizes", "stand", "held", "rank", "place"]
abbrev P_look_stand : List Str := ["sizes", "stand"]
theorem c_look_stand : FnScope N_look_stand P_look_stand (defScope s_look_stand) := ⟨rfl, rfl, rfl, by decide +kernel, rfl, by decide +kernel, by decide +kernel⟩
theorem a_look_stand : BindsAll "look_stand" s_look_stand P_look_stand := fun _ _ _ _ _ _ us hl => match us, hl with | [_, _], _ => rfl
abbrev s_has_count : Stmt := top 19
abbrev N_has_count : List Str := ["word", "many", "casks"]
abbrev P_has_count : List Str := ["word", "many", "casks"]
theorem c_has_count : FnScope N_has_count P_has_count (defScope s_has_count) := ⟨rfl, rfl, rfl, by decide +kernel, rfl, by decide +kernel, by decide +kernel⟩
theorem a_has_count : BindsAll "has_count" s_has_count P_has_count := fun _ _ _ _ _ _ us hl => match us, hl with | [_, _, _], _ => rfl
abbrev s_first_bad : Stmt := top 20
abbrev N_first_bad : List Str := ["things", "start", "casks", "at", "cask"]
abbrev P_first_bad : List Str := ["things", "start", "casks"]
theorem c_first_bad : FnScope N_first_bad P_first_bad (defScope s_first_bad) := ⟨rfl, rfl, rfl, by decide +kernel, rfl, by decide +kernel, by decide +kernel⟩
theorem a_first_bad : BindsAll "first_bad" s_first_bad P_first_bad := fun _ _ _ _ _ _ us hl => match us, hl with | [_, _, _], _ => rfl
abbrev s_fault_of : Stmt := top 21
abbrev N_fault_of : List Str := ["sizes", "deed", "word", "things", "bad", "many", "casks"]
abbrev P_fault_of : List Str := ["sizes", "deed"]
theorem c_fault_of : FnScope N_fault_of P_fault_of (defScope s_fault_of) := ⟨rfl, rfl, rfl, by decide +kernel, rfl, by decide +kernel, by decide +kernel⟩
theorem a_fault_of : BindsAll "fault_of" s_fault_of P_fault_of := fun _ _ _ _ _ _ us hl => match us, hl with | [_, _], _ => rfl
abbrev s_look_row : Stmt := top 22
abbrev N_look_row : List Str := ["sizes", "deeds", "step", "deed", "place"]
abbrev P_look_row : List Str := ["sizes", "deeds"]
theorem c_look_row : FnScope N_look_row P_look_row (defScope s_look_row) := ⟨rfl, rfl, rfl, by decide +kernel, rfl, by decide +kernel, by decide +kernel⟩
theorem a_look_row : BindsAll "look_row" s_look_row P_look_row := fun _ _ _ _ _ _ us hl => match us, hl with | [_, _], _ => rfl
abbrev s_ranks_in : Stmt := top 24
abbrev N_ranks_in : List Str := ["stand", "cask", "rank", "place"]
abbrev P_ranks_in : List Str := ["stand", "cask"]
theorem c_ranks_in : FnScope N_ranks_in P_ranks_in (defScope s_ranks_in) := ⟨rfl, rfl, rfl, by decide +kernel, rfl, by decide +kernel, by decide +kernel⟩
theorem a_ranks_in : BindsAll "ranks_in" s_ranks_in P_ranks_in := fun _ _ _ _ _ _ us hl => match us, hl with | [_, _], _ => rfl
abbrev s_moved : Stmt := top 25
abbrev N_moved : List Str := ["stand", "ranks", "cask", "rank", "place"]
abbrev P_moved : List Str := ["stand", "ranks", "cask"]
theorem c_moved : FnScope N_moved P_moved (defScope s_moved) := ⟨rfl, rfl, rfl, by decide +kernel, rfl, by decide +kernel, by decide +kernel⟩
theorem a_moved : BindsAll "moved" s_moved P_moved := fun _ _ _ _ _ _ us hl => match us, hl with | [_, _, _], _ => rfl
abbrev s_led : Stmt := top 26
abbrev N_led : List Str := ["sizes", "stand", "going", "casks", "first", "others", "cask"]
abbrev P_led : List Str := ["sizes", "stand", "going", "casks"]
theorem c_led : FnScope N_led P_led (defScope s_led) := ⟨rfl, rfl, rfl, by decide +kernel, rfl, by decide +kernel, by decide +kernel⟩
theorem a_led : BindsAll "led" s_led P_led := fun _ _ _ _ _ _ us hl => match us, hl with | [_, _, _, _], _ => rfl
abbrev s_tapped : Stmt := top 27
abbrev N_tapped : List Str := ["sizes", "stand", "many", "cask", "fresh"]
abbrev P_tapped : List Str := ["sizes", "stand", "many", "cask"]
theorem c_tapped : FnScope N_tapped P_tapped (defScope s_tapped) := ⟨rfl, rfl, rfl, by decide +kernel, rfl, by decide +kernel, by decide +kernel⟩
theorem a_tapped : BindsAll "tapped" s_tapped P_tapped := fun _ _ _ _ _ _ us hl => match us, hl with | [_, _, _, _], _ => rfl
abbrev s_behind_deed : Stmt := top 28
abbrev N_behind_deed : List Str := ["sizes", "stand", "deed", "word", "things", "one", "other", "place", "many", "casks", "here"]
abbrev P_behind_deed : List Str := ["sizes", "stand", "deed"]
theorem c_behind_deed : FnScope N_behind_deed P_behind_deed (defScope s_behind_deed) := ⟨rfl, rfl, rfl, by decide +kernel, rfl, by decide +kernel, by decide +kernel⟩
theorem a_behind_deed : BindsAll "behind_deed" s_behind_deed P_behind_deed := fun _ _ _ _ _ _ us hl => match us, hl with | [_, _, _], _ => rfl
abbrev s_path : Stmt := top 29
abbrev N_path : List Str := ["sizes", "stand", "deeds", "rank", "found", "deed"]
abbrev P_path : List Str := ["sizes", "stand", "deeds", "rank"]
theorem c_path : FnScope N_path P_path (defScope s_path) := ⟨rfl, rfl, rfl, by decide +kernel, rfl, by decide +kernel, by decide +kernel⟩
theorem a_path : BindsAll "path" s_path P_path := fun _ _ _ _ _ _ us hl => match us, hl with | [_, _, _, _], _ => rfl
abbrev s__law_open : Stmt := top 31
abbrev N__law_open : List Str := ["_law_script"]
abbrev P__law_open : List Str := ["_law_script"]
theorem c__law_open : FnScope N__law_open P__law_open (defScope s__law_open) := ⟨rfl, rfl, rfl, by decide +kernel, rfl, by decide +kernel, by decide +kernel⟩
theorem a__law_open : BindsAll "_law_open" s__law_open P__law_open := fun _ _ _ _ _ _ us hl => match us, hl with | [_], _ => rfl
abbrev s__law_take : Stmt := top 32
abbrev N__law_take : List Str := ["_law_bag", "_law_sides", "_law_cell", "_law_side", "_law_mix"]
abbrev P__law_take : List Str := ["_law_bag", "_law_sides"]
theorem c__law_take : FnScope N__law_take P__law_take (defScope s__law_take) := ⟨rfl, rfl, rfl, by decide +kernel, rfl, by decide +kernel, by decide +kernel⟩
theorem a__law_take : BindsAll "_law_take" s__law_take P__law_take := fun _ _ _ _ _ _ us hl => match us, hl with | [_, _], _ => rfl
abbrev s__law_pick : Stmt := top 33
abbrev N__law_pick : List Str := ["_law_bag", "_law_row_here"]
abbrev P__law_pick : List Str := ["_law_bag", "_law_row_here"]
theorem c__law_pick : FnScope N__law_pick P__law_pick (defScope s__law_pick) := ⟨rfl, rfl, rfl, by decide +kernel, rfl, by decide +kernel, by decide +kernel⟩
theorem a__law_pick : BindsAll "_law_pick" s__law_pick P__law_pick := fun _ _ _ _ _ _ us hl => match us, hl with | [_, _], _ => rfl
abbrev s__law_same : Stmt := top 34
abbrev N__law_same : List Str := ["_law_found", "_law_due", "_law_at"]
abbrev P__law_same : List Str := ["_law_found", "_law_due"]
theorem c__law_same : FnScope N__law_same P__law_same (defScope s__law_same) := ⟨rfl, rfl, rfl, by decide +kernel, rfl, by decide +kernel, by decide +kernel⟩
theorem a__law_same : BindsAll "_law_same" s__law_same P__law_same := fun _ _ _ _ _ _ us hl => match us, hl with | [_, _], _ => rfl
abbrev s__law_sizes : Stmt := top 35
abbrev N__law_sizes : List Str := ["_law_bag", "_law_mcasks", "_law_most", "_law_mcask"]
abbrev P__law_sizes : List Str := ["_law_bag", "_law_mcasks", "_law_most"]
theorem c__law_sizes : FnScope N__law_sizes P__law_sizes (defScope s__law_sizes) := ⟨rfl, rfl, rfl, by decide +kernel, rfl, by decide +kernel, by decide +kernel⟩
theorem a__law_sizes : BindsAll "_law_sizes" s__law_sizes P__law_sizes := fun _ _ _ _ _ _ us hl => match us, hl with | [_, _, _], _ => rfl
abbrev s__law_any_sizes : Stmt := top 36
abbrev N__law_any_sizes : List Str := ["_law_bag"]
abbrev P__law_any_sizes : List Str := ["_law_bag"]
theorem c__law_any_sizes : FnScope N__law_any_sizes P__law_any_sizes (defScope s__law_any_sizes) := ⟨rfl, rfl, rfl, by decide +kernel, rfl, by decide +kernel, by decide +kernel⟩
theorem a__law_any_sizes : BindsAll "_law_any_sizes" s__law_any_sizes P__law_any_sizes := fun _ _ _ _ _ _ us hl => match us, hl with | [_], _ => rfl
abbrev s__law_stand : Stmt := top 37
abbrev N__law_stand : List Str := ["_law_bag", "_law_msizes", "_law_mmany", "_law_gone", "_law_found", "_law_held", "_law_k", "_law_place"]
abbrev P__law_stand : List Str := ["_law_bag", "_law_msizes", "_law_mmany", "_law_gone"]
theorem c__law_stand : FnScope N__law_stand P__law_stand (defScope s__law_stand) := ⟨rfl, rfl, rfl, by decide +kernel, rfl, by decide +kernel, by decide +kernel⟩
theorem a__law_stand : BindsAll "_law_stand" s__law_stand P__law_stand := fun _ _ _ _ _ _ us hl => match us, hl with | [_, _, _, _], _ => rfl
abbrev s__law_number : Stmt := top 38
abbrev N__law_number : List Str := ["_law_bag", "_law_some"]
abbrev P__law_number : List Str := ["_law_bag"]
theorem c__law_number : FnScope N__law_number P__law_number (defScope s__law_number) := ⟨rfl, rfl, rfl, by decide +kernel, rfl, by decide +kernel, by decide +kernel⟩
theorem a__law_number : BindsAll "_law_number" s__law_number P__law_number := fun _ _ _ _ _ _ us hl => match us, hl with | [_], _ => rfl
abbrev s__law_shuffled : Stmt := top 39
abbrev N__law_shuffled : List Str := ["_law_bag", "_law_row_here", "_law_left", "_law_thing"]
abbrev P__law_shuffled : List Str := ["_law_bag", "_law_row_here"]
theorem c__law_shuffled : FnScope N__law_shuffled P__law_shuffled (defScope s__law_shuffled) := ⟨rfl, rfl, rfl, by decide +kernel, rfl, by decide +kernel, by decide +kernel⟩
theorem a__law_shuffled : BindsAll "_law_shuffled" s__law_shuffled P__law_shuffled := fun _ _ _ _ _ _ us hl => match us, hl with | [_, _], _ => rfl
abbrev s__law_some_casks : Stmt := top 40
abbrev N__law_some_casks : List Str := ["_law_bag", "_law_mcasks", "_law_mmany"]
abbrev P__law_some_casks : List Str := ["_law_bag", "_law_mcasks", "_law_mmany"]
theorem c__law_some_casks : FnScope N__law_some_casks P__law_some_casks (defScope s__law_some_casks) := ⟨rfl, rfl, rfl, by decide +kernel, rfl, by decide +kernel, by decide +kernel⟩
theorem a__law_some_casks : BindsAll "_law_some_casks" s__law_some_casks P__law_some_casks := fun _ _ _ _ _ _ us hl => match us, hl with | [_, _, _], _ => rfl
abbrev s__law_alike : Stmt := top 41
abbrev N__law_alike : List Str := ["_law_msizes", "_law_found", "_law_mone", "_law_near", "_law_at"]
abbrev P__law_alike : List Str := ["_law_msizes"]
theorem c__law_alike : FnScope N__law_alike P__law_alike (defScope s__law_alike) := ⟨rfl, rfl, rfl, by decide +kernel, rfl, by decide +kernel, by decide +kernel⟩
theorem a__law_alike : BindsAll "_law_alike" s__law_alike P__law_alike := fun _ _ _ _ _ _ us hl => match us, hl with | [_], _ => rfl
abbrev s__law_deed : Stmt := top 42
abbrev N__law_deed : List Str := ["_law_bag", "_law_msizes", "_law_number_here", "_law_taps", "_law_how", "_law_pairs", "_law_mmany", "_law_word"]
abbrev P__law_deed : List Str := ["_law_bag", "_law_msizes", "_law_number_here", "_law_taps"]
theorem c__law_deed : FnScope N__law_deed P__law_deed (defScope s__law_deed) := ⟨rfl, rfl, rfl, by decide +kernel, rfl, by decide +kernel, by decide +kernel⟩
theorem a__law_deed : BindsAll "_law_deed" s__law_deed P__law_deed := fun _ _ _ _ _ _ us hl => match us, hl with | [_, _, _, _], _ => rfl
abbrev s__law_row : Stmt := top 43
abbrev N__law_row : List Str := ["_law_bag", "_law_msizes", "_law_most", "_law_taps", "_law_k"]
abbrev P__law_row : List Str := ["_law_bag", "_law_msizes", "_law_most", "_law_taps"]
theorem c__law_row : FnScope N__law_row P__law_row (defScope s__law_row) := ⟨rfl, rfl, rfl, by decide +kernel, rfl, by decide +kernel, by decide +kernel⟩
theorem a__law_row : BindsAll "_law_row" s__law_row P__law_row := fun _ _ _ _ _ _ us hl => match us, hl with | [_, _, _, _], _ => rfl
abbrev s__law_more : Stmt := top 44
abbrev N__law_more : List Str := ["_law_bag", "_law_msizes", "_law_mstand", "_law_mmany", "_law_found", "_law_k", "_law_place", "_law_here"]
abbrev P__law_more : List Str := ["_law_bag", "_law_msizes", "_law_mstand", "_law_mmany"]
theorem c__law_more : FnScope N__law_more P__law_more (defScope s__law_more) := ⟨rfl, rfl, rfl, by decide +kernel, rfl, by decide +kernel, by decide +kernel⟩
theorem a__law_more : BindsAll "_law_more" s__law_more P__law_more := fun _ _ _ _ _ _ us hl => match us, hl with | [_, _, _, _], _ => rfl
abbrev s_law : Stmt := top 45
abbrev N_law : List Str := ["_law_script", "_law_bag", "_law_turn", "_law_msizes", "_law_mstand", "_law_left", "_law_right", "_law_mdeeds", "_law_mrank", "_law_due", "_law_here"]
abbrev P_law : List Str := ["_law_script"]
theorem c_law : FnScope N_law P_law (defScope s_law) := ⟨rfl, rfl, rfl, by decide +kernel, rfl, by decide +kernel, by decide +kernel⟩
theorem a_law : BindsAll "law" s_law P_law := fun _ _ _ _ _ _ us hl => match us, hl with | [_], _ => rfl
end Ab
namespace Ab
open PySem PySem.Spec PyProof.Rows L2 RZ
structure Blt (K : PySem.W.Frag) (mg : Str → Option Value) : Prop where
  n_all : mg "all" = none
  n_bool : mg "bool" = none
  n_enumerate : mg "enumerate" = none
  n_int : mg "int" = none
  n_isinstance : mg "isinstance" = none
  n_len : mg "len" = none
  n_list : mg "list" = none
  n_min : mg "min" = none
  n_range : mg "range" = none
  n_str : mg "str" = none
  n_tuple : mg "tuple" = none
  c_GONE : ∃ t, mg "GONE" = some (.int (-1) t)
  c_GREAT : ∃ t, mg "GREAT" = some (.int 1000000000000000000000000000000 t)
  c_MOST_CASKS : ∃ t, mg "MOST_CASKS" = some (.int 6 t)
  c_MOST_DROPS : ∃ t, mg "MOST_DROPS" = some (.int 60 t)
  c_MOST_SIZE : ∃ t, mg "MOST_SIZE" = some (.int 40 t)
  c_PATHS : ∃ a vs, mg "PATHS" = some (.ref a) ∧ (∀ H, SqT K H a vs) ∧ ∀ H, RepL K H [.str ("over" : Str), .str ("down" : Str)] vs
  c_PLAIN : ∃ a vs, mg "PLAIN" = some (.ref a) ∧ (∀ H, SqT K H a vs) ∧ ∀ H, RepL K H [.str ("swap" : Str), .str ("tap" : Str), .str ("drain" : Str)] vs
theorem b_look_sizes {P : Program} {w : World} {K : PySem.W.Frag} {mg : Str → Option Value} {base : Heap} {f : Addr} {cdv : Value} {A : Around} {outer : List Env} {s : Shared} {H : Hp} {EX : XK} {G : Gx} {E : AExc → AEnv → AH → Prop} (Z : Blt K mg)  (hr : Room 0 (A.deeper (envOfC "look_sizes" (defScope s_look_sizes) s.heap.objs.size f cdv))) (gk : G.K = K) (tk : Takes (bx P w K mg base N_look_sizes "look_sizes" (defScope s_look_sizes) f cdv A outer s H EX) (cW G E)) :
    ASs (bx P w K mg base N_look_sizes "look_sizes" (defScope s_look_sizes) f cdv A outer s H EX) G (defBody s_look_sizes) (t_look_sizes E) := by
  subst gk
  have gk : G.K = G.K := rfl
  have sc := c_look_sizes
  have hu := hr.units
  exact (ass_cons (as_if (ap_not (ap_chn op_le op_le ae_int (ae_callB call_len ca_len rfl Z.n_len bo_len (ar_cons (ae_var (pv 0)) ar_nil)) (ae_gint rfl Z.c_MOST_CASKS))) (ass_one as_never) ass_nil)
    (ass_one (as_for (passes_of rfl) rfl (ai_enum gk rfl Z.n_enumerate (av_of (ae_var (pv 0)))) (ag_tup gk rfl (ags_cons (ag_name (i := 1) sc.nd rfl (by first | exact .inl rfl | exact .inr rfl)) (ags_cons (ag_name (i := 2) sc.nd rfl (by first | exact .inl rfl | exact .inr rfl)) ags_nil))) (ass_one (as_if (ap_not (ap_chn op_le op_le ae_int (ae_var (pv 2)) (ae_gint rfl Z.c_MOST_SIZE))) (ass_one as_never) ass_nil)))))
theorem b_look_stand {P : Program} {w : World} {K : PySem.W.Frag} {mg : Str → Option Value} {base : Heap} {f : Addr} {cdv : Value} {A : Around} {outer : List Env} {s : Shared} {H : Hp} {EX : XK} {G : Gx} {E : AExc → AEnv → AH → Prop} (Z : Blt K mg) (O_look_sizes : Ok P w K mg base "look_sizes" s_look_sizes 1 1 P_look_sizes (upc m_look_sizes)) (hr : Room 1 (A.deeper (envOfC "look_stand" (defScope s_look_stand) s.heap.objs.size f cdv))) (gk : G.K = K) (tk : Takes (bx P w K mg base N_look_stand "look_stand" (defScope s_look_stand) f cdv A outer s H EX) (cW G E)) :
    ASs (bx P w K mg base N_look_stand "look_stand" (defScope s_look_stand) f cdv A outer s H EX) G (defBody s_look_stand) (t_look_stand E) := by
  subst gk
  have gk : G.K = G.K := rfl
  have sc := c_look_stand
  have hu := hr.units
  exact (ass_cons (as_expr (ae_callO gk O_look_sizes a_look_sizes hr (by decide) rfl tk (an_cons (av_of (ae_var (pv 0))) an_nil)))
    (ass_cons (as_if (ap_gt (ae_callB call_len ca_len rfl Z.n_len bo_len (ar_cons (ae_var (pv 1)) ar_nil)) (ae_gint rfl Z.c_MOST_DROPS)) (ass_one as_never) ass_nil)
    (ass_cons (as_set (i := 2) sc.nd rfl (by first | exact .inl rfl | exact .inr rfl) (ae_mulT gk (ae_lst (aa_cons (av_of ae_int) aa_nil)) (ae_callB call_len ca_len rfl Z.n_len bo_len (ar_cons (ae_var (pv 0)) ar_nil))))
    (ass_one (as_for (passes_of rfl) rfl (ai_enum gk rfl Z.n_enumerate (av_of (ae_var (pv 1)))) (ag_tup gk rfl (ags_cons (ag_name (i := 3) sc.nd rfl (by first | exact .inl rfl | exact .inr rfl)) (ags_cons (ag_name (i := 4) sc.nd rfl (by first | exact .inl rfl | exact .inr rfl)) ags_nil))) (ass_cons (as_if (ap_not (ap_chn op_le op_lt (ae_gint rfl Z.c_GONE) (ae_var (pv 4)) (ae_callB call_len ca_len rfl Z.n_len bo_len (ar_cons (ae_var (pv 0)) ar_nil)))) (ass_one as_never) ass_nil)
    (ass_one (as_if (ap_ne gk hu (ae_var (pv 4)) (ae_gint rfl Z.c_GONE)) (ass_cons (as_augS ip_add (ae_var (pv 2)) (ae_var (pv 4)) ae_int)
    (ass_one (as_if (ap_gt (ae_ix gk (ae_var (pv 2)) (ae_var (pv 4)) (fun _ _ => rfl)) (ae_ix gk (ae_var (pv 0)) (ae_var (pv 4)) (fun _ _ => rfl))) (ass_one as_never) ass_nil))) ass_nil))))))))
theorem b_has_count {P : Program} {w : World} {K : PySem.W.Frag} {mg : Str → Option Value} {base : Heap} {f : Addr} {cdv : Value} {A : Around} {outer : List Env} {s : Shared} {H : Hp} {EX : XK} {G : Gx} {E : AExc → AEnv → AH → Prop} (Z : Blt K mg)  (hr : Room 0 (A.deeper (envOfC "has_count" (defScope s_has_count) s.heap.objs.size f cdv))) (gk : G.K = K) (tk : Takes (bx P w K mg base N_has_count "has_count" (defScope s_has_count) f cdv A outer s H EX) (cW G E)) :
    ASs (bx P w K mg base N_has_count "has_count" (defScope s_has_count) f cdv A outer s H EX) G (defBody s_has_count) (t_has_count E) := by
  subst gk
  have gk : G.K = G.K := rfl
  have sc := c_has_count
  have hu := hr.units
  exact (ass_one (as_ret (ae_if (ap_in gk hu (ae_var (pv 0)) (ae_gtup gk rfl Z.c_PATHS)) (ae_chn op_le op_le ae_int (ae_var (pv 1)) (ae_add gk ae_int (ae_var (pv 2)))) (ae_eq gk hu (ae_var (pv 1)) ae_int))))
theorem b_first_bad {P : Program} {w : World} {K : PySem.W.Frag} {mg : Str → Option Value} {base : Heap} {f : Addr} {cdv : Value} {A : Around} {outer : List Env} {s : Shared} {H : Hp} {EX : XK} {G : Gx} {E : AExc → AEnv → AH → Prop} (Z : Blt K mg)  (hr : Room 0 (A.deeper (envOfC "first_bad" (defScope s_first_bad) s.heap.objs.size f cdv))) (gk : G.K = K) (tk : Takes (bx P w K mg base N_first_bad "first_bad" (defScope s_first_bad) f cdv A outer s H EX) (cW G E)) :
    ASs (bx P w K mg base N_first_bad "first_bad" (defScope s_first_bad) f cdv A outer s H EX) G (defBody s_first_bad) (t_first_bad E) := by
  subst gk
  have gk : G.K = G.K := rfl
  have sc := c_first_bad
  have hu := hr.units
  exact (ass_cons (as_for (passes_of rfl) rfl (ai_enum gk rfl Z.n_enumerate (av_of (ae_var (pv 0)))) (ag_tup gk rfl (ags_cons (ag_name (i := 3) sc.nd rfl (by first | exact .inl rfl | exact .inr rfl)) (ags_cons (ag_name (i := 4) sc.nd rfl (by first | exact .inl rfl | exact .inr rfl)) ags_nil))) (ass_one (as_if (AW.ap (aw_or (ap_not (ap_chn op_le op_lt ae_int (ae_var (pv 4)) (ae_var (pv 2)))) (aw_or1 (ap_in gk hu (ae_var (pv 4)) (ae_slice gk (ae_var (pv 0)) ao_none (ao_some (ae_var (pv 3)))))))) (ass_one (as_ret (ae_add gk (ae_var (pv 1)) (ae_var (pv 3))))) ass_nil)))
    (ass_one (as_ret ae_non)))
theorem b_fault_of {P : Program} {w : World} {K : PySem.W.Frag} {mg : Str → Option Value} {base : Heap} {f : Addr} {cdv : Value} {A : Around} {outer : List Env} {s : Shared} {H : Hp} {EX : XK} {G : Gx} {E : AExc → AEnv → AH → Prop} (Z : Blt K mg) (O_has_count : Ok P w K mg base "has_count" s_has_count 1 3 P_has_count (upc m_has_count)) (O_first_bad : Ok P w K mg base "first_bad" s_first_bad 1 3 P_first_bad (upc m_first_bad)) (hr : Room 1 (A.deeper (envOfC "fault_of" (defScope s_fault_of) s.heap.objs.size f cdv))) (gk : G.K = K) (tk : Takes (bx P w K mg base N_fault_of "fault_of" (defScope s_fault_of) f cdv A outer s H EX) (cW G E)) :
    ASs (bx P w K mg base N_fault_of "fault_of" (defScope s_fault_of) f cdv A outer s H EX) G (defBody s_fault_of) (t_fault_of E) := by
  subst gk
  have gk : G.K = G.K := rfl
  have sc := c_fault_of
  have hu := hr.units
  exact (ass_cons (as_if (AW.ap (aw_or (ap_eq gk hu (ae_callB call_len ca_len rfl Z.n_len bo_len (ar_cons (ae_var (pv 1)) ar_nil)) ae_int) (aw_or1 (ap_nin gk hu (ae_ix gk (ae_var (pv 1)) ae_int (fun _ _ => rfl)) (ae_add gk (ae_gtup gk rfl Z.c_PATHS) (ae_gtup gk rfl Z.c_PLAIN)))))) (ass_one (as_ret ae_int)) ass_nil)
    (ass_cons (as_if (ap_not (ap_v (ae_callO gk O_has_count a_has_count hr (by decide) rfl tk (an_cons (av_of (ae_ix gk (ae_var (pv 1)) ae_int (fun _ _ => rfl))) (an_cons (av_of (ae_callB call_len ca_len rfl Z.n_len bo_len (ar_cons (ae_var (pv 1)) ar_nil))) (an_cons (av_of (ae_callB call_len ca_len rfl Z.n_len bo_len (ar_cons (ae_var (pv 0)) ar_nil))) an_nil)))))) (ass_one (as_ret (ae_neg ae_int))) ass_nil)
    (ass_cons (as_star (i := 2) (j := 3) gk rfl sc.nd rfl rfl (by first | exact .inl rfl | exact .inr rfl) (by first | exact .inl rfl | exact .inr rfl) (av_of (ae_var (pv 1))))
    (ass_cons (as_if (ap_eq gk hu (ae_var (pv 2)) ae_str) (ass_cons (as_frz 3 (as_asg (av_of (ae_callO gk O_first_bad a_first_bad hr (by decide) rfl tk (an_cons (av_of (ae_var (pv 3))) (an_cons (av_of ae_int) (an_cons (av_of (ae_callB call_len ca_len rfl Z.n_len bo_len (ar_cons (ae_var (pv 0)) ar_nil))) an_nil))))) (ag_name (i := 4) sc.nd rfl (by first | exact .inl rfl | exact .inr rfl))))
    (ass_cons (as_if (ap_notN (ae_var (pv 4)) ae_non) (ass_one (as_ret (ae_var (pv 4)))) ass_nil)
    (ass_one (as_ret (ae_if (ap_eq gk hu (ae_ix gk (ae_var (pv 0)) (ae_ix gk (ae_var (pv 3)) ae_int (fun _ _ => rfl)) (fun _ _ => rfl)) (ae_ix gk (ae_var (pv 0)) (ae_ix gk (ae_var (pv 3)) ae_int (fun _ _ => rfl)) (fun _ _ => rfl))) ae_non ae_int))))) ass_nil)
    (ass_cons (as_frz 3 (as_star (i := 5) (j := 6) gk rfl sc.nd rfl rfl (by first | exact .inl rfl | exact .inr rfl) (by first | exact .inl rfl | exact .inr rfl) (av_of (ae_var (pv 3)))))
    (ass_cons (as_if (ap_not (ap_chn op_le op_lt ae_int (ae_var (pv 5)) (ae_gint rfl Z.c_GREAT))) (ass_one (as_ret ae_int)) ass_nil)
    (ass_one (as_frz 6 (as_ret (ae_callO gk O_first_bad a_first_bad hr (by decide) rfl tk (an_cons (av_of (ae_var (pv 6))) (an_cons (av_of ae_int) (an_cons (av_of (ae_callB call_len ca_len rfl Z.n_len bo_len (ar_cons (ae_var (pv 0)) ar_nil))) an_nil)))))))))))))
theorem b_look_row {P : Program} {w : World} {K : PySem.W.Frag} {mg : Str → Option Value} {base : Heap} {f : Addr} {cdv : Value} {A : Around} {outer : List Env} {s : Shared} {H : Hp} {EX : XK} {G : Gx} {E : AExc → AEnv → AH → Prop} (Z : Blt K mg) (O_look_sizes : Ok P w K mg base "look_sizes" s_look_sizes 1 1 P_look_sizes (upc m_look_sizes)) (O_fault_of : Ok P w K mg base "fault_of" s_fault_of 2 2 P_fault_of (upc m_fault_of)) (hr : Room 2 (A.deeper (envOfC "look_row" (defScope s_look_row) s.heap.objs.size f cdv))) (gk : G.K = K) (tk : Takes (bx P w K mg base N_look_row "look_row" (defScope s_look_row) f cdv A outer s H EX) (cW G E)) :
    ASs (bx P w K mg base N_look_row "look_row" (defScope s_look_row) f cdv A outer s H EX) G (defBody s_look_row) (t_look_row E) := by
  subst gk
  have gk : G.K = G.K := rfl
  have sc := c_look_row
  have hu := hr.units
  exact (ass_cons (as_expr (ae_callO gk O_look_sizes a_look_sizes hr (by decide) rfl tk (an_cons (av_of (ae_var (pv 0))) an_nil)))
    (ass_one (as_for (passes_of rfl) rfl (ai_enum gk rfl Z.n_enumerate (av_of (ae_var (pv 1)))) (ag_tup gk rfl (ags_cons (ag_name (i := 2) sc.nd rfl (by first | exact .inl rfl | exact .inr rfl)) (ags_cons (ag_name (i := 3) sc.nd rfl (by first | exact .inl rfl | exact .inr rfl)) ags_nil))) (ass_cons (as_asg (av_of (ae_callO gk O_fault_of a_fault_of hr (by decide) rfl tk (an_cons (av_of (ae_var (pv 0))) (an_cons (av_of (ae_var (pv 3))) an_nil)))) (ag_name (i := 4) sc.nd rfl (by first | exact .inl rfl | exact .inr rfl)))
    (ass_one (as_if (ap_notN (ae_var (pv 4)) ae_non) (ass_one as_never) ass_nil))))))
theorem b_ranks_in {P : Program} {w : World} {K : PySem.W.Frag} {mg : Str → Option Value} {base : Heap} {f : Addr} {cdv : Value} {A : Around} {outer : List Env} {s : Shared} {H : Hp} {EX : XK} {G : Gx} {E : AExc → AEnv → AH → Prop} (Z : Blt K mg)  (hr : Room 0 (A.deeper (envOfC "ranks_in" (defScope s_ranks_in) s.heap.objs.size f cdv))) (gk : G.K = K) (tk : Takes (bx P w K mg base N_ranks_in "ranks_in" (defScope s_ranks_in) f cdv A outer s H EX) (cW G E)) :
    ASs (bx P w K mg base N_ranks_in "ranks_in" (defScope s_ranks_in) f cdv A outer s H EX) G (defBody s_ranks_in) (t_ranks_in E) := by
  subst gk
  have gk : G.K = G.K := rfl
  have sc := c_ranks_in
  have hu := hr.units
  exact (ass_one (as_ret (ae_lcO (own := [("rank", 2), ("place", 3)]) rfl sc.nd (ai_enum gk rfl Z.n_enumerate (av_of (ae_var (pv 0)))) (blkOk_by (by first | (show blkC N_ranks_in (defScope s_ranks_in) _ _ = true; decide +kernel) | rfl)) (by decide) (fun _ _ _ _ _ => (ag_tup gk rfl (ags_cons (ag_name (i := 2) sc.nd rfl (by first | exact .inl rfl | exact .inr rfl)) (ags_cons (ag_name (i := 3) sc.nd rfl (by first | exact .inl rfl | exact .inr rfl)) ags_nil)))) (fun _ _ _ _ _ => (aps_one (ap_eq gk hu (ae_var (pv 3)) (ae_var (pv 1))))) (fun _ _ _ _ _ => (av_of (ae_var (pv 2)))))))
theorem b_moved {P : Program} {w : World} {K : PySem.W.Frag} {mg : Str → Option Value} {base : Heap} {f : Addr} {cdv : Value} {A : Around} {outer : List Env} {s : Shared} {H : Hp} {EX : XK} {G : Gx} {E : AExc → AEnv → AH → Prop} (Z : Blt K mg)  (hr : Room 0 (A.deeper (envOfC "moved" (defScope s_moved) s.heap.objs.size f cdv))) (gk : G.K = K) (tk : Takes (bx P w K mg base N_moved "moved" (defScope s_moved) f cdv A outer s H EX) (cW G E)) :
    ASs (bx P w K mg base N_moved "moved" (defScope s_moved) f cdv A outer s H EX) G (defBody s_moved) (t_moved E) := by
  subst gk
  have gk : G.K = G.K := rfl
  have sc := c_moved
  have hu := hr.units
  exact (ass_one (as_ret (ae_callTy call_tuple_of ca_tup rfl Z.n_tuple bo_tuple (ar_cons (ae_lcO (own := [("rank", 3), ("place", 4)]) rfl sc.nd (ai_enum gk rfl Z.n_enumerate (av_of (ae_var (pv 0)))) (blkOk_by (by first | (show blkC N_moved (defScope s_moved) _ _ = true; decide +kernel) | rfl)) (by decide) (fun _ _ _ _ _ => (ag_tup gk rfl (ags_cons (ag_name (i := 3) sc.nd rfl (by first | exact .inl rfl | exact .inr rfl)) (ags_cons (ag_name (i := 4) sc.nd rfl (by first | exact .inl rfl | exact .inr rfl)) ags_nil)))) (fun _ _ _ _ _ => aps_nil) (fun _ _ _ _ _ => (av_of (ae_if (ap_in gk hu (ae_var (pv 3)) (ae_var (pv 1))) (ae_var (pv 2)) (ae_var (pv 4)))))) ar_nil))))
theorem b_led {P : Program} {w : World} {K : PySem.W.Frag} {mg : Str → Option Value} {base : Heap} {f : Addr} {cdv : Value} {A : Around} {outer : List Env} {s : Shared} {H : Hp} {EX : XK} {G : Gx} {E : AExc → AEnv → AH → Prop} (Z : Blt K mg) (O_moved : Ok P w K mg base "moved" s_moved 1 3 P_moved (upc m_moved)) (O_ranks_in : Ok P w K mg base "ranks_in" s_ranks_in 1 2 P_ranks_in (upc m_ranks_in)) (hr : Room 1 (A.deeper (envOfC "led" (defScope s_led) s.heap.objs.size f cdv))) (gk : G.K = K) (tk : Takes (bx P w K mg base N_led "led" (defScope s_led) f cdv A outer s H EX) (cW G E)) :
    ASs (bx P w K mg base N_led "led" (defScope s_led) f cdv A outer s H EX) G (defBody s_led) (t_led E) := by
  subst gk
  have gk : G.K = G.K := rfl
  have sc := c_led
  have hu := hr.units
  exact (ass_cons (as_star (i := 4) (j := 5) gk rfl sc.nd rfl rfl (by first | exact .inl rfl | exact .inr rfl) (by first | exact .inl rfl | exact .inr rfl) (av_of (ae_var (pv 3))))
    (ass_cons (as_frz 5 (as_for (passes_of rfl) rfl (ai_sq gk (av_of (ae_var (pv 5)))) (ag_name (i := 6) sc.nd rfl (by first | exact .inl rfl | exact .inr rfl)) (ass_cons (as_asg (av_of (ae_callO gk O_moved a_moved hr (by decide) rfl tk (an_cons (av_of (ae_var (pv 1))) (an_cons (av_of (ae_var (pv 2))) (an_cons (av_of (ae_var (pv 6))) an_nil))))) (ag_name (i := 1) sc.nd rfl (by first | exact .inl rfl | exact .inr rfl)))
    (ass_one (as_asg (av_of (ae_slice gk (ae_callO gk O_ranks_in a_ranks_in hr (by decide) rfl tk (an_cons (av_of (ae_var (pv 1))) (an_cons (av_of (ae_var (pv 6))) an_nil))) (ao_some (ae_ix gk (ae_var (pv 0)) (ae_var (pv 6)) (fun _ _ => rfl))) ao_none)) (ag_name (i := 2) sc.nd rfl (by first | exact .inl rfl | exact .inr rfl)))))))
    (ass_one (as_ret (ae_callO gk O_moved a_moved hr (by decide) rfl tk (an_cons (av_of (ae_var (pv 1))) (an_cons (av_of (ae_var (pv 2))) (an_cons (av_of (ae_var (pv 4))) an_nil))))))))
theorem b_tapped {P : Program} {w : World} {K : PySem.W.Frag} {mg : Str → Option Value} {base : Heap} {f : Addr} {cdv : Value} {A : Around} {outer : List Env} {s : Shared} {H : Hp} {EX : XK} {G : Gx} {E : AExc → AEnv → AH → Prop} (Z : Blt K mg) (O_ranks_in : Ok P w K mg base "ranks_in" s_ranks_in 1 2 P_ranks_in (upc m_ranks_in)) (hr : Room 1 (A.deeper (envOfC "tapped" (defScope s_tapped) s.heap.objs.size f cdv))) (gk : G.K = K) (tk : Takes (bx P w K mg base N_tapped "tapped" (defScope s_tapped) f cdv A outer s H EX) (cW G E)) :
    ASs (bx P w K mg base N_tapped "tapped" (defScope s_tapped) f cdv A outer s H EX) G (defBody s_tapped) (t_tapped E) := by
  subst gk
  have gk : G.K = G.K := rfl
  have sc := c_tapped
  have hu := hr.units
  exact (ass_cons (as_asg (av_of (ae_callB (call_min2 rfl) (ca_2I (g := fun i j => if j < i then j else i)) rfl Z.n_min bo_min (ar_cons (ae_var (pv 2)) (ar_cons (ae_sub (ae_ix gk (ae_var (pv 0)) (ae_var (pv 3)) (fun _ _ => rfl)) (ae_callB call_len ca_len rfl Z.n_len bo_len (ar_cons (ae_callO gk O_ranks_in a_ranks_in hr (by decide) rfl tk (an_cons (av_of (ae_var (pv 1))) (an_cons (av_of (ae_var (pv 3))) an_nil))) ar_nil))) ar_nil)))) (ag_name (i := 4) sc.nd rfl (by first | exact .inl rfl | exact .inr rfl)))
    (ass_cons (as_if (ap_gt (ae_add gk (ae_callB call_len ca_len rfl Z.n_len bo_len (ar_cons (ae_var (pv 1)) ar_nil)) (ae_var (pv 4))) (ae_gint rfl Z.c_MOST_DROPS)) (ass_one as_never) ass_nil)
    (ass_one (as_ret (ae_add gk (ae_var (pv 1)) (ae_mulT gk (ae_tup (aa_cons (av_of (ae_var (pv 3))) aa_nil)) (ae_var (pv 4))))))))
theorem b_behind_deed {P : Program} {w : World} {K : PySem.W.Frag} {mg : Str → Option Value} {base : Heap} {f : Addr} {cdv : Value} {A : Around} {outer : List Env} {s : Shared} {H : Hp} {EX : XK} {G : Gx} {E : AExc → AEnv → AH → Prop} (Z : Blt K mg) (O_ranks_in : Ok P w K mg base "ranks_in" s_ranks_in 1 2 P_ranks_in (upc m_ranks_in)) (O_led : Ok P w K mg base "led" s_led 2 4 P_led (upc m_led)) (O_tapped : Ok P w K mg base "tapped" s_tapped 2 4 P_tapped (upc m_tapped)) (O_moved : Ok P w K mg base "moved" s_moved 1 3 P_moved (upc m_moved)) (hr : Room 2 (A.deeper (envOfC "behind_deed" (defScope s_behind_deed) s.heap.objs.size f cdv))) (gk : G.K = K) (tk : Takes (bx P w K mg base N_behind_deed "behind_deed" (defScope s_behind_deed) f cdv A outer s H EX) (cW G E)) :
    ASs (bx P w K mg base N_behind_deed "behind_deed" (defScope s_behind_deed) f cdv A outer s H EX) G (defBody s_behind_deed) (t_behind_deed E) := by
  subst gk
  have gk : G.K = G.K := rfl
  have sc := c_behind_deed
  have hu := hr.units
  exact (ass_cons (as_star (i := 3) (j := 4) gk rfl sc.nd rfl rfl (by first | exact .inl rfl | exact .inr rfl) (by first | exact .inl rfl | exact .inr rfl) (av_of (ae_var (pv 2))))
    (ass_cons (as_if (ap_eq gk hu (ae_var (pv 3)) ae_str) (ass_cons (as_frz 4 (as_asg (av_of (ae_var (pv 4))) (ag_un gk rfl (ags_cons (ag_name (i := 5) sc.nd rfl (by first | exact .inl rfl | exact .inr rfl)) (ags_cons (ag_name (i := 6) sc.nd rfl (by first | exact .inl rfl | exact .inr rfl)) ags_nil)))))
    (ass_one (as_ret (ae_callTy call_tuple_of ca_tup rfl Z.n_tuple bo_tuple (ar_cons (ae_lcO (own := [("place", 7)]) rfl sc.nd (ai_sq gk (av_of (ae_var (pv 1)))) (blkOk_by (by first | (show blkC N_behind_deed (defScope s_behind_deed) _ _ = true; decide +kernel) | rfl)) (by decide) (fun _ _ _ _ _ => (ag_name (i := 7) sc.nd rfl (by first | exact .inl rfl | exact .inr rfl))) (fun _ _ _ _ _ => aps_nil) (fun _ _ _ _ _ => (av_of (ae_if (ap_eq gk hu (ae_var (pv 7)) (ae_var (pv 5))) (ae_var (pv 6)) (ae_if (ap_eq gk hu (ae_var (pv 7)) (ae_var (pv 6))) (ae_var (pv 5)) (ae_var (pv 7))))))) ar_nil))))) ass_nil)
    (ass_cons (as_frz 4 (as_star (i := 8) (j := 9) gk rfl sc.nd rfl rfl (by first | exact .inl rfl | exact .inr rfl) (by first | exact .inl rfl | exact .inr rfl) (av_of (ae_var (pv 4)))))
    (ass_cons (as_asg (av_of (ae_callO gk O_ranks_in a_ranks_in hr (by decide) rfl tk (an_cons (av_of (ae_var (pv 1))) (an_cons (av_of (ae_ix gk (ae_var (pv 9)) ae_int (fun _ _ => rfl))) an_nil)))) (ag_name (i := 10) sc.nd rfl (by first | exact .inl rfl | exact .inr rfl)))
    (ass_cons (as_if (ap_eq gk hu (ae_var (pv 3)) ae_str) (ass_one (as_frz 9 (as_ret (ae_callO gk O_led a_led hr (by decide) rfl tk (an_cons (av_of (ae_var (pv 0))) (an_cons (av_of (ae_var (pv 1))) (an_cons (av_of (ae_slice gk (ae_var (pv 10)) ao_none (ao_some (ae_var (pv 8))))) (an_cons (av_of (ae_var (pv 9))) an_nil)))))))) ass_nil)
    (ass_cons (as_if (ap_eq gk hu (ae_var (pv 3)) ae_str) (ass_one (as_frz 9 (as_ret (ae_callO gk O_led a_led hr (by decide) rfl tk (an_cons (av_of (ae_var (pv 0))) (an_cons (av_of (ae_var (pv 1))) (an_cons (av_of (ae_slice gk (ae_var (pv 10)) (ao_some (ae_var (pv 8))) ao_none)) (an_cons (av_of (ae_var (pv 9))) an_nil)))))))) ass_nil)
    (ass_cons (as_if (ap_eq gk hu (ae_var (pv 3)) ae_str) (ass_one (as_ret (ae_callO gk O_tapped a_tapped hr (by decide) rfl tk (an_cons (av_of (ae_var (pv 0))) (an_cons (av_of (ae_var (pv 1))) (an_cons (av_of (ae_var (pv 8))) (an_cons (av_of (ae_ix gk (ae_var (pv 9)) ae_int (fun _ _ => rfl))) an_nil))))))) ass_nil)
    (ass_one (as_ret (ae_callO gk O_moved a_moved hr (by decide) rfl tk (an_cons (av_of (ae_var (pv 1))) (an_cons (av_of (ae_slice gk (ae_var (pv 10)) ao_none (ao_some (ae_var (pv 8))))) (an_cons (av_of (ae_gint rfl Z.c_GONE)) an_nil)))))))))))))
theorem b_path {P : Program} {w : World} {K : PySem.W.Frag} {mg : Str → Option Value} {base : Heap} {f : Addr} {cdv : Value} {A : Around} {outer : List Env} {s : Shared} {H : Hp} {EX : XK} {G : Gx} {E : AExc → AEnv → AH → Prop} (Z : Blt K mg) (O_look_stand : Ok P w K mg base "look_stand" s_look_stand 2 2 P_look_stand (upc m_look_stand)) (O_look_row : Ok P w K mg base "look_row" s_look_row 3 2 P_look_row (upc m_look_row)) (O_behind_deed : Ok P w K mg base "behind_deed" s_behind_deed 3 3 P_behind_deed (upc m_behind_deed)) (hr : Room 3 (A.deeper (envOfC "path" (defScope s_path) s.heap.objs.size f cdv))) (gk : G.K = K) (tk : Takes (bx P w K mg base N_path "path" (defScope s_path) f cdv A outer s H EX) (cW G E)) :
    ASs (bx P w K mg base N_path "path" (defScope s_path) f cdv A outer s H EX) G (defBody s_path) (t_path E) := by
  subst gk
  have gk : G.K = G.K := rfl
  have sc := c_path
  have hu := hr.units
  exact (ass_cons (as_expr (ae_callO gk O_look_stand a_look_stand hr (by decide) rfl tk (an_cons (av_of (ae_var (pv 0))) (an_cons (av_of (ae_var (pv 1))) an_nil))))
    (ass_cons (as_expr (ae_callO gk O_look_row a_look_row hr (by decide) rfl tk (an_cons (av_of (ae_var (pv 0))) (an_cons (av_of (ae_var (pv 2))) an_nil))))
    (ass_cons (as_if (ap_not (ap_chn op_le op_lt ae_int (ae_var (pv 3)) (ae_callB call_len ca_len rfl Z.n_len bo_len (ar_cons (ae_var (pv 1)) ar_nil)))) (ass_one as_never) ass_nil)
    (ass_cons (as_set (i := 4) sc.nd rfl (by first | exact .inl rfl | exact .inr rfl) (ae_lst (aa_cons (av_of (ae_ix gk (ae_var (pv 1)) (ae_var (pv 3)) (fun _ _ => rfl))) aa_nil)))
    (ass_cons (as_for (passes_of rfl) rfl (ai_sq gk (av_of (ae_var (pv 2)))) (ag_name (i := 5) sc.nd rfl (by first | exact .inl rfl | exact .inr rfl)) (ass_cons (as_asg (av_of (ae_callO gk O_behind_deed a_behind_deed hr (by decide) rfl tk (an_cons (av_of (ae_var (pv 0))) (an_cons (av_of (ae_var (pv 1))) (an_cons (av_of (ae_var (pv 5))) an_nil))))) (ag_name (i := 1) sc.nd rfl (by first | exact .inl rfl | exact .inr rfl)))
    (ass_one (as_expr (ae_lm gk lm_append PySem.F.plainAttrs_list PySem.F.slot_list_append PySem.F.type_list_append mt_append (ae_var (pv 4)) (aa_cons (av_of (ae_ix gk (ae_var (pv 1)) (ae_var (pv 3)) (fun _ _ => rfl))) aa_nil))))))
    (ass_one (as_ret (ae_var (pv 4)))))))))
theorem b__law_open {P : Program} {w : World} {K : PySem.W.Frag} {mg : Str → Option Value} {base : Heap} {f : Addr} {cdv : Value} {A : Around} {outer : List Env} {s : Shared} {H : Hp} {EX : XK} {G : Gx} {E : AExc → AEnv → AH → Prop} (Z : Blt K mg)  (hr : Room 0 (A.deeper (envOfC "_law_open" (defScope s__law_open) s.heap.objs.size f cdv))) (gk : G.K = K) (tk : Takes (bx P w K mg base N__law_open "_law_open" (defScope s__law_open) f cdv A outer s H EX) (cW G E)) :
    ASs (bx P w K mg base N__law_open "_law_open" (defScope s__law_open) f cdv A outer s H EX) G (defBody s__law_open) (t__law_open E) := by
  subst gk
  have gk : G.K = G.K := rfl
  have sc := c__law_open
  have hu := hr.units
  exact (ass_one (as_ret (ae_lst (aa_cons (av_of (ae_callTy call_list_of ca_lst rfl Z.n_list bo_list (ar_cons (ae_slice gk (ae_var (pv 0)) ao_none (ao_some ae_int)) ar_nil))) (aa_cons (av_of ae_int) (aa_cons (av_of ae_int) (aa_cons (av_of ae_int) (aa_cons (av_of ae_int) aa_nil))))))))
theorem b__law_take {P : Program} {w : World} {K : PySem.W.Frag} {mg : Str → Option Value} {base : Heap} {f : Addr} {cdv : Value} {A : Around} {outer : List Env} {s : Shared} {H : Hp} {EX : XK} {G : Gx} {E : AExc → AEnv → AH → Prop} (Z : Blt K mg)  (hr : Room 0 (A.deeper (envOfC "_law_take" (defScope s__law_take) s.heap.objs.size f cdv))) (gk : G.K = K) (tk : Takes (bx P w K mg base N__law_take "_law_take" (defScope s__law_take) f cdv A outer s H EX) (cW G E)) :
    ASs (bx P w K mg base N__law_take "_law_take" (defScope s__law_take) f cdv A outer s H EX) G (defBody s__law_take) (t__law_take E) := by
  subst gk
  have gk : G.K = G.K := rfl
  have sc := c__law_take
  have hu := hr.units
  exact (ass_cons (as_if (AW.ap (aw_and (ap_lt (ae_ix gk (ae_var (pv 0)) ae_int (fun _ _ => rfl)) (ae_var (pv 1))) (aw_and1 (ap_lt (ae_ix gk (ae_var (pv 0)) ae_int (fun _ _ => rfl)) (ae_callB call_len ca_len rfl Z.n_len bo_len (ar_cons (ae_ix gk (ae_var (pv 0)) ae_int (fun _ _ => rfl)) ar_nil)))))) (ass_cons (as_asg (av_of (ae_ix gk (ae_ix gk (ae_var (pv 0)) ae_int (fun _ _ => rfl)) (ae_ix gk (ae_var (pv 0)) ae_int (fun _ _ => rfl)) (fun _ _ => rfl))) (ag_name (i := 2) sc.nd rfl (by first | exact .inl rfl | exact .inr rfl)))
    (ass_cons (as_asg (av_of (ae_add gk (ae_ix gk (ae_var (pv 0)) ae_int (fun _ _ => rfl)) ae_int)) (ag_set (ae_var (pv 0)) ae_int (pg_sub (ae_var (pv 0)).pe ae_int.pe set_list)))
    (ass_cons (as_asg (av_of ae_int) (ag_set (ae_var (pv 0)) ae_int (pg_sub (ae_var (pv 0)).pe ae_int.pe set_list)))
    (ass_one (as_if (ap_ge (ae_var (pv 2)) (ae_pow ae_int ae_int)) (ass_one (as_asg (av_of (ae_var (pv 2))) (ag_set (ae_var (pv 0)) ae_int (pg_sub (ae_var (pv 0)).pe ae_int.pe set_list)))) (ass_one (as_asg (av_of (ae_mod (ae_add gk (ae_add gk (ae_mulT gk (ae_ix gk (ae_var (pv 0)) ae_int (fun _ _ => rfl)) ae_int) (ae_mulT gk (ae_mod (ae_var (pv 2)) ae_int) ae_int)) ae_int) ae_int)) (ag_set (ae_var (pv 0)) ae_int (pg_sub (ae_var (pv 0)).pe ae_int.pe set_list))))))))) ass_nil)
    (ass_cons (as_if (ap_ge (ae_ix gk (ae_var (pv 0)) ae_int (fun _ _ => rfl)) (ae_var (pv 1))) (ass_cons (as_asg (av_of (ae_mod (ae_ix gk (ae_var (pv 0)) ae_int (fun _ _ => rfl)) (ae_var (pv 1)))) (ag_name (i := 3) sc.nd rfl (by first | exact .inl rfl | exact .inr rfl)))
    (ass_cons (as_asg (av_of (ae_fdiv (ae_ix gk (ae_var (pv 0)) ae_int (fun _ _ => rfl)) (ae_var (pv 1)))) (ag_set (ae_var (pv 0)) ae_int (pg_sub (ae_var (pv 0)).pe ae_int.pe set_list)))
    (ass_one (as_ret (ae_var (pv 3)))))) ass_nil)
    (ass_cons (as_asg (av_of (ae_add gk (ae_ix gk (ae_var (pv 0)) ae_int (fun _ _ => rfl)) ae_int)) (ag_set (ae_var (pv 0)) ae_int (pg_sub (ae_var (pv 0)).pe ae_int.pe set_list)))
    (ass_cons (as_asg (av_of (ae_ix gk (ae_var (pv 0)) ae_int (fun _ _ => rfl))) (ag_name (i := 4) sc.nd rfl (by first | exact .inl rfl | exact .inr rfl)))
    (ass_cons (as_asg (av_of (ae_mod (ae_add gk (ae_add gk (ae_add gk (ae_mulT gk (ae_mod (ae_mulT gk (ae_var (pv 4)) (ae_var (pv 4))) ae_int) ae_int) (ae_mulT gk (ae_var (pv 4)) ae_int)) (ae_mulT gk ae_int (ae_ix gk (ae_var (pv 0)) ae_int (fun _ _ => rfl)))) ae_int) ae_int)) (ag_set (ae_var (pv 0)) ae_int (pg_sub (ae_var (pv 0)).pe ae_int.pe set_list)))
    (ass_one (as_ret (ae_mod (ae_add gk (ae_fdiv (ae_ix gk (ae_var (pv 0)) ae_int (fun _ _ => rfl)) ae_int) (ae_mulT gk (ae_mod (ae_ix gk (ae_var (pv 0)) ae_int (fun _ _ => rfl)) ae_int) ae_int)) (ae_var (pv 1))))))))))
theorem b__law_pick {P : Program} {w : World} {K : PySem.W.Frag} {mg : Str → Option Value} {base : Heap} {f : Addr} {cdv : Value} {A : Around} {outer : List Env} {s : Shared} {H : Hp} {EX : XK} {G : Gx} {E : AExc → AEnv → AH → Prop} (Z : Blt K mg) (O__law_take : Ok P w K mg base "_law_take" s__law_take 1 2 P__law_take (upc m__law_take)) (hr : Room 1 (A.deeper (envOfC "_law_pick" (defScope s__law_pick) s.heap.objs.size f cdv))) (gk : G.K = K) (tk : Takes (bx P w K mg base N__law_pick "_law_pick" (defScope s__law_pick) f cdv A outer s H EX) (cW G E)) :
    ASs (bx P w K mg base N__law_pick "_law_pick" (defScope s__law_pick) f cdv A outer s H EX) G (defBody s__law_pick) (t__law_pick E) := by
  subst gk
  have gk : G.K = G.K := rfl
  have sc := c__law_pick
  have hu := hr.units
  exact (ass_one (as_ret (ae_ix gk (ae_var (pv 1)) (ae_callO gk O__law_take a__law_take hr (by decide) rfl tk (an_cons (av_of (ae_var (pv 0))) (an_cons (av_of (ae_callB call_len ca_len rfl Z.n_len bo_len (ar_cons (ae_var (pv 1)) ar_nil))) an_nil))) (fun _ _ => rfl))))
theorem b__law_same {P : Program} {w : World} {K : PySem.W.Frag} {mg : Str → Option Value} {base : Heap} {f : Addr} {cdv : Value} {A : Around} {outer : List Env} {s : Shared} {H : Hp} {EX : XK} {G : Gx} {E : AExc → AEnv → AH → Prop} {d j : Nat} (Z : Blt K mg) (O__law_same : Ok P w K mg base "_law_same" s__law_same j 2 P__law_same (upc (m__law_same d))) (hr : Room (max j 0) (A.deeper (envOfC "_law_same" (defScope s__law_same) s.heap.objs.size f cdv))) (gk : G.K = K) (tk : Takes (bx P w K mg base N__law_same "_law_same" (defScope s__law_same) f cdv A outer s H EX) (cW G E)) :
    ASs (bx P w K mg base N__law_same "_law_same" (defScope s__law_same) f cdv A outer s H EX) G (defBody s__law_same) (t__law_same d E) := by
  subst gk
  have gk : G.K = G.K := rfl
  have sc := c__law_same
  have hu := hr.units
  exact (ass_cons (as_if (ap_isN (ae_var (pv 1)) ae_non) (ass_one (as_ret (ae_isN (ae_var (pv 0)) ae_non))) ass_nil)
    (ass_cons (as_if (ap_v (ae_callB call_isi ca_isi rfl Z.n_isinstance bo_isinstance (ar_cons (ae_var (pv 1)) (ar_cons (ae_ty rfl Z.n_bool bo_bool) ar_nil)))) (ass_one (as_ret (ae_and (ae_callB call_isi ca_isi rfl Z.n_isinstance bo_isinstance (ar_cons (ae_var (pv 0)) (ar_cons (ae_ty rfl Z.n_bool bo_bool) ar_nil))) (ae_and1 (ae_eq gk hu (ae_var (pv 0)) (ae_var (pv 1))))))) ass_nil)
    (ass_cons (as_if (ap_v (ae_callB call_isi ca_isi rfl Z.n_isinstance bo_isinstance (ar_cons (ae_var (pv 1)) (ar_cons (ae_ty rfl Z.n_int bo_int) ar_nil)))) (ass_one (as_ret (ae_and (ae_callB call_isi ca_isi rfl Z.n_isinstance bo_isinstance (ar_cons (ae_var (pv 0)) (ar_cons (ae_ty rfl Z.n_int bo_int) ar_nil))) (ae_and (ae_not (ae_callB call_isi ca_isi rfl Z.n_isinstance bo_isinstance (ar_cons (ae_var (pv 0)) (ar_cons (ae_ty rfl Z.n_bool bo_bool) ar_nil)))) (ae_and1 (ae_eq gk hu (ae_var (pv 0)) (ae_var (pv 1)))))))) ass_nil)
    (ass_cons (as_if (ap_v (ae_callB call_isi ca_isi rfl Z.n_isinstance bo_isinstance (ar_cons (ae_var (pv 1)) (ar_cons (ae_ty rfl Z.n_str bo_str) ar_nil)))) (ass_one (as_ret (ae_and (ae_callB call_isi ca_isi rfl Z.n_isinstance bo_isinstance (ar_cons (ae_var (pv 0)) (ar_cons (ae_ty rfl Z.n_str bo_str) ar_nil))) (ae_and1 (ae_eq gk hu (ae_var (pv 0)) (ae_var (pv 1))))))) ass_nil)
    (ass_cons (as_if (AW.ap (aw_or (ap_ne gk hu (ae_callB call_isi ca_isi rfl Z.n_isinstance bo_isinstance (ar_cons (ae_var (pv 1)) (ar_cons (ae_ty rfl Z.n_tuple bo_tuple) ar_nil))) (ae_callB call_isi ca_isi rfl Z.n_isinstance bo_isinstance (ar_cons (ae_var (pv 0)) (ar_cons (ae_ty rfl Z.n_tuple bo_tuple) ar_nil)))) (aw_or1 (ap_ne gk hu (ae_callB call_isi ca_isi rfl Z.n_isinstance bo_isinstance (ar_cons (ae_var (pv 1)) (ar_cons (ae_ty rfl Z.n_list bo_list) ar_nil))) (ae_callB call_isi ca_isi rfl Z.n_isinstance bo_isinstance (ar_cons (ae_var (pv 0)) (ar_cons (ae_ty rfl Z.n_list bo_list) ar_nil))))))) (ass_one (as_ret ae_bl)) ass_nil)
    (ass_cons (as_if (ap_ne gk hu (ae_callB call_len ca_len rfl Z.n_len bo_len (ar_cons (ae_var (pv 0)) ar_nil)) (ae_callB call_len ca_len rfl Z.n_len bo_len (ar_cons (ae_var (pv 1)) ar_nil))) (ass_one (as_ret ae_bl)) ass_nil)
    (ass_one (as_ret (ae_callB (cr_all rfl) ca_all rfl Z.n_all bo_all (ar_cons (ae_lcO (own := [("_law_at", 2)]) rfl sc.nd (ai_range1 rfl Z.n_range (ar_cons (ae_callB call_len ca_len rfl Z.n_len bo_len (ar_cons (ae_var (pv 1)) ar_nil)) ar_nil)) (blkOk_by (by first | (show blkC N__law_same (defScope s__law_same) _ _ = true; decide +kernel) | rfl)) (by decide) (fun _ _ _ _ _ => (ag_name (i := 2) sc.nd rfl (by first | exact .inl rfl | exact .inr rfl))) (fun _ _ _ _ _ => aps_nil) (fun _ _ _ _ _ => (av_of (ae_callO gk O__law_same a__law_same hr (by omega) rfl tk_none (an_cons (av_of (ae_ix gk (ae_var (pv 0)) (ae_var (pv 2)) (fun _ _ => rfl))) (an_cons (av_of (ae_ix gk (ae_var (pv 1)) (ae_var (pv 2)) (fun _ _ => rfl))) an_nil)))))) ar_nil))))))))))
theorem b__law_sizes {P : Program} {w : World} {K : PySem.W.Frag} {mg : Str → Option Value} {base : Heap} {f : Addr} {cdv : Value} {A : Around} {outer : List Env} {s : Shared} {H : Hp} {EX : XK} {G : Gx} {E : AExc → AEnv → AH → Prop} (Z : Blt K mg) (O__law_take : Ok P w K mg base "_law_take" s__law_take 1 2 P__law_take (upc m__law_take)) (hr : Room 1 (A.deeper (envOfC "_law_sizes" (defScope s__law_sizes) s.heap.objs.size f cdv))) (gk : G.K = K) (tk : Takes (bx P w K mg base N__law_sizes "_law_sizes" (defScope s__law_sizes) f cdv A outer s H EX) (cW G E)) :
    ASs (bx P w K mg base N__law_sizes "_law_sizes" (defScope s__law_sizes) f cdv A outer s H EX) G (defBody s__law_sizes) (t__law_sizes E) := by
  subst gk
  have gk : G.K = G.K := rfl
  have sc := c__law_sizes
  have hu := hr.units
  exact (ass_one (as_ret (ae_callTy call_tuple_of ca_tup rfl Z.n_tuple bo_tuple (ar_cons (ae_lcO (own := [("_law_mcask", 3)]) rfl sc.nd (ai_range1 rfl Z.n_range (ar_cons (ae_add gk ae_int (ae_callO gk O__law_take a__law_take hr (by decide) rfl tk (an_cons (av_of (ae_var (pv 0))) (an_cons (av_of (ae_var (pv 1))) an_nil)))) ar_nil)) (blkOk_by (by first | (show blkC N__law_sizes (defScope s__law_sizes) _ _ = true; decide +kernel) | rfl)) (by decide) (fun _ _ _ _ _ => (ag_name (i := 3) sc.nd rfl (by first | exact .inl rfl | exact .inr rfl))) (fun _ _ _ _ _ => aps_nil) (fun _ _ _ _ _ => (av_of (ae_add gk ae_int (ae_callO gk O__law_take a__law_take hr (by decide) rfl tk_none (an_cons (av_of (ae_var (pv 0))) (an_cons (av_of (ae_var (pv 2))) an_nil))))))) ar_nil))))
theorem b__law_any_sizes {P : Program} {w : World} {K : PySem.W.Frag} {mg : Str → Option Value} {base : Heap} {f : Addr} {cdv : Value} {A : Around} {outer : List Env} {s : Shared} {H : Hp} {EX : XK} {G : Gx} {E : AExc → AEnv → AH → Prop} (Z : Blt K mg) (O__law_sizes : Ok P w K mg base "_law_sizes" s__law_sizes 2 3 P__law_sizes (upc m__law_sizes)) (O__law_pick : Ok P w K mg base "_law_pick" s__law_pick 2 2 P__law_pick (upc m__law_pick)) (hr : Room 2 (A.deeper (envOfC "_law_any_sizes" (defScope s__law_any_sizes) s.heap.objs.size f cdv))) (gk : G.K = K) (tk : Takes (bx P w K mg base N__law_any_sizes "_law_any_sizes" (defScope s__law_any_sizes) f cdv A outer s H EX) (cW G E)) :
    ASs (bx P w K mg base N__law_any_sizes "_law_any_sizes" (defScope s__law_any_sizes) f cdv A outer s H EX) G (defBody s__law_any_sizes) (t__law_any_sizes E) := by
  subst gk
  have gk : G.K = G.K := rfl
  have sc := c__law_any_sizes
  have hu := hr.units
  exact (ass_one (as_ret (ae_callO gk O__law_sizes a__law_sizes hr (by decide) rfl tk (an_cons (av_of (ae_var (pv 0))) (an_cons (av_of ae_int) (an_cons (av_of (ae_callO gk O__law_pick a__law_pick hr (by decide) rfl tk (an_cons (av_of (ae_var (pv 0))) (an_cons (av_of (ae_lst (aa_cons (av_of ae_int) (aa_cons (av_of ae_int) (aa_cons (av_of ae_int) (aa_cons (av_of ae_int) aa_nil)))))) an_nil)))) an_nil))))))
theorem b__law_stand {P : Program} {w : World} {K : PySem.W.Frag} {mg : Str → Option Value} {base : Heap} {f : Addr} {cdv : Value} {A : Around} {outer : List Env} {s : Shared} {H : Hp} {EX : XK} {G : Gx} {E : AExc → AEnv → AH → Prop} (Z : Blt K mg) (O__law_take : Ok P w K mg base "_law_take" s__law_take 1 2 P__law_take (upc m__law_take)) (hr : Room 1 (A.deeper (envOfC "_law_stand" (defScope s__law_stand) s.heap.objs.size f cdv))) (gk : G.K = K) (tk : Takes (bx P w K mg base N__law_stand "_law_stand" (defScope s__law_stand) f cdv A outer s H EX) (cW G E)) :
    ASs (bx P w K mg base N__law_stand "_law_stand" (defScope s__law_stand) f cdv A outer s H EX) G (defBody s__law_stand) (t__law_stand E) := by
  subst gk
  have gk : G.K = G.K := rfl
  have sc := c__law_stand
  have hu := hr.units
  exact (ass_cons (as_asg (av_of (ae_tup aa_nil)) (ag_name (i := 4) sc.nd rfl (by first | exact .inl rfl | exact .inr rfl)))
    (ass_cons (as_set (i := 5) sc.nd rfl (by first | exact .inl rfl | exact .inr rfl) (ae_mulT gk (ae_lst (aa_cons (av_of ae_int) aa_nil)) (ae_callB call_len ca_len rfl Z.n_len bo_len (ar_cons (ae_var (pv 1)) ar_nil))))
    (ass_cons (as_for (passes_of rfl) rfl (ai_range1 rfl Z.n_range (ar_cons (ae_callO gk O__law_take a__law_take hr (by decide) rfl tk (an_cons (av_of (ae_var (pv 0))) (an_cons (av_of (ae_add gk (ae_var (pv 2)) ae_int)) an_nil))) ar_nil)) (ag_name (i := 6) sc.nd rfl (by first | exact .inl rfl | exact .inr rfl)) (ass_cons (as_asg (av_of (ae_sub (ae_callO gk O__law_take a__law_take hr (by decide) rfl tk (an_cons (av_of (ae_var (pv 0))) (an_cons (av_of (ae_add gk (ae_callB call_len ca_len rfl Z.n_len bo_len (ar_cons (ae_var (pv 1)) ar_nil)) (ae_var (pv 3)))) an_nil))) (ae_var (pv 3)))) (ag_name (i := 7) sc.nd rfl (by first | exact .inl rfl | exact .inr rfl)))
    (ass_one (as_if (ap_lt (ae_var (pv 7)) ae_int) (ass_one (as_asg (av_of (ae_add gk (ae_var (pv 4)) (ae_tup (aa_cons (av_of (ae_neg ae_int)) aa_nil)))) (ag_name (i := 4) sc.nd rfl (by first | exact .inl rfl | exact .inr rfl)))) (ass_one (as_if (ap_lt (ae_ix gk (ae_var (pv 5)) (ae_var (pv 7)) (fun _ _ => rfl)) (ae_ix gk (ae_var (pv 1)) (ae_var (pv 7)) (fun _ _ => rfl))) (ass_cons (as_asg (av_of (ae_add gk (ae_ix gk (ae_var (pv 5)) (ae_var (pv 7)) (fun _ _ => rfl)) ae_int)) (ag_set (ae_var (pv 5)) (ae_var (pv 7)) (pg_sub (ae_var (pv 5)).pe (ae_var (pv 7)).pe set_list)))
    (ass_one (as_asg (av_of (ae_add gk (ae_var (pv 4)) (ae_tup (aa_cons (av_of (ae_var (pv 7))) aa_nil)))) (ag_name (i := 4) sc.nd rfl (by first | exact .inl rfl | exact .inr rfl))))) ass_nil))))))
    (ass_one (as_ret (ae_var (pv 4)))))))
theorem b__law_number {P : Program} {w : World} {K : PySem.W.Frag} {mg : Str → Option Value} {base : Heap} {f : Addr} {cdv : Value} {A : Around} {outer : List Env} {s : Shared} {H : Hp} {EX : XK} {G : Gx} {E : AExc → AEnv → AH → Prop} (Z : Blt K mg) (O__law_take : Ok P w K mg base "_law_take" s__law_take 1 2 P__law_take (upc m__law_take)) (O__law_pick : Ok P w K mg base "_law_pick" s__law_pick 2 2 P__law_pick (upc m__law_pick)) (hr : Room 2 (A.deeper (envOfC "_law_number" (defScope s__law_number) s.heap.objs.size f cdv))) (gk : G.K = K) (tk : Takes (bx P w K mg base N__law_number "_law_number" (defScope s__law_number) f cdv A outer s H EX) (cW G E)) :
    ASs (bx P w K mg base N__law_number "_law_number" (defScope s__law_number) f cdv A outer s H EX) G (defBody s__law_number) (t__law_number E) := by
  subst gk
  have gk : G.K = G.K := rfl
  have sc := c__law_number
  have hu := hr.units
  exact (ass_cons (as_asg (av_of (ae_lst (aa_cons (av_of ae_int) (aa_cons (av_of ae_int) (aa_cons (av_of ae_int) (aa_cons (av_of ae_int) (aa_cons (av_of (ae_add gk ae_int (ae_callO gk O__law_take a__law_take hr (by decide) rfl tk (an_cons (av_of (ae_var (pv 0))) (an_cons (av_of ae_int) an_nil))))) (aa_cons (av_of (ae_callO gk O__law_take a__law_take hr (by decide) rfl tk (an_cons (av_of (ae_var (pv 0))) (an_cons (av_of ae_int) an_nil)))) (aa_cons (av_of (ae_sub (ae_pow ae_int ae_int) ae_int)) (aa_cons (av_of (ae_callO gk O__law_take a__law_take hr (by decide) rfl tk (an_cons (av_of (ae_var (pv 0))) (an_cons (av_of (ae_pow ae_int ae_int)) an_nil)))) aa_nil)))))))))) (ag_name (i := 1) sc.nd rfl (by first | exact .inl rfl | exact .inr rfl)))
    (ass_one (as_ret (ae_callO gk O__law_pick a__law_pick hr (by decide) rfl tk (an_cons (av_of (ae_var (pv 0))) (an_cons (av_of (ae_var (pv 1))) an_nil))))))
theorem b__law_shuffled {P : Program} {w : World} {K : PySem.W.Frag} {mg : Str → Option Value} {base : Heap} {f : Addr} {cdv : Value} {A : Around} {outer : List Env} {s : Shared} {H : Hp} {EX : XK} {G : Gx} {E : AExc → AEnv → AH → Prop} (Z : Blt K mg) (O__law_take : Ok P w K mg base "_law_take" s__law_take 1 2 P__law_take (upc m__law_take)) (hr : Room 1 (A.deeper (envOfC "_law_shuffled" (defScope s__law_shuffled) s.heap.objs.size f cdv))) (gk : G.K = K) (tk : Takes (bx P w K mg base N__law_shuffled "_law_shuffled" (defScope s__law_shuffled) f cdv A outer s H EX) (cW G E)) :
    ASs (bx P w K mg base N__law_shuffled "_law_shuffled" (defScope s__law_shuffled) f cdv A outer s H EX) G (defBody s__law_shuffled) (t__law_shuffled E) := by
  subst gk
  have gk : G.K = G.K := rfl
  have sc := c__law_shuffled
  have hu := hr.units
  exact (ass_cons (as_set (i := 2) sc.nd rfl (by first | exact .inl rfl | exact .inr rfl) (ae_callTy call_list_of ca_lst rfl Z.n_list bo_list (ar_cons (ae_var (pv 1)) ar_nil)))
    (ass_one (as_ret (ae_lcO (own := [("_law_thing", 3)]) rfl sc.nd (ai_sq gk (av_of (ae_var (pv 1)))) (blkOk_by (by first | (show blkC N__law_shuffled (defScope s__law_shuffled) _ _ = true; decide +kernel) | rfl)) (by decide) (fun _ _ _ _ _ => (ag_name (i := 3) sc.nd rfl (by first | exact .inl rfl | exact .inr rfl))) (fun _ _ _ _ _ => aps_nil) (fun _ _ _ _ _ => (av_of (ae_lm gk lm_popAt PySem.F.plainAttrs_list PySem.F.slot_list_pop PySem.F.type_list_pop mt_popAt (ae_var (pv 2)) (aa_cons (av_of (ae_callO gk O__law_take a__law_take hr (by decide) rfl tk_none (an_cons (av_of (ae_var (pv 0))) (an_cons (av_of (ae_callB call_len ca_len rfl Z.n_len bo_len (ar_cons (ae_var (pv 2)) ar_nil))) an_nil)))) aa_nil))))))))
theorem b__law_some_casks {P : Program} {w : World} {K : PySem.W.Frag} {mg : Str → Option Value} {base : Heap} {f : Addr} {cdv : Value} {A : Around} {outer : List Env} {s : Shared} {H : Hp} {EX : XK} {G : Gx} {E : AExc → AEnv → AH → Prop} (Z : Blt K mg) (O__law_shuffled : Ok P w K mg base "_law_shuffled" s__law_shuffled 2 2 P__law_shuffled (upc m__law_shuffled)) (hr : Room 2 (A.deeper (envOfC "_law_some_casks" (defScope s__law_some_casks) s.heap.objs.size f cdv))) (gk : G.K = K) (tk : Takes (bx P w K mg base N__law_some_casks "_law_some_casks" (defScope s__law_some_casks) f cdv A outer s H EX) (cW G E)) :
    ASs (bx P w K mg base N__law_some_casks "_law_some_casks" (defScope s__law_some_casks) f cdv A outer s H EX) G (defBody s__law_some_casks) (t__law_some_casks E) := by
  subst gk
  have gk : G.K = G.K := rfl
  have sc := c__law_some_casks
  have hu := hr.units
  exact (ass_one (as_ret (ae_callTy call_tuple_of ca_tup rfl Z.n_tuple bo_tuple (ar_cons (ae_slice gk (ae_callO gk O__law_shuffled a__law_shuffled hr (by decide) rfl tk (an_cons (av_of (ae_var (pv 0))) (an_cons (av_of (ae_lrg1 rfl rfl Z.n_list rfl Z.n_range (ae_var (pv 1)))) an_nil))) ao_none (ao_some (ae_var (pv 2)))) ar_nil))))
theorem b__law_alike {P : Program} {w : World} {K : PySem.W.Frag} {mg : Str → Option Value} {base : Heap} {f : Addr} {cdv : Value} {A : Around} {outer : List Env} {s : Shared} {H : Hp} {EX : XK} {G : Gx} {E : AExc → AEnv → AH → Prop} (Z : Blt K mg)  (hr : Room 0 (A.deeper (envOfC "_law_alike" (defScope s__law_alike) s.heap.objs.size f cdv))) (gk : G.K = K) (tk : Takes (bx P w K mg base N__law_alike "_law_alike" (defScope s__law_alike) f cdv A outer s H EX) (cW G E)) :
    ASs (bx P w K mg base N__law_alike "_law_alike" (defScope s__law_alike) f cdv A outer s H EX) G (defBody s__law_alike) (t__law_alike E) := by
  subst gk
  have gk : G.K = G.K := rfl
  have sc := c__law_alike
  have hu := hr.units
  exact (ass_cons (as_set (i := 1) sc.nd rfl (by first | exact .inl rfl | exact .inr rfl) (ae_lst aa_nil))
    (ass_cons (as_for (passes_of rfl) rfl (ai_range1 rfl Z.n_range (ar_cons (ae_callB call_len ca_len rfl Z.n_len bo_len (ar_cons (ae_var (pv 0)) ar_nil)) ar_nil)) (ag_name (i := 2) sc.nd rfl (by first | exact .inl rfl | exact .inr rfl)) (ass_cons (as_setLc (i := 3) (own := [("_law_at", 4)]) rfl sc.nd rfl rfl rfl (ai_range1 rfl Z.n_range (ar_cons (ae_callB call_len ca_len rfl Z.n_len bo_len (ar_cons (ae_var (pv 0)) ar_nil)) ar_nil)) (blkOk_by (by first | (show blkC N__law_alike (defScope s__law_alike) _ _ = true; decide +kernel) | rfl)) (by decide) (fun _ _ _ _ _ => (ag_name (i := 4) sc.nd rfl (by first | exact .inl rfl | exact .inr rfl))) (fun _ _ _ _ _ => (aps_one (AW.ap (aw_and (ap_ne gk hu (ae_var (pv 4)) (ae_var (pv 2))) (aw_and1 (ap_eq gk hu (ae_ix gk (ae_var (pv 0)) (ae_var (pv 4)) (fun _ _ => rfl)) (ae_ix gk (ae_var (pv 0)) (ae_var (pv 2)) (fun _ _ => rfl)))))))) (fun _ _ _ _ _ => (av_of (ae_var (pv 4)))))
    (ass_one (as_frz 3 (as_expr (ae_ext (ae_var (pv 1)) (ae_lcO (own := [("_law_at", 4)]) rfl sc.nd (ai_sq gk (av_of (ae_var (pv 3)))) (blkOk_by (by first | (show blkC N__law_alike (defScope s__law_alike) _ _ = true; decide +kernel) | rfl)) (by decide) (fun _ _ _ _ _ => (ag_name (i := 4) sc.nd rfl (by first | exact .inl rfl | exact .inr rfl))) (fun _ _ _ _ _ => aps_nil) (fun _ _ _ _ _ => (av_of (ae_tup (aa_cons (av_of (ae_var (pv 2))) (aa_cons (av_of (ae_var (pv 4))) aa_nil))))))))))))
    (ass_one (as_ret (ae_var (pv 1))))))
theorem b__law_deed {P : Program} {w : World} {K : PySem.W.Frag} {mg : Str → Option Value} {base : Heap} {f : Addr} {cdv : Value} {A : Around} {outer : List Env} {s : Shared} {H : Hp} {EX : XK} {G : Gx} {E : AExc → AEnv → AH → Prop} (Z : Blt K mg) (O__law_take : Ok P w K mg base "_law_take" s__law_take 1 2 P__law_take (upc m__law_take)) (O__law_alike : Ok P w K mg base "_law_alike" s__law_alike 1 1 P__law_alike (upc m__law_alike)) (O__law_pick : Ok P w K mg base "_law_pick" s__law_pick 2 2 P__law_pick (upc m__law_pick)) (O__law_some_casks : Ok P w K mg base "_law_some_casks" s__law_some_casks 3 3 P__law_some_casks (upc m__law_some_casks)) (hr : Room 3 (A.deeper (envOfC "_law_deed" (defScope s__law_deed) s.heap.objs.size f cdv))) (gk : G.K = K) (tk : Takes (bx P w K mg base N__law_deed "_law_deed" (defScope s__law_deed) f cdv A outer s H EX) (cW G E)) :
    ASs (bx P w K mg base N__law_deed "_law_deed" (defScope s__law_deed) f cdv A outer s H EX) G (defBody s__law_deed) (t__law_deed E) := by
  subst gk
  have gk : G.K = G.K := rfl
  have sc := c__law_deed
  have hu := hr.units
  exact (ass_cons (as_asg (av_of (ae_callO gk O__law_take a__law_take hr (by decide) rfl tk (an_cons (av_of (ae_var (pv 0))) (an_cons (av_of ae_int) an_nil)))) (ag_name (i := 4) sc.nd rfl (by first | exact .inl rfl | exact .inr rfl)))
    (ass_cons (as_asg (av_of (ae_callO gk O__law_alike a__law_alike hr (by decide) rfl tk (an_cons (av_of (ae_var (pv 1))) an_nil))) (ag_name (i := 5) sc.nd rfl (by first | exact .inl rfl | exact .inr rfl)))
    (ass_cons (as_if (AW.ap (aw_and (ap_eq gk hu (ae_var (pv 4)) ae_int) (aw_and1 (ap_ne gk hu (ae_var (pv 5)) (ae_lst aa_nil))))) (ass_one (as_ret (ae_add gk (ae_tup (aa_cons (av_of ae_str) aa_nil)) (ae_callO gk O__law_pick a__law_pick hr (by decide) rfl tk (an_cons (av_of (ae_var (pv 0))) (an_cons (av_of (ae_var (pv 5))) an_nil)))))) ass_nil)
    (ass_cons (as_if (AW.ap (aw_and (ap_lt (ae_var (pv 4)) ae_int) (aw_and1 (ap_v (ae_var (pv 3)))))) (ass_one (as_ret (ae_tup (aa_cons (av_of ae_str) (aa_cons (av_of (ae_callO gk O__law_pick a__law_pick hr (by decide) rfl tk (an_cons (av_of (ae_var (pv 0))) (an_cons (av_of (ae_lst (aa_cons (av_of ae_int) (aa_cons (av_of ae_int) (aa_cons (av_of ae_int) (aa_cons (av_of ae_int) (aa_cons (av_of (ae_var (pv 2))) aa_nil))))))) an_nil)))) (aa_cons (av_of (ae_callO gk O__law_take a__law_take hr (by decide) rfl tk (an_cons (av_of (ae_var (pv 0))) (an_cons (av_of (ae_callB call_len ca_len rfl Z.n_len bo_len (ar_cons (ae_var (pv 1)) ar_nil))) an_nil)))) aa_nil)))))) ass_nil)
    (ass_cons (as_if (AW.ap (aw_or (ap_eq gk hu (ae_var (pv 4)) ae_int) (aw_or1 (ap_eq gk hu (ae_callB call_len ca_len rfl Z.n_len bo_len (ar_cons (ae_var (pv 1)) ar_nil)) ae_int)))) (ass_one (as_ret (ae_tup (aa_cons (av_of ae_str) (aa_cons (av_of (ae_var (pv 2))) (aa_cons (av_of (ae_callO gk O__law_take a__law_take hr (by decide) rfl tk (an_cons (av_of (ae_var (pv 0))) (an_cons (av_of (ae_callB call_len ca_len rfl Z.n_len bo_len (ar_cons (ae_var (pv 1)) ar_nil))) an_nil)))) aa_nil)))))) ass_nil)
    (ass_cons (as_asg (av_of (ae_add gk ae_int (ae_callO gk O__law_take a__law_take hr (by decide) rfl tk (an_cons (av_of (ae_var (pv 0))) (an_cons (av_of (ae_sub (ae_callB call_len ca_len rfl Z.n_len bo_len (ar_cons (ae_var (pv 1)) ar_nil)) ae_int)) an_nil))))) (ag_name (i := 6) sc.nd rfl (by first | exact .inl rfl | exact .inr rfl)))
    (ass_cons (as_asg (av_of (ae_ix gk (ae_lst (aa_cons (av_of ae_str) (aa_cons (av_of ae_str) aa_nil))) (ae_fdiv (ae_callO gk O__law_take a__law_take hr (by decide) rfl tk (an_cons (av_of (ae_var (pv 0))) (an_cons (av_of ae_int) an_nil))) ae_int) (fun _ _ => rfl))) (ag_name (i := 7) sc.nd rfl (by first | exact .inl rfl | exact .inr rfl)))
    (ass_one (as_ret (ae_add gk (ae_tup (aa_cons (av_of (ae_var (pv 7))) (aa_cons (av_of (ae_var (pv 2))) aa_nil))) (ae_callO gk O__law_some_casks a__law_some_casks hr (by decide) rfl tk (an_cons (av_of (ae_var (pv 0))) (an_cons (av_of (ae_callB call_len ca_len rfl Z.n_len bo_len (ar_cons (ae_var (pv 1)) ar_nil))) (an_cons (av_of (ae_var (pv 6))) an_nil))))))))))))))
theorem b__law_row {P : Program} {w : World} {K : PySem.W.Frag} {mg : Str → Option Value} {base : Heap} {f : Addr} {cdv : Value} {A : Around} {outer : List Env} {s : Shared} {H : Hp} {EX : XK} {G : Gx} {E : AExc → AEnv → AH → Prop} (Z : Blt K mg) (O__law_take : Ok P w K mg base "_law_take" s__law_take 1 2 P__law_take (upc m__law_take)) (O__law_deed : Ok P w K mg base "_law_deed" s__law_deed 4 4 P__law_deed (upc m__law_deed)) (O__law_number : Ok P w K mg base "_law_number" s__law_number 3 1 P__law_number (upc m__law_number)) (hr : Room 4 (A.deeper (envOfC "_law_row" (defScope s__law_row) s.heap.objs.size f cdv))) (gk : G.K = K) (tk : Takes (bx P w K mg base N__law_row "_law_row" (defScope s__law_row) f cdv A outer s H EX) (cW G E)) :
    ASs (bx P w K mg base N__law_row "_law_row" (defScope s__law_row) f cdv A outer s H EX) G (defBody s__law_row) (t__law_row E) := by
  subst gk
  have gk : G.K = G.K := rfl
  have sc := c__law_row
  have hu := hr.units
  exact (ass_one (as_ret (ae_lcO (own := [("_law_k", 4)]) rfl sc.nd (ai_range1 rfl Z.n_range (ar_cons (ae_callO gk O__law_take a__law_take hr (by decide) rfl tk (an_cons (av_of (ae_var (pv 0))) (an_cons (av_of (ae_add gk (ae_var (pv 2)) ae_int)) an_nil))) ar_nil)) (blkOk_by (by first | (show blkC N__law_row (defScope s__law_row) _ _ = true; decide +kernel) | rfl)) (by decide) (fun _ _ _ _ _ => (ag_name (i := 4) sc.nd rfl (by first | exact .inl rfl | exact .inr rfl))) (fun _ _ _ _ _ => aps_nil) (fun _ _ _ _ _ => (av_of (ae_callO gk O__law_deed a__law_deed hr (by decide) rfl tk_none (an_cons (av_of (ae_var (pv 0))) (an_cons (av_of (ae_var (pv 1))) (an_cons (av_of (ae_callO gk O__law_number a__law_number hr (by decide) rfl tk_none (an_cons (av_of (ae_var (pv 0))) an_nil))) (an_cons (av_of (ae_var (pv 3))) an_nil))))))))))
theorem b__law_more {P : Program} {w : World} {K : PySem.W.Frag} {mg : Str → Option Value} {base : Heap} {f : Addr} {cdv : Value} {A : Around} {outer : List Env} {s : Shared} {H : Hp} {EX : XK} {G : Gx} {E : AExc → AEnv → AH → Prop} (Z : Blt K mg) (O__law_take : Ok P w K mg base "_law_take" s__law_take 1 2 P__law_take (upc m__law_take)) (hr : Room 1 (A.deeper (envOfC "_law_more" (defScope s__law_more) s.heap.objs.size f cdv))) (gk : G.K = K) (tk : Takes (bx P w K mg base N__law_more "_law_more" (defScope s__law_more) f cdv A outer s H EX) (cW G E)) :
    ASs (bx P w K mg base N__law_more "_law_more" (defScope s__law_more) f cdv A outer s H EX) G (defBody s__law_more) (t__law_more E) := by
  subst gk
  have gk : G.K = G.K := rfl
  have sc := c__law_more
  have hu := hr.units
  exact (ass_cons (as_asg (av_of (ae_var (pv 2))) (ag_name (i := 4) sc.nd rfl (by first | exact .inl rfl | exact .inr rfl)))
    (ass_cons (as_for (passes_of rfl) rfl (ai_range1 rfl Z.n_range (ar_cons (ae_callO gk O__law_take a__law_take hr (by decide) rfl tk (an_cons (av_of (ae_var (pv 0))) (an_cons (av_of (ae_add gk (ae_var (pv 3)) ae_int)) an_nil))) ar_nil)) (ag_name (i := 5) sc.nd rfl (by first | exact .inl rfl | exact .inr rfl)) (ass_cons (as_asg (av_of (ae_sub (ae_callO gk O__law_take a__law_take hr (by decide) rfl tk (an_cons (av_of (ae_var (pv 0))) (an_cons (av_of (ae_add gk (ae_callB call_len ca_len rfl Z.n_len bo_len (ar_cons (ae_var (pv 1)) ar_nil)) ae_int)) an_nil))) ae_int)) (ag_name (i := 6) sc.nd rfl (by first | exact .inl rfl | exact .inr rfl)))
    (ass_one (as_if (AW.ap (aw_or (ap_lt (ae_var (pv 6)) ae_int) (aw_or1 (ap_lt (ae_callB call_len ca_len rfl Z.n_len bo_len (ar_cons (ae_lcO (own := [("_law_here", 7)]) rfl sc.nd (ai_sq gk (av_of (ae_var (pv 4)))) (blkOk_by (by first | (show blkC N__law_more (defScope s__law_more) _ _ = true; decide +kernel) | rfl)) (by decide) (fun _ _ _ _ _ => (ag_name (i := 7) sc.nd rfl (by first | exact .inl rfl | exact .inr rfl))) (fun _ _ _ _ _ => (aps_one (ap_eq gk hu (ae_var (pv 7)) (ae_var (pv 6))))) (fun _ _ _ _ _ => (av_of (ae_var (pv 7))))) ar_nil)) (ae_ix gk (ae_var (pv 1)) (ae_var (pv 6)) (fun _ _ => rfl)))))) (ass_one (as_asg (av_of (ae_add gk (ae_var (pv 4)) (ae_tup (aa_cons (av_of (ae_var (pv 6))) aa_nil)))) (ag_name (i := 4) sc.nd rfl (by first | exact .inl rfl | exact .inr rfl)))) ass_nil))))
    (ass_one (as_ret (ae_var (pv 4))))))
theorem b_law {P : Program} {w : World} {K : PySem.W.Frag} {mg : Str → Option Value} {base : Heap} {f : Addr} {cdv : Value} {A : Around} {outer : List Env} {s : Shared} {H : Hp} {EX : XK} {G : Gx} {E : AExc → AEnv → AH → Prop} (Z : Blt K mg) (O__law_open : Ok P w K mg base "_law_open" s__law_open 1 1 P__law_open (upc m__law_open)) (O__law_any_sizes : Ok P w K mg base "_law_any_sizes" s__law_any_sizes 3 1 P__law_any_sizes (upc m__law_any_sizes)) (O__law_stand : Ok P w K mg base "_law_stand" s__law_stand 2 4 P__law_stand (upc m__law_stand)) (O__law_more : Ok P w K mg base "_law_more" s__law_more 2 4 P__law_more (upc m__law_more)) (O__law_row : Ok P w K mg base "_law_row" s__law_row 5 4 P__law_row (upc m__law_row)) (O_path : Ok P w K mg base "path" s_path 4 4 P_path (upc m_path)) (O__law_same : Ok P w K mg base "_law_same" s__law_same 9 2 P__law_same (upc (m__law_same 8))) (hr : Room 9 (A.deeper (envOfC "law" (defScope s_law) s.heap.objs.size f cdv))) (gk : G.K = K) (tk : Takes (bx P w K mg base N_law "law" (defScope s_law) f cdv A outer s H EX) (cW G E)) :
    ASs (bx P w K mg base N_law "law" (defScope s_law) f cdv A outer s H EX) G (defBody s_law) (t_law E) := by
  subst gk
  have gk : G.K = G.K := rfl
  have sc := c_law
  have hu := hr.units
  exact (ass_cons (as_set (i := 1) sc.nd rfl (by first | exact .inl rfl | exact .inr rfl) (ae_callO gk O__law_open a__law_open hr (by decide) rfl tk (an_cons (av_of (ae_var (pv 0))) an_nil)))
    (ass_cons (as_prom 1 (as_for (passes_of rfl) rfl (ai_range1 rfl Z.n_range (ar_cons ae_int ar_nil)) (ag_name (i := 2) sc.nd rfl (by first | exact .inl rfl | exact .inr rfl)) (ass_cons (as_asg (av_of (ae_callO gk O__law_any_sizes a__law_any_sizes hr (by decide) rfl tk (an_cons (av_of (ae_var (pv 1))) an_nil))) (ag_name (i := 3) sc.nd rfl (by first | exact .inl rfl | exact .inr rfl)))
    (ass_cons (as_asg (av_of (ae_callO gk O__law_stand a__law_stand hr (by decide) rfl tk (an_cons (av_of (ae_var (pv 1))) (an_cons (av_of (ae_var (pv 3))) (an_cons (av_of ae_int) (an_cons (av_of ae_int) an_nil)))))) (ag_name (i := 4) sc.nd rfl (by first | exact .inl rfl | exact .inr rfl)))
    (ass_cons (as_par (i := 5) (j := 6) rfl sc.nd rfl rfl (by decide) rfl rfl (aa_cons (av_of (ae_callO gk O__law_more a__law_more hr (by decide) rfl tk (an_cons (av_of (ae_var (pv 1))) (an_cons (av_of (ae_var (pv 3))) (an_cons (av_of (ae_var (pv 4))) (an_cons (av_of ae_int) an_nil)))))) (aa_cons (av_of (ae_callO gk O__law_more a__law_more hr (by decide) rfl tk (an_cons (av_of (ae_var (pv 1))) (an_cons (av_of (ae_var (pv 3))) (an_cons (av_of (ae_var (pv 4))) (an_cons (av_of ae_int) an_nil)))))) aa_nil)) rfl)
    (ass_cons (as_asg (av_of (ae_callO gk O__law_row a__law_row hr (by decide) rfl tk (an_cons (av_of (ae_var (pv 1))) (an_cons (av_of (ae_var (pv 3))) (an_cons (av_of ae_int) (an_cons (av_of ae_bl) an_nil)))))) (ag_name (i := 7) sc.nd rfl (by first | exact .inl rfl | exact .inr rfl)))
    (ass_one (as_for (passes_of rfl) rfl (ai_range1 rfl Z.n_range (ar_cons (ae_callB call_len ca_len rfl Z.n_len bo_len (ar_cons (ae_var (pv 4)) ar_nil)) ar_nil)) (ag_name (i := 8) sc.nd rfl (by first | exact .inl rfl | exact .inr rfl)) (ass_cons (as_asg (av_of (ae_callO gk O_path a_path hr (by decide) rfl tk (an_cons (av_of (ae_var (pv 3))) (an_cons (av_of (ae_var (pv 4))) (an_cons (av_of (ae_var (pv 7))) (an_cons (av_of (ae_var (pv 8))) an_nil)))))) (ag_name (i := 9) sc.nd rfl (by first | exact .inl rfl | exact .inr rfl)))
    (ass_one (as_if (ap_not (ap_v (ae_callO gk O__law_same a__law_same hr (by decide) rfl tk (an_cons (av_of (ae_lcO (own := [("_law_here", 10)]) rfl sc.nd (ai_sq gk (av_of (ae_tup (aa_cons (av_of (ae_var (pv 5))) (aa_cons (av_of (ae_var (pv 6))) aa_nil))))) (blkOk_by (by first | (show blkC N_law (defScope s_law) _ _ = true; decide +kernel) | rfl)) (by decide) (fun _ _ _ _ _ => (ag_name (i := 10) sc.nd rfl (by first | exact .inl rfl | exact .inr rfl))) (fun _ _ _ _ _ => aps_nil) (fun _ _ _ _ _ => (av_of (ae_callO gk O_path a_path hr (by decide) rfl tk_none (an_cons (av_of (ae_var (pv 3))) (an_cons (av_of (ae_var (pv 10))) (an_cons (av_of (ae_var (pv 7))) (an_cons (av_of (ae_var (pv 8))) an_nil))))))))) (an_cons (av_of (ae_lst (aa_cons (av_of (ae_var (pv 9))) (aa_cons (av_of (ae_var (pv 9))) aa_nil)))) an_nil))))) (ass_one (as_ret ae_bl)) ass_nil)))))))))))
    (ass_one (as_ret ae_bl))))
end Ab
namespace Ab
open PySem PySem.Spec PyProof.Rows L2 RZ
theorem o_look_sizes {P : Program} {w : World} {K : PySem.W.Frag} {mg : Str → Option Value} {base : Heap} {f : Addr} {fd : FuncData} (Z : Blt K mg) (F : FunD K "look_sizes" "look_sizes" (defArgs s_look_sizes) (defBody s_look_sizes) (defScope s_look_sizes) [] [] f fd) (hm : mg "look_sizes" = some (.ref f))  : Ok P w K mg base "look_sizes" s_look_sizes 1 1 P_look_sizes (upc m_look_sizes) :=
  Ok.mk' upc.m hm F c_look_sizes rfl (fun cdv A outer s H EX G E hr gk tk => b_look_sizes Z  hr gk tk) q_look_sizes
theorem o_look_stand {P : Program} {w : World} {K : PySem.W.Frag} {mg : Str → Option Value} {base : Heap} {f : Addr} {fd : FuncData} (Z : Blt K mg) (F : FunD K "look_stand" "look_stand" (defArgs s_look_stand) (defBody s_look_stand) (defScope s_look_stand) [] [] f fd) (hm : mg "look_stand" = some (.ref f)) (O_look_sizes : Ok P w K mg base "look_sizes" s_look_sizes 1 1 P_look_sizes (upc m_look_sizes)) : Ok P w K mg base "look_stand" s_look_stand 2 2 P_look_stand (upc m_look_stand) :=
  Ok.mk' upc.m hm F c_look_stand rfl (fun cdv A outer s H EX G E hr gk tk => b_look_stand Z O_look_sizes hr gk tk) q_look_stand
theorem o_has_count {P : Program} {w : World} {K : PySem.W.Frag} {mg : Str → Option Value} {base : Heap} {f : Addr} {fd : FuncData} (Z : Blt K mg) (F : FunD K "has_count" "has_count" (defArgs s_has_count) (defBody s_has_count) (defScope s_has_count) [] [] f fd) (hm : mg "has_count" = some (.ref f))  : Ok P w K mg base "has_count" s_has_count 1 3 P_has_count (upc m_has_count) :=
  Ok.mk' upc.m hm F c_has_count rfl (fun cdv A outer s H EX G E hr gk tk => b_has_count Z  hr gk tk) q_has_count
theorem o_first_bad {P : Program} {w : World} {K : PySem.W.Frag} {mg : Str → Option Value} {base : Heap} {f : Addr} {fd : FuncData} (Z : Blt K mg) (F : FunD K "first_bad" "first_bad" (defArgs s_first_bad) (defBody s_first_bad) (defScope s_first_bad) [] [] f fd) (hm : mg "first_bad" = some (.ref f))  : Ok P w K mg base "first_bad" s_first_bad 1 3 P_first_bad (upc m_first_bad) :=
  Ok.mk' upc.m hm F c_first_bad rfl (fun cdv A outer s H EX G E hr gk tk => b_first_bad Z  hr gk tk) q_first_bad
theorem o_fault_of {P : Program} {w : World} {K : PySem.W.Frag} {mg : Str → Option Value} {base : Heap} {f : Addr} {fd : FuncData} (Z : Blt K mg) (F : FunD K "fault_of" "fault_of" (defArgs s_fault_of) (defBody s_fault_of) (defScope s_fault_of) [] [] f fd) (hm : mg "fault_of" = some (.ref f)) (O_has_count : Ok P w K mg base "has_count" s_has_count 1 3 P_has_count (upc m_has_count)) (O_first_bad : Ok P w K mg base "first_bad" s_first_bad 1 3 P_first_bad (upc m_first_bad)) : Ok P w K mg base "fault_of" s_fault_of 2 2 P_fault_of (upc m_fault_of) :=
  Ok.mk' upc.m hm F c_fault_of rfl (fun cdv A outer s H EX G E hr gk tk => b_fault_of Z O_has_count O_first_bad hr gk tk) q_fault_of
theorem o_look_row {P : Program} {w : World} {K : PySem.W.Frag} {mg : Str → Option Value} {base : Heap} {f : Addr} {fd : FuncData} (Z : Blt K mg) (F : FunD K "look_row" "look_row" (defArgs s_look_row) (defBody s_look_row) (defScope s_look_row) [] [] f fd) (hm : mg "look_row" = some (.ref f)) (O_look_sizes : Ok P w K mg base "look_sizes" s_look_sizes 1 1 P_look_sizes (upc m_look_sizes)) (O_fault_of : Ok P w K mg base "fault_of" s_fault_of 2 2 P_fault_of (upc m_fault_of)) : Ok P w K mg base "look_row" s_look_row 3 2 P_look_row (upc m_look_row) :=
  Ok.mk' upc.m hm F c_look_row rfl (fun cdv A outer s H EX G E hr gk tk => b_look_row Z O_look_sizes O_fault_of hr gk tk) q_look_row
theorem o_ranks_in {P : Program} {w : World} {K : PySem.W.Frag} {mg : Str → Option Value} {base : Heap} {f : Addr} {fd : FuncData} (Z : Blt K mg) (F : FunD K "ranks_in" "ranks_in" (defArgs s_ranks_in) (defBody s_ranks_in) (defScope s_ranks_in) [] [] f fd) (hm : mg "ranks_in" = some (.ref f))  : Ok P w K mg base "ranks_in" s_ranks_in 1 2 P_ranks_in (upc m_ranks_in) :=
  Ok.mk' upc.m hm F c_ranks_in rfl (fun cdv A outer s H EX G E hr gk tk => b_ranks_in Z  hr gk tk) q_ranks_in
theorem o_moved {P : Program} {w : World} {K : PySem.W.Frag} {mg : Str → Option Value} {base : Heap} {f : Addr} {fd : FuncData} (Z : Blt K mg) (F : FunD K "moved" "moved" (defArgs s_moved) (defBody s_moved) (defScope s_moved) [] [] f fd) (hm : mg "moved" = some (.ref f))  : Ok P w K mg base "moved" s_moved 1 3 P_moved (upc m_moved) :=
  Ok.mk' upc.m hm F c_moved rfl (fun cdv A outer s H EX G E hr gk tk => b_moved Z  hr gk tk) q_moved
theorem o_led {P : Program} {w : World} {K : PySem.W.Frag} {mg : Str → Option Value} {base : Heap} {f : Addr} {fd : FuncData} (Z : Blt K mg) (F : FunD K "led" "led" (defArgs s_led) (defBody s_led) (defScope s_led) [] [] f fd) (hm : mg "led" = some (.ref f)) (O_moved : Ok P w K mg base "moved" s_moved 1 3 P_moved (upc m_moved)) (O_ranks_in : Ok P w K mg base "ranks_in" s_ranks_in 1 2 P_ranks_in (upc m_ranks_in)) : Ok P w K mg base "led" s_led 2 4 P_led (upc m_led) :=
  Ok.mk' upc.m hm F c_led rfl (fun cdv A outer s H EX G E hr gk tk => b_led Z O_moved O_ranks_in hr gk tk) q_led
theorem o_tapped {P : Program} {w : World} {K : PySem.W.Frag} {mg : Str → Option Value} {base : Heap} {f : Addr} {fd : FuncData} (Z : Blt K mg) (F : FunD K "tapped" "tapped" (defArgs s_tapped) (defBody s_tapped) (defScope s_tapped) [] [] f fd) (hm : mg "tapped" = some (.ref f)) (O_ranks_in : Ok P w K mg base "ranks_in" s_ranks_in 1 2 P_ranks_in (upc m_ranks_in)) : Ok P w K mg base "tapped" s_tapped 2 4 P_tapped (upc m_tapped) :=
  Ok.mk' upc.m hm F c_tapped rfl (fun cdv A outer s H EX G E hr gk tk => b_tapped Z O_ranks_in hr gk tk) q_tapped
theorem o_behind_deed {P : Program} {w : World} {K : PySem.W.Frag} {mg : Str → Option Value} {base : Heap} {f : Addr} {fd : FuncData} (Z : Blt K mg) (F : FunD K "behind_deed" "behind_deed" (defArgs s_behind_deed) (defBody s_behind_deed) (defScope s_behind_deed) [] [] f fd) (hm : mg "behind_deed" = some (.ref f)) (O_ranks_in : Ok P w K mg base "ranks_in" s_ranks_in 1 2 P_ranks_in (upc m_ranks_in)) (O_led : Ok P w K mg base "led" s_led 2 4 P_led (upc m_led)) (O_tapped : Ok P w K mg base "tapped" s_tapped 2 4 P_tapped (upc m_tapped)) (O_moved : Ok P w K mg base "moved" s_moved 1 3 P_moved (upc m_moved)) : Ok P w K mg base "behind_deed" s_behind_deed 3 3 P_behind_deed (upc m_behind_deed) :=
  Ok.mk' upc.m hm F c_behind_deed rfl (fun cdv A outer s H EX G E hr gk tk => b_behind_deed Z O_ranks_in O_led O_tapped O_moved hr gk tk) q_behind_deed
theorem o_path {P : Program} {w : World} {K : PySem.W.Frag} {mg : Str → Option Value} {base : Heap} {f : Addr} {fd : FuncData} (Z : Blt K mg) (F : FunD K "path" "path" (defArgs s_path) (defBody s_path) (defScope s_path) [] [] f fd) (hm : mg "path" = some (.ref f)) (O_look_stand : Ok P w K mg base "look_stand" s_look_stand 2 2 P_look_stand (upc m_look_stand)) (O_look_row : Ok P w K mg base "look_row" s_look_row 3 2 P_look_row (upc m_look_row)) (O_behind_deed : Ok P w K mg base "behind_deed" s_behind_deed 3 3 P_behind_deed (upc m_behind_deed)) : Ok P w K mg base "path" s_path 4 4 P_path (upc m_path) :=
  Ok.mk' upc.m hm F c_path rfl (fun cdv A outer s H EX G E hr gk tk => b_path Z O_look_stand O_look_row O_behind_deed hr gk tk) q_path
theorem o__law_open {P : Program} {w : World} {K : PySem.W.Frag} {mg : Str → Option Value} {base : Heap} {f : Addr} {fd : FuncData} (Z : Blt K mg) (F : FunD K "_law_open" "_law_open" (defArgs s__law_open) (defBody s__law_open) (defScope s__law_open) [] [] f fd) (hm : mg "_law_open" = some (.ref f))  : Ok P w K mg base "_law_open" s__law_open 1 1 P__law_open (upc m__law_open) :=
  Ok.mk' upc.m hm F c__law_open rfl (fun cdv A outer s H EX G E hr gk tk => b__law_open Z  hr gk tk) q__law_open
theorem o__law_take {P : Program} {w : World} {K : PySem.W.Frag} {mg : Str → Option Value} {base : Heap} {f : Addr} {fd : FuncData} (Z : Blt K mg) (F : FunD K "_law_take" "_law_take" (defArgs s__law_take) (defBody s__law_take) (defScope s__law_take) [] [] f fd) (hm : mg "_law_take" = some (.ref f))  : Ok P w K mg base "_law_take" s__law_take 1 2 P__law_take (upc m__law_take) :=
  Ok.mk' upc.m hm F c__law_take rfl (fun cdv A outer s H EX G E hr gk tk => b__law_take Z  hr gk tk) q__law_take
theorem o__law_pick {P : Program} {w : World} {K : PySem.W.Frag} {mg : Str → Option Value} {base : Heap} {f : Addr} {fd : FuncData} (Z : Blt K mg) (F : FunD K "_law_pick" "_law_pick" (defArgs s__law_pick) (defBody s__law_pick) (defScope s__law_pick) [] [] f fd) (hm : mg "_law_pick" = some (.ref f)) (O__law_take : Ok P w K mg base "_law_take" s__law_take 1 2 P__law_take (upc m__law_take)) : Ok P w K mg base "_law_pick" s__law_pick 2 2 P__law_pick (upc m__law_pick) :=
  Ok.mk' upc.m hm F c__law_pick rfl (fun cdv A outer s H EX G E hr gk tk => b__law_pick Z O__law_take hr gk tk) q__law_pick
theorem o__law_same {P : Program} {w : World} {K : PySem.W.Frag} {mg : Str → Option Value} {base : Heap} {f : Addr} {fd : FuncData} (Z : Blt K mg) (F : FunD K "_law_same" "_law_same" (defArgs s__law_same) (defBody s__law_same) (defScope s__law_same) [] [] f fd) (hm : mg "_law_same" = some (.ref f)) : ∀ d, Ok P w K mg base "_law_same" s__law_same (1 + d) 2 P__law_same (upc (m__law_same d))
  | 0 => (ok_none (n := 2) (ps := P__law_same) hm F).up (by omega) upc.m (fun _ _ _ _ ⟨_, _, _, _, z⟩ => z)
  | d + 1 => Ok.mk' (k := 1 + d) upc.m hm F c__law_same rfl (fun cdv A outer s H EX G E hr gk tk => b__law_same (d := d) (j := 1 + d) Z (o__law_same Z F hm d) (hr.mono (by omega)) gk tk) (q__law_same d)
theorem o__law_sizes {P : Program} {w : World} {K : PySem.W.Frag} {mg : Str → Option Value} {base : Heap} {f : Addr} {fd : FuncData} (Z : Blt K mg) (F : FunD K "_law_sizes" "_law_sizes" (defArgs s__law_sizes) (defBody s__law_sizes) (defScope s__law_sizes) [] [] f fd) (hm : mg "_law_sizes" = some (.ref f)) (O__law_take : Ok P w K mg base "_law_take" s__law_take 1 2 P__law_take (upc m__law_take)) : Ok P w K mg base "_law_sizes" s__law_sizes 2 3 P__law_sizes (upc m__law_sizes) :=
  Ok.mk' upc.m hm F c__law_sizes rfl (fun cdv A outer s H EX G E hr gk tk => b__law_sizes Z O__law_take hr gk tk) q__law_sizes
theorem o__law_any_sizes {P : Program} {w : World} {K : PySem.W.Frag} {mg : Str → Option Value} {base : Heap} {f : Addr} {fd : FuncData} (Z : Blt K mg) (F : FunD K "_law_any_sizes" "_law_any_sizes" (defArgs s__law_any_sizes) (defBody s__law_any_sizes) (defScope s__law_any_sizes) [] [] f fd) (hm : mg "_law_any_sizes" = some (.ref f)) (O__law_sizes : Ok P w K mg base "_law_sizes" s__law_sizes 2 3 P__law_sizes (upc m__law_sizes)) (O__law_pick : Ok P w K mg base "_law_pick" s__law_pick 2 2 P__law_pick (upc m__law_pick)) : Ok P w K mg base "_law_any_sizes" s__law_any_sizes 3 1 P__law_any_sizes (upc m__law_any_sizes) :=
  Ok.mk' upc.m hm F c__law_any_sizes rfl (fun cdv A outer s H EX G E hr gk tk => b__law_any_sizes Z O__law_sizes O__law_pick hr gk tk) q__law_any_sizes
theorem o__law_stand {P : Program} {w : World} {K : PySem.W.Frag} {mg : Str → Option Value} {base : Heap} {f : Addr} {fd : FuncData} (Z : Blt K mg) (F : FunD K "_law_stand" "_law_stand" (defArgs s__law_stand) (defBody s__law_stand) (defScope s__law_stand) [] [] f fd) (hm : mg "_law_stand" = some (.ref f)) (O__law_take : Ok P w K mg base "_law_take" s__law_take 1 2 P__law_take (upc m__law_take)) : Ok P w K mg base "_law_stand" s__law_stand 2 4 P__law_stand (upc m__law_stand) :=
  Ok.mk' upc.m hm F c__law_stand rfl (fun cdv A outer s H EX G E hr gk tk => b__law_stand Z O__law_take hr gk tk) q__law_stand
theorem o__law_number {P : Program} {w : World} {K : PySem.W.Frag} {mg : Str → Option Value} {base : Heap} {f : Addr} {fd : FuncData} (Z : Blt K mg) (F : FunD K "_law_number" "_law_number" (defArgs s__law_number) (defBody s__law_number) (defScope s__law_number) [] [] f fd) (hm : mg "_law_number" = some (.ref f)) (O__law_take : Ok P w K mg base "_law_take" s__law_take 1 2 P__law_take (upc m__law_take)) (O__law_pick : Ok P w K mg base "_law_pick" s__law_pick 2 2 P__law_pick (upc m__law_pick)) : Ok P w K mg base "_law_number" s__law_number 3 1 P__law_number (upc m__law_number) :=
  Ok.mk' upc.m hm F c__law_number rfl (fun cdv A outer s H EX G E hr gk tk => b__law_number Z O__law_take O__law_pick hr gk tk) q__law_number
theorem o__law_shuffled {P : Program} {w : World} {K : PySem.W.Frag} {mg : Str → Option Value} {base : Heap} {f : Addr} {fd : FuncData} (Z : Blt K mg) (F : FunD K "_law_shuffled" "_law_shuffled" (defArgs s__law_shuffled) (defBody s__law_shuffled) (defScope s__law_shuffled) [] [] f fd) (hm : mg "_law_shuffled" = some (.ref f)) (O__law_take : Ok P w K mg base "_law_take" s__law_take 1 2 P__law_take (upc m__law_take)) : Ok P w K mg base "_law_shuffled" s__law_shuffled 2 2 P__law_shuffled (upc m__law_shuffled) :=
  Ok.mk' upc.m hm F c__law_shuffled rfl (fun cdv A outer s H EX G E hr gk tk => b__law_shuffled Z O__law_take hr gk tk) q__law_shuffled
theorem o__law_some_casks {P : Program} {w : World} {K : PySem.W.Frag} {mg : Str → Option Value} {base : Heap} {f : Addr} {fd : FuncData} (Z : Blt K mg) (F : FunD K "_law_some_casks" "_law_some_casks" (defArgs s__law_some_casks) (defBody s__law_some_casks) (defScope s__law_some_casks) [] [] f fd) (hm : mg "_law_some_casks" = some (.ref f)) (O__law_shuffled : Ok P w K mg base "_law_shuffled" s__law_shuffled 2 2 P__law_shuffled (upc m__law_shuffled)) : Ok P w K mg base "_law_some_casks" s__law_some_casks 3 3 P__law_some_casks (upc m__law_some_casks) :=
  Ok.mk' upc.m hm F c__law_some_casks rfl (fun cdv A outer s H EX G E hr gk tk => b__law_some_casks Z O__law_shuffled hr gk tk) q__law_some_casks
theorem o__law_alike {P : Program} {w : World} {K : PySem.W.Frag} {mg : Str → Option Value} {base : Heap} {f : Addr} {fd : FuncData} (Z : Blt K mg) (F : FunD K "_law_alike" "_law_alike" (defArgs s__law_alike) (defBody s__law_alike) (defScope s__law_alike) [] [] f fd) (hm : mg "_law_alike" = some (.ref f))  : Ok P w K mg base "_law_alike" s__law_alike 1 1 P__law_alike (upc m__law_alike) :=
  Ok.mk' upc.m hm F c__law_alike rfl (fun cdv A outer s H EX G E hr gk tk => b__law_alike Z  hr gk tk) q__law_alike
theorem o__law_deed {P : Program} {w : World} {K : PySem.W.Frag} {mg : Str → Option Value} {base : Heap} {f : Addr} {fd : FuncData} (Z : Blt K mg) (F : FunD K "_law_deed" "_law_deed" (defArgs s__law_deed) (defBody s__law_deed) (defScope s__law_deed) [] [] f fd) (hm : mg "_law_deed" = some (.ref f)) (O__law_take : Ok P w K mg base "_law_take" s__law_take 1 2 P__law_take (upc m__law_take)) (O__law_alike : Ok P w K mg base "_law_alike" s__law_alike 1 1 P__law_alike (upc m__law_alike)) (O__law_pick : Ok P w K mg base "_law_pick" s__law_pick 2 2 P__law_pick (upc m__law_pick)) (O__law_some_casks : Ok P w K mg base "_law_some_casks" s__law_some_casks 3 3 P__law_some_casks (upc m__law_some_casks)) : Ok P w K mg base "_law_deed" s__law_deed 4 4 P__law_deed (upc m__law_deed) :=
  Ok.mk' upc.m hm F c__law_deed rfl (fun cdv A outer s H EX G E hr gk tk => b__law_deed Z O__law_take O__law_alike O__law_pick O__law_some_casks hr gk tk) q__law_deed
theorem o__law_row {P : Program} {w : World} {K : PySem.W.Frag} {mg : Str → Option Value} {base : Heap} {f : Addr} {fd : FuncData} (Z : Blt K mg) (F : FunD K "_law_row" "_law_row" (defArgs s__law_row) (defBody s__law_row) (defScope s__law_row) [] [] f fd) (hm : mg "_law_row" = some (.ref f)) (O__law_take : Ok P w K mg base "_law_take" s__law_take 1 2 P__law_take (upc m__law_take)) (O__law_deed : Ok P w K mg base "_law_deed" s__law_deed 4 4 P__law_deed (upc m__law_deed)) (O__law_number : Ok P w K mg base "_law_number" s__law_number 3 1 P__law_number (upc m__law_number)) : Ok P w K mg base "_law_row" s__law_row 5 4 P__law_row (upc m__law_row) :=
  Ok.mk' upc.m hm F c__law_row rfl (fun cdv A outer s H EX G E hr gk tk => b__law_row Z O__law_take O__law_deed O__law_number hr gk tk) q__law_row
theorem o__law_more {P : Program} {w : World} {K : PySem.W.Frag} {mg : Str → Option Value} {base : Heap} {f : Addr} {fd : FuncData} (Z : Blt K mg) (F : FunD K "_law_more" "_law_more" (defArgs s__law_more) (defBody s__law_more) (defScope s__law_more) [] [] f fd) (hm : mg "_law_more" = some (.ref f)) (O__law_take : Ok P w K mg base "_law_take" s__law_take 1 2 P__law_take (upc m__law_take)) : Ok P w K mg base "_law_more" s__law_more 2 4 P__law_more (upc m__law_more) :=
  Ok.mk' upc.m hm F c__law_more rfl (fun cdv A outer s H EX G E hr gk tk => b__law_more Z O__law_take hr gk tk) q__law_more
theorem o_law {P : Program} {w : World} {K : PySem.W.Frag} {mg : Str → Option Value} {base : Heap} {f : Addr} {fd : FuncData} (Z : Blt K mg) (F : FunD K "law" "law" (defArgs s_law) (defBody s_law) (defScope s_law) [] [] f fd) (hm : mg "law" = some (.ref f)) (O__law_open : Ok P w K mg base "_law_open" s__law_open 1 1 P__law_open (upc m__law_open)) (O__law_any_sizes : Ok P w K mg base "_law_any_sizes" s__law_any_sizes 3 1 P__law_any_sizes (upc m__law_any_sizes)) (O__law_stand : Ok P w K mg base "_law_stand" s__law_stand 2 4 P__law_stand (upc m__law_stand)) (O__law_more : Ok P w K mg base "_law_more" s__law_more 2 4 P__law_more (upc m__law_more)) (O__law_row : Ok P w K mg base "_law_row" s__law_row 5 4 P__law_row (upc m__law_row)) (O_path : Ok P w K mg base "path" s_path 4 4 P_path (upc m_path)) (O__law_same : Ok P w K mg base "_law_same" s__law_same 9 2 P__law_same (upc (m__law_same 8))) : Ok P w K mg base "law" s_law 10 1 P_law (upc m_law) :=
  Ok.mk' upc.m hm F c_law rfl (fun cdv A outer s H EX G E hr gk tk => b_law Z O__law_open O__law_any_sizes O__law_stand O__law_more O__law_row O_path O__law_same hr gk tk) q_law
end Ab
namespace Ab
open PySem PySem.Spec PyProof.Rows L2 RZ
def d_look_sizes : He.DefD := ⟨("look_sizes", none), "look_sizes", "look_sizes", defArgs s_look_sizes, defBody s_look_sizes, defScope s_look_sizes, [], []⟩
def d_look_stand : He.DefD := ⟨("look_stand", none), "look_stand", "look_stand", defArgs s_look_stand, defBody s_look_stand, defScope s_look_stand, [], []⟩
def d_has_count : He.DefD := ⟨("has_count", none), "has_count", "has_count", defArgs s_has_count, defBody s_has_count, defScope s_has_count, [], []⟩
def d_first_bad : He.DefD := ⟨("first_bad", none), "first_bad", "first_bad", defArgs s_first_bad, defBody s_first_bad, defScope s_first_bad, [], []⟩
def d_fault_of : He.DefD := ⟨("fault_of", none), "fault_of", "fault_of", defArgs s_fault_of, defBody s_fault_of, defScope s_fault_of, [], []⟩
def d_look_row : He.DefD := ⟨("look_row", none), "look_row", "look_row", defArgs s_look_row, defBody s_look_row, defScope s_look_row, [], []⟩
def d_ranks_in : He.DefD := ⟨("ranks_in", none), "ranks_in", "ranks_in", defArgs s_ranks_in, defBody s_ranks_in, defScope s_ranks_in, [], []⟩
def d_moved : He.DefD := ⟨("moved", none), "moved", "moved", defArgs s_moved, defBody s_moved, defScope s_moved, [], []⟩
def d_led : He.DefD := ⟨("led", none), "led", "led", defArgs s_led, defBody s_led, defScope s_led, [], []⟩
def d_tapped : He.DefD := ⟨("tapped", none), "tapped", "tapped", defArgs s_tapped, defBody s_tapped, defScope s_tapped, [], []⟩
def d_behind_deed : He.DefD := ⟨("behind_deed", none), "behind_deed", "behind_deed", defArgs s_behind_deed, defBody s_behind_deed, defScope s_behind_deed, [], []⟩
def d_path : He.DefD := ⟨("path", none), "path", "path", defArgs s_path, defBody s_path, defScope s_path, [], []⟩
def d__law_open : He.DefD := ⟨("_law_open", none), "_law_open", "_law_open", defArgs s__law_open, defBody s__law_open, defScope s__law_open, [], []⟩
def d__law_take : He.DefD := ⟨("_law_take", none), "_law_take", "_law_take", defArgs s__law_take, defBody s__law_take, defScope s__law_take, [], []⟩
def d__law_pick : He.DefD := ⟨("_law_pick", none), "_law_pick", "_law_pick", defArgs s__law_pick, defBody s__law_pick, defScope s__law_pick, [], []⟩
def d__law_same : He.DefD := ⟨("_law_same", none), "_law_same", "_law_same", defArgs s__law_same, defBody s__law_same, defScope s__law_same, [], []⟩
def d__law_sizes : He.DefD := ⟨("_law_sizes", none), "_law_sizes", "_law_sizes", defArgs s__law_sizes, defBody s__law_sizes, defScope s__law_sizes, [], []⟩
def d__law_any_sizes : He.DefD := ⟨("_law_any_sizes", none), "_law_any_sizes", "_law_any_sizes", defArgs s__law_any_sizes, defBody s__law_any_sizes, defScope s__law_any_sizes, [], []⟩
def d__law_stand : He.DefD := ⟨("_law_stand", none), "_law_stand", "_law_stand", defArgs s__law_stand, defBody s__law_stand, defScope s__law_stand, [], []⟩
def d__law_number : He.DefD := ⟨("_law_number", none), "_law_number", "_law_number", defArgs s__law_number, defBody s__law_number, defScope s__law_number, [], []⟩
def d__law_shuffled : He.DefD := ⟨("_law_shuffled", none), "_law_shuffled", "_law_shuffled", defArgs s__law_shuffled, defBody s__law_shuffled, defScope s__law_shuffled, [], []⟩
def d__law_some_casks : He.DefD := ⟨("_law_some_casks", none), "_law_some_casks", "_law_some_casks", defArgs s__law_some_casks, defBody s__law_some_casks, defScope s__law_some_casks, [], []⟩
def d__law_alike : He.DefD := ⟨("_law_alike", none), "_law_alike", "_law_alike", defArgs s__law_alike, defBody s__law_alike, defScope s__law_alike, [], []⟩
def d__law_deed : He.DefD := ⟨("_law_deed", none), "_law_deed", "_law_deed", defArgs s__law_deed, defBody s__law_deed, defScope s__law_deed, [], []⟩
def d__law_row : He.DefD := ⟨("_law_row", none), "_law_row", "_law_row", defArgs s__law_row, defBody s__law_row, defScope s__law_row, [], []⟩
def d__law_more : He.DefD := ⟨("_law_more", none), "_law_more", "_law_more", defArgs s__law_more, defBody s__law_more, defScope s__law_more, [], []⟩
def d_law : He.DefD := ⟨("law", none), "law", "law", defArgs s_law, defBody s_law, defScope s_law, [], []⟩
def hFn : List He.DefD := [d_look_sizes, d_look_stand, d_has_count, d_first_bad, d_fault_of, d_look_row, d_ranks_in, d_moved, d_led, d_tapped, d_behind_deed, d_path, d__law_open, d__law_take, d__law_pick, d__law_same, d__law_sizes, d__law_any_sizes, d__law_stand, d__law_number, d__law_shuffled, d__law_some_casks, d__law_alike, d__law_deed, d__law_row, d__law_more, d_law]
def hFa : List He.Fa := [.glo "look_sizes", .glo "look_stand", .glo "has_count", .glo "first_bad", .glo "fault_of", .glo "look_row", .glo "ranks_in", .glo "moved", .glo "led", .glo "tapped", .glo "behind_deed", .glo "path", .glo "_law_open", .glo "_law_take", .glo "_law_pick", .glo "_law_same", .glo "_law_sizes", .glo "_law_any_sizes", .glo "_law_stand", .glo "_law_number", .glo "_law_shuffled", .glo "_law_some_casks", .glo "_law_alike", .glo "_law_deed", .glo "_law_row", .glo "_law_more", .glo "law", .free "all", .free "bool", .free "enumerate", .free "int", .free "isinstance", .free "len", .free "list", .free "min", .free "range", .free "str", .free "tuple", .int "GONE" (-1), .int "GREAT" 1000000000000000000000000000000, .int "MOST_CASKS" 6, .int "MOST_DROPS" 60, .int "MOST_SIZE" 40, .glo "PATHS", .glo "PLAIN"]
def hEx : PySem.W.Frag → Bool := fun K => He.tupB K "PATHS" [.str ("over" : Str), .str ("down" : Str)] && He.tupB K "PLAIN" [.str ("swap" : Str), .str ("tap" : Str), .str ("drain" : Str)]
def hNm0 : List Str := ["__name__", "HideError", "Missing", "BadSizes", "BadStand", "BadRow", "TooMany", "NoDrop", "MOST_CASKS", "MOST_SIZE", "MOST_DROPS", "GONE", "look_sizes", "look_stand", "GREAT", "PATHS", "PLAIN", "has_count", "first_bad", "fault_of", "look_row", "ranks_in", "moved", "led", "tapped", "behind_deed", "path", "_law_open", "_law_take", "_law_pick"]
def hNm1 : List Str := ["_law_same", "_law_sizes", "_law_any_sizes", "_law_stand", "_law_number", "_law_shuffled", "_law_some_casks", "_law_alike", "_law_deed", "_law_row", "_law_more"]
def hNms : List Str := hNm0 ++ hNm1
abbrev hR : PySem.W.OpenRow := PySem.W.OpenLaw.row PySem.Challenge.rw_hidelater_k16_whole_later_drops_are_not
abbrev hHk : PySem.W.Hook := hookK hFa hFn hEx
def hOb (s : PySem.W.SharedT) : AlK := obsK hFa hFn hEx (HandSHeadRun.getT s)
theorem hOb_eq (s : PySem.W.SharedT) : hOb s = hHk.obs s.abs := obsK_eq (HandSHeadRun.getT_eq s)
theorem hRun (w : World) : HandSHeadRun.RunEq hR (PySem.W.view hR.prog [45]) hHk hOb 3000 hNms w := by
  intro os
  kernel_rfl
theorem hFacts {P : Program} {w : World} {K : PySem.W.Frag} {h : Heap} {mg : Str → Option Value} {f : Addr} (X : K.In h) (G : h.Ns mainGlobals mg) (hfa : mg ("law" : Str) = some (.ref f)) (c : He.SaysD hFa hFn K) (x : hEx K = true) :
    ∃ fd : FuncData, (∀ (s : Shared) (v : Value), BindsTo s fd ⟨[v], []⟩ [("_law_script", v)]) ∧ ∀ base : Heap, FnOk P w K mg base (L2.CX P w) 10 f fd P_law (cSp K 1 (upc m_law)) := by
  obtain ⟨fd_look_sizes, F_look_sizes⟩ := c.def_ 0 (d := d_look_sizes) rfl
  have g_look_sizes := He.glo_ok X G (c.fact 0 (f := .glo "look_sizes") rfl)
  obtain ⟨fd_look_stand, F_look_stand⟩ := c.def_ 1 (d := d_look_stand) rfl
  have g_look_stand := He.glo_ok X G (c.fact 1 (f := .glo "look_stand") rfl)
  obtain ⟨fd_has_count, F_has_count⟩ := c.def_ 2 (d := d_has_count) rfl
  have g_has_count := He.glo_ok X G (c.fact 2 (f := .glo "has_count") rfl)
  obtain ⟨fd_first_bad, F_first_bad⟩ := c.def_ 3 (d := d_first_bad) rfl
  have g_first_bad := He.glo_ok X G (c.fact 3 (f := .glo "first_bad") rfl)
  obtain ⟨fd_fault_of, F_fault_of⟩ := c.def_ 4 (d := d_fault_of) rfl
  have g_fault_of := He.glo_ok X G (c.fact 4 (f := .glo "fault_of") rfl)
  obtain ⟨fd_look_row, F_look_row⟩ := c.def_ 5 (d := d_look_row) rfl
  have g_look_row := He.glo_ok X G (c.fact 5 (f := .glo "look_row") rfl)
  obtain ⟨fd_ranks_in, F_ranks_in⟩ := c.def_ 6 (d := d_ranks_in) rfl
  have g_ranks_in := He.glo_ok X G (c.fact 6 (f := .glo "ranks_in") rfl)
  obtain ⟨fd_moved, F_moved⟩ := c.def_ 7 (d := d_moved) rfl
  have g_moved := He.glo_ok X G (c.fact 7 (f := .glo "moved") rfl)
  obtain ⟨fd_led, F_led⟩ := c.def_ 8 (d := d_led) rfl
  have g_led := He.glo_ok X G (c.fact 8 (f := .glo "led") rfl)
  obtain ⟨fd_tapped, F_tapped⟩ := c.def_ 9 (d := d_tapped) rfl
  have g_tapped := He.glo_ok X G (c.fact 9 (f := .glo "tapped") rfl)
  obtain ⟨fd_behind_deed, F_behind_deed⟩ := c.def_ 10 (d := d_behind_deed) rfl
  have g_behind_deed := He.glo_ok X G (c.fact 10 (f := .glo "behind_deed") rfl)
  obtain ⟨fd_path, F_path⟩ := c.def_ 11 (d := d_path) rfl
  have g_path := He.glo_ok X G (c.fact 11 (f := .glo "path") rfl)
  obtain ⟨fd__law_open, F__law_open⟩ := c.def_ 12 (d := d__law_open) rfl
  have g__law_open := He.glo_ok X G (c.fact 12 (f := .glo "_law_open") rfl)
  obtain ⟨fd__law_take, F__law_take⟩ := c.def_ 13 (d := d__law_take) rfl
  have g__law_take := He.glo_ok X G (c.fact 13 (f := .glo "_law_take") rfl)
  obtain ⟨fd__law_pick, F__law_pick⟩ := c.def_ 14 (d := d__law_pick) rfl
  have g__law_pick := He.glo_ok X G (c.fact 14 (f := .glo "_law_pick") rfl)
  obtain ⟨fd__law_same, F__law_same⟩ := c.def_ 15 (d := d__law_same) rfl
  have g__law_same := He.glo_ok X G (c.fact 15 (f := .glo "_law_same") rfl)
  obtain ⟨fd__law_sizes, F__law_sizes⟩ := c.def_ 16 (d := d__law_sizes) rfl
  have g__law_sizes := He.glo_ok X G (c.fact 16 (f := .glo "_law_sizes") rfl)
  obtain ⟨fd__law_any_sizes, F__law_any_sizes⟩ := c.def_ 17 (d := d__law_any_sizes) rfl
  have g__law_any_sizes := He.glo_ok X G (c.fact 17 (f := .glo "_law_any_sizes") rfl)
  obtain ⟨fd__law_stand, F__law_stand⟩ := c.def_ 18 (d := d__law_stand) rfl
  have g__law_stand := He.glo_ok X G (c.fact 18 (f := .glo "_law_stand") rfl)
  obtain ⟨fd__law_number, F__law_number⟩ := c.def_ 19 (d := d__law_number) rfl
  have g__law_number := He.glo_ok X G (c.fact 19 (f := .glo "_law_number") rfl)
  obtain ⟨fd__law_shuffled, F__law_shuffled⟩ := c.def_ 20 (d := d__law_shuffled) rfl
  have g__law_shuffled := He.glo_ok X G (c.fact 20 (f := .glo "_law_shuffled") rfl)
  obtain ⟨fd__law_some_casks, F__law_some_casks⟩ := c.def_ 21 (d := d__law_some_casks) rfl
  have g__law_some_casks := He.glo_ok X G (c.fact 21 (f := .glo "_law_some_casks") rfl)
  obtain ⟨fd__law_alike, F__law_alike⟩ := c.def_ 22 (d := d__law_alike) rfl
  have g__law_alike := He.glo_ok X G (c.fact 22 (f := .glo "_law_alike") rfl)
  obtain ⟨fd__law_deed, F__law_deed⟩ := c.def_ 23 (d := d__law_deed) rfl
  have g__law_deed := He.glo_ok X G (c.fact 23 (f := .glo "_law_deed") rfl)
  obtain ⟨fd__law_row, F__law_row⟩ := c.def_ 24 (d := d__law_row) rfl
  have g__law_row := He.glo_ok X G (c.fact 24 (f := .glo "_law_row") rfl)
  obtain ⟨fd__law_more, F__law_more⟩ := c.def_ 25 (d := d__law_more) rfl
  have g__law_more := He.glo_ok X G (c.fact 25 (f := .glo "_law_more") rfl)
  obtain ⟨fd_law, F_law⟩ := c.def_ 26 (d := d_law) rfl
  have g_law := He.glo_ok X G (c.fact 26 (f := .glo "law") rfl)
  unfold hEx at x
  simp only [Bool.and_eq_true] at x
  have Z : Blt K mg := ⟨He.free_ok X G (c.fact 27 (f := .free "all") rfl),
    He.free_ok X G (c.fact 28 (f := .free "bool") rfl),
    He.free_ok X G (c.fact 29 (f := .free "enumerate") rfl),
    He.free_ok X G (c.fact 30 (f := .free "int") rfl),
    He.free_ok X G (c.fact 31 (f := .free "isinstance") rfl),
    He.free_ok X G (c.fact 32 (f := .free "len") rfl),
    He.free_ok X G (c.fact 33 (f := .free "list") rfl),
    He.free_ok X G (c.fact 34 (f := .free "min") rfl),
    He.free_ok X G (c.fact 35 (f := .free "range") rfl),
    He.free_ok X G (c.fact 36 (f := .free "str") rfl),
    He.free_ok X G (c.fact 37 (f := .free "tuple") rfl),
    He.int_ok X G (c.fact 38 (f := .int "GONE" (-1)) rfl),
    He.int_ok X G (c.fact 39 (f := .int "GREAT" 1000000000000000000000000000000) rfl),
    He.int_ok X G (c.fact 40 (f := .int "MOST_CASKS" 6) rfl),
    He.int_ok X G (c.fact 41 (f := .int "MOST_DROPS" 60) rfl),
    He.int_ok X G (c.fact 42 (f := .int "MOST_SIZE" 40) rfl),
    ⟨_, _, He.glo_ok X G (c.fact 43 (f := .glo "PATHS") rfl), fun H => He.tupB_ok x.1 H, fun H => .cons .str (.cons .str (.nil))⟩,
    ⟨_, _, He.glo_ok X G (c.fact 44 (f := .glo "PLAIN") rfl), fun H => He.tupB_ok x.2 H, fun H => .cons .str (.cons .str (.cons .str (.nil)))⟩⟩
  have e := hfa.symm.trans g_law
  cases e
  have b := FunD.bindsA (ps := P_law) F_law fun _ _ _ _ _ _ us hl => match us, hl with | [_], _ => rfl
  refine ⟨fd_law, fun s v => b s [v] rfl, fun base => ?_⟩
  have O__law_open := o__law_open (P := P) (w := w) (base := base) Z F__law_open g__law_open 
  have O__law_take := o__law_take (P := P) (w := w) (base := base) Z F__law_take g__law_take 
  have O__law_sizes := o__law_sizes (P := P) (w := w) (base := base) Z F__law_sizes g__law_sizes O__law_take
  have O__law_pick := o__law_pick (P := P) (w := w) (base := base) Z F__law_pick g__law_pick O__law_take
  have O__law_any_sizes := o__law_any_sizes (P := P) (w := w) (base := base) Z F__law_any_sizes g__law_any_sizes O__law_sizes O__law_pick
  have O__law_stand := o__law_stand (P := P) (w := w) (base := base) Z F__law_stand g__law_stand O__law_take
  have O__law_more := o__law_more (P := P) (w := w) (base := base) Z F__law_more g__law_more O__law_take
  have O__law_alike := o__law_alike (P := P) (w := w) (base := base) Z F__law_alike g__law_alike 
  have O__law_shuffled := o__law_shuffled (P := P) (w := w) (base := base) Z F__law_shuffled g__law_shuffled O__law_take
  have O__law_some_casks := o__law_some_casks (P := P) (w := w) (base := base) Z F__law_some_casks g__law_some_casks O__law_shuffled
  have O__law_deed := o__law_deed (P := P) (w := w) (base := base) Z F__law_deed g__law_deed O__law_take O__law_alike O__law_pick O__law_some_casks
  have O__law_number := o__law_number (P := P) (w := w) (base := base) Z F__law_number g__law_number O__law_take O__law_pick
  have O__law_row := o__law_row (P := P) (w := w) (base := base) Z F__law_row g__law_row O__law_take O__law_deed O__law_number
  have O_look_sizes := o_look_sizes (P := P) (w := w) (base := base) Z F_look_sizes g_look_sizes 
  have O_look_stand := o_look_stand (P := P) (w := w) (base := base) Z F_look_stand g_look_stand O_look_sizes
  have O_has_count := o_has_count (P := P) (w := w) (base := base) Z F_has_count g_has_count 
  have O_first_bad := o_first_bad (P := P) (w := w) (base := base) Z F_first_bad g_first_bad 
  have O_fault_of := o_fault_of (P := P) (w := w) (base := base) Z F_fault_of g_fault_of O_has_count O_first_bad
  have O_look_row := o_look_row (P := P) (w := w) (base := base) Z F_look_row g_look_row O_look_sizes O_fault_of
  have O_ranks_in := o_ranks_in (P := P) (w := w) (base := base) Z F_ranks_in g_ranks_in 
  have O_moved := o_moved (P := P) (w := w) (base := base) Z F_moved g_moved 
  have O_led := o_led (P := P) (w := w) (base := base) Z F_led g_led O_moved O_ranks_in
  have O_tapped := o_tapped (P := P) (w := w) (base := base) Z F_tapped g_tapped O_ranks_in
  have O_behind_deed := o_behind_deed (P := P) (w := w) (base := base) Z F_behind_deed g_behind_deed O_ranks_in O_led O_tapped O_moved
  have O_path := o_path (P := P) (w := w) (base := base) Z F_path g_path O_look_stand O_look_row O_behind_deed
  have O__law_same := o__law_same (P := P) (w := w) (base := base) Z F__law_same g__law_same 8
  have O_law := o_law (P := P) (w := w) (base := base) Z F_law g_law O__law_open O__law_any_sizes O__law_stand O__law_more O__law_row O_path O__law_same
  obtain ⟨f2, fd2, hm2, FD2, F2⟩ := O_law.ex
  have e2 := hm2.symm.trans g_law
  cases e2
  have e3 : fd2 = fd_law := FunD.one FD2 F_law
  rw [← e3]
  exact F2
end Ab
open PySem PySem.W PySem.Calls PyProof.Rows
theorem PySem.Challenge.cw_hidelater_k16_whole_later_drops_are_not_holds : PySem.Challenge.rw_hidelater_k16_whole_later_drops_are_not.Holds := by
  w_on; o_law
  refine HandSHeadRun.head_any (r := OpenLaw.row PySem.Challenge.rw_hidelater_k16_whole_later_drops_are_not) (q := view (OpenLaw.row PySem.Challenge.rw_hidelater_k16_whole_later_drops_are_not).prog [45]) (H := Ab.hHk) (ob := Ab.hOb) (M := 3000) (loose := Ab.hNms) (d := HandSHeadRun.topDef (OpenLaw.row PySem.Challenge.rw_hidelater_k16_whole_later_drops_are_not).prog 45) (kwd := []) Ab.hOb_eq
    (by kernel_rfl) (fun s => by kernel_rfl) Ab.hRun (by kernel_rfl) (by kernel_rfl) (by kernel_rfl) (by rfl) (by first | assumption | decide +kernel) (by decide +kernel) ⟨rfl, rfl, rfl, rfl, rfl, by decide +kernel⟩ ?hw ?hc
  case hw => w_witness2
  case hc =>
    refine Ab.walk_end (l := PySem.Challenge.rw_hidelater_k16_whole_later_drops_are_not) (m := 63) (j := 10) (y := "_law_script") rfl (by decide) (by kernel_rfl) ⟨rfl, by decide, by decide⟩ ?F
    intro w mg fa h Y G hmg0
    obtain ⟨K, KX, ⟨c, ex⟩, no⟩ := Y
    have hmg : mg ("law" : PySem.Str) = some (.ref fa) := by
      have e : (HandSHeadRun.topDef (OpenLaw.row PySem.Challenge.rw_hidelater_k16_whole_later_drops_are_not).prog 45).name = ("law" : PySem.Str) := by kernel_rfl
      rw [← e]
      exact hmg0
    obtain ⟨fd, hb, hF⟩ := Ab.hFacts (P := (PySem.Challenge.rw_hidelater_k16_whole_later_drops_are_not).prog) (w := w) KX G hmg c ex
    exact ⟨K, fd, _, KX, hb, fun H a ns hl hO hS => Ab.law_sp (sp := Ab.upc Ab.m_law) Ab.law_says no H a ns hl hO hS, hF⟩

