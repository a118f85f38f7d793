import PyProof.Rows.All
import Wide.All
import OpenK.AllK
import Wide.FinOn
import HandS.ForExc
import HandS.ForMost
import HandS.Defaults
import KE.DataEq
import HandS.TupAny
import HandS.IsInst
import HandS.Wide
import HandS.TupMul
import HandS.Codes
import HandS.Zip
import HandS.Head0
import HandS.Head1
import HandS.Head2
import HandS.HeadEnd
import HandS.HeadHook1
import HandS.HeadHook2
import PySem.Challenge.RW_hidelater_k04_rows_of_numbers_beside_one
set_option Elab.async false
set_option linter.all false
set_option maxRecDepth 100000
set_option maxHeartbeats 0
namespace Ab
open PySem PySem.Spec PyProof.Rows L2
/-! ### values as data -/
inductive W where
  | non | bl (b : Bool) | int (i : Int) | str (x : Str) | tup (xs : List W) | lst (xs : List W) | dct (ks vs : List W) | ref (a : Addr) | ty (n : String)
instance : Inhabited W := ⟨.non⟩
/-- a key of a dict: a flat one, or a tuple of flat ones -/
def keyF : W → Option Key
  | .int i => some (.inl i)
  | .str x => some (.inr x)
  | _ => none
def keyFs : List W → Option (List Key)
  | [] => some []
  | w :: ws => match keyF w, keyFs ws with
    | some k, some ks => some (k :: ks)
    | _, _ => none
def keyT : W → Option (List Key)
  | .tup ws => keyFs ws
  | _ => none
def Imm : HO → Prop
  | .tup _ => True
  | .frz _ _ => True
  | _ => False
/-- a list that no one writes any more -/
def LsF (H : Hp) (a : Addr) (vs : List V) : Prop := ∃ o, H a = some (.frz o (.lst vs))
theorem LsF.sq {K : PySem.W.Frag} {H : Hp} {a : Addr} {vs : List V} (h : LsF H a vs) : SqL K H a vs := let ⟨o, h⟩ := h; .inl (.inr ⟨o, h⟩)
mutual
def Rep (K : PySem.W.Frag) (H : Hp) : W → V → Prop
  | .non, v => v = .non
  | .bl b, v => v = .bl b
  | .int i, v => v = .int i
  | .str x, v => v = .str x
  | .tup ws, v => ∃ a vs, v = .ref a ∧ SqT K H a vs ∧ RepL K H ws vs
  | .lst ws, v => ∃ a vs, v = .ref a ∧ LsF H a vs ∧ RepL K H ws vs
  | .dct ks ws, v => ∃ a, v = .ref a ∧ ((∃ o kvs, H a = some (.frz o (.dK kvs)) ∧ ks.map keyF = kvs.map (fun p => some p.1) ∧ RepL K H ws (kvs.map (·.2))) ∨
      ∃ o kvs, H a = some (.frz o (.dT kvs)) ∧ ks.map keyT = kvs.map (fun p => some p.1) ∧ RepL K H ws (kvs.map (·.2)))
  | .ref a, v => v = .ref a
  | .ty n, v => v = .ty n
def RepL (K : PySem.W.Frag) (H : Hp) : List W → List V → Prop
  | [], vs => vs = []
  | w :: ws, vs => ∃ v r, vs = v :: r ∧ Rep K H w v ∧ RepL K H ws r
end
def Keeps (H H' : Hp) : Prop := ∀ a o, H a = some o → Imm o → H' a = some o
theorem Keeps.refl (H : Hp) : Keeps H H := fun _ _ h _ => h
theorem Keeps.trans {H H1 H2 : Hp} (a : Keeps H H1) (b : Keeps H1 H2) : Keeps H H2 := fun p o h i => b p o (a p o h i) i
theorem Keeps.sqT {K : PySem.W.Frag} {H H' : Hp} (k : Keeps H H') {a : Addr} {vs : List V} (h : SqT K H a vs) : SqT K H' a vs := by
  rcases h with (h | ⟨o, h⟩) | h
  · exact .inl (.inl (k _ _ h trivial))
  · exact .inl (.inr ⟨o, k _ _ h trivial⟩)
  · exact .inr h
theorem Keeps.lsF {H H' : Hp} (k : Keeps H H') {a : Addr} {vs : List V} (h : LsF H a vs) : LsF H' a vs := let ⟨o, h⟩ := h; ⟨o, k _ _ h trivial⟩
mutual
theorem Rep.mono {K : PySem.W.Frag} {H H' : Hp} (k : Keeps H H') : ∀ (w : W) (v : V), Rep K H w v → Rep K H' w v
  | .non, _, h => by simpa only [Rep] using h
  | .bl _, _, h => by simpa only [Rep] using h
  | .int _, _, h => by simpa only [Rep] using h
  | .str _, _, h => by simpa only [Rep] using h
  | .ref _, _, h => by simpa only [Rep] using h
  | .ty _, _, h => by simpa only [Rep] using h
  | .tup ws, v, h => by
    simp only [Rep] at h ⊢
    obtain ⟨a, vs, e, s, r⟩ := h
    exact ⟨a, vs, e, k.sqT s, RepL.mono k ws vs r⟩
  | .lst ws, v, h => by
    simp only [Rep] at h ⊢
    obtain ⟨a, vs, e, s, r⟩ := h
    exact ⟨a, vs, e, k.lsF s, RepL.mono k ws vs r⟩
  | .dct ks ws, v, h => by
    simp only [Rep] at h ⊢
    obtain ⟨a, e, ⟨o, kvs, s, t, r⟩ | ⟨o, kvs, s, t, r⟩⟩ := h
    · exact ⟨a, e, .inl ⟨o, kvs, k _ _ s trivial, t, RepL.mono k ws _ r⟩⟩
    · exact ⟨a, e, .inr ⟨o, kvs, k _ _ s trivial, t, RepL.mono k ws _ r⟩⟩
theorem RepL.mono {K : PySem.W.Frag} {H H' : Hp} (k : Keeps H H') : ∀ (ws : List W) (vs : List V), RepL K H ws vs → RepL K H' ws vs
  | [], vs, h => by simpa only [RepL] using h
  | w :: ws, vs, h => by
    simp only [RepL] at h ⊢
    obtain ⟨v, r, e, a, b⟩ := h
    exact ⟨v, r, e, Rep.mono k w v a, RepL.mono k ws r b⟩
end
section
variable {K : PySem.W.Frag} {H : Hp}
theorem Rep.of_int {i : Int} {v : V} (h : Rep K H (.int i) v) : v = .int i := by simpa only [Rep] using h
theorem Rep.of_str {i : Str} {v : V} (h : Rep K H (.str i) v) : v = .str i := by simpa only [Rep] using h
theorem Rep.of_bl {i : Bool} {v : V} (h : Rep K H (.bl i) v) : v = .bl i := by simpa only [Rep] using h
theorem Rep.of_non {v : V} (h : Rep K H .non v) : v = .non := by simpa only [Rep] using h
theorem Rep.of_ref {a : Addr} {v : V} (h : Rep K H (.ref a) v) : v = .ref a := by simpa only [Rep] using h
theorem Rep.of_ty {n : String} {v : V} (h : Rep K H (.ty n) v) : v = .ty n := by simpa only [Rep] using h
theorem Rep.of_tup {ws : List W} {v : V} (h : Rep K H (.tup ws) v) : ∃ a vs, v = .ref a ∧ SqT K H a vs ∧ RepL K H ws vs := by simpa only [Rep] using h
theorem Rep.of_lst {ws : List W} {v : V} (h : Rep K H (.lst ws) v) : ∃ a vs, v = .ref a ∧ LsF H a vs ∧ RepL K H ws vs := by simpa only [Rep] using h
theorem Rep.int {i : Int} : Rep K H (.int i) (.int i) := by simp only [Rep]
theorem Rep.str {i : Str} : Rep K H (.str i) (.str i) := by simp only [Rep]
theorem Rep.bl {i : Bool} : Rep K H (.bl i) (.bl i) := by simp only [Rep]
theorem Rep.non : Rep K H .non .non := by simp only [Rep]
theorem Rep.ref {a : Addr} : Rep K H (.ref a) (.ref a) := by simp only [Rep]
theorem Rep.ty {n : String} : Rep K H (.ty n) (.ty n) := by simp only [Rep]
theorem Rep.tup {ws : List W} {a : Addr} {vs : List V} (s : SqT K H a vs) (r : RepL K H ws vs) : Rep K H (.tup ws) (.ref a) := by
  simp only [Rep]; exact ⟨a, vs, rfl, s, r⟩
theorem Rep.lst {ws : List W} {a : Addr} {vs : List V} (s : LsF H a vs) (r : RepL K H ws vs) : Rep K H (.lst ws) (.ref a) := by
  simp only [Rep]; exact ⟨a, vs, rfl, s, r⟩
theorem RepL.nil : RepL K H [] [] := by simp only [RepL]
theorem RepL.cons {w : W} {ws : List W} {v : V} {vs : List V} (a : Rep K H w v) (b : RepL K H ws vs) : RepL K H (w :: ws) (v :: vs) := by
  simp only [RepL]; exact ⟨v, vs, rfl, a, b⟩
theorem RepL.of_nil {vs : List V} (h : RepL K H [] vs) : vs = [] := by simpa only [RepL] using h
theorem RepL.of_cons {w : W} {ws : List W} {vs : List V} (h : RepL K H (w :: ws) vs) : ∃ v r, vs = v :: r ∧ Rep K H w v ∧ RepL K H ws r := by simpa only [RepL] using h
theorem RepL.length : ∀ {ws : List W} {vs : List V}, RepL K H ws vs → ws.length = vs.length
  | [], vs, h => by rw [h.of_nil]; rfl
  | w :: ws, vs, h => by
    obtain ⟨v, r, e, _, t⟩ := h.of_cons
    rw [e, List.length_cons, List.length_cons, t.length]
theorem RepL.get : ∀ {ws : List W} {vs : List V} {i : Nat} {w : W}, RepL K H ws vs → ws[i]? = some w → ∃ v, vs[i]? = some v ∧ Rep K H w v
  | [], _, _, _, _, e => by simp at e
  | w :: ws, vs, 0, x, h, e => by
    obtain ⟨v, r, rfl, a, _⟩ := h.of_cons
    simp at e; subst e; exact ⟨v, rfl, a⟩
  | w :: ws, vs, i + 1, x, h, e => by
    obtain ⟨v, r, rfl, _, t⟩ := h.of_cons
    obtain ⟨u, h1, h2⟩ := t.get (i := i) (by simpa using e)
    exact ⟨u, by simpa using h1, h2⟩
theorem RepL.getV {ws : List W} {vs : List V} {i : Nat} {v : V} (h : RepL K H ws vs) (e : vs[i]? = some v) : ∃ w, ws[i]? = some w ∧ Rep K H w v := by
  have hi : i < ws.length := by rw [h.length]; exact (List.getElem?_eq_some_iff.mp e).1
  obtain ⟨u, h1, h2⟩ := h.get (List.getElem?_eq_getElem hi)
  rw [e] at h1; cases h1
  exact ⟨_, List.getElem?_eq_getElem hi, h2⟩
theorem RepL.append : ∀ {ws xs : List W} {vs us : List V}, RepL K H ws vs → RepL K H xs us → RepL K H (ws ++ xs) (vs ++ us)
  | [], xs, vs, us, h, g => by rw [h.of_nil]; exact g
  | w :: ws, xs, vs, us, h, g => by
    obtain ⟨v, r, rfl, a, t⟩ := h.of_cons
    exact .cons a (t.append g)
theorem RepL.set : ∀ {ws : List W} {vs : List V} (i : Nat) {w : W} {v : V}, RepL K H ws vs → Rep K H w v → RepL K H (ws.set i w) (vs.set i v)
  | [], vs, i, w, v, h, g => by rw [h.of_nil]; exact .nil
  | x :: ws, vs, 0, w, v, h, g => by
    obtain ⟨u, r, rfl, a, t⟩ := h.of_cons
    exact .cons g t
  | x :: ws, vs, i + 1, w, v, h, g => by
    obtain ⟨u, r, rfl, a, t⟩ := h.of_cons
    exact .cons a (t.set i g)
theorem RepL.take : ∀ {ws : List W} {vs : List V} (n : Nat), RepL K H ws vs → RepL K H (ws.take n) (vs.take n)
  | _, _, 0, _ => .nil
  | [], vs, n + 1, h => by rw [h.of_nil]; exact .nil
  | w :: ws, vs, n + 1, h => by
    obtain ⟨v, r, rfl, a, t⟩ := h.of_cons
    exact .cons a (t.take n)
theorem RepL.drop : ∀ {ws : List W} {vs : List V} (n : Nat), RepL K H ws vs → RepL K H (ws.drop n) (vs.drop n)
  | _, _, 0, h => h
  | [], vs, n + 1, h => by rw [h.of_nil]; exact .nil
  | w :: ws, vs, n + 1, h => by
    obtain ⟨v, r, rfl, a, t⟩ := h.of_cons
    exact t.drop n
theorem RepL.eraseIdx : ∀ {ws : List W} {vs : List V} (i : Nat), RepL K H ws vs → RepL K H (ws.eraseIdx i) (vs.eraseIdx i)
  | [], vs, i, h => by rw [h.of_nil]; exact .nil
  | w :: ws, vs, 0, h => by
    obtain ⟨v, r, rfl, a, t⟩ := h.of_cons
    exact t
  | w :: ws, vs, i + 1, h => by
    obtain ⟨v, r, rfl, a, t⟩ := h.of_cons
    exact .cons a (t.eraseIdx i)
theorem RepL.rep {ws : List W} {vs : List V} (h : RepL K H ws vs) : ∀ k : Nat, RepL K H (List.replicate k ws).flatten (List.replicate k vs).flatten
  | 0 => .nil
  | k + 1 => by
    rw [List.replicate_succ, List.replicate_succ, List.flatten_cons, List.flatten_cons]
    exact h.append (h.rep k)
theorem RepL.ints {ns : List Int} : RepL K H (ns.map W.int) (ns.map V.int) := by
  induction ns with
  | nil => exact .nil
  | cons n r ih => exact .cons .int ih
theorem RepL.of_ints {ns : List Int} {vs : List V} (h : RepL K H (ns.map W.int) vs) : vs = ns.map V.int := by
  induction ns generalizing vs with
  | nil => exact h.of_nil
  | cons n r ih =>
    obtain ⟨v, t, rfl, a, b⟩ := h.of_cons
    rw [a.of_int, ih b]; rfl
theorem RepL.of_bls {ns : List Bool} {vs : List V} (h : RepL K H (ns.map W.bl) vs) : vs = ns.map V.bl := by
  induction ns generalizing vs with
  | nil => exact h.of_nil
  | cons n r ih =>
    obtain ⟨v, t, rfl, a, b⟩ := h.of_cons
    rw [a.of_bl, ih b]; rfl
theorem RepL.of_strs {ns : List Str} {vs : List V} (h : RepL K H (ns.map W.str) vs) : vs = ns.map V.str := by
  induction ns generalizing vs with
  | nil => exact h.of_nil
  | cons n r ih =>
    obtain ⟨v, t, rfl, a, b⟩ := h.of_cons
    rw [a.of_str, ih b]; rfl
end
/-! ### contents, abstract heaps, environments -/
inductive Cont where
  | seq (ws : List W) | map (kvs : List (W × W))
def Cont.fz : Cont → W
  | .seq ws => .lst ws
  | .map kvs => .dct (kvs.map (·.1)) (kvs.map (·.2))
inductive AO where
  | cont (c : Cont) | ins (C : Addr) (fs : List (Str × W))
abbrev AH := Addr → Option AO
inductive SV where
  | val (w : W) | own (c : Cont)
abbrev AEnv := List (Option SV)
def CRep (K : PySem.W.Frag) (H : Hp) (p : Addr) : Cont → Prop
  | .seq ws => ∃ vs, H p = some (.lst vs) ∧ RepL K H ws vs
  | .map kvs => (∃ ks, H p = some (.dK ks) ∧ (kvs.map (·.1)).map keyF = ks.map (fun q => some q.1) ∧ RepL K H (kvs.map (·.2)) (ks.map (·.2))) ∨
      ∃ ks, H p = some (.dT ks) ∧ (kvs.map (·.1)).map keyT = ks.map (fun q => some q.1) ∧ RepL K H (kvs.map (·.2)) (ks.map (·.2))
def FRep (K : PySem.W.Frag) (H : Hp) (fs : List (Str × W)) (vs : List (Str × V)) : Prop := fs.map (·.1) = vs.map (·.1) ∧ RepL K H (fs.map (·.2)) (vs.map (·.2))
def ORep (K : PySem.W.Frag) (H : Hp) (a : Addr) : AO → Prop
  | .cont c => CRep K H a c
  | .ins C fs => ∃ dx vs, H a = some (.ins C dx vs) ∧ FRep K H fs vs
def Mu : HO → Prop
  | .lst _ => True
  | .dK _ => True
  | .dT _ => True
  | .ins _ _ _ => True
  | _ => False
theorem Mu.mut {o : HO} (h : Mu o) : Mut (some o) := by cases o <;> first | trivial | exact h.elim
theorem Mu.imm {o : HO} (h : Mu o) : ¬ Imm o := by cases o <;> first | exact h.elim | (intro z; exact z)
theorem CRep.there {K : PySem.W.Frag} {H : Hp} {p : Addr} {c : Cont} (h : CRep K H p c) : ∃ o, H p = some o ∧ Mu o := by
  cases c with
  | seq ws => obtain ⟨vs, e, _⟩ := h; exact ⟨_, e, trivial⟩
  | map kvs =>
    rcases h with ⟨ks, e, _⟩ | ⟨ks, e, _⟩
    · exact ⟨_, e, trivial⟩
    · exact ⟨_, e, trivial⟩
theorem ORep.there {K : PySem.W.Frag} {H : Hp} {p : Addr} {o : AO} (h : ORep K H p o) : ∃ u, H p = some u ∧ Mu u := by
  cases o with
  | cont c => exact CRep.there h
  | ins C fs => obtain ⟨dx, vs, e, _⟩ := h; exact ⟨_, e, trivial⟩
theorem CRep.mono {K : PySem.W.Frag} {H H' : Hp} (k : Keeps H H') {p : Addr} (s : H' p = H p) {c : Cont} (h : CRep K H p c) : CRep K H' p c := by
  cases c with
  | seq ws => obtain ⟨vs, e, r⟩ := h; exact ⟨vs, s.trans e, RepL.mono k _ _ r⟩
  | map kvs =>
    rcases h with ⟨ks, e, t, r⟩ | ⟨ks, e, t, r⟩
    · exact .inl ⟨ks, s.trans e, t, RepL.mono k _ _ r⟩
    · exact .inr ⟨ks, s.trans e, t, RepL.mono k _ _ r⟩
theorem ORep.mono {K : PySem.W.Frag} {H H' : Hp} (k : Keeps H H') {p : Addr} (s : H' p = H p) {o : AO} (h : ORep K H p o) : ORep K H' p o := by
  cases o with
  | cont c => exact CRep.mono k s h
  | ins C fs => obtain ⟨dx, vs, e, t, r⟩ := h; exact ⟨dx, vs, s.trans e, t, RepL.mono k _ _ r⟩
/-- the ghost: the written part; abstract and tracked heap at the def's entry -/
structure AExc where
  C : Addr
  fs : List (Str × W)
structure Gx where
  K : PySem.W.Frag
  h0 : AH
  H0 : Hp
def OwnAt (env : AEnv) (σ : L2.St) (p : Addr) : Prop := ∃ (i : Nat) (c : Cont), env[i]? = some (some (SV.own c)) ∧ σ[i]? = some (some (V.ref p))
structure BS (G : Gx) (env : AEnv) (h : AH) (σ : L2.St) (H : Hp) : Prop where
  len : env.length = σ.length
  val : ∀ (i : Nat) (w : W), env[i]? = some (some (SV.val w)) → ∃ v, σ[i]? = some (some v) ∧ Rep G.K H w v
  own : ∀ (i : Nat) (c : Cont), env[i]? = some (some (SV.own c)) → ∃ p, σ[i]? = some (some (V.ref p)) ∧ CRep G.K H p c ∧ h p = none ∧ G.H0 p = none
  uni : ∀ (i j : Nat) (c c' : Cont) (p : Addr), env[i]? = some (some (SV.own c)) → env[j]? = some (some (SV.own c')) → σ[i]? = some (some (V.ref p)) → σ[j]? = some (some (V.ref p)) → i = j
  hp : ∀ a o, h a = some o → ORep G.K H a o
  fr : ∀ p o, G.H0 p = some o → G.h0 p = none → H p = some o
  ext : ∀ a o, h a = some o → G.h0 a = none → G.H0 a = none
  tr : ∀ p o, G.H0 p = some o → ∃ u, H p = some u
/-- a step of an expression: all but what is owned or in the abstract heap stays -/
structure Xt (env : AEnv) (h : AH) (σ : L2.St) (H : Hp) (env' : AEnv) (h' : AH) (H' : Hp) : Prop where
  fr : ∀ p o, H p = some o → h p = none → ¬ OwnAt env σ p → H' p = some o
  hn : ∀ p o, h' p = some o → h p = none → H p = none
  th : ∀ p o, H p = some o → ∃ o', H' p = some o'
  sl : ∀ (i : Nat) (c' : Cont), env'[i]? = some (some (SV.own c')) → ∃ c, env[i]? = some (some (SV.own c))
section
variable {G : Gx} {env env' env2 : AEnv} {h h' h2 : AH} {σ : L2.St} {H H' H2 : Hp}
theorem BS.imm (S : BS G env h σ H) {p : Addr} {o : HO} (e : H p = some o) (i : Imm o) : h p = none ∧ ¬ OwnAt env σ p := by
  refine ⟨?_, fun ⟨j, c, a, b⟩ => ?_⟩
  · cases q : h p with
    | none => rfl
    | some u =>
      obtain ⟨o', e', m⟩ := (S.hp p u q).there
      rw [e] at e'; cases e'
      exact absurd i m.imm
  · obtain ⟨p', b', cr, _⟩ := S.own j c a
    rw [b] at b'; cases b'
    obtain ⟨o', e', m⟩ := cr.there
    rw [e] at e'; cases e'
    exact absurd i m.imm
theorem Xt.keeps (x : Xt env h σ H env' h' H') (S : BS G env h σ H) : Keeps H H' := fun p o e i => x.fr p o e (S.imm e i).1 (S.imm e i).2
theorem Xt.refl : Xt env h σ H env h H := ⟨fun _ _ e _ _ => e, fun p o e n => (by rw [n] at e; cases e), fun _ o e => ⟨o, e⟩, fun i c e => ⟨c, e⟩⟩
theorem Xt.own (x : Xt env h σ H env' h' H') {p : Addr} (o : OwnAt env' σ p) : OwnAt env σ p := by
  obtain ⟨i, c, e1, e2⟩ := o
  obtain ⟨c0, z⟩ := x.sl i c e1
  exact ⟨i, c0, z, e2⟩
theorem Xt.trans (a : Xt env h σ H env' h' H') (b : Xt env' h' σ H' env2 h2 H2) : Xt env h σ H env2 h2 H2 := by
  refine ⟨fun p o e n w => ?_, fun p o e n => ?_, fun p o e => ?_, fun i c e => ?_⟩
  · refine b.fr p o (a.fr p o e n w) ?_ fun q => w (a.own q)
    cases q : h' p with
    | none => rfl
    | some u => rw [a.hn p u q n] at e; cases e
  · cases q : h' p with
    | none =>
      have z := b.hn p o e q
      cases q2 : H p with
      | none => rfl
      | some u =>
        obtain ⟨o', e'⟩ := a.th p u q2
        rw [z] at e'; cases e'
    | some u => exact a.hn p u q n
  · obtain ⟨o', e'⟩ := a.th p o e
    exact b.th p o' e'
  · obtain ⟨c1, z⟩ := b.sl i c e
    exact a.sl i c1 z
end
end Ab

namespace Ab
open PySem PySem.Spec PyProof.Rows L2
/-! ### results -/
/-- an expression's result: a value; a new list or dict; the list or dict that the i-th slot owns -/
inductive RV where
  | val (w : W) | own (c : Cont) | slot (i : Nat)
/-- what is to be read there -/
inductive Vw where
  | wv (x : W) | cv (x : Cont) | bad
def viewS : Option (Option SV) → Vw
  | some (some (.val w)) => .wv w
  | some (some (.own c)) => .cv c
  | _ => .bad
/-- what stands behind a value: of an address in the abstract heap its content -/
def viewW (h : AH) : W → Vw
  | .ref a => match h a with
    | some (.cont c) => .cv c
    | _ => .wv (.ref a)
  | w => .wv w
def view (env : AEnv) (h : AH) : RV → Vw
  | .val w => viewW h w
  | .own c => .cv c
  | .slot i => viewS env[i]?
def Vw.toW : Vw → W
  | .wv w => w
  | .cv c => c.fz
  | .bad => .non
def RvRep (G : Gx) (env : AEnv) (h : AH) (σ : L2.St) (H : Hp) : RV → V → Prop
  | .val w, v => Rep G.K H w v
  | .own c, v => ∃ p, v = .ref p ∧ CRep G.K H p c ∧ h p = none ∧ G.H0 p = none ∧ ¬ OwnAt env σ p
  | .slot i, v => σ[i]? = some (some v)
def VR (K : PySem.W.Frag) (H : Hp) : Vw → V → Prop
  | .wv w, v => Rep K H w v
  | .cv c, v => ∃ p, v = .ref p ∧ CRep K H p c
  | .bad, _ => True
section
variable {G : Gx} {env env' : AEnv} {h h' : AH} {σ : L2.St} {H H' : Hp}
theorem VR.viewW (S : BS G env h σ H) {w : W} {v : V} (x : Rep G.K H w v) : VR G.K H (viewW h w) v := by
  cases w with
  | ref a =>
    have e : v = .ref a := Rep.of_ref x
    subst e
    show VR G.K H (match h a with
      | some (.cont c) => .cv c
      | _ => .wv (.ref a)) _
    cases q : h a with
    | none => exact x
    | some o =>
      cases o with
      | cont c => exact ⟨a, rfl, S.hp a _ q⟩
      | ins C fs => exact x
  | _ => exact x
theorem RvRep.vr (S : BS G env h σ H) {r : RV} {v : V} (x : RvRep G env h σ H r v) : VR G.K H (view env h r) v := by
  cases r with
  | val w => exact VR.viewW S x
  | own c => obtain ⟨p, e, c, _⟩ := x; exact ⟨p, e, c⟩
  | slot i =>
    have e1 : σ[i]? = some (some v) := x
    show VR G.K H (viewS env[i]?) v
    cases e2 : env[i]? with
    | none => trivial
    | some o =>
      cases o with
      | none => trivial
      | some sv =>
        cases sv with
        | val w =>
          obtain ⟨u, e3, r⟩ := S.val i w e2
          rw [e1] at e3; cases e3
          exact r
        | own c =>
          obtain ⟨p, e3, r, _⟩ := S.own i c e2
          rw [e1] at e3; cases e3
          exact ⟨p, rfl, r⟩
theorem RvRep.xt (S : BS G env h σ H) (x : Xt env h σ H env' h' H') {r : RV} {v : V} (a : RvRep G env h σ H r v) : RvRep G env' h' σ H' r v := by
  cases r with
  | val w => exact Rep.mono (x.keeps S) w v a
  | own c =>
    obtain ⟨p, e, c, n, n0, no⟩ := a
    obtain ⟨o, eo, _⟩ := c.there
    refine ⟨p, e, c.mono (x.keeps S) ((x.fr p o eo n no).trans eo.symm), ?_, n0, fun q => no (x.own q)⟩
    cases q : h' p with
    | none => rfl
    | some u => rw [x.hn p u q n] at eo; cases eo
  | slot i => exact a
/-- nothing but new things -/
def New (H H' : Hp) : Prop := ∀ p o, H p = some o → H' p = some o
theorem New.refl (H : Hp) : New H H := fun _ _ e => e
theorem New.upd {p : Addr} {o : HO} (n : H p = none) : New H (upd H p o) := fun q u e => by rw [upd_ne (ne_of_none e n)]; exact e
theorem New.keeps (n : New H H') : Keeps H H' := fun p o e _ => n p o e
theorem New.xt (n : New H H') : Xt env h σ H env h H' := ⟨fun p o e _ _ => n p o e, fun p o e q => (by rw [q] at e; cases e), fun p o e => ⟨o, n p o e⟩, fun i c e => ⟨c, e⟩⟩
theorem New.bs (n : New H H') (S : BS G env h σ H) : BS G env h σ H' where
  len := S.len
  val := fun i w e => let ⟨v, a, b⟩ := S.val i w e; ⟨v, a, Rep.mono n.keeps w v b⟩
  own := fun i c e => by
    obtain ⟨p, a, b, d, f⟩ := S.own i c e
    obtain ⟨o, eo, _⟩ := b.there
    exact ⟨p, a, b.mono n.keeps ((n p o eo).trans eo.symm), d, f⟩
  uni := S.uni
  hp := fun a o e => by
    obtain ⟨u, eu, _⟩ := (S.hp a o e).there
    exact (S.hp a o e).mono n.keeps ((n a u eu).trans eu.symm)
  fr := fun p o e q => n p o (S.fr p o e q)
  ext := S.ext
  tr := fun p o e => let ⟨u, q⟩ := S.tr p o e; ⟨u, n p u q⟩
end
/-! ### readings -/
abbrev AT := AEnv → AH → (RV → AEnv → AH → Prop) → Prop
abbrev AVT := AEnv → AH → (W → AEnv → AH → Prop) → Prop
abbrev AAT := AEnv → AH → (List W → AEnv → AH → Prop) → Prop
abbrev ABT := AEnv → AH → (Bool → AEnv → AH → Prop) → Prop
def Mono {α : Type} (t : AEnv → AH → (α → AEnv → AH → Prop) → Prop) : Prop := ∀ env h Q Q', (∀ r e k, Q r e k → Q' r e k) → t env h Q → t env h Q'
/-- what is new is new -/
def Fsh (H : Hp) : RV → V → Prop
  | .own _, v => ∀ p, v = .ref p → H p = none
  | _, _ => True
def cE (G : Gx) (t : AT) : TE := fun σ H Q => ∃ env h, BS G env h σ H ∧ t env h fun r env' h' => ∀ v H', BS G env' h' σ H' → Xt env h σ H env' h' H' → RvRep G env' h' σ H' r v → Fsh H r v → Q v H'
def cV (G : Gx) (t : AVT) : TE := fun σ H Q => ∃ env h, BS G env h σ H ∧ t env h fun w env' h' => ∀ v H', BS G env' h' σ H' → Xt env h σ H env' h' H' → Rep G.K H' w v → Q v H'
def cA (G : Gx) (t : AAT) : TA := fun σ H Q => ∃ env h, BS G env h σ H ∧ t env h fun ws env' h' => ∀ vs H', BS G env' h' σ H' → Xt env h σ H env' h' H' → RepL G.K H' ws vs → Q vs H'
def cT (G : Gx) (t : ABT) : TT := fun σ H Q => ∃ env h, BS G env h σ H ∧ t env h fun b env' h' => ∀ H', BS G env' h' σ H' → Xt env h σ H env' h' H' → Q b H'
structure AE (X : Cx) (G : Gx) (e : Expr) (t : AT) : Prop where
  mono : Mono t
  pe : PE X e (cE G t)
structure AV (X : Cx) (G : Gx) (e : Expr) (t : AVT) : Prop where
  mono : Mono t
  pe : PE X e (cV G t)
structure AA (X : Cx) (G : Gx) (es : List Expr) (t : AAT) : Prop where
  mono : Mono t
  pa : PA X es (cA G t)
structure AP (X : Cx) (G : Gx) (e : Expr) (t : ABT) : Prop where
  mono : Mono t
  pt : PT X e (cT G t)
theorem PE.imp {X : Cx} {e : Expr} {t t' : TE} (h : PE X e t) (i : ∀ σ H Q, t' σ H Q → t σ H Q) : PE X e t' := ⟨fun pins s σ H Q I q => h.run pins s σ H Q I (i σ H Q q)⟩
theorem PA.imp {X : Cx} {e : List Expr} {t t' : TA} (h : PA X e t) (i : ∀ σ H Q, t' σ H Q → t σ H Q) : PA X e t' := ⟨fun pos pins s σ H Q I q => h.run pos pins s σ H Q I (i σ H Q q)⟩
theorem PT.imp {X : Cx} {e : Expr} {t t' : TT} (h : PT X e t) (i : ∀ σ H Q, t' σ H Q → t σ H Q) : PT X e t' := ⟨fun pins s σ H Q I q => h.run pins s σ H Q I (i σ H Q q)⟩
theorem PS.imp {X : Cx} {e : Stmt} {t t' : TS} (h : PS X e t) (i : ∀ D σ H, t' D σ H → t D σ H) : PS X e t' := ⟨fun pins s σ H Q I q => h.run pins s σ H Q I (i Q σ H q)⟩
theorem PSs.imp {X : Cx} {e : List Stmt} {t t' : TS} (h : PSs X e t) (i : ∀ D σ H, t' D σ H → t D σ H) : PSs X e t' := ⟨fun pins s σ H Q I q => h.run pins s σ H Q I (i Q σ H q)⟩
section
variable {X : Cx} {G : Gx}
/-! ### names, constants -/
def aVar (i : Nat) : AT := fun env h Q => match env[i]? with
  | some (some (.val w)) => Q (.val w) env h
  | some (some (.own _)) => Q (.slot i) env h
  | _ => False
def aC (w : W) : AT := fun env h Q => Q (.val w) env h
theorem aVar.mono {i : Nat} : Mono (aVar i) := fun env h Q Q' k q => by
  unfold aVar at q ⊢
  split at q
  · exact k _ _ _ q
  · exact k _ _ _ q
  · exact q
theorem aC.mono {w : W} : Mono (aC w) := fun env h Q Q' k q => k _ _ _ q
theorem ae_var {e : Expr} {i : Nat} (h : PE X e (tVar i)) : AE X G e (aVar i) := by
  refine ⟨aVar.mono, PE.imp h fun σ H Q ⟨env, k, S, q⟩ => ?_⟩
  unfold aVar at q
  split at q
  · rename_i w e
    obtain ⟨v, e1, r⟩ := S.val i w e
    exact ⟨v, e1, q v H S .refl r trivial⟩
  · rename_i c e
    obtain ⟨p, e1, r⟩ := S.own i c e
    exact ⟨_, e1, q _ H S .refl e1 trivial⟩
  · exact q.elim
theorem ae_c {e : Expr} {w : W} {v : V} (h : PE X e (tC v)) (r : ∀ H, Rep G.K H w v) : AE X G e (aC w) :=
  ⟨aC.mono, PE.imp h fun σ H Q ⟨env, k, S, q⟩ => q v H S .refl (r H) trivial⟩
theorem ae_int {i j pos} : AE X G (.Constant (.int i) j pos) (aC (.int i)) := ae_c pe_int fun _ => .int
theorem ae_bl {i j pos} : AE X G (.Constant (.bool i) j pos) (aC (.bl i)) := ae_c pe_bl fun _ => .bl
theorem ae_non {j pos} : AE X G (.Constant .none j pos) (aC .non) := ae_c pe_non fun _ => .non
theorem ae_str {i j pos} : AE X G (.Constant (.str i) j pos) (aC (.str i)) := ae_c pe_str fun _ => .str
/-! ### a list is frozen -/
def aFz (t : AT) : AVT := fun env h Q => t env h fun r env' h' => match r with
  | .val w => Q w env' h'
  | .own c => Q c.fz env' h'
  | .slot i => match env'[i]? with
    | some (some (.val w)) => Q w env' h'
    | some (some (.own c)) => Q c.fz (env'.set i (some (.val c.fz))) h'
    | _ => False
theorem aFz.mono {t : AT} (m : Mono t) : Mono (aFz t) := fun env h Q Q' k q => by
  refine m env h _ _ (fun r e g z => ?_) q
  cases r with
  | val w => exact k _ _ _ z
  | own c => exact k _ _ _ z
  | slot i =>
    show match e[i]? with
      | some (some (.val w)) => Q' w e g
      | some (some (.own c)) => Q' c.fz (e.set i (some (.val c.fz))) g
      | _ => False
    have z : match e[i]? with
      | some (some (.val w)) => Q w e g
      | some (some (.own c)) => Q c.fz (e.set i (some (.val c.fz))) g
      | _ => False := z
    split at z
    · exact k _ _ _ z
    · exact k _ _ _ z
    · exact z
/-- locked for good -/
theorem fz_rep {K : PySem.W.Frag} {H : Hp} {p : Addr} {c : Cont} (r : CRep K H p c) (hp : ∃ u, H p = some u ∧ Mu u) : ∃ u, H p = some u ∧ Mu u ∧ ∀ od, Rep K (upd H p (.frz od u)) c.fz (.ref p) := by
  have keep : ∀ (u : HO) (od : Obj), H p = some u → Mu u → Keeps H (upd H p (.frz od u)) := fun u od e m q o e' i => by
    have n : q ≠ p := fun z => by rw [z, e] at e'; cases e'; exact m.imm i
    rw [upd_ne n]; exact e'
  cases c with
  | seq ws =>
    obtain ⟨vs, e, r⟩ := r
    refine ⟨_, e, trivial, fun od => ?_⟩
    exact .lst ⟨od, upd_same⟩ (RepL.mono (keep _ od e trivial) _ _ r)
  | map kvs =>
    rcases r with ⟨ks, e, t, r⟩ | ⟨ks, e, t, r⟩
    · refine ⟨_, e, trivial, fun od => ?_⟩
      show Rep K _ (.dct _ _) _
      simp only [Rep]
      exact ⟨p, rfl, .inl ⟨od, ks, upd_same, t, RepL.mono (keep _ od e trivial) _ _ r⟩⟩
    · refine ⟨_, e, trivial, fun od => ?_⟩
      show Rep K _ (.dct _ _) _
      simp only [Rep]
      exact ⟨p, rfl, .inr ⟨od, ks, upd_same, t, RepL.mono (keep _ od e trivial) _ _ r⟩⟩
/-- the state behind a freezing of what stands at p: not in the abstract heap; owned by no slot but those in `off` -/
theorem BS.freeze {env env' : AEnv} {h : AH} {σ : L2.St} {H : Hp} (S : BS G env h σ H) {p : Addr} {u : HO} (od : Obj) (e : H p = some u) (m : Mu u) (n : h p = none) (n0 : G.H0 p = none)
    (len : env'.length = env.length)
    (v' : ∀ (i : Nat) (w : W), env'[i]? = some (some (SV.val w)) → env[i]? = some (some (SV.val w)) ∨ ∃ v, σ[i]? = some (some v) ∧ Rep G.K (upd H p (.frz od u)) w v)
    (o' : ∀ (i : Nat) (c : Cont), env'[i]? = some (some (SV.own c)) → env[i]? = some (some (SV.own c)) ∧ σ[i]? ≠ some (some (V.ref p))) : BS G env' h σ (upd H p (.frz od u)) := by
  have keep : Keeps H (upd H p (.frz od u)) := fun q o e' i => by
    have n : q ≠ p := fun z => by rw [z, e] at e'; cases e'; exact m.imm i
    rw [upd_ne n]; exact e'
  refine ⟨len.trans S.len, fun i w z => ?_, fun i c z => ?_, fun i j c c' q a b => ?_, fun a o z => ?_, fun q o z y => ?_, S.ext, fun q o z => ?_⟩
  · rcases v' i w z with z | z
    · obtain ⟨v, a, b⟩ := S.val i w z
      exact ⟨v, a, Rep.mono keep w v b⟩
    · exact z
  · obtain ⟨z, ne⟩ := o' i c z
    obtain ⟨q, a, b, d, f⟩ := S.own i c z
    have nq : q ≠ p := fun y => ne (by rw [a, y])
    exact ⟨q, a, b.mono keep (upd_ne nq), d, f⟩
  · exact S.uni i j c c' q (o' i c a).1 (o' j c' b).1
  · have na : a ≠ p := fun y => by rw [y, n] at z; cases z
    exact (S.hp a o z).mono keep (upd_ne na)
  · have nq : q ≠ p := fun x => by rw [x, n0] at z; cases z
    rw [upd_ne nq]; exact S.fr q o z y
  · by_cases hq : q = p
    · subst hq; exact ⟨_, upd_same⟩
    · obtain ⟨u', e'⟩ := S.tr q o z
      exact ⟨u', by rw [upd_ne hq]; exact e'⟩
theorem Xt.freeze {env env' env2 : AEnv} {h h' : AH} {σ : L2.St} {H H1 : Hp} {p : Addr} {u : HO} {od : Obj} (x : Xt env h σ H env' h' H1) (e : H1 p = some u) (f : H p = none ∨ OwnAt env σ p)
    (sl : ∀ (i : Nat) (c : Cont), env2[i]? = some (some (SV.own c)) → env'[i]? = some (some (SV.own c))) : Xt env h σ H env2 h' (upd H1 p (.frz od u)) := by
  refine ⟨fun q o e n w => ?_, x.hn, fun q o e => ?_, fun i c e => x.sl i c (sl i c e)⟩
  · have nq : q ≠ p := fun y => by
      rcases f with f | f
      · rw [y, f] at e; cases e
      · exact w (y ▸ f)
    rw [upd_ne nq]; exact x.fr q o e n w
  · by_cases hq : q = p
    · subst hq; exact ⟨_, upd_same⟩
    · rw [upd_ne hq]; exact x.th q o e
theorem set_slot {env : AEnv} {i j : Nat} {sv sv' : SV} (e : env[i]? = some (some sv)) : (env.set i (some sv'))[j]? = if j = i then some (some sv') else env[j]? := by
  have hi : i < env.length := (List.getElem?_eq_some_iff.mp e).1
  by_cases hj : j = i
  · subst hj; rw [if_pos rfl, List.getElem?_set_self hi]
  · rw [if_neg hj, List.getElem?_set_ne (Ne.symm hj)]
/-- freezing the very slot -/
theorem slot_freeze {env env' : AEnv} {h h' : AH} {σ : L2.St} {H H1 : Hp} {i : Nat} {c : Cont} {pins : List (Addr × Obj)} {s : Shared} (S : BS G env' h' σ H1) (x : Xt env h σ H env' h' H1) (I : Inv X pins σ H1 s) (e : env'[i]? = some (some (.own c))) :
    ∃ p H2, σ[i]? = some (some (V.ref p)) ∧ Inv X pins σ H2 s ∧ BS G (env'.set i (some (.val c.fz))) h' σ H2 ∧ Xt env h σ H (env'.set i (some (.val c.fz))) h' H2 ∧ Rep G.K H2 c.fz (.ref p) := by
  obtain ⟨p, es, cr, n, n0⟩ := S.own i c e
  obtain ⟨u, eu, mu, fr⟩ := fz_rep cr cr.there
  obtain ⟨od, I2⟩ := I.lock eu mu.mut
  refine ⟨p, _, es, I2, S.freeze od eu mu n n0 (by simp) (fun j w z => ?_) (fun j d z => ?_), x.freeze eu (.inr ?_) (fun j d z => ?_), fr od⟩
  · rw [set_slot e] at z
    by_cases hj : j = i
    · rw [if_pos hj] at z
      cases z
      exact .inr ⟨_, hj ▸ es, fr od⟩
    · rw [if_neg hj] at z; exact .inl z
  · rw [set_slot e] at z
    by_cases hj : j = i
    · rw [if_pos hj] at z; cases z
    · rw [if_neg hj] at z
      exact ⟨z, fun y => hj (S.uni j i d c p z e y es)⟩
  · exact x.own ⟨i, c, e, es⟩
  · rw [set_slot e] at z
    by_cases hj : j = i
    · rw [if_pos hj] at z; cases z
    · rw [if_neg hj] at z; exact z
theorem own_freeze {env env' : AEnv} {h h' : AH} {σ : L2.St} {H H1 : Hp} {c : Cont} {v : V} {pins : List (Addr × Obj)} {s : Shared} (S : BS G env' h' σ H1) (x : Xt env h σ H env' h' H1) (I : Inv X pins σ H1 s) (r : RvRep G env' h' σ H1 (.own c) v) (f : Fsh H (.own c) v) :
    ∃ H2, Inv X pins σ H2 s ∧ BS G env' h' σ H2 ∧ Xt env h σ H env' h' H2 ∧ Rep G.K H2 c.fz v := by
  obtain ⟨p, ex, cr, n, n0, no⟩ := r
  obtain ⟨u, eu, mu, fr⟩ := fz_rep cr cr.there
  obtain ⟨od, I2⟩ := I.lock eu mu.mut
  subst ex
  exact ⟨_, I2, S.freeze od eu mu n n0 rfl (fun i w e => .inl e) fun i c e => ⟨e, fun y => no ⟨i, c, e, y⟩⟩, x.freeze eu (.inl (f p rfl)) fun i c e => e, fr od⟩
theorem av_of {e : Expr} {t : AT} (a : AE X G e t) : AV X G e (aFz t) := by
  refine ⟨aFz.mono a.mono, ⟨fun pins s σ H Q I ⟨env, h, S, q⟩ => ?_⟩⟩
  refine thn (a.pe.run pins s σ H (fun v H1 => ∃ r env' h', BS G env' h' σ H1 ∧ Xt env h σ H env' h' H1 ∧ RvRep G env' h' σ H1 r v ∧ Fsh H r v ∧ match r with
    | .val w => ∀ v H', BS G env' h' σ H' → Xt env h σ H env' h' H' → Rep G.K H' w v → Q v H'
    | .own c => ∀ v H', BS G env' h' σ H' → Xt env h σ H env' h' H' → Rep G.K H' c.fz v → Q v H'
    | .slot i => match env'[i]? with
      | some (some (.val w)) => ∀ v H', BS G env' h' σ H' → Xt env h σ H env' h' H' → Rep G.K H' w v → Q v H'
      | some (some (.own c)) => ∀ v H', BS G (env'.set i (some (.val c.fz))) h' σ H' → Xt env h σ H (env'.set i (some (.val c.fz))) h' H' → Rep G.K H' c.fz v → Q v H'
      | _ => False) I ⟨env, h, S, a.mono env h _ _ (fun r env' h' z v H1 S1 x1 r1 f1 => ⟨r, env', h', S1, x1, r1, f1, z⟩) q⟩) fun v s1 ⟨x, H1, I1, r1, r, env', h', S1, x1, rr, f1, z⟩ => ?_
  cases r with
  | val w => exact ⟨x, H1, I1, r1, z x H1 S1 x1 rr⟩
  | own c =>
    obtain ⟨H2, I2, S2, x2, r2⟩ := own_freeze S1 x1 I1 rr f1
    exact ⟨x, H2, I2, r1, z x H2 S2 x2 r2⟩
  | slot i =>
    have es : σ[i]? = some (some x) := rr
    have z : match env'[i]? with
      | some (some (.val w)) => ∀ v H', BS G env' h' σ H' → Xt env h σ H env' h' H' → Rep G.K H' w v → Q v H'
      | some (some (.own c)) => ∀ v H', BS G (env'.set i (some (.val c.fz))) h' σ H' → Xt env h σ H (env'.set i (some (.val c.fz))) h' H' → Rep G.K H' c.fz v → Q v H'
      | _ => False := z
    split at z
    · rename_i w e
      obtain ⟨u, e3, r⟩ := S1.val i w e
      rw [es] at e3; cases e3
      exact ⟨x, H1, I1, r1, z x H1 S1 x1 r⟩
    · rename_i c e
      obtain ⟨p, H2, ep, I2, S2, x2, r2⟩ := slot_freeze S1 x1 I1 e
      rw [es] at ep; cases ep
      exact ⟨_, H2, I2, r1, z _ H2 S2 x2 r2⟩
    · exact z.elim
/-- .. of a value that is none of the frame's lists -/
def aUn (t : AVT) : AT := fun env h Q => t env h fun w env' h' => Q (.val w) env' h'
/-! ### argument lists -/
def aNil : AAT := fun env h Q => Q [] env h
def aCons (t : AVT) (u : AAT) : AAT := fun env h Q => t env h fun w env' h' => u env' h' fun ws env2 h2 => Q (w :: ws) env2 h2
theorem aNil.mono : Mono aNil := fun env h Q Q' k q => k _ _ _ q
theorem aCons.mono {t : AVT} {u : AAT} (m : Mono t) (n : Mono u) : Mono (aCons t u) := fun env h Q Q' k q => m env h _ _ (fun w e g z => n e g _ _ (fun ws e2 g2 z2 => k _ _ _ z2) z) q
theorem aa_nil : AA X G [] aNil := ⟨aNil.mono, PA.imp pa_nil fun σ H Q ⟨env, h, S, q⟩ => q [] H S .refl .nil⟩
theorem aa_cons {e : Expr} {es : List Expr} {t : AVT} {u : AAT} (a : AV X G e t) (b : AA X G es u) (hs : starEach (e :: es) X.env = (false, eval e X.env) :: starEach es X.env := by rfl) : AA X G (e :: es) (aCons t u) := by
  refine ⟨aCons.mono a.mono b.mono, PA.imp (pa_cons a.pe b.pa hs) fun σ H Q ⟨env, h, S, q⟩ => ?_⟩
  refine ⟨env, h, S, a.mono env h _ _ (fun w env1 h1 z v H1 S1 x1 r1 => ?_) q⟩
  refine ⟨env1, h1, S1, b.mono env1 h1 _ _ (fun ws env2 h2 z vs H2 S2 x2 r2 => ?_) z⟩
  exact z (v :: vs) H2 S2 (x1.trans x2) (.cons (Rep.mono (x2.keeps S1) w v r1) r2)
/-! ### displays -/
def aTup (t : AAT) : AT := fun env h Q => t env h fun ws env' h' => ws.length ≤ sizeLine ∧ Q (.val (.tup ws)) env' h'
def aLst (t : AAT) : AT := fun env h Q => t env h fun ws env' h' => ws.length ≤ sizeLine ∧ Q (.own (.seq ws)) env' h'
theorem aTup.mono {t : AAT} (m : Mono t) : Mono (aTup t) := fun env h Q Q' k q => m env h _ _ (fun ws e g z => ⟨z.1, k _ _ _ z.2⟩) q
theorem aLst.mono {t : AAT} (m : Mono t) : Mono (aLst t) := fun env h Q Q' k q => m env h _ _ (fun ws e g z => ⟨z.1, k _ _ _ z.2⟩) q
section
variable {env : AEnv} {h : AH} {σ : L2.St} {H : Hp}
theorem BS.noAt (S : BS G env h σ H) {p : Addr} (n : H p = none) : h p = none ∧ G.H0 p = none ∧ ¬ OwnAt env σ p := by
  refine ⟨?_, ?_, fun ⟨i, c, e1, e2⟩ => ?_⟩
  · cases q : h p with
    | none => rfl
    | some u => obtain ⟨o, e, _⟩ := (S.hp p u q).there; rw [n] at e; cases e
  · cases q : G.H0 p with
    | none => rfl
    | some o => obtain ⟨u, e⟩ := S.tr p o q; rw [n] at e; cases e
  · obtain ⟨q, e3, cr, _⟩ := S.own i c e1
    rw [e2] at e3; cases e3
    obtain ⟨o, e, _⟩ := cr.there; rw [n] at e; cases e
theorem ae_tup {es : List Expr} {t : AAT} {x1 pos} (a : AA X G es t) : AE X G (.Tuple es x1 pos) (aTup t) := by
  refine ⟨aTup.mono a.mono, PE.imp (pe_tup a.pa) fun σ H Q ⟨env, h, S, q⟩ => ?_⟩
  refine ⟨env, h, S, a.mono env h _ _ (fun ws env1 h1 z vs H1 S1 x1 r1 => ⟨by rw [← r1.length]; exact z.1, fun p n => ?_⟩) q⟩
  have nw : New H1 (upd H1 p (.tup vs)) := New.upd n
  exact z.2 (.ref p) _ (nw.bs S1) (x1.trans nw.xt) (.tup (.inl (.inl upd_same)) (RepL.mono nw.keeps _ _ r1)) trivial
theorem Xt.fresh {env env' : AEnv} {h' : AH} {H' : Hp} (x : Xt env h σ H env' h' H') {p : Addr} (n : H' p = none) : H p = none := by
  cases q : H p with
  | none => rfl
  | some o => obtain ⟨u, e⟩ := x.th p o q; rw [n] at e; cases e
/-- a new list, dict -/
theorem own_new {env env1 : AEnv} {h h1 : AH} {σ : L2.St} {H H1 : Hp} {p : Addr} {o : HO} {c : Cont} (S : BS G env1 h1 σ H1) (x : Xt env h σ H env1 h1 H1) (n : H1 p = none) (r : New H1 (upd H1 p o) → CRep G.K (upd H1 p o) p c) :
    BS G env1 h1 σ (upd H1 p o) ∧ Xt env h σ H env1 h1 (upd H1 p o) ∧ RvRep G env1 h1 σ (upd H1 p o) (.own c) (.ref p) ∧ Fsh H (.own c) (.ref p) := by
  have nw : New H1 (upd H1 p o) := New.upd n
  obtain ⟨a, b, d⟩ := S.noAt n
  exact ⟨nw.bs S, x.trans nw.xt, ⟨p, rfl, r nw, a, b, d⟩, fun q e => by cases e; exact x.fresh n⟩
theorem ae_lst {es : List Expr} {t : AAT} {pos} (a : AA X G es t) : AE X G (.List es pos) (aLst t) := by
  refine ⟨aLst.mono a.mono, PE.imp (pe_lst a.pa) fun σ H Q ⟨env, h, S, q⟩ => ?_⟩
  refine ⟨env, h, S, a.mono env h _ _ (fun ws env1 h1 z vs H1 S1 x1 r1 => ⟨by rw [← r1.length]; exact z.1, fun p n => ?_⟩) q⟩
  obtain ⟨S2, x2, r2, f2⟩ := own_new S1 x1 n (o := .lst vs) (c := .seq ws) fun nw => ⟨vs, upd_same, RepL.mono nw.keeps _ _ r1⟩
  exact z.2 _ _ S2 x2 r2 f2
end
end
end Ab

namespace Ab
open PySem PySem.Spec PyProof.Rows L2
/-! ### views of lists and tuples -/
def Vw.seq : Vw → Option (List W)
  | .wv (.lst xs) => some xs
  | .cv (.seq xs) => some xs
  | _ => none
def Vw.tpl : Vw → Option (List W)
  | .wv (.tup xs) => some xs
  | _ => none
section
variable {K : PySem.W.Frag} {H : Hp} {a : Vw} {v : V} {xs : List W}
theorem VR.seq (r : VR K H a v) (e : a.seq = some xs) : ∃ p vs, v = .ref p ∧ Rd H p (.lst vs) ∧ RepL K H xs vs := by
  cases a with
  | wv w =>
    cases w with
    | lst ys =>
      cases e
      obtain ⟨p, vs, e1, ⟨o, l⟩, r⟩ := Rep.of_lst r
      exact ⟨p, vs, e1, .inr ⟨o, l⟩, r⟩
    | _ => cases e
  | cv c =>
    cases c with
    | seq ys =>
      cases e
      obtain ⟨p, e1, vs, l, r⟩ := r
      exact ⟨p, vs, e1, .inl l, r⟩
    | map _ => cases e
  | bad => cases e
theorem VR.tpl (r : VR K H a v) (e : a.tpl = some xs) : ∃ p vs, v = .ref p ∧ SqT K H p vs ∧ RepL K H xs vs := by
  cases a with
  | wv w =>
    cases w with
    | tup ys => cases e; exact Rep.of_tup r
    | _ => cases e
  | _ => cases e
theorem VR.int {i : Int} (r : VR K H (.wv (.int i)) v) : v = .int i := Rep.of_int (K := K) (H := H) r
theorem VR.str {i : Str} (r : VR K H (.wv (.str i)) v) : v = .str i := Rep.of_str (K := K) (H := H) r
theorem VR.bl {i : Bool} (r : VR K H (.wv (.bl i)) v) : v = .bl i := Rep.of_bl (K := K) (H := H) r
theorem VR.non (r : VR K H (.wv .non) v) : v = .non := Rep.of_non (K := K) (H := H) r
end
/-! ### what an operation gives: an old value or a new tuple, a new list -/
def OutR (K : PySem.W.Frag) (H : Hp) (Q : RV → Prop) (v : V) (H' : Hp) : Prop :=
  (H' = H ∧ ∃ w, Q (.val w) ∧ Rep K H w v) ∨ ∃ p o, H p = none ∧ H' = upd H p o ∧ v = .ref p ∧ ((∃ w, Q (.val w) ∧ Rep K H' w v) ∨ ∃ c, Q (.own c) ∧ CRep K H' p c)
theorem OutR.val {K : PySem.W.Frag} {H : Hp} {Q : RV → Prop} {w : W} {v : V} (q : Q (.val w)) (r : Rep K H w v) : OutR K H Q v H := .inl ⟨rfl, w, q, r⟩
theorem OutR.tup {K : PySem.W.Frag} {H : Hp} {Q : RV → Prop} {ws : List W} {vs : List V} {p : Addr} (n : H p = none) (q : Q (.val (.tup ws))) (r : RepL K H ws vs) : OutR K H Q (.ref p) (upd H p (.tup vs)) :=
  .inr ⟨p, _, n, rfl, rfl, .inl ⟨_, q, .tup (.inl (.inl upd_same)) (RepL.mono (New.upd n).keeps _ _ r)⟩⟩
theorem OutR.lst {K : PySem.W.Frag} {H : Hp} {Q : RV → Prop} {ws : List W} {vs : List V} {p : Addr} (n : H p = none) (q : Q (.own (.seq ws))) (r : RepL K H ws vs) : OutR K H Q (.ref p) (upd H p (.lst vs)) :=
  .inr ⟨p, _, n, rfl, rfl, .inr ⟨_, q, vs, upd_same, RepL.mono (New.upd n).keeps _ _ r⟩⟩
section
variable {G : Gx} {env env1 : AEnv} {h h1 : AH} {σ : L2.St} {H H1 H2 : Hp}
theorem OutR.end {Q0 : RV → Prop} {v : V} (S : BS G env1 h1 σ H1) (x : Xt env h σ H env1 h1 H1) (o : OutR G.K H1 Q0 v H2) :
    ∃ r, Q0 r ∧ BS G env1 h1 σ H2 ∧ Xt env h σ H env1 h1 H2 ∧ RvRep G env1 h1 σ H2 r v ∧ Fsh H r v := by
  rcases o with ⟨rfl, w, q, r⟩ | ⟨p, o, n, rfl, rfl, ⟨w, q, r⟩ | ⟨c, q, r⟩⟩
  · exact ⟨_, q, S, x, r, trivial⟩
  · have nw : New H1 (upd H1 p o) := New.upd n
    exact ⟨_, q, nw.bs S, x.trans nw.xt, r, trivial⟩
  · obtain ⟨a, b, c, d⟩ := own_new S x n fun _ => r
    exact ⟨_, q, a, b, c, d⟩
end
/-! ### operations on two -/
abbrev Op2 := Vw → Vw → (RV → Prop) → Prop
structure OpA (K : PySem.W.Frag) (r : R2) (o : Op2) : Prop where
  mono : ∀ a b Q Q', (∀ r, Q r → Q' r) → o a b Q → o a b Q'
  ok : ∀ a b x y H Q0 Q, VR K H a x → VR K H b y → o a b Q0 → (∀ v H', OutR K H Q0 v H' → Q v H') → r x y H Q
def aOp2 (o : Op2) (ta tb : AT) : AT := fun env h Q => ta env h fun rx env1 h1 => tb env1 h1 fun ry env2 h2 => o (view env2 h2 rx) (view env2 h2 ry) fun r => Q r env2 h2
theorem aOp2.mono {K : PySem.W.Frag} {r : R2} {o : Op2} (oa : OpA K r o) {ta tb : AT} (a : Mono ta) (b : Mono tb) : Mono (aOp2 o ta tb) := fun env h Q Q' k q =>
  a env h _ _ (fun rx e g z => b e g _ _ (fun ry e2 g2 z2 => oa.mono _ _ _ _ (fun r z3 => k _ _ _ z3) z2) z) q
section
variable {X : Cx} {G : Gx}
theorem two_step {ta tb : AT} {o : Op2} {r : R2} (ma : Mono ta) (mb : Mono tb) (oa : OpA G.K r o) {σ : L2.St} {H : Hp} {Q : VK} (q : cE G (aOp2 o ta tb) σ H Q) : tOp r (cE G ta) (cE G tb) σ H Q := by
  obtain ⟨env, h, S, q⟩ := q
  refine ⟨env, h, S, ma env h _ _ (fun rx env1 h1 z x H1 S1 x1 r1 f1 => ?_) q⟩
  refine ⟨env1, h1, S1, mb env1 h1 _ _ (fun ry env2 h2 z2 y H2 S2 x2 r2 f2 => ?_) z⟩
  refine oa.ok _ _ _ _ _ _ _ ((r1.xt S1 x2).vr S2) (r2.vr S2) z2 fun v H3 out => ?_
  obtain ⟨res, q0, S3, x3, r3, f3⟩ := out.end S2 (x1.trans x2)
  exact q0 v H3 S3 x3 r3 f3
theorem ae_op {op : Operator} {r : R2} {o : Op2} {a b : Expr} {ta tb : AT} {pos : Pos} (ho : OpR X (binaryOp op) r) (oa : OpA G.K r o) (ha : AE X G a ta) (hb : AE X G b tb) : AE X G (.BinOp a op b pos) (aOp2 o ta tb) :=
  ⟨aOp2.mono oa ha.mono hb.mono, PE.imp (pe_op ho ha.pe hb.pe) fun _ _ _ q => two_step ha.mono hb.mono oa q⟩
theorem ae_cmp {op : CmpOp} {r : R2} {o : Op2} {a b : Expr} {ta tb : AT} {pos : Pos} (ho : OpR X (compareOp op) r) (oa : OpA G.K r o) (ha : AE X G a ta) (hb : AE X G b tb) (hm : behindInMarks op b = false) : AE X G (.Compare a [op] [b] pos) (aOp2 o ta tb) :=
  ⟨aOp2.mono oa ha.mono hb.mono, PE.imp (pe_cmpR ho ha.pe hb.pe hm) fun _ _ _ q => two_step ha.mono hb.mono oa q⟩
end
theorem OpA.or {K : PySem.W.Frag} {r r' : R2} {o o' : Op2} (a : OpA K r o) (b : OpA K r' o') : OpA K (fun x y H Q => r x y H Q ∨ r' x y H Q) (fun x y Q => o x y Q ∨ o' x y Q) :=
  ⟨fun x y Q Q' k q => q.elim (fun z => .inl (a.mono x y Q Q' k z)) fun z => .inr (b.mono x y Q Q' k z), fun x y u v H Q0 Q r1 r2 q k => q.elim (fun z => .inl (a.ok x y u v H Q0 Q r1 r2 z k)) fun z => .inr (b.ok x y u v H Q0 Q r1 r2 z k)⟩
/-- the same by another reading of what is asked -/
theorem OpA.as {K : PySem.W.Frag} {r : R2} {o o' : Op2} (a : OpA K r o) (i : ∀ x y Q, o' x y Q → o x y Q) (m : ∀ a b Q Q', (∀ r, Q r → Q' r) → o' a b Q → o' a b Q') : OpA K r o' := ⟨m, fun x y u v H Q0 Q r1 r2 q k => a.ok x y u v H Q0 Q r1 r2 (i _ _ _ q) k⟩
/-- two ints -/
def oII (C : Int → Int → Prop) (g : Int → Int → W) : Op2 := fun a b Q => match a, b with
  | .wv (.int i), .wv (.int j) => C i j ∧ Q (.val (g i j))
  | _, _ => False
theorem oII.mono {C : Int → Int → Prop} {g : Int → Int → W} (a b : Vw) (Q Q' : RV → Prop) (k : ∀ r, Q r → Q' r) (q : oII C g a b Q) : oII C g a b Q' := by
  unfold oII at q ⊢
  split at q
  · exact ⟨q.1, k _ q.2⟩
  · exact q.elim
theorem oII.get {C : Int → Int → Prop} {g : Int → Int → W} {a b : Vw} {Q : RV → Prop} (q : oII C g a b Q) : ∃ i j, a = .wv (.int i) ∧ b = .wv (.int j) ∧ C i j ∧ Q (.val (g i j)) := by
  unfold oII at q
  split at q
  · exact ⟨_, _, rfl, rfl, q⟩
  · exact q.elim
theorem opa_int {K : PySem.W.Frag} {C : Int → Int → Prop} {g : Int → Int → V} {g' : Int → Int → W} (hg : ∀ H i j, Rep K H (g' i j) (g i j)) : OpA K (rI C g) (oII C g') :=
  ⟨fun a b Q Q' k q => oII.mono a b Q Q' k q, fun a b x y H Q0 Q ra rb q k => by
    obtain ⟨i, j, rfl, rfl, c, q⟩ := q.get
    exact ⟨i, j, ra.int, rb.int, c, k _ _ (.val q (hg H i j))⟩⟩
theorem opa_int0 {K : PySem.W.Frag} {g : Int → Int → V} {g' : Int → Int → W} (hg : ∀ H i j, Rep K H (g' i j) (g i j)) : OpA K (rI0 g) (oII (fun _ _ => True) g') :=
  ⟨fun a b Q Q' k q => oII.mono a b Q Q' k q, fun a b x y H Q0 Q ra rb q k => by
    obtain ⟨i, j, rfl, rfl, c, q⟩ := q.get
    exact ⟨i, j, ra.int, rb.int, k _ _ (.val q (hg H i j))⟩⟩
def CMod (_ j : Int) : Prop := 0 < j
section
variable {X : Cx} {G : Gx} {a b : Expr} {ta tb : AT} {pos : Pos}
/-! ### ints -/
theorem ae_sub (ha : AE X G a ta) (hb : AE X G b tb) : AE X G (.BinOp a .Sub b pos) (aOp2 (oII (fun _ _ => True) fun i j => .int (i - j)) ta tb) := ae_op op_sub (opa_int0 fun _ _ _ => .int) ha hb
theorem ae_mod (ha : AE X G a ta) (hb : AE X G b tb) : AE X G (.BinOp a .Mod b pos) (aOp2 (oII CMod fun i j => .int (i % j)) ta tb) := ae_op op_mod (opa_int (C := fun _ j => 0 < j) fun _ _ _ => .int) ha hb
theorem ae_fdiv (ha : AE X G a ta) (hb : AE X G b tb) : AE X G (.BinOp a .FloorDiv b pos) (aOp2 (oII CDivW fun i j => .int (i / j)) ta tb) := ae_op op_fdivW (opa_int fun _ _ _ => .int) ha hb
theorem ae_lt (ha : AE X G a ta) (hb : AE X G b tb) : AE X G (.Compare a [.Lt] [b] pos) (aOp2 (oII (fun _ _ => True) fun i j => .bl (decide (i < j))) ta tb) := ae_cmp op_lt (opa_int0 fun _ _ _ => .bl) ha hb (nomark _)
theorem ae_le (ha : AE X G a ta) (hb : AE X G b tb) : AE X G (.Compare a [.LtE] [b] pos) (aOp2 (oII (fun _ _ => True) fun i j => .bl (decide (i ≤ j))) ta tb) := ae_cmp op_le (opa_int0 fun _ _ _ => .bl) ha hb (nomark _)
theorem ae_gt (ha : AE X G a ta) (hb : AE X G b tb) : AE X G (.Compare a [.Gt] [b] pos) (aOp2 (oII (fun _ _ => True) fun i j => .bl (decide (j < i))) ta tb) := ae_cmp op_gt (opa_int0 fun _ _ _ => .bl) ha hb (nomark _)
theorem ae_ge (ha : AE X G a ta) (hb : AE X G b tb) : AE X G (.Compare a [.GtE] [b] pos) (aOp2 (oII (fun _ _ => True) fun i j => .bl (decide (j ≤ i))) ta tb) := ae_cmp op_ge (opa_int0 fun _ _ _ => .bl) ha hb (nomark _)
end
end Ab

namespace Ab
open PySem PySem.Spec PyProof.Rows L2
section
variable {X : Cx}
/-- a list that may be read now -/
theorem rd_get {pins : List (Addr × Obj)} {σ : L2.St} {H : Hp} {s : Shared} {l : Addr} {xs : List V} (I : Inv X pins σ H s) (r : Rd H l (.lst xs)) :
    xs.length ≤ sizeLine ∧ ∃ (us : List Value) (n : Nat), Vals xs us ∧ s.heap.get? l = some { cls := .type "list", data := .seq us.toArray n } := r.ok I.hok
/-- list + list, whoever owns them -/
def rCatR : R2 := fun x y H Q => ∃ l b xs zs, x = .ref l ∧ y = .ref b ∧ Rd H l (.lst xs) ∧ Rd H b (.lst zs) ∧ xs.length + zs.length ≤ sizeLine ∧ ∀ p, H p = none → Q (.ref p) (upd H p (.lst (xs ++ zs)))
theorem op_catR : OpR X (binaryOp .Add) rCatR := fun pins s σ H x y v u Q I rx ry h => by
  obtain ⟨l, b, xs, zs, rfl, rfl, h1, h2, hz, q⟩ := h
  obtain rfl : v = .ref l := rx
  obtain rfl : u = .ref b := ry
  obtain ⟨_, us, n, r1, e1⟩ := rd_get I h1
  obtain ⟨_, ws, m, r2, e2⟩ := rd_get I h2
  have z : us.toArray.size + ws.toArray.size ≤ sizeLine := by
    rw [List.size_toArray, List.size_toArray, ← r1.length, ← r2.length]; exact hz
  have w := r1.append r2
  refine PySem.P.add_list e1 e2 ?_ z
  rw [show us.toArray ++ ws.toArray = (us ++ ws).toArray from by simp]
  refine ⟨.ref _, _, I.lnew (t' := s.toks) w ?_, rfl, q _ I.fresh⟩
  rw [List.length_append]; exact hz
end
def oCat : Op2 := fun a b Q => ∃ xs ys, a.seq = some xs ∧ b.seq = some ys ∧ xs.length + ys.length ≤ sizeLine ∧ Q (.own (.seq (xs ++ ys)))
theorem opa_cat {K : PySem.W.Frag} : OpA K rCatR oCat :=
  ⟨fun a b Q Q' k ⟨xs, ys, e, f, z, q⟩ => ⟨xs, ys, e, f, z, k _ q⟩, fun a b x y H Q0 Q ra rb q k => by
    obtain ⟨xs, ys, e, f, z, q⟩ := q
    obtain ⟨p, vs, rfl, d1, r1⟩ := ra.seq e
    obtain ⟨p', us, rfl, d2, r2⟩ := rb.seq f
    exact ⟨p, p', vs, us, rfl, rfl, d1, d2, by rw [← r1.length, ← r2.length]; exact z, fun l n => k _ _ (.lst n q (r1.append r2))⟩⟩
def oCatT : Op2 := fun a b Q => ∃ xs ys, a.tpl = some xs ∧ b.tpl = some ys ∧ xs.length + ys.length ≤ sizeLine ∧ Q (.val (.tup (xs ++ ys)))
theorem opa_catT {K : PySem.W.Frag} : OpA K (rCatA K) oCatT :=
  ⟨fun a b Q Q' k ⟨xs, ys, e, f, z, q⟩ => ⟨xs, ys, e, f, z, k _ q⟩, fun a b x y H Q0 Q ra rb q k => by
    obtain ⟨xs, ys, e, f, z, q⟩ := q
    obtain ⟨p, vs, rfl, d1, r1⟩ := ra.tpl e
    obtain ⟨p', us, rfl, d2, r2⟩ := rb.tpl f
    refine ⟨p, p', vs, us, rfl, rfl, d1, d2, by rw [← r1.length, ← r2.length]; exact z, fun h0 => ?_, fun _ h0 => ?_, fun _ _ l n => k _ _ (.tup n q (r1.append r2))⟩
    · have e0 : xs = [] := List.eq_nil_of_length_eq_zero (by rw [r1.length, h0]; rfl)
      subst e0
      exact k _ _ (.val q (.tup d2 r2))
    · have e0 : ys = [] := List.eq_nil_of_length_eq_zero (by rw [r2.length, h0]; rfl)
      subst e0
      rw [List.append_nil] at q
      exact k _ _ (.val q (.tup d1 r1))⟩
def oCatS : Op2 := fun a b Q => match a, b with
  | .wv (.str x), .wv (.str y) => x.length + y.length ≤ sizeLine ∧ Q (.val (.str (x ++ y)))
  | _, _ => False
theorem opa_catS {K : PySem.W.Frag} : OpA K (fun x y H Q => ∃ i j, x = .str i ∧ y = .str j ∧ i.length + j.length ≤ sizeLine ∧ Q (.str (i ++ j)) H) oCatS :=
  ⟨fun a b Q Q' k q => by
    unfold oCatS at q ⊢
    split at q
    · exact ⟨q.1, k _ q.2⟩
    · exact q.elim, fun a b x y H Q0 Q ra rb q k => by
    unfold oCatS at q
    split at q
    · exact ⟨_, _, ra.str, rb.str, q.1, k _ _ (.val q.2 .str)⟩
    · exact q.elim⟩
/-- + : what it asks and gives by what stands on its sides -/
def oAdd : Op2 := fun a b Q => match a, b with
  | .wv (.int i), .wv (.int j) => Q (.val (.int (i + j)))
  | .wv (.str x), .wv (.str y) => x.length + y.length ≤ sizeLine ∧ Q (.val (.str (x ++ y)))
  | .wv (.tup xs), .wv (.tup ys) => xs.length + ys.length ≤ sizeLine ∧ Q (.val (.tup (xs ++ ys)))
  | .wv (.lst xs), .wv (.lst ys) => xs.length + ys.length ≤ sizeLine ∧ Q (.own (.seq (xs ++ ys)))
  | .wv (.lst xs), .cv (.seq ys) => xs.length + ys.length ≤ sizeLine ∧ Q (.own (.seq (xs ++ ys)))
  | .cv (.seq xs), .wv (.lst ys) => xs.length + ys.length ≤ sizeLine ∧ Q (.own (.seq (xs ++ ys)))
  | .cv (.seq xs), .cv (.seq ys) => xs.length + ys.length ≤ sizeLine ∧ Q (.own (.seq (xs ++ ys)))
  | _, _ => False
theorem oAdd.as (a b : Vw) (Q : RV → Prop) (q : oAdd a b Q) : ((oII (fun _ _ => True) (fun i j => .int (i + j)) a b Q ∨ oCatS a b Q) ∨ oCatT a b Q) ∨ oCat a b Q := by
  unfold oAdd at q
  split at q
  · exact .inl (.inl (.inl ⟨trivial, q⟩))
  · exact .inl (.inl (.inr q))
  · exact .inl (.inr ⟨_, _, rfl, rfl, q⟩)
  · exact .inr ⟨_, _, rfl, rfl, q⟩
  · exact .inr ⟨_, _, rfl, rfl, q⟩
  · exact .inr ⟨_, _, rfl, rfl, q⟩
  · exact .inr ⟨_, _, rfl, rfl, q⟩
  · exact q.elim
theorem oAdd.mono (a b : Vw) (Q Q' : RV → Prop) (k : ∀ r, Q r → Q' r) (q : oAdd a b Q) : oAdd a b Q' := by
  unfold oAdd at q ⊢
  split at q <;> first | exact ⟨q.1, k _ q.2⟩ | exact k _ q | exact q.elim
section
variable {X : Cx} {G : Gx} {a b c : Expr} {ta tb tc : AT} {pos : Pos}
theorem ae_add (gk : G.K = X.K) (ha : AE X G a ta) (hb : AE X G b tb) : AE X G (.BinOp a .Add b pos) (aOp2 oAdd ta tb) :=
  ae_op (((op_add.or op_add_str).or op_catA).or op_catR) ((((opa_int0 fun _ _ _ => .int).or opa_catS).or (gk ▸ opa_catT)).or opa_cat |>.as (o' := oAdd) oAdd.as oAdd.mono) ha hb
end
/-! ### == and != of data at any depth -/
mutual
def W.pd : W → PyData
  | .non => .none
  | .bl b => .bool b
  | .int i => .int i
  | .str x => .str x
  | .tup xs => .tuple (W.pds xs)
  | .lst xs => .list (W.pds xs)
  | .dct _ _ => .none
  | .ref _ => .none
  | .ty _ => .none
def W.pds : List W → List PyData
  | [] => []
  | x :: xs => x.pd :: W.pds xs
end
/-- data alone, nested at most so deep -/
def W.dat : Nat → W → Bool
  | _, .non => true
  | _, .bl _ => true
  | _, .int _ => true
  | _, .str _ => true
  | n + 1, .tup xs => xs.all (W.dat n)
  | n + 1, .lst xs => xs.all (W.dat n)
  | _, _ => false
theorem W.depth_all {n : Nat} : ∀ xs : List W, (∀ x ∈ xs, x.pd.depth ≤ n) → PyData.depthAll (W.pds xs) ≤ n
  | [], _ => Nat.zero_le _
  | x :: xs, h => by
    simp only [W.pds, PyData.depthAll]
    exact Nat.max_le.mpr ⟨h x List.mem_cons_self, W.depth_all xs fun y hy => h y (List.mem_cons_of_mem _ hy)⟩
theorem W.dat_depth : ∀ (n : Nat) (w : W), w.dat n = true → w.pd.depth ≤ n
  | _, .non, _ => by simp only [W.pd, PyData.depth]; omega
  | _, .bl _, _ => by simp only [W.pd, PyData.depth]; omega
  | _, .int _, _ => by simp only [W.pd, PyData.depth]; omega
  | _, .str _, _ => by simp only [W.pd, PyData.depth]; omega
  | 0, .tup _, h => by simp [W.dat] at h
  | 0, .lst _, h => by simp [W.dat] at h
  | n + 1, .tup xs, h => by
    simp only [W.pd, PyData.depth]
    have z := W.depth_all xs fun x hx => W.dat_depth n x (List.all_eq_true.mp (by simpa only [W.dat] using h) x hx)
    omega
  | n + 1, .lst xs, h => by
    simp only [W.pd, PyData.depth]
    have z := W.depth_all xs fun x hx => W.dat_depth n x (List.all_eq_true.mp (by simpa only [W.dat] using h) x hx)
    omega
  | n, .dct _ _, h => by simp [W.dat] at h
  | n, .ref _, h => by simp [W.dat] at h
  | n, .ty _, h => by simp [W.dat] at h
mutual
theorem W.pd_plain : ∀ w : W, w.pd.plain = true
  | .non => rfl
  | .bl _ => rfl
  | .int _ => rfl
  | .str _ => rfl
  | .tup xs => by simp only [W.pd, PyData.plain]; exact W.pds_plain xs
  | .lst xs => by simp only [W.pd, PyData.plain]; exact W.pds_plain xs
  | .dct _ _ => rfl
  | .ref _ => rfl
  | .ty _ => rfl
theorem W.pds_plain : ∀ ws : List W, PyData.plainAll (W.pds ws) = true
  | [] => rfl
  | w :: ws => by simp only [W.pds, PyData.plainAll, Bool.and_eq_true]; exact ⟨W.pd_plain w, W.pds_plain ws⟩
end
section
variable {K : PySem.W.Frag} {H : Hp}
theorem rd_sq {a : Addr} {vs : List V} (h : Rd H a (.lst vs)) : SqL K H a vs := .inl h
theorem RepL.dp {n : Nat} (ih : ∀ (w : W) (v : V), Rep K H w v → w.dat n = true → Dp K H v w.pd) : ∀ (ws : List W) (vs : List V), RepL K H ws vs → ws.all (W.dat n) = true → DpAll K H vs (W.pds ws)
  | [], vs, r, _ => by rw [r.of_nil]; exact .nil
  | w :: ws, vs, r, d => by
    obtain ⟨v, t, rfl, a, b⟩ := r.of_cons
    rw [List.all_cons, Bool.and_eq_true] at d
    exact .cons (ih w v a d.1) (RepL.dp ih ws t b d.2)
theorem Rep.dp : ∀ (n : Nat) (w : W) (v : V), Rep K H w v → w.dat n = true → Dp K H v w.pd
  | _, .non, _, r, _ => by rw [Rep.of_non (K := K) (H := H) r]; exact .non
  | _, .bl _, _, r, _ => by rw [Rep.of_bl (K := K) (H := H) r]; exact .bl _
  | _, .int _, _, r, _ => by rw [Rep.of_int (K := K) (H := H) r]; exact .int _
  | _, .str _, _, r, _ => by rw [Rep.of_str (K := K) (H := H) r]; exact .str _
  | n + 1, .tup xs, v, r, d => by
    obtain ⟨a, vs, rfl, s, r⟩ := Rep.of_tup r
    simp only [W.pd]
    exact .tup s (RepL.dp (Rep.dp n) xs vs r (by simpa only [W.dat] using d))
  | n + 1, .lst xs, v, r, d => by
    obtain ⟨a, vs, rfl, ⟨o, s⟩, r⟩ := Rep.of_lst r
    simp only [W.pd]
    exact .lst (rd_sq (.inr ⟨o, s⟩)) (RepL.dp (Rep.dp n) xs vs r (by simpa only [W.dat] using d))
  | 0, .tup _, _, _, d => by simp [W.dat] at d
  | 0, .lst _, _, _, d => by simp [W.dat] at d
  | _, .dct _ _, _, _, d => by simp [W.dat] at d
  | _, .ref _, _, _, d => by simp [W.dat] at d
  | _, .ty _, _, _, d => by simp [W.dat] at d
end
theorem VR.dp {K : PySem.W.Frag} {H : Hp} {a : Vw} {v : V} {n : Nat} (r : VR K H a v) (d : a.toW.dat n = true) (nb : a ≠ .bad) : Dp K H v a.toW.pd := by
  cases a with
  | wv w => exact Rep.dp n w v r d
  | bad => exact absurd rfl nb
  | cv c =>
    cases c with
    | map kvs => simp [Vw.toW, Cont.fz, W.dat] at d
    | seq ws =>
      obtain ⟨p, rfl, vs, e, r⟩ := r
      have d : (W.lst ws).dat n = true := d
      cases n with
      | zero => simp [W.dat] at d
      | succ n =>
        simp only [W.dat] at d
        show Dp K H _ (W.lst ws).pd
        simp only [W.pd]
        exact .lst (rd_sq (.inl e)) (RepL.dp (Rep.dp n) ws vs r d)
/-- whether two data are equal, as == tells it -/
def eqw (a b : W) : Bool := PyData.eqv a.pd b.pd
def Vw.ok : Vw → Bool
  | .bad => false
  | v => v.toW.dat 60
theorem Vw.of_ok {a : Vw} (h : a.ok = true) : a.toW.dat 60 = true ∧ a ≠ .bad := by
  cases a with
  | bad => cases h
  | wv w => exact ⟨h, fun z => nomatch z⟩
  | cv c => exact ⟨h, fun z => nomatch z⟩
def oEq (neg : Bool) : Op2 := fun a b Q => a.ok = true ∧ b.ok = true ∧ Q (.val (.bl (if neg then !eqw a.toW b.toW else eqw a.toW b.toW)))
def rEqP (K : PySem.W.Frag) (neg : Bool) : R2 := fun x y H Q => ∃ d e, Dp K H x d ∧ Dp K H y e ∧ d.plain = true ∧ e.plain = true ∧ d.depth ≤ 60 ∧ Q (.bl (if neg then !PyData.eqv d e else PyData.eqv d e)) H
theorem opa_eq {K : PySem.W.Frag} {neg : Bool} : OpA K (rEqP K neg) (oEq neg) :=
  ⟨fun a b Q Q' k ⟨x, y, q⟩ => ⟨x, y, k _ q⟩, fun a b x y H Q0 Q ra rb ⟨da, db, q⟩ k =>
    ⟨_, _, ra.dp (Vw.of_ok da).1 (Vw.of_ok da).2, rb.dp (Vw.of_ok db).1 (Vw.of_ok db).2, W.pd_plain _, W.pd_plain _, W.dat_depth _ _ (Vw.of_ok da).1, k _ _ (.val q .bl)⟩⟩
section
variable {X : Cx} {G : Gx} {a b c : Expr} {ta tb tc : AT} {pos : Pos}
theorem op_eqP (hu : X.A.units + 64 < cLine) : OpR X (compareOp .Eq) (rEqP X.K false) := fun pins s σ H x y v u Q I rx ry ⟨d, e, hd, he, pd, pe, dp, q⟩ => by
  obtain ⟨as, r1⟩ := Dp.reads I d x v hd rx
  obtain ⟨bs, r2⟩ := Dp.reads I e y u he ry
  have z := Nat.min_le_left d.depth e.depth
  exact SeqAt.eq_plain r1 r2 pd pe (by omega) ⟨.bl _, H, I, rfl, q⟩
theorem op_neP (hu : X.A.units + 64 < cLine) : OpR X (compareOp .NotEq) (rEqP X.K true) := fun pins s σ H x y v u Q I rx ry ⟨d, e, hd, he, pd, pe, dp, q⟩ => by
  obtain ⟨as, r1⟩ := Dp.reads I d x v hd rx
  obtain ⟨bs, r2⟩ := Dp.reads I e y u he ry
  have z := Nat.min_le_left d.depth e.depth
  exact SeqAt.ne_plain r1 r2 pd pe (by omega) ⟨.bl _, H, I, rfl, q⟩
theorem ae_eq (gk : G.K = X.K) (hu : X.A.units + 64 < cLine) (ha : AE X G a ta) (hb : AE X G b tb) : AE X G (.Compare a [.Eq] [b] pos) (aOp2 (oEq false) ta tb) := ae_cmp (op_eqP hu) (gk ▸ opa_eq) ha hb (nomark _)
theorem ae_ne (gk : G.K = X.K) (hu : X.A.units + 64 < cLine) (ha : AE X G a ta) (hb : AE X G b tb) : AE X G (.Compare a [.NotEq] [b] pos) (aOp2 (oEq true) ta tb) := ae_cmp (op_neP hu) (gk ▸ opa_eq) ha hb (nomark _)
end
end Ab

namespace Ab
open PySem PySem.Spec PyProof.Rows L2
/-! ### is None; in -/
def Vw.isNon : Vw → Bool
  | .wv .non => true
  | _ => false
def oIsN (neg : Bool) : Op2 := fun a b Q => b = .wv .non ∧ a ≠ .bad ∧ Q (.val (.bl (if neg then !a.isNon else a.isNon)))
theorem VR.isN {K : PySem.W.Frag} {H : Hp} : ∀ {a : Vw} {v : V}, VR K H a v → a ≠ .bad → decide (v = .non) = a.isNon
  | .bad, _, _, nb => absurd rfl nb
  | .cv c, v, r, _ => by obtain ⟨p, e, _⟩ := r; subst e; rfl
  | .wv .non, v, r, _ => by have e := r.non; subst e; rfl
  | .wv (.bl b), v, r, _ => by have e := r.bl; subst e; rfl
  | .wv (.int b), v, r, _ => by have e := r.int; subst e; rfl
  | .wv (.str b), v, r, _ => by have e := r.str; subst e; rfl
  | .wv (.tup b), v, r, _ => by obtain ⟨p, vs, e, _⟩ := Rep.of_tup (K := K) (H := H) r; subst e; rfl
  | .wv (.lst b), v, r, _ => by obtain ⟨p, vs, e, _⟩ := Rep.of_lst (K := K) (H := H) r; subst e; rfl
  | .wv (.ref a), v, r, _ => by have e := Rep.of_ref (K := K) (H := H) r; subst e; rfl
  | .wv (.ty a), v, r, _ => by have e := Rep.of_ty (K := K) (H := H) r; subst e; rfl
  | .wv (.dct ks vs), v, r, _ => by
    have z : Rep K H (.dct ks vs) v := r
    simp only [Rep] at z
    obtain ⟨p, e, _⟩ := z; subst e; rfl
theorem opa_isN {K : PySem.W.Frag} : OpA K (fun x y H Q => y = .non ∧ Q (.bl (decide (x = .non))) H) (oIsN false) :=
  ⟨fun a b Q Q' k ⟨x, y, q⟩ => ⟨x, y, k _ q⟩, fun a b x y H Q0 Q ra rb ⟨e, nb, q⟩ k => by
    subst e
    refine ⟨rb.non, k _ _ (.val q ?_)⟩
    rw [ra.isN nb]
    exact .bl⟩
theorem opa_notN {K : PySem.W.Frag} : OpA K (fun x y H Q => y = .non ∧ Q (.bl (!decide (x = .non))) H) (oIsN true) :=
  ⟨fun a b Q Q' k ⟨x, y, q⟩ => ⟨x, y, k _ q⟩, fun a b x y H Q0 Q ra rb ⟨e, nb, q⟩ k => by
    subst e
    refine ⟨rb.non, k _ _ (.val q ?_)⟩
    rw [ra.isN nb]
    exact .bl⟩
def Vw.items : Vw → Option (List W)
  | .wv (.lst xs) => some xs
  | .wv (.tup xs) => some xs
  | .cv (.seq xs) => some xs
  | _ => none
theorem VR.items {K : PySem.W.Frag} {H : Hp} {a : Vw} {v : V} {xs : List W} (r : VR K H a v) (e : a.items = some xs) : ∃ p vs, v = .ref p ∧ (Rd H p (.lst vs) ∨ SqT K H p vs) ∧ RepL K H xs vs := by
  cases a with
  | bad => cases e
  | cv c =>
    cases c with
    | map _ => cases e
    | seq ws => obtain ⟨p, vs, a, b, c⟩ := r.seq e; exact ⟨p, vs, a, .inl b, c⟩
  | wv w =>
    cases w with
    | lst ws => obtain ⟨p, vs, a, b, c⟩ := r.seq e; exact ⟨p, vs, a, .inl b, c⟩
    | tup ws => obtain ⟨p, vs, a, b, c⟩ := r.tpl e; exact ⟨p, vs, a, .inr b, c⟩
    | _ => cases e
def memw (x : W) (xs : List W) : Bool := xs.any fun y => eqw y x
def oInL (neg : Bool) : Op2 := fun a b Q => ∃ xs, b.items = some xs ∧ a.ok = true ∧ xs.all (W.dat 60) = true ∧ Q (.val (.bl (if neg then !memw a.toW xs else memw a.toW xs)))
def rInP (K : PySem.W.Frag) (neg : Bool) : R2 := fun x y H Q => ∃ p vs d ds, y = .ref p ∧ (SqL K H p vs ∨ SqT K H p vs) ∧ Dp K H x d ∧ DpAll K H vs ds ∧ d.plain = true ∧ PyData.plainAll ds = true ∧ d.depth ≤ 60 ∧ Q (.bl (if neg then !(ds.any fun y => PyData.eqv y d) else ds.any fun y => PyData.eqv y d)) H
theorem any_pds (x : W) : ∀ xs : List W, ((W.pds xs).any fun y => PyData.eqv y x.pd) = memw x xs
  | [] => rfl
  | y :: ys => by
    simp only [W.pds, List.any_cons, memw]
    rw [any_pds x ys]; rfl
theorem opa_inL {K : PySem.W.Frag} {neg : Bool} : OpA K (rInP K neg) (oInL neg) :=
  ⟨fun a b Q Q' k ⟨xs, x, y, z, q⟩ => ⟨xs, x, y, z, k _ q⟩, fun a b x y H Q0 Q ra rb ⟨xs, e, da, db, q⟩ k => by
    obtain ⟨p, vs, rfl, hs, rv⟩ := rb.items e
    refine ⟨p, vs, _, _, rfl, hs.imp_left rd_sq, ra.dp (Vw.of_ok da).1 (Vw.of_ok da).2, RepL.dp (Rep.dp 60) xs vs rv db, W.pd_plain _, W.pds_plain _, W.dat_depth _ _ (Vw.of_ok da).1, k _ _ (.val q ?_)⟩
    rw [any_pds]
    exact .bl⟩
section
variable {X : Cx}
theorem in_get {pins : List (Addr × Obj)} {σ : L2.St} {H : Hp} {s : Shared} {p : Addr} {vs : List V} {ds : List PyData} (I : Inv X pins σ H s) (hq : SqL X.K H p vs ∨ SqT X.K H p vs) (hd : DpAll X.K H vs ds) : (∃ as, Reads s.heap (.ref p) (.list ds) as) ∨ ∃ as, Reads s.heap (.ref p) (.tuple ds) as := by
  rcases hq with hq | hq
  · exact .inl (Dp.reads I (.list ds) (.ref p) (.ref p) (.lst hq hd) rfl)
  · exact .inr (Dp.reads I (.tuple ds) (.ref p) (.ref p) (.tup hq hd) rfl)
theorem op_inP (hu : X.A.units + 64 < cLine) : OpR X (compareOp .In) (rInP X.K false) := fun pins s σ H x y v u Q I rx ry ⟨p, vs, d, ds, e, hq, hx, hd, pd, pe, dp, q⟩ => by
  subst e
  obtain rfl : u = .ref p := ry
  obtain ⟨as, r1⟩ := Dp.reads I d x v hx rx
  have z := Nat.min_le_right (PyData.depthAll ds) d.depth
  rcases in_get I hq hd with ⟨bs, r2⟩ | ⟨bs, r2⟩
  · exact SeqAt.in_list_data r2 r1 pe pd (by omega) ⟨.bl _, H, I, rfl, q⟩
  · exact SeqAt.in_tuple_data r2 r1 pe pd (by omega) ⟨.bl _, H, I, rfl, q⟩
theorem op_notInP (hu : X.A.units + 64 < cLine) : OpR X (compareOp .NotIn) (rInP X.K true) := fun pins s σ H x y v u Q I rx ry ⟨p, vs, d, ds, e, hq, hx, hd, pd, pe, dp, q⟩ => by
  subst e
  obtain rfl : u = .ref p := ry
  obtain ⟨as, r1⟩ := Dp.reads I d x v hx rx
  have z := Nat.min_le_right (PyData.depthAll ds) d.depth
  rcases in_get I hq hd with ⟨bs, r2⟩ | ⟨bs, r2⟩
  · exact SeqAt.notIn_list_data r2 r1 pe pd (by omega) ⟨.bl _, H, I, rfl, q⟩
  · exact SeqAt.notIn_tuple_data r2 r1 pe pd (by omega) ⟨.bl _, H, I, rfl, q⟩
end
/-! ### tests -/
def aTst (t : AT) : ABT := fun env h Q => t env h fun r env' h' => match view env' h' r with
  | .wv (.bl b) => Q b env' h'
  | _ => False
theorem aTst.mono {t : AT} (m : Mono t) : Mono (aTst t) := fun env h Q Q' k q => m env h _ _ (fun r e g z => by
  show match view e g r with
    | .wv (.bl b) => Q' b e g
    | _ => False
  have z : match view e g r with
    | .wv (.bl b) => Q b e g
    | _ => False := z
  split at z
  · exact k _ _ _ z
  · exact z) q
def aAndT (t u : ABT) : ABT := fun env h Q => t env h fun b env' h' => if b = true then u env' h' Q else Q false env' h'
def aOrT (t u : ABT) : ABT := fun env h Q => t env h fun b env' h' => if b = true then Q true env' h' else u env' h' Q
def aNotT (t : ABT) : ABT := fun env h Q => t env h fun b env' h' => Q (!b) env' h'
def aIfE (t : ABT) (a b : AT) : AT := fun env h Q => t env h fun c env' h' => if c = true then a env' h' Q else b env' h' Q
theorem aAndT.mono {t u : ABT} (m : Mono t) (n : Mono u) : Mono (aAndT t u) := fun env h Q Q' k q => m env h _ _ (fun b e g z => by
  cases b with
  | true => exact iteT (n e g _ _ k (by simpa using z))
  | false => exact iteF (k _ _ _ (by simpa using z))) q
theorem aOrT.mono {t u : ABT} (m : Mono t) (n : Mono u) : Mono (aOrT t u) := fun env h Q Q' k q => m env h _ _ (fun b e g z => by
  cases b with
  | true => exact iteT (k _ _ _ (by simpa using z))
  | false => exact iteF (n e g _ _ k (by simpa using z))) q
theorem aNotT.mono {t : ABT} (m : Mono t) : Mono (aNotT t) := fun env h Q Q' k q => m env h _ _ (fun b e g z => k _ _ _ z) q
theorem aIfE.mono {t : ABT} {a b : AT} (m : Mono t) (n : Mono a) (o : Mono b) : Mono (aIfE t a b) := fun env h Q Q' k q => m env h _ _ (fun c e g z => by
  cases c with
  | true => exact iteT (n e g _ _ k (by simpa using z))
  | false => exact iteF (o e g _ _ k (by simpa using z))) q
section
variable {X : Cx} {G : Gx} {a b c : Expr} {ta tb tc : AT} {t u : ABT} {pos : Pos} {rest : List Expr}
/-- a test by its value, a truth value -/
theorem ap_val (h : AE X G a ta) (hv : ∀ t : TE, PE X a t → PT X a (tTest t)) : AP X G a (aTst ta) := by
  refine ⟨aTst.mono h.mono, PT.imp (hv _ h.pe) fun σ H Q ⟨env, k, S, q⟩ => ?_⟩
  refine ⟨env, k, S, h.mono env k _ _ (fun r env1 h1 z v H1 S1 x1 r1 f1 => ?_) q⟩
  have r2 := r1.vr S1
  split at z
  · rename_i b e
    rw [e] at r2
    exact ⟨b, r2.bl, z H1 S1 x1⟩
  · exact z.elim
theorem ap_cmp {op : CmpOp} {r : R2} {o : Op2} (ho : OpR X (compareOp op) r) (oa : OpA G.K r o) (ha : AE X G a ta) (hb : AE X G b tb) (hm : behindInMarks op b = false) : AP X G (.Compare a [op] [b] pos) (aTst (aOp2 o ta tb)) := by
  refine ⟨aTst.mono (aOp2.mono oa ha.mono hb.mono), PT.imp (pt_cmpR ho ha.pe hb.pe hm) fun σ H Q ⟨env, k, S, q⟩ => ?_⟩
  refine two_step ha.mono hb.mono oa ⟨env, k, S, aOp2.mono oa ha.mono hb.mono env k _ _ (fun r env1 h1 z v H1 S1 x1 r1 f1 => ?_) q⟩
  have r2 := r1.vr S1
  split at z
  · rename_i b e
    rw [e] at r2
    exact ⟨b, r2.bl, z H1 S1 x1⟩
  · exact z.elim
theorem ap_not (h : AP X G a t) : AP X G (.UnaryOp .Not a pos) (aNotT t) :=
  ⟨aNotT.mono h.mono, PT.imp (pt_not h.pt) fun σ H Q ⟨env, k, S, q⟩ => ⟨env, k, S, q⟩⟩
structure AW (X : Cx) (G : Gx) (e : Expr) (t : ABT) : Prop where
  mono : Mono t
  pw : PW X e (cT G t)
theorem PW.imp {e : Expr} {t t' : TT} (h : PW X e t) (i : ∀ σ H Q, t' σ H Q → t σ H Q) : PW X e t' := ⟨fun w pins s σ H Q I q => h.run w pins s σ H Q I (i σ H Q q)⟩
theorem AW.ap (h : AW X G a t) : AP X G a t := ⟨h.mono, h.pw.pt⟩
theorem aw_and1 (h : AP X G a t) : AW X G (.BoolOp .And [a] pos) t := ⟨h.mono, pw_and1 h.pt⟩
theorem aw_or1 (h : AP X G a t) : AW X G (.BoolOp .Or [a] pos) t := ⟨h.mono, pw_or1 h.pt⟩
theorem and_step {σ : L2.St} {H : Hp} {Q : Bool → Hp → Prop} (mt : Mono t) (mu : Mono u) (q : cT G (aAndT t u) σ H Q) : tAnd (cT G t) (cT G u) σ H Q := by
  obtain ⟨env, k, S, q⟩ := q
  refine ⟨env, k, S, mt env k _ _ (fun b env1 h1 z H1 S1 x1 => ?_) q⟩
  cases b with
  | true =>
    rw [if_pos rfl] at z
    exact iteT ⟨env1, h1, S1, mu env1 h1 _ _ (fun c env2 h2 z2 H2 S2 x2 => z2 H2 S2 (x1.trans x2)) z⟩
  | false =>
    rw [if_neg Bool.false_ne_true] at z ⊢
    exact z H1 S1 x1
theorem or_step {σ : L2.St} {H : Hp} {Q : Bool → Hp → Prop} (mt : Mono t) (mu : Mono u) (q : cT G (aOrT t u) σ H Q) : tOr (cT G t) (cT G u) σ H Q := by
  obtain ⟨env, k, S, q⟩ := q
  refine ⟨env, k, S, mt env k _ _ (fun b env1 h1 z H1 S1 x1 => ?_) q⟩
  cases b with
  | false =>
    rw [if_neg Bool.false_ne_true] at z
    exact iteF ⟨env1, h1, S1, mu env1 h1 _ _ (fun c env2 h2 z2 H2 S2 x2 => z2 H2 S2 (x1.trans x2)) z⟩
  | true =>
    rw [if_pos rfl] at z ⊢
    exact z H1 S1 x1
theorem aw_and (ha : AP X G a t) (hb : AW X G (.BoolOp .And (b :: rest) pos) u) : AW X G (.BoolOp .And (a :: b :: rest) pos) (aAndT t u) :=
  ⟨aAndT.mono ha.mono hb.mono, PW.imp (pw_and ha.pt hb.pw) fun _ _ _ q => and_step ha.mono hb.mono q⟩
theorem aw_or (ha : AP X G a t) (hb : AW X G (.BoolOp .Or (b :: rest) pos) u) : AW X G (.BoolOp .Or (a :: b :: rest) pos) (aOrT t u) :=
  ⟨aOrT.mono ha.mono hb.mono, PW.imp (pw_or ha.pt hb.pw) fun _ _ _ q => or_step ha.mono hb.mono q⟩
theorem ae_if (hc : AP X G c t) (ha : AE X G a ta) (hb : AE X G b tb) : AE X G (.IfExp c a b pos) (aIfE t ta tb) := by
  refine ⟨aIfE.mono hc.mono ha.mono hb.mono, PE.imp (pe_ifExp hc.pt ha.pe hb.pe) fun σ H Q ⟨env, k, S, q⟩ => ?_⟩
  refine ⟨env, k, S, hc.mono env k _ _ (fun d env1 h1 z H1 S1 x1 => ?_) q⟩
  have fin : ∀ {t : AT}, Mono t → t env1 h1 (fun r env2 h2 => ∀ v H', BS G env2 h2 σ H' → Xt env k σ H env2 h2 H' → RvRep G env2 h2 σ H' r v → Fsh H r v → Q v H') → cE G t σ H1 Q := fun m y =>
    ⟨env1, h1, S1, m env1 h1 _ _ (fun r env2 h2 z2 v H2 S2 x2 r2 f2 => z2 v H2 S2 (x1.trans x2) r2 (by
      cases r with
      | own c => exact fun p e => x1.fresh (f2 p e)
      | _ => trivial)) y⟩
  cases d with
  | true => exact iteT (fin ha.mono (by simpa using z))
  | false => exact iteF (fin hb.mono (by simpa using z))
end
end Ab

namespace Ab
open PySem PySem.Spec PyProof.Rows L2
/-! ### places -/
theorem RepL.atI {K : PySem.W.Frag} {H : Hp} {ws : List W} {vs : List V} {i : Int} {w : W} (r : RepL K H ws vs) (e : L2.atI ws i = some w) : ∃ v, L2.atI vs i = some v ∧ Rep K H w v := by
  unfold L2.atI at e ⊢
  rw [← r.length]
  cases q : ixN ws.length i with
  | none => rw [q] at e; cases e
  | some j =>
    rw [q] at e
    exact r.get (i := j) e
def oIx : Op2 := fun a b Q => match b with
  | .wv (.int i) => match a with
    | .wv (.str x) => x.length ≤ sizeLine ∧ ∃ c, L2.atI x.cps.toList i = some c ∧ Q (.val (.str ⟨#[c]⟩))
    | a => ∃ xs w, a.items = some xs ∧ L2.atI xs i = some w ∧ Q (.val w)
  | _ => False
theorem oIx.mono (a b : Vw) (Q Q' : RV → Prop) (k : ∀ r, Q r → Q' r) (q : oIx a b Q) : oIx a b Q' := by
  unfold oIx at q ⊢
  split at q
  · split at q
    · obtain ⟨z, c, e, q⟩ := q; exact ⟨z, c, e, k _ q⟩
    · obtain ⟨xs, w, e, f, q⟩ := q; exact ⟨xs, w, e, f, k _ q⟩
  · exact q
theorem opa_ix {K : PySem.W.Frag} : OpA K (rIx K) oIx :=
  ⟨oIx.mono, fun a b x y H Q0 Q ra rb q k => by
    unfold oIx at q
    split at q
    · rename_i i
      split at q
      · obtain ⟨z, c, e, q⟩ := q
        exact .inr (.inr ⟨_, i, c, ra.str, rb.int, z, e, k _ _ (.val q .str)⟩)
      · obtain ⟨xs, w, e, f, q⟩ := q
        obtain ⟨p, vs, rfl, hs, rv⟩ := ra.items e
        obtain ⟨v, g, r⟩ := rv.atI f
        rcases hs with hs | hs
        · exact .inl ⟨p, vs, i, v, rfl, rb.int, rd_sq hs, g, k _ _ (.val q r)⟩
        · exact .inr (.inl ⟨p, vs, i, v, rfl, rb.int, hs, g, k _ _ (.val q r)⟩)
    · exact q.elim⟩
section
variable {X : Cx} {G : Gx} {a b c : Expr} {ta tb tc : AT} {pos : Pos}
theorem ae_ix (gk : G.K = X.K) (ha : AE X G a ta) (hb : AE X G b tb) (hs : PlainIx b) : AE X G (.Subscript a b pos) (aOp2 oIx ta tb) :=
  ⟨aOp2.mono (opa_ix (K := G.K)) ha.mono hb.mono, PE.imp (pe_ix ix_seq ha.pe hb.pe hs) fun _ _ _ q => two_step ha.mono hb.mono (gk ▸ opa_ix) q⟩
end
/-! ### slices -/
abbrev AOT := AEnv → AH → (Option Int → AEnv → AH → Prop) → Prop
def cO (G : Gx) (t : AOT) : TO := fun σ H Q => ∃ env h, BS G env h σ H ∧ t env h fun o env' h' => ∀ H', BS G env' h' σ H' → Xt env h σ H env' h' H' → Q o H'
structure AOp (X : Cx) (G : Gx) (e : Option Expr) (t : AOT) : Prop where
  mono : Mono t
  po : PO X e (cO G t)
def aNoPart : AOT := fun env h Q => Q none env h
def aPart (t : AT) : AOT := fun env h Q => t env h fun r env' h' => match view env' h' r with
  | .wv (.int i) => Q (some i) env' h'
  | _ => False
theorem PO.imp {X : Cx} {e : Option Expr} {t t' : TO} (h : PO X e t) (i : ∀ σ H Q, t' σ H Q → t σ H Q) : PO X e t' := ⟨fun pins s σ H Q I q => h.run pins s σ H Q I (i σ H Q q)⟩
section
variable {X : Cx} {G : Gx} {a b c : Expr} {ta tb tc : AT} {pos p2 : Pos} {lo hi : Option Expr} {tl th : AOT}
theorem ao_none : AOp X G none aNoPart := ⟨fun env h Q Q' k q => k _ _ _ q, PO.imp po_none fun σ H Q ⟨env, h, S, q⟩ => q H S .refl⟩
theorem ao_some (ha : AE X G a ta) : AOp X G (some a) (aPart ta) := by
  refine ⟨fun env h Q Q' k q => ha.mono env h _ _ (fun r e g z => ?_) q, PO.imp (po_some ha.pe) fun σ H Q ⟨env, h, S, q⟩ => ?_⟩
  · split at z
    · exact k _ _ _ z
    · exact z
  · refine ⟨env, h, S, ha.mono env h _ _ (fun r env1 h1 z v H1 S1 x1 r1 f1 => ?_) q⟩
    have r2 := r1.vr S1
    split at z
    · rename_i i e
      rw [e] at r2
      exact ⟨i, r2.int, z H1 S1 x1⟩
    · exact z.elim
def cutW (xs : List W) (lo hi : Option Int) : List W := (xs.drop (HT.sIx xs.length 0 lo)).take (HT.sIx xs.length xs.length hi - HT.sIx xs.length 0 lo)
def oSl (a : Vw) (lo hi : Option Int) (Q : RV → Prop) : Prop := match a with
  | .wv (.str x) => x.length ≤ sizeLine ∧ Q (.val (.str (Txt.slice x lo hi)))
  | .wv (.tup xs) => Q (.val (.tup (cutW xs lo hi)))
  | .wv (.lst xs) => Q (.own (.seq (cutW xs lo hi)))
  | .cv (.seq xs) => Q (.own (.seq (cutW xs lo hi)))
  | _ => False
theorem oSl.mono {a : Vw} {lo hi : Option Int} {Q Q' : RV → Prop} (k : ∀ r, Q r → Q' r) (q : oSl a lo hi Q) : oSl a lo hi Q' := by
  unfold oSl at q ⊢
  split at q <;> first | exact ⟨q.1, k _ q.2⟩ | exact k _ q | exact q.elim
def aSl (ta : AT) (tl th : AOT) : AT := fun env h Q => ta env h fun r env1 h1 => tl env1 h1 fun lo env2 h2 => th env2 h2 fun hi env3 h3 => oSl (view env3 h3 r) lo hi fun r => Q r env3 h3
theorem RepL.cut {K : PySem.W.Frag} {H : Hp} {ws : List W} {vs : List V} (r : RepL K H ws vs) (lo hi : Option Int) : RepL K H (cutW ws lo hi) (cutV vs lo hi) := by
  unfold cutW cutV
  rw [← r.length]
  exact (r.drop _).take _
theorem cut_whole {ws : List W} {lo hi : Option Int} (h : HT.sIx ws.length 0 lo = 0 ∧ HT.sIx ws.length ws.length hi = ws.length) : cutW ws lo hi = ws := by
  unfold cutW
  rw [h.1, h.2]
  simp
theorem ae_slice (gk : G.K = X.K) (ha : AE X G a ta) (hl : AOp X G lo tl) (hu : AOp X G hi th) : AE X G (.Subscript a (.Slice lo hi none p2) pos) (aSl ta tl th) := by
  refine ⟨fun env h Q Q' k q => ha.mono env h _ _ (fun r e g z => hl.mono e g _ _ (fun l e g z => hu.mono e g _ _ (fun u e g z => oSl.mono (fun r q => k _ _ _ q) z) z) z) q, PE.imp (pe_slice ((C8.sl_txt.or sl_tupA).or sl_list) ha.pe hl.po hu.po) fun σ H Q ⟨env, h, S, q⟩ => ?_⟩
  refine ⟨env, h, S, ha.mono env h _ _ (fun r env1 h1 z v H1 S1 x1 r1 f1 => ?_) q⟩
  refine ⟨env1, h1, S1, hl.mono env1 h1 _ _ (fun l env2 h2 z H2 S2 x2 => ?_) z⟩
  refine ⟨env2, h2, S2, hu.mono env2 h2 _ _ (fun u env3 h3 z H3 S3 x3 => ?_) z⟩
  have rr := ((r1.xt S1 x2).xt S2 x3).vr S3
  have fin : ∀ {v : V} {H' : Hp}, OutR G.K H3 (fun r => ∀ v H', BS G env3 h3 σ H' → Xt env h σ H env3 h3 H' → RvRep G env3 h3 σ H' r v → Fsh H r v → Q v H') v H' → Q v H' := fun o => by
    obtain ⟨res, q0, a, b, c, d⟩ := o.end S3 (x1.trans (x2.trans x3))
    exact q0 _ _ a b c d
  unfold oSl at z
  split at z
  · rename_i x e
    rw [e] at rr
    exact .inl (.inl ⟨x, rr.str, z.1, fin (.val z.2 .str)⟩)
  · rename_i xs e
    rw [e] at rr
    obtain ⟨p, vs, rfl, hs, rv⟩ := rr.tpl rfl
    refine .inl (.inr ⟨p, vs, rfl, gk ▸ hs, fun y => ?_, fun _ m n => fin (.tup n z (rv.cut _ _))⟩)
    rw [← rv.length] at y
    rw [cut_whole y] at z
    exact fin (.val z (.tup hs rv))
  · rename_i xs e
    rw [e] at rr
    obtain ⟨p, vs, rfl, hs, rv⟩ := rr.seq rfl
    exact .inr ⟨p, vs, rfl, rd_sq hs, fun m n => fin (.lst n z (rv.cut _ _))⟩
  · rename_i xs e
    rw [e] at rr
    obtain ⟨p, vs, rfl, hs, rv⟩ := rr.seq rfl
    exact .inr ⟨p, vs, rfl, rd_sq hs, fun m n => fin (.lst n z (rv.cut _ _))⟩
  · exact z.elim
/-! ### calls of built-ins: what is handed in is borrowed -/
abbrev ART := AEnv → AH → (List RV → AEnv → AH → Prop) → Prop
inductive RvL (G : Gx) (env : AEnv) (h : AH) (σ : L2.St) (H : Hp) : List RV → List V → Prop where
  | nil : RvL G env h σ H [] []
  | cons {r : RV} {rs : List RV} {v : V} {vs : List V} : RvRep G env h σ H r v → RvL G env h σ H rs vs → RvL G env h σ H (r :: rs) (v :: vs)
def cR (G : Gx) (t : ART) : TA := fun σ H Q => ∃ env h, BS G env h σ H ∧ t env h fun rs env' h' => ∀ vs H', BS G env' h' σ H' → Xt env h σ H env' h' H' → RvL G env' h' σ H' rs vs → Q vs H'
structure AR (X : Cx) (G : Gx) (es : List Expr) (t : ART) : Prop where
  mono : Mono t
  pa : PA X es (cR G t)
def rNil : ART := fun env h Q => Q [] env h
def rCons (t : AT) (u : ART) : ART := fun env h Q => t env h fun r env' h' => u env' h' fun rs env2 h2 => Q (r :: rs) env2 h2
theorem ar_nil : AR X G [] rNil := ⟨fun env h Q Q' k q => k _ _ _ q, PA.imp pa_nil fun σ H Q ⟨env, h, S, q⟩ => q [] H S .refl .nil⟩
theorem ar_cons {e : Expr} {es : List Expr} {t : AT} {u : ART} (a : AE X G e t) (b : AR X G es u) (hs : starEach (e :: es) X.env = (false, eval e X.env) :: starEach es X.env := by rfl) : AR X G (e :: es) (rCons t u) := by
  refine ⟨fun env h Q Q' k q => a.mono env h _ _ (fun r e g z => b.mono e g _ _ (fun rs e2 g2 z2 => k _ _ _ z2) z) q, PA.imp (pa_cons a.pe b.pa hs) fun σ H Q ⟨env, h, S, q⟩ => ?_⟩
  refine ⟨env, h, S, a.mono env h _ _ (fun r env1 h1 z v H1 S1 x1 r1 f1 => ?_) q⟩
  refine ⟨env1, h1, S1, b.mono env1 h1 _ _ (fun rs env2 h2 z vs H2 S2 x2 r2 => ?_) z⟩
  exact z (v :: vs) H2 S2 (x1.trans x2) (.cons (r1.xt S1 x2) r2)
inductive VRL (K : PySem.W.Frag) (H : Hp) : List Vw → List V → Prop where
  | nil : VRL K H [] []
  | cons {a : Vw} {as : List Vw} {v : V} {vs : List V} : VR K H a v → VRL K H as vs → VRL K H (a :: as) (v :: vs)
theorem RvL.vrl {env : AEnv} {h : AH} {σ : L2.St} {H : Hp} (S : BS G env h σ H) {rs : List RV} {vs : List V} (r : RvL G env h σ H rs vs) : VRL G.K H (rs.map (view env h)) vs := by
  induction r with
  | nil => exact .nil
  | cons a _ ih => exact .cons (a.vr S) ih
abbrev OpN := List Vw → (RV → Prop) → Prop
structure CallA (K : PySem.W.Frag) (r : List V → Hp → VK → Prop) (o : OpN) : Prop where
  mono : ∀ as Q Q', (∀ r, Q r → Q' r) → o as Q → o as Q'
  ok : ∀ as vs H Q0 Q, VRL K H as vs → o as Q0 → (∀ v H', OutR K H Q0 v H' → Q v H') → r vs H Q
def aCB (o : OpN) (t : ART) : AT := fun env h Q => t env h fun rs env1 h1 => o (rs.map (view env1 h1)) fun r => Q r env1 h1
theorem CallA.or {K : PySem.W.Frag} {r r' : List V → Hp → VK → Prop} {o o' : OpN} (a : CallA K r o) (b : CallA K r' o') : CallA K (fun vs H Q => r vs H Q ∨ r' vs H Q) (fun as Q => o as Q ∨ o' as Q) :=
  ⟨fun as Q Q' k q => q.imp (a.mono as Q Q' k) (b.mono as Q Q' k), fun as vs H Q0 Q r q k => q.imp (fun z => a.ok as vs H Q0 Q r z k) fun z => b.ok as vs H Q0 Q r z k⟩
theorem CallA.as {K : PySem.W.Frag} {r : List V → Hp → VK → Prop} {o o' : OpN} (a : CallA K r o) (i : ∀ as Q, o' as Q → o as Q) (m : ∀ as Q Q', (∀ r, Q r → Q' r) → o' as Q → o' as Q') : CallA K r o' := ⟨m, fun as vs H Q0 Q r q k => a.ok as vs H Q0 Q r (i _ _ q) k⟩
theorem cb_step {r : List V → Hp → VK → Prop} {o : OpN} {t : ART} (ca : CallA G.K r o) (m : Mono t) {σ : L2.St} {H : Hp} {Q : VK} (q : cE G (aCB o t) σ H Q) : tCB r (cR G t) σ H Q := by
  obtain ⟨env, h, S, q⟩ := q
  refine ⟨env, h, S, m env h _ _ (fun rs env1 h1 z vs H1 S1 x1 r1 => ?_) q⟩
  refine ca.ok _ _ _ _ _ (r1.vrl S1) z fun v H2 out => ?_
  obtain ⟨res, q0, a, b, c, d⟩ := out.end S1 x1
  exact q0 v H2 a b c d
theorem aCB.mono {r : List V → Hp → VK → Prop} {o : OpN} {t : ART} (ca : CallA G.K r o) (m : Mono t) : Mono (aCB o t) := fun env h Q Q' k q => m env h _ _ (fun rs e g z => ca.mono _ _ _ (fun r q => k _ _ _ q) z) q
theorem ae_callB {id : String} {x : Str} {e : Expr} {es : List Expr} {p : Pos} {r : List V → Hp → VK → Prop} {o : OpN} {t : ART} (hc : CallR X (.builtin id) r) (ca : CallA G.K r o) (hg : Gl X x) (hm : X.mg x = none) (hv : bootBuiltins x = some (.builtin id)) (ha : AR X G (e :: es) t)
    (hn : x ≠ "__name__" := by decide) (hdb : (x == ("__debug__" : Str)) = false := by decide) (he : starEach (e :: es) X.env = (false, eval e X.env) :: starEach es X.env := by rfl) (hpl : (backTo pos (starEach es X.env)).any (·.1) = false := by rfl) :
    AE X G (.Call (.Name x p) (e :: es) [] pos) (aCB o t) :=
  ⟨aCB.mono ca ha.mono, PE.imp (pe_callB hc hg hm hv ha.pa hn hdb he hpl) fun _ _ _ q => cb_step ca ha.mono q⟩
theorem ae_callTy {T : String} {x : Str} {e : Expr} {es : List Expr} {p : Pos} {r : List V → Hp → VK → Prop} {o : OpN} {t : ART} (hc : CallR X (.type T) r) (ca : CallA G.K r o) (hg : Gl X x) (hm : X.mg x = none) (hv : bootBuiltins x = some (.type T)) (ha : AR X G (e :: es) t)
    (hn : x ≠ "__name__" := by decide) (hdb : (x == ("__debug__" : Str)) = false := by decide) (he : starEach (e :: es) X.env = (false, eval e X.env) :: starEach es X.env := by rfl) (hpl : (backTo pos (starEach es X.env)).any (·.1) = false := by rfl) :
    AE X G (.Call (.Name x p) (e :: es) [] pos) (aCB o t) :=
  ⟨aCB.mono ca ha.mono, PE.imp (pe_callTy hc hg hm hv ha.pa hn hdb he hpl) fun _ _ _ q => cb_step ca ha.mono q⟩
end
theorem VRL.one {K : PySem.W.Frag} {H : Hp} {a : Vw} {vs : List V} (r : VRL K H [a] vs) : ∃ v, vs = [v] ∧ VR K H a v := by
  cases r with
  | cons r t => cases t; exact ⟨_, rfl, r⟩
theorem VRL.two {K : PySem.W.Frag} {H : Hp} {a b : Vw} {vs : List V} (r : VRL K H [a, b] vs) : ∃ v u, vs = [v, u] ∧ VR K H a v ∧ VR K H b u := by
  cases r with
  | cons r t => obtain ⟨u, rfl, q⟩ := t.one; exact ⟨_, u, rfl, r, q⟩
/-- len -/
def oLen : OpN := fun as Q => match as with
  | [.wv (.str x)] => x.length ≤ sizeLine ∧ Q (.val (.int x.length))
  | [a] => ∃ xs, a.items = some xs ∧ Q (.val (.int xs.length))
  | _ => False
theorem ca_len {K : PySem.W.Frag} : CallA K (fun xs H Q => ∃ x n, xs = [x] ∧ LenV K x H n ∧ Q (.int n) H) oLen :=
  ⟨fun as Q Q' k q => by
    unfold oLen at q ⊢
    split at q
    · exact ⟨q.1, k _ q.2⟩
    · obtain ⟨xs, e, q⟩ := q; exact ⟨xs, e, k _ q⟩
    · exact q, fun as vs H Q0 Q r q k => by
    unfold oLen at q
    split at q
    · obtain ⟨v, rfl, r1⟩ := r.one
      cases r1.str
      exact ⟨_, _, rfl, ⟨q.1, rfl⟩, k _ _ (.val q.2 .int)⟩
    · obtain ⟨v, rfl, r1⟩ := r.one
      obtain ⟨xs, e, q⟩ := q
      obtain ⟨p, us, rfl, hs, rv⟩ := r1.items e
      refine ⟨_, us.length, rfl, ?_, k _ _ (.val q (by rw [rv.length]; exact .int))⟩
      rcases hs with hs | hs
      · exact .inl ⟨us, rd_sq hs, rfl⟩
      · exact .inr ⟨us, hs, rfl⟩
    · exact q.elim⟩
/-- min, max of two ints; abs -/
def o2I (g : Int → Int → Int) : OpN := fun as Q => match as with
  | [.wv (.int i), .wv (.int j)] => Q (.val (.int (g i j)))
  | _ => False
theorem ca_2I {K : PySem.W.Frag} {g : Int → Int → Int} : CallA K (fun xs H Q => ∃ i j, xs = [.int i, .int j] ∧ Q (.int (g i j)) H) (o2I g) :=
  ⟨fun as Q Q' k q => by
    unfold o2I at q ⊢
    split at q
    · exact k _ q
    · exact q, fun as vs H Q0 Q r q k => by
    unfold o2I at q
    split at q
    · obtain ⟨v, u, rfl, r1, r2⟩ := r.two
      cases r1.int; cases r2.int
      exact ⟨_, _, rfl, k _ _ (.val q .int)⟩
    · exact q.elim⟩
def o1I (g : Int → Int) : OpN := fun as Q => match as with
  | [.wv (.int i)] => Q (.val (.int (g i)))
  | _ => False
theorem ca_1I {K : PySem.W.Frag} {g : Int → Int} : CallA K (fun xs H Q => ∃ i, xs = [.int i] ∧ Q (.int (g i)) H) (o1I g) :=
  ⟨fun as Q Q' k q => by
    unfold o1I at q ⊢
    split at q
    · exact k _ q
    · exact q, fun as vs H Q0 Q r q k => by
    unfold o1I at q
    split at q
    · obtain ⟨v, rfl, r1⟩ := r.one
      cases r1.int
      exact ⟨_, rfl, k _ _ (.val q .int)⟩
    · exact q.elim⟩
/-- sum, min, max of a list of ints -/
def oInts (g : List Int → (RV → Prop) → Prop) : OpN := fun as Q => match as with
  | [a] => ∃ ns : List Int, a.seq = some (ns.map W.int) ∧ g ns Q
  | _ => False
theorem oInts.mono {g : List Int → (RV → Prop) → Prop} (m : ∀ ns Q Q', (∀ r, Q r → Q' r) → g ns Q → g ns Q') (as : List Vw) (Q Q' : RV → Prop) (k : ∀ r, Q r → Q' r) (q : oInts g as Q) : oInts g as Q' := by
  unfold oInts at q ⊢
  split at q
  · obtain ⟨ns, e, q⟩ := q; exact ⟨ns, e, m _ _ _ k q⟩
  · exact q
theorem oInts.get {K : PySem.W.Frag} {H : Hp} {g : List Int → (RV → Prop) → Prop} {as : List Vw} {vs : List V} {Q : RV → Prop} (r : VRL K H as vs) (q : oInts g as Q) : ∃ p ns, vs = [.ref p] ∧ SqL K H p (ns.map V.int) ∧ g ns Q := by
  unfold oInts at q
  split at q
  · obtain ⟨v, rfl, r1⟩ := r.one
    obtain ⟨ns, e, q⟩ := q
    obtain ⟨p, us, rfl, hs, rv⟩ := r1.seq e
    rw [rv.of_ints] at hs
    exact ⟨p, ns, rfl, rd_sq hs, q⟩
  · exact q.elim
def oSum : OpN := oInts fun ns Q => Q (.val (.int ns.sum))
theorem ca_sum {K : PySem.W.Frag} : CallA K (rSum K) oSum :=
  ⟨oInts.mono fun _ _ _ k q => k _ q, fun as vs H Q0 Q r q k => by
    obtain ⟨p, ns, rfl, hs, q⟩ := oInts.get r q
    exact ⟨p, ns, rfl, hs, k _ _ (.val q .int)⟩⟩
def oMax : OpN := oInts fun ns Q => 0 < ns.length ∧ ∀ m, m ∈ ns → (∀ y, y ∈ ns → y ≤ m) → Q (.val (.int m))
theorem ca_max {K : PySem.W.Frag} : CallA K (rMax K) oMax :=
  ⟨oInts.mono fun _ _ _ k q => ⟨q.1, fun m a b => k _ (q.2 m a b)⟩, fun as vs H Q0 Q r q k => by
    obtain ⟨p, ns, rfl, hs, q⟩ := oInts.get r q
    exact ⟨p, ns, rfl, hs, q.1, fun m a b => k _ _ (.val (q.2 m a b) .int)⟩⟩
def oMin : OpN := oInts fun ns Q => 0 < ns.length ∧ ∀ m, m ∈ ns → (∀ y, y ∈ ns → m ≤ y) → Q (.val (.int m))
theorem ca_min {K : PySem.W.Frag} : CallA K (rMin K) oMin :=
  ⟨oInts.mono fun _ _ _ k q => ⟨q.1, fun m a b => k _ (q.2 m a b)⟩, fun as vs H Q0 Q r q k => by
    obtain ⟨p, ns, rfl, hs, q⟩ := oInts.get r q
    exact ⟨p, ns, rfl, hs, q.1, fun m a b => k _ _ (.val (q.2 m a b) .int)⟩⟩
/-- any, all of a list of truth values -/
def oBls (g : List Bool → Bool) : OpN := fun as Q => match as with
  | [a] => ∃ bs : List Bool, a.seq = some (bs.map W.bl) ∧ Q (.val (.bl (g bs)))
  | _ => False
theorem oBls.mono {g : List Bool → Bool} (as : List Vw) (Q Q' : RV → Prop) (k : ∀ r, Q r → Q' r) (q : oBls g as Q) : oBls g as Q' := by
  unfold oBls at q ⊢
  split at q
  · obtain ⟨ns, e, q⟩ := q; exact ⟨ns, e, k _ q⟩
  · exact q
theorem oBls.get {K : PySem.W.Frag} {H : Hp} {g : List Bool → Bool} {as : List Vw} {vs : List V} {Q : RV → Prop} (r : VRL K H as vs) (q : oBls g as Q) : ∃ p bs, vs = [.ref p] ∧ SqL K H p (bs.map V.bl) ∧ Q (.val (.bl (g bs))) := by
  unfold oBls at q
  split at q
  · obtain ⟨v, rfl, r1⟩ := r.one
    obtain ⟨ns, e, q⟩ := q
    obtain ⟨p, us, rfl, hs, rv⟩ := r1.seq e
    rw [rv.of_bls] at hs
    exact ⟨p, ns, rfl, rd_sq hs, q⟩
  · exact q.elim
theorem ca_any {K : PySem.W.Frag} : CallA K (rAny K) (oBls fun bs => bs.any id) :=
  ⟨oBls.mono, fun as vs H Q0 Q r q k => by
    obtain ⟨p, ns, rfl, hs, q⟩ := oBls.get r q
    exact ⟨p, ns, rfl, hs, k _ _ (.val q .bl)⟩⟩
theorem ca_all {K : PySem.W.Frag} : CallA K (rAll K) (oBls fun bs => bs.all id) :=
  ⟨oBls.mono, fun as vs H Q0 Q r q k => by
    obtain ⟨p, ns, rfl, hs, q⟩ := oBls.get r q
    exact ⟨p, ns, rfl, hs, k _ _ (.val q .bl)⟩⟩
/-- tuple(..), list(..) of a list or tuple -/
def oTupC : OpN := fun as Q => match as with
  | [a] => ∃ xs, a.items = some xs ∧ Q (.val (.tup xs))
  | _ => False
theorem ca_tup {K : PySem.W.Frag} : CallA K (fun xs H Q => ∃ p ys, xs = [.ref p] ∧ ((SqL K H p ys ∧ ∀ l, H l = none → Q (.ref l) (upd H l (.tup ys))) ∨ (SqT K H p ys ∧ Q (.ref p) H))) oTupC :=
  ⟨fun as Q Q' k q => by
    unfold oTupC at q ⊢
    split at q
    · obtain ⟨xs, e, q⟩ := q; exact ⟨xs, e, k _ q⟩
    · exact q, fun as vs H Q0 Q r q k => by
    unfold oTupC at q
    split at q
    · obtain ⟨v, rfl, r1⟩ := r.one
      obtain ⟨xs, e, q⟩ := q
      obtain ⟨p, us, rfl, hs, rv⟩ := r1.items e
      refine ⟨p, us, rfl, ?_⟩
      rcases hs with hs | hs
      · exact .inl ⟨rd_sq hs, fun l n => k _ _ (.tup n q rv)⟩
      · exact .inr ⟨hs, k _ _ (.val q (.tup hs rv))⟩
    · exact q.elim⟩
def oLstC : OpN := fun as Q => match as with
  | [a] => ∃ xs, a.items = some xs ∧ Q (.own (.seq xs))
  | _ => False
theorem ca_lst {K : PySem.W.Frag} : CallA K (fun xs H Q => ∃ p ys, xs = [.ref p] ∧ (SqL K H p ys ∨ SqT K H p ys) ∧ ∀ l, H l = none → Q (.ref l) (upd H l (.lst ys))) oLstC :=
  ⟨fun as Q Q' k q => by
    unfold oLstC at q ⊢
    split at q
    · obtain ⟨xs, e, q⟩ := q; exact ⟨xs, e, k _ q⟩
    · exact q, fun as vs H Q0 Q r q k => by
    unfold oLstC at q
    split at q
    · obtain ⟨v, rfl, r1⟩ := r.one
      obtain ⟨xs, e, q⟩ := q
      obtain ⟨p, us, rfl, hs, rv⟩ := r1.items e
      exact ⟨p, us, rfl, hs.imp_left rd_sq, fun l n => k _ _ (.lst n q rv)⟩
    · exact q.elim⟩
/-- isinstance(x, T), T one of bool, int, str, tuple, list -/
def W.tyName : W → Option String
  | .non => some "NoneType"
  | .bl _ => some "bool"
  | .int _ => some "int"
  | .str _ => some "str"
  | .tup _ => some "tuple"
  | .lst _ => some "list"
  | _ => none
def Vw.tyName : Vw → Option String
  | .wv w => w.tyName
  | .cv (.seq _) => some "list"
  | _ => none
def isiB : String → String → Option Bool
  | "NoneType", "bool" => some false
  | "NoneType", "int" => some false
  | "NoneType", "str" => some false
  | "NoneType", "tuple" => some false
  | "NoneType", "list" => some false
  | "bool", "bool" => some true
  | "bool", "int" => some true
  | "bool", "str" => some false
  | "bool", "tuple" => some false
  | "bool", "list" => some false
  | "int", "bool" => some false
  | "int", "int" => some true
  | "int", "str" => some false
  | "int", "tuple" => some false
  | "int", "list" => some false
  | "str", "bool" => some false
  | "str", "int" => some false
  | "str", "str" => some true
  | "str", "tuple" => some false
  | "str", "list" => some false
  | "tuple", "bool" => some false
  | "tuple", "int" => some false
  | "tuple", "str" => some false
  | "tuple", "tuple" => some true
  | "tuple", "list" => some false
  | "list", "bool" => some false
  | "list", "int" => some false
  | "list", "str" => some false
  | "list", "tuple" => some false
  | "list", "list" => some true
  | _, _ => none
def oIsi : OpN := fun as Q => match as with
  | [a, .wv (.ty T)] => ∃ n b, a.tyName = some n ∧ isiB n T = some b ∧ Q (.val (.bl b))
  | _ => False
theorem VR.tyX {K : PySem.W.Frag} {H : Hp} : ∀ {a : Vw} {v : V} {n : String}, VR K H a v → a.tyName = some n → (∀ ws, a ≠ .wv (.tup ws)) → TyX K H v (.type n)
  | .bad, _, _, _, e, _ => by cases e
  | .cv (.seq ws), _, _, r, e, _ => by cases e; obtain ⟨p, rfl, vs, l, _⟩ := r; exact .base (.lst l)
  | .cv (.map _), _, _, _, e, _ => by cases e
  | .wv .non, _, _, r, e, _ => by cases e; cases r.non; exact .base .non
  | .wv (.bl _), _, _, r, e, _ => by cases e; cases r.bl; exact .base (.bl _)
  | .wv (.int _), _, _, r, e, _ => by cases e; cases r.int; exact .base (.int _)
  | .wv (.str _), _, _, r, e, _ => by cases e; cases r.str; exact .base (.str _)
  | .wv (.tup ws), _, _, _, _, h => absurd rfl (h ws)
  | .wv (.lst ws), _, _, r, e, _ => by cases e; obtain ⟨p, vs, rfl, ⟨o, l⟩, _⟩ := Rep.of_lst (K := K) (H := H) r; exact .base (.frz l)
  | .wv (.dct _ _), _, _, _, e, _ => by cases e
  | .wv (.ref _), _, _, _, e, _ => by cases e
  | .wv (.ty _), _, _, _, e, _ => by cases e
end Ab

namespace Ab
open PySem PySem.Spec PyProof.Rows L2
theorem isi_kit {K : PySem.W.Frag} {n T : String} {b : Bool} (h : isiB n T = some b) : PySem.W.kitOne K (.type n) (.type T) = some b := by
  unfold isiB at h
  split at h
  all_goals first
    | (cases h; exact kit_ty (by decide +kernel))
    | cases h
theorem sq_tyX {K : PySem.W.Frag} {H : Hp} {a : Addr} {vs : List V} (h : SqT K H a vs) : TyX K H (.ref a) (.type "tuple") := by
  rcases h with (h | ⟨o, h⟩) | ⟨o, its, n, e, c, _⟩
  · exact .base (.tup h)
  · exact .fTuple h
  · exact .kTuple e c
theorem VR.ty {K : PySem.W.Frag} {H : Hp} {a : Vw} {v : V} {n : String} (r : VR K H a v) (e : a.tyName = some n) : TyX K H v (.type n) := by
  by_cases h : ∃ ws, a = .wv (.tup ws)
  · obtain ⟨ws, rfl⟩ := h
    cases e
    obtain ⟨p, vs, rfl, s, _⟩ := Rep.of_tup (K := K) (H := H) r
    exact sq_tyX s
  · exact r.tyX e fun ws z => h ⟨ws, z⟩
theorem ca_isi {K : PySem.W.Frag} : CallA K (rIsi K) oIsi :=
  ⟨fun as Q Q' k q => by
    unfold oIsi at q ⊢
    split at q
    · obtain ⟨n, b, e, f, q⟩ := q; exact ⟨n, b, e, f, k _ q⟩
    · exact q, fun as vs H Q0 Q r q k => by
    unfold oIsi at q
    split at q
    · rename_i a T
      obtain ⟨v, u, rfl, r1, r2⟩ := r.two
      cases Rep.of_ty (K := K) (H := H) r2
      obtain ⟨n, b, e, f, q⟩ := q
      exact ⟨v, .ty T, .type n, .type T, b, rfl, ClsV.ty T, r1.ty e, isi_kit f, k _ _ (.val q .bl)⟩
    · exact q.elim⟩
end Ab

namespace Ab
open PySem PySem.Spec PyProof.Rows L2
/-! ### heaps at a call's two ends -/
structure HS (G : Gx) (h : AH) (H : Hp) : Prop where
  hp : ∀ a o, h a = some o → ORep G.K H a o
  fr : ∀ p o, G.H0 p = some o → G.h0 p = none → H p = some o
  ext : ∀ a o, h a = some o → G.h0 a = none → G.H0 a = none
  tr : ∀ p o, G.H0 p = some o → ∃ u, H p = some u
theorem BS.hs {G : Gx} {env : AEnv} {h : AH} {σ : L2.St} {H : Hp} (S : BS G env h σ H) : HS G h H := ⟨S.hp, S.fr, S.ext, S.tr⟩
def XRep (K : PySem.W.Frag) (H : Hp) (x : AExc) (cls : Value) (d : Option Addr) : Prop := cls = .ref x.C ∧ ∃ dd vs, d = some dd ∧ H dd = some (.xd vs) ∧ FRep K H x.fs vs
/-- a def's result -/
inductive RR where
  | val (w : W) | own (c : Cont)
def RrRep (G : Gx) (h : AH) (H : Hp) : RR → V → Prop
  | .val w, v => Rep G.K H w v
  | .own c, v => ∃ p, v = .ref p ∧ CRep G.K H p c ∧ h p = none ∧ G.H0 p = none
/-- a def's promise over data: what is handed in, the abstract heap, the wish of what it tells, the wish of what it raises -/
abbrev ASp := List W → AH → (RR → AH → Prop) → (AExc → AH → Prop) → Prop
def cSp (K : PySem.W.Frag) (n : Nat) (sp : ASp) : Sp := fun vs H Q E => ∃ ws h Qa Ea, ws.length = n ∧ (∀ a o, h a = some o → ORep K H a o) ∧ RepL K H ws vs ∧ sp ws h Qa Ea ∧
  (∀ r h' v H', Qa r h' → HS ⟨K, h, H⟩ h' H' → RrRep ⟨K, h, H⟩ h' H' r v → Q v H') ∧
  (∀ x h' cls d H', Ea x h' → HS ⟨K, h, H⟩ h' H' → XRep K H' x cls d → E cls d H')
section
variable {G : Gx} {env : AEnv} {h1 h2 : AH} {σ : L2.St} {H1 H2 : Hp}
/-- behind a call -/
theorem BS.after (S : BS G env h1 σ H1) (c : HS ⟨G.K, h1, H1⟩ h2 H2) : BS G env h2 σ H2 ∧ Xt env h1 σ H1 env h2 H2 := by
  have kp : Keeps H1 H2 := fun p o e i => c.fr p o e (S.imm e i).1
  have x : Xt env h1 σ H1 env h2 H2 := by
    refine ⟨fun p o e n _ => c.fr p o e n, fun p o e n => c.ext p o e n, c.tr, fun i d e => ⟨d, e⟩⟩
  refine ⟨⟨S.len, fun i w e => ?_, fun i a e => ?_, S.uni, c.hp, fun p o e n => ?_, fun a o e n => ?_, fun p o e => ?_⟩, x⟩
  · obtain ⟨v, a, b⟩ := S.val i w e; exact ⟨v, a, Rep.mono kp w v b⟩
  · obtain ⟨p, q, r, n, n0⟩ := S.own i a e
    obtain ⟨o, eo, _⟩ := r.there
    refine ⟨p, q, r.mono kp ((c.fr p o eo n).trans eo.symm), ?_, n0⟩
    cases z : h2 p with
    | none => rfl
    | some u => have y : H1 p = none := c.ext p u z n; rw [y] at eo; cases eo
  · have n1 : h1 p = none := by
      cases z : h1 p with
      | none => rfl
      | some u => have y := S.ext p u z n; rw [y] at e; cases e
    exact c.fr p o (S.fr p o e n) n1
  · cases z : h1 a with
    | some u => exact S.ext a u z n
    | none =>
      have y : H1 a = none := c.ext a o e z
      cases w : G.H0 a with
      | none => rfl
      | some u => obtain ⟨t, q⟩ := S.tr a u w; rw [y] at q; cases q
  · obtain ⟨u, q⟩ := S.tr p o e; exact c.tr p u q
end
/-! ### a def is called -/
def aCall (E : AExc → AEnv → AH → Prop) (sp : ASp) (t : AAT) : AT := fun env h Q => t env h fun ws env1 h1 => sp ws h1 (fun r h2 => match r with
  | .val w => Q (.val w) env1 h2
  | .own c => Q (.own c) env1 h2) fun x h2 => E x env1 h2
/-- a promise's wishes may be weakened -/
def SpMono (sp : ASp) : Prop := ∀ ws h Q Q' E E', (∀ r k, Q r k → Q' r k) → (∀ x k, E x k → E' x k) → sp ws h Q E → sp ws h Q' E'
theorem aCall.mono {E : AExc → AEnv → AH → Prop} {sp : ASp} {t : AAT} (m : SpMono sp) (n : Mono t) : Mono (aCall E sp t) := fun env h Q Q' k q => n env h _ _ (fun ws e g z => m _ _ _ _ _ _ (fun r f y => by
  cases r with
  | val w => exact k _ _ _ y
  | own c => exact k _ _ _ y) (fun x f y => y) z) q
def cW (G : Gx) (E : AExc → AEnv → AH → Prop) : WX := fun cls d σ H => ∃ x env h, BS G env h σ H ∧ XRep G.K H x cls d ∧ E x env h
theorem tk_none {X : Cx} {G : Gx} : Takes X (cW G fun _ _ _ => False) := takes0.imp fun _ _ _ _ ⟨_, _, _, _, _, z⟩ => z
section
variable {X : Cx} {G : Gx} {sp : ASp} {k n : Nat} {f : Addr} {fd : FuncData} {ps : List Str} {x : Str} {p pos : Pos} {e : Expr} {es : List Expr} {t : AAT} {E : AExc → AEnv → AH → Prop}
theorem call_step {σ : L2.St} {H : Hp} {Q : VK} (m : Mono t) (sm : SpMono sp) (hn : ∀ env h (R : List W → AEnv → AH → Prop), t env h R → t env h fun ws e g => ws.length = n ∧ R ws e g) (q : cE G (aCall E sp t) σ H Q) :
    tCallS (cSp G.K n sp) (WE (cW G E)) (cA G t) σ H Q := by
  obtain ⟨env, h, S, q⟩ := q
  refine ⟨env, h, S, m env h _ _ (fun ws env1 h1 ⟨hl, z⟩ vs H1 S1 x1 r1 => ?_) (hn _ _ _ q)⟩
  refine ⟨ws, h1, _, _, hl, S1.hp, r1, z, fun r h' v H' y c rr => ?_, fun x h' cls d H' y c xr => ?_⟩
  · obtain ⟨S2, x2⟩ := S1.after c
    cases r with
    | val w => exact y v H' S2 (x1.trans x2) rr trivial
    | own c0 =>
      obtain ⟨p, e, cr, a, b⟩ := rr
      have nw : H1 p = none := b
      obtain ⟨_, g0, no⟩ := S1.noAt nw
      exact y v H' S2 (x1.trans x2) ⟨p, e, cr, a, g0, no⟩ fun p' e' => by
        rw [e] at e'; cases e'; exact x1.fresh nw
  · obtain ⟨S2, x2⟩ := S1.after c
    exact ⟨x, env1, h', S2, xr, y⟩
/-- f(e, ..) -/
theorem ae_call (F : FnOk X.prog X.w X.K X.mg X.base (L2.CX X.prog X.w) k f fd ps (cSp G.K n sp)) (sm : SpMono sp) (hr : Room k X.A) (hg : Gl X x) (hm : X.mg x = some (.ref f)) (hk : PySem.W.keepIn X.K (.ref f) = true) (hb : Binds X.K fd ps []) (tk : Takes X (cW G E))
    (ha : AA X G (e :: es) t) (hn : ∀ env h (R : List W → AEnv → AH → Prop), t env h R → t env h fun ws e g => ws.length = n ∧ R ws e g)
    (hdb : (x == ("__debug__" : Str)) = false := by decide) (he : starEach (e :: es) X.env = (false, eval e X.env) :: starEach es X.env := by rfl) (hpl : (backTo pos (starEach es X.env)).any (·.1) = false := by rfl) :
    AE X G (.Call (.Name x p) (e :: es) [] pos) (aCall E sp t) :=
  ⟨aCall.mono sm ha.mono, PE.imp (pe_callS F hr hg hm hk hb (fun σ => passAt tk σ) ha.pa hdb he hpl) fun _ _ _ q => call_step ha.mono sm hn q⟩
end
/-! ### how many are handed in -/
theorem len_nil : ∀ env h (R : List W → AEnv → AH → Prop), aNil env h R → aNil env h fun ws e g => ws.length = 0 ∧ R ws e g := fun _ _ _ q => ⟨rfl, q⟩
theorem len_cons {t : AVT} {u : AAT} {n : Nat} (mt : Mono t) (hu : ∀ env h (R : List W → AEnv → AH → Prop), u env h R → u env h fun ws e g => ws.length = n ∧ R ws e g) (mu : Mono u) :
    ∀ env h (R : List W → AEnv → AH → Prop), aCons t u env h R → aCons t u env h fun ws e g => ws.length = n + 1 ∧ R ws e g := fun env h R q =>
  mt env h _ _ (fun w e g z => mu e g _ _ (fun ws e2 g2 ⟨y1, y2⟩ => ⟨by rw [List.length_cons, y1], y2⟩) (hu e g _ z)) q
/-! ### statements -/
structure AEnds where
  nx : AEnv → AH → Prop
  rt : RV → AEnv → AH → Prop
  bk : AEnv → AH → Prop := fun _ _ => False
  ct : AEnv → AH → Prop := fun _ _ => False
structure AEnds.Le (D D' : AEnds) : Prop where
  nx : ∀ e h, D.nx e h → D'.nx e h
  rt : ∀ r e h, D.rt r e h → D'.rt r e h
  bk : ∀ e h, D.bk e h → D'.bk e h
  ct : ∀ e h, D.ct e h → D'.ct e h
theorem AEnds.Le.refl (D : AEnds) : D.Le D := ⟨fun _ _ q => q, fun _ _ _ q => q, fun _ _ q => q, fun _ _ q => q⟩
abbrev ATS := AEnds → AEnv → AH → Prop
def MonoS (t : ATS) : Prop := ∀ D D' env h, D.Le D' → t D env h → t D' env h
/-- the wishes behind a statement, of the two layers -/
structure Link (G : Gx) (H0 : Hp) (Da : AEnds) (D : Ends) : Prop where
  nx : ∀ env h σ H, BS G env h σ H → Keeps H0 H → Da.nx env h → D.nx σ H
  rt : ∀ r env h σ H v, BS G env h σ H → Keeps H0 H → RvRep G env h σ H r v → Da.rt r env h → D.rt v H
  bk : ∀ env h σ H, BS G env h σ H → Keeps H0 H → Da.bk env h → D.bk σ H
  ct : ∀ env h σ H, BS G env h σ H → Keeps H0 H → Da.ct env h → D.ct σ H
theorem Link.from {G : Gx} {H H1 : Hp} {Da : AEnds} {D : Ends} (l : Link G H Da D) (k : Keeps H H1) : Link G H1 Da D :=
  ⟨fun e h σ H' S q => l.nx e h σ H' S (k.trans q), fun r e h σ H' v S q => l.rt r e h σ H' v S (k.trans q), fun e h σ H' S q => l.bk e h σ H' S (k.trans q), fun e h σ H' S q => l.ct e h σ H' S (k.trans q)⟩
def cS (G : Gx) (t : ATS) : TS := fun D σ H => ∃ env h Da, BS G env h σ H ∧ t Da env h ∧ Link G H Da D
structure AS (X : Cx) (G : Gx) (st : Stmt) (t : ATS) : Prop where
  mono : MonoS t
  ps : PS X st (cS G t)
structure ASs (X : Cx) (G : Gx) (st : List Stmt) (t : ATS) : Prop where
  mono : MonoS t
  ps : PSs X st (cS G t)
def aNext : ATS := fun D env h => D.nx env h
def aSeq (t u : ATS) : ATS := fun D env h => t { D with nx := u D } env h
theorem aSeq.mono {t u : ATS} (m : MonoS t) (n : MonoS u) : MonoS (aSeq t u) := fun D D' env h l q => m { D with nx := u D } { D' with nx := u D' } env h ⟨fun e g z => n D D' e g l z, l.rt, l.bk, l.ct⟩ q
section
variable {X : Cx} {G : Gx} {st : Stmt} {rest : List Stmt} {t u : ATS} {e : Expr} {te : AT} {tv : AVT} {pos : Pos}
theorem ass_nil : ASs X G [] aNext := ⟨fun D D' env h l q => l.nx _ _ q, PSs.imp pss_nil fun D σ H ⟨env, h, Da, S, q, l⟩ => l.nx _ _ _ _ S (.refl _) q⟩
theorem ass_cons (a : AS X G st t) (b : ASs X G rest u) : ASs X G (st :: rest) (aSeq t u) :=
  ⟨aSeq.mono a.mono b.mono, PSs.imp (pss_cons a.ps b.ps) fun D σ H ⟨env, h, Da, S, q, l⟩ => ⟨env, h, { Da with nx := u Da }, S, q, ⟨fun e g σ' H' S' y z => ⟨e, g, Da, S', z, l.from y⟩, l.rt, l.bk, l.ct⟩⟩⟩
theorem ass_one (a : AS X G st t) : ASs X G [st] t := ⟨a.mono, pss_one a.ps⟩
theorem as_pass : AS X G (.Pass pos) aNext := ⟨fun D D' env h l q => l.nx _ _ q, PS.imp ps_pass fun D σ H ⟨env, h, Da, S, q, l⟩ => l.nx _ _ _ _ S (.refl _) q⟩
def aBrk : ATS := fun D env h => D.bk env h
def aCnt : ATS := fun D env h => D.ct env h
theorem as_break : AS X G (.Break pos) aBrk := ⟨fun D D' env h l q => l.bk _ _ q, PS.imp ps_break fun D σ H ⟨env, h, Da, S, q, l⟩ => l.bk _ _ _ _ S (.refl _) q⟩
theorem as_continue : AS X G (.Continue pos) aCnt := ⟨fun D D' env h l q => l.ct _ _ q, PS.imp ps_continue fun D σ H ⟨env, h, Da, S, q, l⟩ => l.ct _ _ _ _ S (.refl _) q⟩
theorem as_doc {x j pos pos'} : AS X G (.Expr (.Constant (.str x) j pos) pos') aNext := ⟨fun D D' env h l q => l.nx _ _ q, PS.imp ps_doc fun D σ H ⟨env, h, Da, S, q, l⟩ => l.nx _ _ _ _ S (.refl _) q⟩
def aDrop (t : AT) : ATS := fun D env h => t env h fun _ env1 h1 => D.nx env1 h1
theorem as_expr (a : AE X G e te) (hs : swapsWith e none pos.line X.env = pure false := by rfl) : AS X G (.Expr e pos) (aDrop te) :=
  ⟨fun D D' env h l q => a.mono env h _ _ (fun _ e g z => l.nx _ _ z) q, PS.imp (ps_expr a.pe hs) fun D σ H ⟨env, h, Da, S, q, l⟩ => ⟨env, h, S, a.mono env h _ _ (fun r e g z v H1 S1 x1 _ _ => l.nx _ _ _ _ S1 (x1.keeps S) z) q⟩⟩
def aRet (t : AT) : ATS := fun D env h => t env h D.rt
theorem as_ret (a : AE X G e te) : AS X G (.Return (some e) pos) (aRet te) :=
  ⟨fun D D' env h l q => a.mono env h _ _ l.rt q, PS.imp (ps_ret a.pe) fun D σ H ⟨env, h, Da, S, q, l⟩ => ⟨env, h, S, a.mono env h _ _ (fun r e g z v H1 S1 x1 r1 _ => l.rt _ _ _ _ _ _ S1 (x1.keeps S) r1 z) q⟩⟩
def aRetN : ATS := fun D env h => D.rt (.val .non) env h
theorem as_retN : AS X G (.Return none pos) aRetN := ⟨fun D D' env h l q => l.rt _ _ _ q, PS.imp ps_retN fun D σ H ⟨env, h, Da, S, q, l⟩ => l.rt (.val .non) _ _ _ _ _ S (.refl _) (show Rep G.K H .non .non from Rep.non) q⟩
def aIf (c : ABT) (t u : ATS) : ATS := fun D env h => c env h fun b env1 h1 => if b = true then t D env1 h1 else u D env1 h1
theorem as_if {c : Expr} {a b : List Stmt} {tc : ABT} (hc : AP X G c tc) (ha : ASs X G a t) (hb : ASs X G b u) : AS X G (.If c a b pos) (aIf tc t u) := by
  refine ⟨fun D D' env h l q => hc.mono env h _ _ (fun d e g z => ?_) q, PS.imp (ps_if hc.pt ha.ps hb.ps) fun D σ H ⟨env, h, Da, S, q, l⟩ => ⟨env, h, S, hc.mono env h _ _ (fun d e g z H1 S1 x1 => ?_) q⟩⟩
  · cases d with
    | true => rw [if_pos rfl] at z ⊢; exact ha.mono _ _ _ _ l z
    | false => rw [if_neg Bool.false_ne_true] at z ⊢; exact hb.mono _ _ _ _ l z
  · cases d with
    | true => rw [if_pos rfl] at z ⊢; exact ⟨e, g, Da, S1, z, l.from (x1.keeps S)⟩
    | false => rw [if_neg Bool.false_ne_true] at z ⊢; exact ⟨e, g, Da, S1, z, l.from (x1.keeps S)⟩
/-! ### names are stored -/
/-- no result is a slot's own list: it is frozen -/
def aNs (t : AT) : AT := fun env h Q => t env h fun r env' h' => match r with
  | .slot i => match env'[i]? with
    | some (some (.val w)) => Q (.val w) env' h'
    | some (some (.own c)) => Q (.val c.fz) (env'.set i (some (.val c.fz))) h'
    | _ => False
  | r => Q r env' h'
def NoSlot : RV → Prop
  | .slot _ => False
  | _ => True
theorem aNs.mono (m : Mono te) : Mono (aNs te) := fun env h Q Q' k q => by
  refine m env h _ _ (fun r e g z => ?_) q
  cases r with
  | val w => exact k _ _ _ z
  | own c => exact k _ _ _ z
  | slot i =>
    show match e[i]? with
      | some (some (.val w)) => Q' (.val w) e g
      | some (some (.own c)) => Q' (.val c.fz) (e.set i (some (.val c.fz))) g
      | _ => False
    have z : match e[i]? with
      | some (some (.val w)) => Q (.val w) e g
      | some (some (.own c)) => Q (.val c.fz) (e.set i (some (.val c.fz))) g
      | _ => False := z
    split at z
    · exact k _ _ _ z
    · exact k _ _ _ z
    · exact z
/-- the reading of what is stored: never a slot's -/
def cN (G : Gx) (t : AT) : TE := fun σ H Q => ∃ env h, BS G env h σ H ∧ t env h fun r env' h' => ∀ v H', BS G env' h' σ H' → Xt env h σ H env' h' H' → RvRep G env' h' σ H' r v → Fsh H r v → NoSlot r → Q v H'
theorem pe_ns (a : AE X G e te) : PE X e (cN G (aNs te)) := by
  refine ⟨fun pins s σ H Q I ⟨env, h, S, q⟩ => ?_⟩
  refine thn (a.pe.run pins s σ H (fun v H1 => ∃ r env' h', BS G env' h' σ H1 ∧ Xt env h σ H env' h' H1 ∧ RvRep G env' h' σ H1 r v ∧ Fsh H r v ∧ match r with
    | .slot i => match env'[i]? with
      | some (some (.val w)) => ∀ v H', BS G env' h' σ H' → Xt env h σ H env' h' H' → RvRep G env' h' σ H' (.val w) v → Fsh H (.val w) v → NoSlot (.val w) → Q v H'
      | some (some (.own c)) => ∀ v H', BS G (env'.set i (some (.val c.fz))) h' σ H' → Xt env h σ H (env'.set i (some (.val c.fz))) h' H' → RvRep G (env'.set i (some (.val c.fz))) h' σ H' (.val c.fz) v → Fsh H (.val c.fz) v → NoSlot (.val c.fz) → Q v H'
      | _ => False
    | r => ∀ v H', BS G env' h' σ H' → Xt env h σ H env' h' H' → RvRep G env' h' σ H' r v → Fsh H r v → NoSlot r → Q v H') I ⟨env, h, S, a.mono env h _ _ (fun r env' h' z v H1 S1 x1 r1 f1 => ⟨r, env', h', S1, x1, r1, f1, z⟩) q⟩) fun v s1 ⟨x, H1, I1, r1, r, env', h', S1, x1, rr, f1, z⟩ => ?_
  cases r with
  | val w => exact ⟨x, H1, I1, r1, z x H1 S1 x1 rr f1 trivial⟩
  | own c => exact ⟨x, H1, I1, r1, z x H1 S1 x1 rr f1 trivial⟩
  | slot i =>
    have es : σ[i]? = some (some x) := rr
    have z : match env'[i]? with
      | some (some (.val w)) => ∀ v H', BS G env' h' σ H' → Xt env h σ H env' h' H' → RvRep G env' h' σ H' (.val w) v → Fsh H (.val w) v → NoSlot (.val w) → Q v H'
      | some (some (.own c)) => ∀ v H', BS G (env'.set i (some (.val c.fz))) h' σ H' → Xt env h σ H (env'.set i (some (.val c.fz))) h' H' → RvRep G (env'.set i (some (.val c.fz))) h' σ H' (.val c.fz) v → Fsh H (.val c.fz) v → NoSlot (.val c.fz) → Q v H'
      | _ => False := z
    split at z
    · rename_i w e
      obtain ⟨u, e3, r⟩ := S1.val i w e
      rw [es] at e3; cases e3
      exact ⟨x, H1, I1, r1, z x H1 S1 x1 r trivial trivial⟩
    · rename_i c e
      obtain ⟨p, H2, ep, I2, S2, x2, r2⟩ := slot_freeze S1 x1 I1 e
      rw [es] at ep; cases ep
      exact ⟨_, H2, I2, r1, z _ H2 S2 x2 r2 trivial trivial⟩
    · exact z.elim
def RV.sv : RV → SV
  | .val w => .val w
  | .own c => .own c
  | .slot _ => .val .non
/-- the i-th slot holds it -/
theorem BS.set {env : AEnv} {h : AH} {σ : L2.St} {H : Hp} (S : BS G env h σ H) {r : RV} {v : V} (i : Nat) (rr : RvRep G env h σ H r v) (ns : NoSlot r) : BS G (env.set i (some r.sv)) h (σ.set i (some v)) H := by
  have at_ : ∀ (j : Nat) (sv : SV), (env.set i (some r.sv))[j]? = some (some sv) → (j = i ∧ sv = r.sv ∧ (σ.set i (some v))[j]? = some (some v)) ∨ (j ≠ i ∧ env[j]? = some (some sv) ∧ (σ.set i (some v))[j]? = σ[j]?) := fun j sv e => by
    by_cases hj : j = i
    · subst hj
      have hl : j < env.length := by
        cases Nat.lt_or_ge j env.length with
        | inl z => exact z
        | inr z => rw [List.getElem?_eq_none (by rw [List.length_set]; exact z)] at e; cases e
      rw [List.getElem?_set_self hl] at e
      exact .inl ⟨rfl, by injection e with e; injection e with e; exact e.symm, List.getElem?_set_self (by rw [← S.len]; exact hl)⟩
    · rw [List.getElem?_set_ne (Ne.symm hj)] at e
      exact .inr ⟨hj, e, List.getElem?_set_ne (Ne.symm hj)⟩
  refine ⟨by rw [List.length_set, List.length_set]; exact S.len, fun j w e => ?_, fun j c e => ?_, fun j k c c' p e1 e2 f1 f2 => ?_, S.hp, S.fr, S.ext, S.tr⟩
  · rcases at_ j _ e with ⟨rfl, z, y⟩ | ⟨_, z, y⟩
    · cases r with
      | val w' => cases z; exact ⟨v, y, rr⟩
      | own c => cases z
      | slot _ => exact ns.elim
    · obtain ⟨u, a, b⟩ := S.val j w z; exact ⟨u, y.trans a, b⟩
  · rcases at_ j _ e with ⟨rfl, z, y⟩ | ⟨_, z, y⟩
    · cases r with
      | val w' => cases z
      | own c' => cases z; obtain ⟨p, rfl, a, b, d, _⟩ := rr; exact ⟨p, y, a, b, d⟩
      | slot _ => exact ns.elim
    · obtain ⟨p, a, b⟩ := S.own j c z; exact ⟨p, y.trans a, b⟩
  · have other : ∀ (m : Nat) (d : Cont), env[m]? = some (some (SV.own d)) → σ[m]? = some (some (V.ref p)) → r.sv = .own c ∨ r.sv = .own c' → v = .ref p → False := fun m d a b z y => by
      cases r with
      | val w => rcases z with z | z <;> cases z
      | slot _ => exact ns
      | own c0 => obtain ⟨q, e, _, _, _, no⟩ := rr; rw [e] at y; cases y; exact no ⟨m, d, a, b⟩
    rcases at_ j _ e1 with ⟨j1, z1, y1⟩ | ⟨j1, z1, y1⟩
    · rcases at_ k _ e2 with ⟨k1, z2, y2⟩ | ⟨k1, z2, y2⟩
      · rw [j1, k1]
      · rw [y1] at f1; injection f1 with f1; injection f1 with f1
        rw [y2] at f2
        exact (other k c' z2 f2 (.inl z1.symm) f1).elim
    · rcases at_ k _ e2 with ⟨k1, z2, y2⟩ | ⟨k1, z2, y2⟩
      · rw [y2] at f2; injection f2 with f2; injection f2 with f2
        rw [y1] at f1
        exact (other j c z1 f1 (.inr z2.symm) f2).elim
      · rw [y1] at f1; rw [y2] at f2
        exact S.uni j k c c' p z1 z2 f1 f2
def aSet (i : Nat) (t : AT) : ATS := fun D env h => aNs t env h fun r env1 h1 => D.nx (env1.set i (some r.sv)) h1
theorem as_set {i : Nat} {x : Str} {pos' : Pos} (hN : X.N.Nodup) (hi : X.N[i]? = some x) (hx : Loc X.env.scope x) (a : AE X G e te) (hs : swapsWith e (some (.Name x pos')) pos.line X.env = pure false := by rfl) (hf : X.fn x = true ∨ X.env.scope.names.lookup x = some .local := by first | exact .inl rfl | exact .inr rfl | assumption) :
    AS X G (.Assign [.Name x pos'] e pos) (aSet i te) := by
  refine ⟨fun D D' env h l q => aNs.mono a.mono env h _ _ (fun _ e g z => l.nx _ _ z) q, PS.imp (ps_set hN hi hx (pe_ns a) hs hf) fun D σ H ⟨env, h, Da, S, q, l⟩ => ?_⟩
  exact ⟨env, h, S, aNs.mono a.mono env h _ _ (fun r e g z v H1 S1 x1 r1 _ ns => l.nx _ _ _ _ (S1.set i r1 ns) (x1.keeps S) z) q⟩
end
end Ab

namespace Ab
open PySem PySem.Spec PyProof.Rows L2
/-! ### targets -/
abbrev AGT := W → AEnv → AH → (AEnv → AH → Prop) → Prop
abbrev AGTs := List W → AEnv → AH → (AEnv → AH → Prop) → Prop
def MonoG {α : Type} (g : α → AEnv → AH → (AEnv → AH → Prop) → Prop) : Prop := ∀ w env h Q Q', (∀ e k, Q e k → Q' e k) → g w env h Q → g w env h Q'
/-- alike but in these slots -/
def But (sl : List Nat) (σ σ' : L2.St) : Prop := σ'.length = σ.length ∧ ∀ i : Nat, i ∉ sl → σ'[i]? = σ[i]?
theorem But.refl {sl : List Nat} (σ : L2.St) : But sl σ σ := ⟨rfl, fun _ _ => rfl⟩
theorem But.trans {sl sl' : List Nat} {σ σ1 σ2 : L2.St} (a : But sl σ σ1) (b : But sl' σ1 σ2) : But (sl ++ sl') σ σ2 :=
  ⟨b.1.trans a.1, fun i hi => (b.2 i fun z => hi (List.mem_append_right _ z)).trans (a.2 i fun z => hi (List.mem_append_left _ z))⟩
/-- a target's step: the slots sl may hold something else, what is owned or in the abstract heap may have been written -/
structure Xg (sl : List Nat) (env : AEnv) (h : AH) (σ : L2.St) (H : Hp) (env' : AEnv) (h' : AH) (σ' : L2.St) (H' : Hp) : Prop where
  fr : ∀ p o, H p = some o → h p = none → ¬ OwnAt env σ p → H' p = some o
  hn : ∀ p o, h' p = some o → h p = none → H p = none
  th : ∀ p o, H p = some o → ∃ o', H' p = some o'
  ow : ∀ p, OwnAt env' σ' p → OwnAt env σ p
  so : ∀ (i : Nat) (c' : Cont), env'[i]? = some (some (SV.own c')) → ∃ c, env[i]? = some (some (SV.own c))
  bt : But sl σ σ'
theorem Xg.keeps {sl : List Nat} {G : Gx} {env env' : AEnv} {h h' : AH} {σ σ' : L2.St} {H H' : Hp} (x : Xg sl env h σ H env' h' σ' H') (S : BS G env h σ H) : Keeps H H' := fun p o e i => x.fr p o e (S.imm e i).1 (S.imm e i).2
theorem Xg.refl {sl : List Nat} {env : AEnv} {h : AH} {σ : L2.St} {H : Hp} : Xg sl env h σ H env h σ H := ⟨fun _ _ e _ _ => e, fun p o e n => (by rw [n] at e; cases e), fun _ o e => ⟨o, e⟩, fun _ q => q, fun i c e => ⟨c, e⟩, .refl σ⟩
theorem Xg.trans {sl sl' : List Nat} {env env1 env2 : AEnv} {h h1 h2 : AH} {σ σ1 σ2 : L2.St} {H H1 H2 : Hp} (a : Xg sl env h σ H env1 h1 σ1 H1) (b : Xg sl' env1 h1 σ1 H1 env2 h2 σ2 H2) : Xg (sl ++ sl') env h σ H env2 h2 σ2 H2 := by
  refine ⟨fun p o e n w => ?_, fun p o e n => ?_, fun p o e => ?_, fun p q => a.ow p (b.ow p q), fun i c e => ?_, a.bt.trans b.bt⟩
  · refine b.fr p o (a.fr p o e n w) ?_ fun q => w (a.ow p q)
    cases q : h1 p with
    | none => rfl
    | some u => rw [a.hn p u q n] at e; cases e
  · cases q : h1 p with
    | some u => exact a.hn p u q n
    | none =>
      have z := b.hn p o e q
      cases q2 : H p with
      | none => rfl
      | some u => obtain ⟨o', e'⟩ := a.th p u q2; rw [z] at e'; cases e'
  · obtain ⟨o', e'⟩ := a.th p o e; exact b.th p o' e'
  · obtain ⟨c1, z⟩ := b.so i c e
    exact a.so i c1 z
theorem Xt.xg {env env' : AEnv} {h h' : AH} {σ : L2.St} {H H' : Hp} (x : Xt env h σ H env' h' H') : Xg [] env h σ H env' h' σ H' :=
  ⟨x.fr, x.hn, x.th, fun _ q => x.own q, x.sl, .refl σ⟩
def cG (G : Gx) (sl : List Nat) (g : AGT) : TG := fun v σ H Q => ∃ w env h, Rep G.K H w v ∧ BS G env h σ H ∧ g w env h fun env' h' => ∀ σ' H', BS G env' h' σ' H' → Xg sl env h σ H env' h' σ' H' → Q σ' H'
def cGs (G : Gx) (sl : List Nat) (g : AGTs) : TGs := fun vs σ H Q => ∃ ws env h, RepL G.K H ws vs ∧ BS G env h σ H ∧ g ws env h fun env' h' => ∀ σ' H', BS G env' h' σ' H' → Xg sl env h σ H env' h' σ' H' → Q σ' H'
structure AG (X : Cx) (G : Gx) (tg : Expr) (sl : List Nat) (g : AGT) : Prop where
  mono : MonoG g
  pg : PG X tg (cG G sl g)
structure AGs (X : Cx) (G : Gx) (tg : List Expr) (sl : List Nat) (g : AGTs) : Prop where
  mono : MonoG g
  pg : PGs X tg (cGs G sl g)
theorem PG.imp {X : Cx} {e : Expr} {t t' : TG} (h : PG X e t) (i : ∀ v σ H Q, t' v σ H Q → t v σ H Q) : PG X e t' := ⟨fun pins s σ H v u Q I r q => h.run pins s σ H v u Q I r (i _ _ _ _ q)⟩
theorem PGs.imp {X : Cx} {e : List Expr} {t t' : TGs} (h : PGs X e t) (i : ∀ v σ H Q, t' v σ H Q → t v σ H Q) : PGs X e t' := ⟨fun pins s σ H v u Q I r q => h.run pins s σ H v u Q I r (i _ _ _ _ q)⟩
section
variable {X : Cx} {G : Gx} {pos : Pos} {x : Str}
def gNm (i : Nat) : AGT := fun w env h Q => Q (env.set i (some (.val w))) h
theorem ag_name {i : Nat} (hN : X.N.Nodup) (hi : X.N[i]? = some x) (hx : Loc X.env.scope x) (hf : X.fn x = true ∨ X.env.scope.names.lookup x = some .local := by first | exact .inl rfl | exact .inr rfl | assumption) : AG X G (.Name x pos) [i] (gNm i) := by
  refine ⟨fun w env h Q Q' k q => k _ _ q, PG.imp (pg_name hN hi hx hf) fun v σ H Q ⟨w, env, h, r, S, q⟩ => ?_⟩
  have ne : ∀ {j : Nat}, j ∉ [i] → i ≠ j := fun hj z => hj (by simp [z])
  refine q _ H (S.set (r := .val w) i r trivial) ⟨fun _ _ e _ _ => e, fun p o e n => (by rw [n] at e; cases e), fun _ o e => ⟨o, e⟩, fun p ⟨j, c, e1, e2⟩ => ?_, fun j c e1 => ?_, List.length_set, fun j hj => List.getElem?_set_ne (ne hj)⟩
  · by_cases hj : i = j
    · subst hj
      have hl : i < env.length := by
        have := (List.getElem?_eq_some_iff.mp e1).1
        rwa [List.length_set] at this
      rw [List.getElem?_set_self hl] at e1
      cases e1
    · rw [List.getElem?_set_ne hj] at e1 e2
      exact ⟨j, c, e1, e2⟩
  · by_cases hj : i = j
    · subst hj
      have hl : i < env.length := by
        have := (List.getElem?_eq_some_iff.mp e1).1
        rwa [List.length_set] at this
      rw [List.getElem?_set_self hl] at e1
      cases e1
    · rw [List.getElem?_set_ne hj] at e1
      exact ⟨c, e1⟩
def gsNil : AGTs := fun ws env h Q => ws = [] ∧ Q env h
def gsCons (t : AGT) (u : AGTs) : AGTs := fun ws env h Q => ∃ w r, ws = w :: r ∧ t w env h fun env' h' => u r env' h' Q
theorem ags_nil : AGs X G [] [] gsNil := ⟨fun w env h Q Q' k q => ⟨q.1, k _ _ q.2⟩, PGs.imp pgs_nil fun v σ H Q ⟨ws, env, h, r, S, e, q⟩ => by
  subst e
  exact ⟨r.of_nil, q σ H S .refl⟩⟩
theorem ags_cons {e : Expr} {es : List Expr} {t : AGT} {u : AGTs} {sl sl' : List Nat} (a : AG X G e sl t) (b : AGs X G es sl' u) (hs : (assignEach (e :: es) X.env).map (·.2) = assign e X.env :: (assignEach es X.env).map (·.2) := by rfl) : AGs X G (e :: es) (sl ++ sl') (gsCons t u) := by
  refine ⟨fun w env h Q Q' k ⟨x, r, e, q⟩ => ⟨x, r, e, a.mono _ _ _ _ _ (fun e g z => b.mono _ _ _ _ _ k z) q⟩, PGs.imp (pgs_cons a.pg b.pg hs) fun v σ H Q ⟨ws, env, h, r, S, w, rs, e, q⟩ => ?_⟩
  subst e
  obtain ⟨v0, vr, rfl, r0, rr⟩ := r.of_cons
  refine ⟨v0, vr, rfl, w, env, h, r0, S, a.mono _ _ _ _ _ (fun env1 h1 z σ1 H1 S1 x1 => ?_) q⟩
  exact ⟨rs, env1, h1, RepL.mono (x1.keeps S) _ _ rr, S1, b.mono _ _ _ _ _ (fun env2 h2 z2 σ2 H2 S2 x2 => z2 σ2 H2 S2 (x1.trans x2)) z⟩
def gTp (n : Nat) (u : AGTs) : AGT := fun w env h Q => match w with
  | .tup ws => ws.length = n ∧ u ws env h Q
  | _ => False
theorem ag_tup {es : List Expr} {k n : Nat} {u : AGTs} {sl : List Nat} (gk : G.K = X.K) (hc : X.calm = true) (b : AGs X G es sl u)
    (hn : (assignEach es X.env).length = n := by rfl) (hst : (assignEach es X.env).findIdx? (·.1) = none := by rfl) : AG X G (.Tuple es k pos) sl (gTp n u) := by
  refine ⟨fun w env h Q Q' k q => ?_, PG.imp (pg_tup hc b.pg hn hst) fun v σ H Q ⟨w, env, h, r, S, q⟩ => ?_⟩
  · unfold gTp at q ⊢
    split at q
    · exact ⟨q.1, b.mono _ _ _ _ _ k q.2⟩
    · exact q
  · unfold gTp at q
    split at q
    · obtain ⟨a, vs, rfl, s, r⟩ := Rep.of_tup r
      exact ⟨a, vs, rfl, gk ▸ s, r.length.symm.trans q.1, _, env, h, r, S, q.2⟩
    · exact q.elim
end
/-! ### what is walked -/
abbrev AIT := AEnv → AH → (List W → AEnv → AH → Prop) → Prop
def Gives (K : PySem.W.Frag) (J : It) (H1 : Hp) (ws : List W) : Prop := ∀ H, Keeps H1 H → ∀ i : Nat, (ws.length ≤ i → J.stop i H) ∧ ∀ w, ws[i]? = some w → J.go i H ∧ ∀ x H', J.yld i H x H' → New H H' ∧ Rep K H' w x
def cI (G : Gx) (t : AIT) : TI := fun σ H R => ∃ env h, BS G env h σ H ∧ t env h fun ws env' h' => ∀ J H', BS G env' h' σ H' → Xt env h σ H env' h' H' → Gives G.K J H' ws → R J H'
structure AI (X : Cx) (G : Gx) (tg iter : Expr) (t : AIT) : Prop where
  mono : Mono t
  pi : PI X tg iter (cI G t)
theorem PI.imp {X : Cx} {tg e : Expr} {t t' : TI} (h : PI X tg e t) (i : ∀ σ H R, t' σ H R → t σ H R) : PI X tg e t' := ⟨fun pins s σ H R I q => h.run pins s σ H R I (i _ _ _ q)⟩
section
variable {X : Cx} {G : Gx} {tg e : Expr} {pos : Pos} {x : Str}
def iLst (t : AVT) : AIT := fun env h Q => t env h fun w env' h' => match w with
  | .lst ws => Q ws env' h'
  | _ => False
def iTpl (t : AVT) : AIT := fun env h Q => t env h fun w env' h' => match w with
  | .tup ws => Q ws env' h'
  | _ => False
theorem iLst.mono {t : AVT} (m : Mono t) : Mono (iLst t) := fun env h Q Q' k q => m env h _ _ (fun w e g z => by
  cases w <;> first | exact k _ _ _ z | exact z) q
theorem iTpl.mono {t : AVT} (m : Mono t) : Mono (iTpl t) := fun env h Q Q' k q => m env h _ _ (fun w e g z => by
  cases w <;> first | exact k _ _ _ z | exact z) q
theorem gives_list {K : PySem.W.Frag} {H : Hp} {a : Addr} {ws : List W} {vs : List V} (l : LsF H a vs) (r : RepL K H ws vs) : Gives K (Itl K a) H ws := fun H' k i => by
  have l' := (k.lsF l).sq (K := K)
  have r' := RepL.mono k _ _ r
  refine ⟨fun h => ⟨vs, l', by rw [← r'.length]; exact h⟩, fun w e => ?_⟩
  obtain ⟨v, ev, rv⟩ := r'.get e
  exact ⟨⟨vs, v, l', ev⟩, fun x H2 ⟨e1, q⟩ => by
    subst e1
    have z := q vs l'
    rw [ev] at z; cases z
    exact ⟨.refl _, rv⟩⟩
theorem gives_tup {K : PySem.W.Frag} {H : Hp} {a : Addr} {ws : List W} {vs : List V} (l : SqT K H a vs) (r : RepL K H ws vs) : Gives K (Itt K a) H ws := fun H' k i => by
  have l' := k.sqT l
  have r' := RepL.mono k _ _ r
  refine ⟨fun h => ⟨vs, l', by rw [← r'.length]; exact h⟩, fun w e => ?_⟩
  obtain ⟨v, ev, rv⟩ := r'.get e
  exact ⟨⟨vs, v, l', ev⟩, fun x H2 ⟨e1, q⟩ => by
    subst e1
    have z := q vs l'
    rw [ev] at z; cases z
    exact ⟨.refl _, rv⟩⟩
theorem ai_lst {t : AVT} (gk : G.K = X.K) (a : AV X G e t) : AI X G tg e (iLst t) := by
  refine ⟨iLst.mono a.mono, PI.imp (pi_list a.pe) fun σ H R ⟨env, h, S, q⟩ => ?_⟩
  refine ⟨env, h, S, a.mono env h _ _ (fun w env1 h1 z v H1 S1 x1 r1 => ?_) q⟩
  cases w with
  | lst ws =>
    obtain ⟨p, vs, rfl, l, r⟩ := Rep.of_lst r1
    exact ⟨p, rfl, ⟨vs, l.sq⟩, z _ H1 S1 x1 (gk ▸ gives_list l r)⟩
  | _ => exact z.elim
theorem ai_tup {t : AVT} (gk : G.K = X.K) (a : AV X G e t) : AI X G tg e (iTpl t) := by
  refine ⟨iTpl.mono a.mono, PI.imp (pi_tup a.pe) fun σ H R ⟨env, h, S, q⟩ => ?_⟩
  refine ⟨env, h, S, a.mono env h _ _ (fun w env1 h1 z v H1 S1 x1 r1 => ?_) q⟩
  cases w with
  | tup ws =>
    obtain ⟨p, vs, rfl, l, r⟩ := Rep.of_tup r1
    exact ⟨p, rfl, ⟨vs, gk ▸ l⟩, z _ H1 S1 x1 (gk ▸ gives_tup l r)⟩
  | _ => exact z.elim
/-- a list or a tuple: known ahead of the walk -/
def iOr (t u : AIT) : AIT := fun env h Q => t env h Q ∨ u env h Q
theorem PI.or {t u : TI} (a : PI X tg e t) (b : PI X tg e u) : PI X tg e (fun σ H R => t σ H R ∨ u σ H R) := ⟨fun pins s σ H R I q => q.elim (fun z => a.run pins s σ H R I z) fun z => b.run pins s σ H R I z⟩
theorem ai_or {t u : AIT} (a : AI X G tg e t) (b : AI X G tg e u) : AI X G tg e (iOr t u) :=
  ⟨fun env h Q Q' k q => q.imp (a.mono env h Q Q' k) (b.mono env h Q Q' k), PI.imp (PI.or a.pi b.pi) fun σ H R ⟨env, h, S, q⟩ => q.imp (fun z => ⟨env, h, S, z⟩) fun z => ⟨env, h, S, z⟩⟩
theorem ai_seq {t : AVT} (gk : G.K = X.K) (a : AV X G e t) : AI X G tg e (iOr (iLst t) (iTpl t)) := ai_or (ai_lst gk a) (ai_tup gk a)
/-- range(n) -/
def rngW (lo : Int) (n : Nat) : List W := (List.range n).map fun (i : Nat) => W.int (lo + i)
theorem gives_range {K : PySem.W.Frag} {H : Hp} {lo : Int} {n : Nat} : Gives K (Itr lo n) H (rngW lo n) := fun H' k i => by
  have hl : (rngW lo n).length = n := by simp [rngW]
  refine ⟨fun h => (show n ≤ i by omega), fun w e => ?_⟩
  unfold rngW at e
  rw [List.getElem?_map] at e
  cases q : (List.range n)[i]? with
  | none => rw [q] at e; cases e
  | some j =>
    rw [q] at e
    obtain ⟨hi, ej⟩ := List.getElem?_eq_some_iff.mp q
    rw [List.getElem_range] at ej
    subst ej
    cases e
    rw [List.length_range] at hi
    exact ⟨hi, fun x H2 ⟨e1, e2⟩ => by subst e1; subst e2; exact ⟨.refl _, .int⟩⟩
def iRg1 (t : ART) : AIT := fun env h Q => t env h fun rs env' h' => match rs.map (view env' h') with
  | [.wv (.int j)] => -(2 ^ 62) ≤ j ∧ j < 2 ^ 62 ∧ Q (rngW 0 j.toNat) env' h'
  | _ => False
def iRg2 (t : ART) : AIT := fun env h Q => t env h fun rs env' h' => match rs.map (view env' h') with
  | [.wv (.int i), .wv (.int j)] => (-(2 ^ 62) ≤ i ∧ i < 2 ^ 62 ∧ -(2 ^ 62) ≤ j ∧ j < 2 ^ 62) ∧ Q (rngW i (j - i).toNat) env' h'
  | _ => False
theorem ai_range1 {a : Expr} {ta : ART} {p : Pos} (hg : Gl X "range") (hm : X.mg "range" = none) (ha : AR X G [a] ta) (hs : starEach [a] X.env = [(false, eval a X.env)] := by rfl) : AI X G tg (.Call (.Name "range" p) [a] [] pos) (iRg1 ta) := by
  refine ⟨fun env h Q Q' k q => ha.mono env h _ _ (fun rs e g z => ?_) q, PI.imp (pi_range1 hg hm ha.pa hs) fun σ H R ⟨env, h, S, q⟩ => ?_⟩
  · split at z
    · exact ⟨z.1, z.2.1, k _ _ _ z.2.2⟩
    · exact z
  · refine ⟨env, h, S, ha.mono env h _ _ (fun rs env1 h1 z vs H1 S1 x1 r1 => ?_) q⟩
    have rr := r1.vrl S1
    split at z
    · rename_i j e
      rw [e] at rr
      obtain ⟨v, rfl, rv⟩ := rr.one
      cases rv.int
      exact ⟨j, rfl, z.1, z.2.1, z.2.2 _ H1 S1 x1 gives_range⟩
    · exact z.elim
theorem ai_range2 {a b : Expr} {ta : ART} {p : Pos} (hg : Gl X "range") (hm : X.mg "range" = none) (ha : AR X G [a, b] ta) (hs : starEach [a, b] X.env = [(false, eval a X.env), (false, eval b X.env)] := by rfl) (hs2 : starEach [b] X.env = [(false, eval b X.env)] := by rfl) : AI X G tg (.Call (.Name "range" p) [a, b] [] pos) (iRg2 ta) := by
  refine ⟨fun env h Q Q' k q => ha.mono env h _ _ (fun rs e g z => ?_) q, PI.imp (pi_range2 hg hm ha.pa hs hs2) fun σ H R ⟨env, h, S, q⟩ => ?_⟩
  · split at z
    · exact ⟨z.1, k _ _ _ z.2⟩
    · exact z
  · refine ⟨env, h, S, ha.mono env h _ _ (fun rs env1 h1 z vs H1 S1 x1 r1 => ?_) q⟩
    have rr := r1.vrl S1
    split at z
    · rename_i i j e
      rw [e] at rr
      obtain ⟨v, u, rfl, rv, ru⟩ := rr.two
      cases rv.int; cases ru.int
      exact ⟨i, j, rfl, z.1, z.2 _ H1 S1 x1 gives_range⟩
    · exact z.elim
end
/-! ### for -/
def aLoop (g : AGT) (tb : ATS) (D : AEnds) : List W → AEnv → AH → Prop
  | [] => D.nx
  | w :: ws => fun env h => g w env h fun env1 h1 => tb { D with nx := aLoop g tb D ws, ct := aLoop g tb D ws, bk := D.nx } env1 h1
def aFor (ti : AIT) (g : AGT) (tb : ATS) : ATS := fun D env h => ti env h fun ws env1 h1 => aLoop g tb D ws env1 h1
theorem aLoop.mono {g : AGT} {tb : ATS} (mg : MonoG g) (mt : MonoS tb) {D D' : AEnds} (l : D.Le D') : ∀ (ws : List W) env h, aLoop g tb D ws env h → aLoop g tb D' ws env h
  | [], env, h, q => l.nx _ _ q
  | w :: ws, env, h, q => mg w env h _ _ (fun e k z => mt { D with nx := aLoop g tb D ws, ct := aLoop g tb D ws, bk := D.nx } { D' with nx := aLoop g tb D' ws, ct := aLoop g tb D' ws, bk := D'.nx } e k ⟨aLoop.mono mg mt l ws, l.rt, l.nx, aLoop.mono mg mt l ws⟩ z) q
section
variable {X : Cx} {G : Gx} {tg iter : Expr} {body : List Stmt} {pos : Pos}
theorem as_for {ti : AIT} {g : AGT} {tb : ATS} {sl : List Nat} (hp : PassesOwn (model X.prog X.w) X.A X.env X.xe) (hc : X.calm = true) (hi : AI X G tg iter ti) (hg : AG X G tg sl g) (hb : ASs X G body tb)
    (hs : ∀ x, foldedSetIterable iter X.env x = pure x := by intro _; rfl) : AS X G (.For tg iter body [] pos) (aFor ti g tb) := by
  refine ⟨fun D D' env h l q => hi.mono env h _ _ (fun ws e k z => aLoop.mono hg.mono hb.mono l ws e k z) q, PS.imp (ps_for hp hc hi.pi hg.pg hb.ps hs) fun D σ H ⟨env, h, Da, S, q, l⟩ => ?_⟩
  refine ⟨env, h, S, hi.mono env h _ _ (fun ws env1 h1 z J H1 S1 x1 gv => ?_) q⟩
  have kp := x1.keeps S
  refine ⟨fun i m σ' H' => ws.length ≤ i + m ∧ Keeps H1 H' ∧ ∃ e k, BS G e k σ' H' ∧ aLoop g tb Da (ws.drop i) e k, ⟨ws.length, by omega, .refl H1, env1, h1, S1, by simpa using z⟩, ?_⟩
  rintro i m σ2 H2 ⟨hm, k2, e2, g2, S2, z2⟩
  have gi := gv H2 k2 i
  cases e : ws[i]? with
  | none =>
    have hl := List.getElem?_eq_none_iff.mp e
    rw [List.drop_eq_nil_of_le hl] at z2
    exact .inl ⟨gi.1 hl, l.nx _ _ _ _ S2 (kp.trans k2) z2⟩
  | some w =>
    obtain ⟨hl, ew⟩ := List.getElem?_eq_some_iff.mp e
    have ed : ws.drop i = w :: ws.drop (i + 1) := by rw [List.drop_eq_getElem_cons hl, ew]
    rw [ed] at z2
    obtain ⟨go, yl⟩ := gi.2 w e
    refine .inr ⟨go, fun σ' H' => Keeps H1 H' ∧ ∃ e k, BS G e k σ' H' ∧ aLoop g tb Da (ws.drop (i + 1)) e k, fun σ' H' n => ⟨m - 1, by omega, by omega, n.1, n.2⟩, fun x H3 y => ?_⟩
    obtain ⟨nw, rx⟩ := yl x H3 y
    have k3 := k2.trans nw.keeps
    refine ⟨w, e2, g2, rx, nw.bs S2, hg.mono w e2 g2 _ _ (fun e4 g4 z4 σ4 H4 S4 x4 => ?_) z2⟩
    have k4 := x4.keeps (nw.bs S2)
    refine ⟨e4, g4, _, S4, z4, ⟨fun e k σ H S' kk y => ⟨(k3.trans k4).trans kk, e, k, S', y⟩, fun r e k σ H v S' kk => l.rt r e k σ H v S' (kp.trans ((k3.trans k4).trans kk)), fun e k σ H S' kk => l.nx e k σ H S' (kp.trans ((k3.trans k4).trans kk)), fun e k σ H S' kk y => ⟨(k3.trans k4).trans kk, e, k, S', y⟩⟩⟩
end
end Ab

namespace Ab
open PySem PySem.Spec PyProof.Rows L2
/-! ### the slots of a comprehension's own names -/
def wipeA (env : AEnv) : List Nat → AEnv
  | [] => env
  | v :: vs => (wipeA env vs).set v none
def keepV : Option (Option SV) → Option SV
  | some (some (.val w)) => some (.val w)
  | _ => none
def mend (env e2 : AEnv) : List Nat → AEnv
  | [] => e2
  | v :: vs => (mend env e2 vs).set v (keepV env[v]?)
theorem wipeA_len (env : AEnv) : ∀ vs, (wipeA env vs).length = env.length
  | [] => rfl
  | v :: vs => by rw [wipeA, List.length_set, wipeA_len env vs]
theorem mend_len (env e2 : AEnv) : ∀ vs, (mend env e2 vs).length = e2.length
  | [] => rfl
  | v :: vs => by rw [mend, List.length_set, mend_len env e2 vs]
theorem wipeA_out {env : AEnv} {i : Nat} : ∀ {vs : List Nat}, i ∉ vs → (wipeA env vs)[i]? = env[i]?
  | [], _ => rfl
  | v :: vs, h => by
    rw [wipeA, List.getElem?_set_ne (fun z => h (by simp [z])), wipeA_out fun z => h (List.mem_cons_of_mem _ z)]
theorem wipeA_some {env : AEnv} {i : Nat} {x : SV} : ∀ {vs : List Nat}, (wipeA env vs)[i]? = some (some x) → env[i]? = some (some x) ∧ i ∉ vs
  | [], h => ⟨h, by simp⟩
  | v :: vs, h => by
    rw [wipeA] at h
    by_cases hi : v = i
    · subst hi
      by_cases hl : v < (wipeA env vs).length
      · rw [List.getElem?_set_self hl] at h; cases h
      · rw [List.getElem?_eq_none (by rw [List.length_set]; omega)] at h; cases h
    · rw [List.getElem?_set_ne hi] at h
      obtain ⟨a, b⟩ := wipeA_some h
      exact ⟨a, by simp only [List.mem_cons, not_or]; exact ⟨fun z => hi z.symm, b⟩⟩
theorem mend_out {env e2 : AEnv} {i : Nat} : ∀ {vs : List Nat}, i ∉ vs → (mend env e2 vs)[i]? = e2[i]?
  | [], _ => rfl
  | v :: vs, h => by
    rw [mend, List.getElem?_set_ne (fun z => h (by simp [z])), mend_out fun z => h (List.mem_cons_of_mem _ z)]
theorem mend_in {env e2 : AEnv} {i : Nat} {x : SV} : ∀ {vs : List Nat}, i ∈ vs → (mend env e2 vs)[i]? = some (some x) → ∃ w, x = .val w ∧ env[i]? = some (some (.val w))
  | v :: vs, hi, h => by
    rw [mend] at h
    by_cases e : v = i
    · subst e
      by_cases hl : v < (mend env e2 vs).length
      · rw [List.getElem?_set_self hl] at h
        cases q : env[v]? with
        | none => rw [q] at h; cases h
        | some o =>
          cases o with
          | none => rw [q] at h; cases h
          | some sv =>
            cases sv with
            | val w => rw [q] at h; cases h; exact ⟨w, rfl, rfl⟩
            | own c => rw [q] at h; cases h
      · rw [List.getElem?_eq_none (by rw [List.length_set]; omega)] at h; cases h
    · rw [List.getElem?_set_ne e] at h
      rcases List.mem_cons.mp hi with z | z
      · exact absurd z.symm e
      · exact mend_in z h
theorem wipe_len (σ : L2.St) (vs : List Nat) : (wipe σ vs).length = σ.length := wipe_length σ vs
theorem wipe_out' {σ : L2.St} {i : Nat} : ∀ {vs : List Nat}, i ∉ vs → (wipe σ vs)[i]? = σ[i]?
  | [], _ => rfl
  | v :: vs, h => by
    rw [wipe, List.getElem?_set_ne (fun z => h (by simp [z])), wipe_out' fun z => h (List.mem_cons_of_mem _ z)]
theorem wipe_in {σ : L2.St} {i : Nat} : ∀ {vs : List Nat}, i ∈ vs → (wipe σ vs)[i]? = if i < σ.length then some none else none
  | v :: vs, h => by
    rw [wipe]
    by_cases e : v = i
    · subst e
      by_cases hl : v < σ.length
      · rw [if_pos hl, List.getElem?_set_self (by rw [wipe_len]; exact hl)]
      · rw [if_neg hl, List.getElem?_eq_none (by rw [List.length_set, wipe_len]; omega)]
    · rw [List.getElem?_set_ne e]
      rcases List.mem_cons.mp h with z | z
      · exact absurd z.symm e
      · exact wipe_in z
theorem wipe_but {σ σ2 : L2.St} {vs sl : List Nat} (b : But sl (wipe σ vs) σ2) (h : ∀ i ∈ sl, i ∈ vs) : wipe σ2 vs = wipe σ vs := by
  have hl : σ2.length = σ.length := b.1.trans (wipe_len _ _)
  apply List.ext_getElem?
  intro i
  by_cases hi : i ∈ vs
  · rw [wipe_in hi, wipe_in hi, hl]
  · rw [wipe_out' hi, b.2 i fun z => hi (h i z)]
section
variable {G : Gx} {env e2 : AEnv} {h h2 : AH} {σ σ2 : L2.St} {H H2 : Hp} {vs sl : List Nat}
theorem OwnAt.wiped {p : Addr} (o : OwnAt (wipeA env vs) (wipe σ vs) p) : OwnAt env σ p := by
  obtain ⟨i, c, a, b⟩ := o
  obtain ⟨a1, hi⟩ := wipeA_some a
  rw [wipe_out' hi] at b
  exact ⟨i, c, a1, b⟩
theorem BS.wipe (S : BS G env h σ H) : BS G (wipeA env vs) h (L2.wipe σ vs) H := by
  refine ⟨by rw [wipeA_len, wipe_len]; exact S.len, fun i w e => ?_, fun i c e => ?_, fun i j c c' p e1 e2 f1 f2 => ?_, S.hp, S.fr, S.ext, S.tr⟩
  · obtain ⟨a, hi⟩ := wipeA_some e
    rw [wipe_out' hi]; exact S.val i w a
  · obtain ⟨a, hi⟩ := wipeA_some e
    rw [wipe_out' hi]; exact S.own i c a
  · obtain ⟨a, hi⟩ := wipeA_some e1
    obtain ⟨b, hj⟩ := wipeA_some e2
    rw [wipe_out' hi] at f1; rw [wipe_out' hj] at f2
    exact S.uni i j c c' p a b f1 f2
/-- behind the block the names are as they were -/
theorem BS.mend (S : BS G env h σ H) (S2 : BS G e2 h2 σ2 H2) (k : Keeps H H2) (b : But sl (L2.wipe σ vs) σ2) (hs : ∀ i ∈ sl, i ∈ vs) : BS G (mend env e2 vs) h2 σ H2 := by
  have at_ : ∀ {i : Nat}, i ∉ vs → σ2[i]? = σ[i]? := fun {i} hi => (b.2 i fun z => hi (hs i z)).trans (wipe_out' hi)
  refine ⟨by rw [mend_len, S2.len, b.1, wipe_len], fun i w e => ?_, fun i c e => ?_, fun i j c c' p e1 e2 f1 f2 => ?_, S2.hp, S2.fr, S2.ext, S2.tr⟩
  · by_cases hi : i ∈ vs
    · obtain ⟨w', e0, a⟩ := mend_in hi e
      cases e0
      obtain ⟨v, x, y⟩ := S.val i w a
      exact ⟨v, x, Rep.mono k w v y⟩
    · rw [mend_out hi] at e
      obtain ⟨v, x, y⟩ := S2.val i w e
      exact ⟨v, (at_ hi).symm.trans x, y⟩
  · by_cases hi : i ∈ vs
    · obtain ⟨w', e0, _⟩ := mend_in hi e; cases e0
    · rw [mend_out hi] at e
      obtain ⟨p, x, y⟩ := S2.own i c e
      exact ⟨p, (at_ hi).symm.trans x, y⟩
  · by_cases hi : i ∈ vs
    · obtain ⟨w', e0, _⟩ := mend_in hi e1; cases e0
    · by_cases hj : j ∈ vs
      · obtain ⟨w', e0, _⟩ := mend_in hj e2; cases e0
      · rw [mend_out hi] at e1; rw [mend_out hj] at e2
        exact S2.uni i j c c' p e1 e2 ((at_ hi).trans f1) ((at_ hj).trans f2)
/-- what stands at an address that the abstract layer doesn't see is changed -/
theorem BS.unseen (S : BS G env h σ H) {D : Addr} {o o' : HO} (e : H D = some o) (m : ¬ Imm o) (n : h D = none) (n0 : G.H0 D = none) (no : ¬ OwnAt env σ D) : Keeps H (upd H D o') ∧ BS G env h σ (upd H D o') := by
  have k : Keeps H (upd H D o') := fun p u q i => by
    have ne : p ≠ D := fun z => by subst z; rw [e] at q; cases q; exact m i
    rw [upd_ne ne]; exact q
  refine ⟨k, S.len, fun i w z => ?_, fun i c z => ?_, S.uni, fun a u z => ?_, fun p u z y => ?_, S.ext, fun p u z => ?_⟩
  · obtain ⟨v, x, y⟩ := S.val i w z; exact ⟨v, x, Rep.mono k w v y⟩
  · obtain ⟨p, x, y, a, b⟩ := S.own i c z
    have ne : p ≠ D := fun q => no ⟨i, c, z, q ▸ x⟩
    exact ⟨p, x, y.mono k (upd_ne ne), a, b⟩
  · have ne : a ≠ D := fun q => by rw [q, n] at z; cases z
    exact (S.hp a u z).mono k (upd_ne ne)
  · have ne : p ≠ D := fun q => by rw [q, n0] at z; cases z
    rw [upd_ne ne]; exact S.fr p u z y
  · by_cases q : p = D
    · subst q; exact ⟨_, upd_same⟩
    · obtain ⟨u', y⟩ := S.tr p u z; exact ⟨u', by rw [upd_ne q]; exact y⟩
end
/-! ### list comprehensions -/
/-- from the items: what is made so far, slots and abstract heap -/
def lcLoop (vs : List Nat) (g : AGT) (tt : ABT) (te : AVT) (Q : List W → AEnv → AH → Prop) : List W → List W → AEnv → AH → Prop
  | [], acc => fun env h => Q acc env h
  | w :: ws, acc => fun env h => g w (wipeA env vs) h fun e1 h1 => tt e1 h1 fun b e2 h2 => if b = true then te e2 h2 fun y e3 h3 => acc.length < sizeLine ∧ lcLoop vs g tt te Q ws (acc ++ [y]) (mend env e3 vs) h3 else lcLoop vs g tt te Q ws acc (mend env e2 vs) h2
def aLc (vs : List Nat) (ti : AIT) (g : AGT) (tt : ABT) (te : AVT) : AT := fun env h Q => ti env h fun ws e1 h1 => lcLoop vs g tt te (fun acc e h => Q (.own (.seq acc)) e h) ws [] e1 h1
theorem lcLoop.mono {vs : List Nat} {g : AGT} {tt : ABT} {te : AVT} (mg : MonoG g) (mt : Mono tt) (me : Mono te) {Q Q' : List W → AEnv → AH → Prop} (k : ∀ a e h, Q a e h → Q' a e h) : ∀ (ws acc : List W) env h, lcLoop vs g tt te Q ws acc env h → lcLoop vs g tt te Q' ws acc env h
  | [], acc, env, h, q => k _ _ _ q
  | w :: ws, acc, env, h, q => mg _ _ _ _ _ (fun e1 h1 z => mt _ _ _ _ (fun b e2 h2 z => by
    cases b with
    | true => rw [if_pos rfl] at z ⊢; exact me _ _ _ _ (fun y e3 h3 z => ⟨z.1, lcLoop.mono mg mt me k ws _ _ _ z.2⟩) z
    | false => rw [if_neg Bool.false_ne_true] at z ⊢; exact lcLoop.mono mg mt me k ws _ _ _ z) z) q
structure APs (X : Cx) (G : Gx) (ifs : List Expr) (t : ABT) : Prop where
  mono : Mono t
  pts : PTs X ifs (cT G t)
def aYes : ABT := fun env h Q => Q true env h
theorem aps_nil {X : Cx} {G : Gx} : APs X G [] aYes := ⟨fun env h Q Q' k q => k _ _ _ q, ⟨fun pins s σ H Q I ⟨env, h, S, q⟩ => pts_nil.run pins s σ H Q I (q H S .refl)⟩⟩
theorem aps_one {X : Cx} {G : Gx} {c : Expr} {t : ABT} (h : AP X G c t) : APs X G [c] t := ⟨h.mono, pts_one h.pt⟩
section
variable {X : Cx} {G : Gx} {elt tg iter : Expr} {ifs : List Expr} {scope : Scope} {own : List (Str × Nat)} {pos : Pos} {ti : AIT} {g : AGT} {tt : ABT} {te : AVT} {sl : List Nat}
theorem ae_lc (hc : X.calm = true) (hN : X.N.Nodup) (hi : AI X G tg iter ti) (ok : BlkOk X.N X.env.scope scope own) (hsl : ∀ i ∈ sl, i ∈ own.map (·.2))
    (hg : ∀ (s : Shared) (H : Hp) (C : Addr) (cl : List (Str × Addr)) (fp : List Addr), AG (X.blk s H scope (compEnvC scope cl C X.env) fp) G tg sl g) (ht : ∀ (s : Shared) (H : Hp) (C : Addr) (cl : List (Str × Addr)) (fp : List Addr), APs (X.blk s H scope (compEnvC scope cl C X.env) fp) G ifs tt)
    (he : ∀ (s : Shared) (H : Hp) (C : Addr) (cl : List (Str × Addr)) (fp : List Addr), AV (X.blk s H scope (compEnvC scope cl C X.env) fp) G elt te) (mg : MonoG g) (mt : Mono tt) (me : Mono te) (hs : ∀ x, foldedSetIterable iter X.env x = pure x := by intro _; rfl) :
    AE X G (.ListComp elt [⟨tg, iter, ifs, 0⟩] scope pos) (aLc (own.map (·.2)) ti g tt te) := by
  refine ⟨fun env h Q Q' k q => hi.mono env h _ _ (fun ws e1 h1 z => lcLoop.mono mg mt me (fun a e h q => k _ _ _ q) ws [] e1 h1 z) q, PE.imp (pe_lc hc hN hi.pi ok (fun s H C cl fp => (hg s H C cl fp).pg) (fun s H C cl fp => (ht s H C cl fp).pts) (fun s H C cl fp => (he s H C cl fp).pe) hs) fun σ H Q ⟨env, h, S, q⟩ => ?_⟩
  refine ⟨env, h, S, hi.mono env h _ _ (fun ws env1 h1 z J H1 S1 x1 gv => ?_) q⟩
  intro D nD
  have hD : H D = none := x1.fresh nD
  obtain ⟨hd1, hd0, hdo⟩ := S1.noAt nD
  have nw0 : New H1 (upd H1 D (.lst [])) := New.upd nD
  refine ⟨fun i m H' => ws.length ≤ i + m ∧ Keeps H1 H' ∧ ∃ acc vacc e k, H' D = some (.lst vacc) ∧ RepL G.K H' acc vacc ∧ BS G e k σ H' ∧ Xt env h σ H e k H' ∧ k D = none ∧ ¬ OwnAt e σ D ∧
    lcLoop (own.map (·.2)) g tt te (fun acc e h' => ∀ v H', BS G e h' σ H' → Xt env h σ H e h' H' → RvRep G e h' σ H' (.own (.seq acc)) v → Fsh H (.own (.seq acc)) v → Q v H') (ws.drop i) acc e k,
    ⟨ws.length, by omega, nw0.keeps, [], [], env1, h1, upd_same, .nil, nw0.bs S1, x1.trans nw0.xt, hd1, hdo, by simpa using z⟩, ?_⟩
  rintro i m H2 ⟨hm, k2, acc, vacc, e2, g2, d2, r2, S2, x2, n2, no2, z2⟩
  have gi := gv H2 k2 i
  cases e : ws[i]? with
  | none =>
    have hl := List.getElem?_eq_none_iff.mp e
    rw [List.drop_eq_nil_of_le hl] at z2
    exact .inl ⟨gi.1 hl, z2 _ H2 S2 x2 ⟨D, rfl, ⟨vacc, d2, r2⟩, n2, hd0, no2⟩ fun p ep => by cases ep; exact hD⟩
  | some w =>
    obtain ⟨hl, ew⟩ := List.getElem?_eq_some_iff.mp e
    have ed : ws.drop i = w :: ws.drop (i + 1) := by rw [List.drop_eq_getElem_cons hl, ew]
    rw [ed] at z2
    simp only [lcLoop] at z2
    obtain ⟨go, yl⟩ := gi.2 w e
    refine .inr ⟨go, fun H' => Keeps H1 H' ∧ ∃ acc vacc e k, H' D = some (.lst vacc) ∧ RepL G.K H' acc vacc ∧ BS G e k σ H' ∧ Xt env h σ H e k H' ∧ k D = none ∧ ¬ OwnAt e σ D ∧
      lcLoop (own.map (·.2)) g tt te (fun acc e h' => ∀ v H', BS G e h' σ H' → Xt env h σ H e h' H' → RvRep G e h' σ H' (.own (.seq acc)) v → Fsh H (.own (.seq acc)) v → Q v H') (ws.drop (i + 1)) acc e k, fun H' n => ⟨m - 1, by omega, by omega, n.1, n.2⟩, fun x H3 y => ?_⟩
    obtain ⟨nw, rx⟩ := yl x H3 y
    have S3 := nw.bs S2
    refine ⟨w, wipeA e2 (own.map (·.2)), g2, rx, S3.wipe, mg _ _ _ _ _ (fun e4 g4 z4 σ4 H4 S4 x4 => ?_) z2⟩
    refine ⟨wipe_but x4.bt hsl, e4, g4, S4, mt _ _ _ _ (fun b e5 g5 z5 H5 S5 x5 => ?_) z4⟩
    -- what has happened since the turn began
    have fin : ∀ {e6 : AEnv} {g6 : AH} {H6 : Hp}, BS G e6 g6 σ4 H6 → Xt e4 g4 σ4 H4 e6 g6 H6 → H6 D = some (.lst vacc) ∧ Keeps H2 H6 ∧ BS G (mend e2 e6 (own.map (·.2))) g6 σ H6 ∧ g6 D = none ∧ ¬ OwnAt (mend e2 e6 (own.map (·.2))) σ D ∧
        ∀ ys, Xt env h σ H (mend e2 e6 (own.map (·.2))) g6 (upd H6 D (.lst ys)) := fun {e6 g6 H6} S6 x6 => by
      have xx := x4.trans x6.xg
      have noW : ¬ OwnAt (wipeA e2 (own.map (·.2))) (wipe σ (own.map (·.2))) D := fun q => no2 q.wiped
      have f6 : ∀ p o, H2 p = some o → g2 p = none → ¬ OwnAt e2 σ p → H6 p = some o := fun p o e n q => xx.fr p o (nw p o e) n fun q' => q q'.wiped
      have kk : Keeps H2 H6 := fun p o e i => f6 p o e (S2.imm e i).1 (S2.imm e i).2
      have Sm := BS.mend (sl := sl ++ []) S2 S6 kk xx.bt fun i hi => hsl i (by simpa using hi)
      have g6D : g6 D = none := by
        cases q : g6 D with
        | none => rfl
        | some u => have y := xx.hn D u q n2; rw [nw D _ d2] at y; cases y
      have sameOut : ∀ {j : Nat}, j ∉ own.map (·.2) → σ4[j]? = σ[j]? := fun {j} hj => (x4.bt.2 j fun q => hj (hsl j q)).trans (wipe_out' hj)
      have oM : ∀ p, OwnAt (mend e2 e6 (own.map (·.2))) σ p → OwnAt e2 σ p := fun p ⟨j, c, a, b⟩ => by
        by_cases hj : j ∈ own.map (·.2)
        · obtain ⟨w', e0, _⟩ := mend_in hj a; cases e0
        · rw [mend_out hj] at a
          exact (xx.ow p ⟨j, c, a, (sameOut hj).trans b⟩).wiped
      refine ⟨f6 D _ d2 n2 no2, kk, Sm, g6D, fun q => no2 (oM D q), fun ys => ⟨fun p o e n q => ?_, fun p o e n => ?_, fun p o e => ?_, fun j c e => ?_⟩⟩
      · have np : p ≠ D := fun z => by rw [z, hD] at e; cases e
        rw [upd_ne np]
        refine f6 p o (x2.fr p o e n q) ?_ fun y => q (x2.own y)
        cases y : g2 p with
        | none => rfl
        | some u => rw [x2.hn p u y n] at e; cases e
      · cases y : g2 p with
        | some u => exact x2.hn p u y n
        | none =>
          have y3 := xx.hn p o e y
          cases y4 : H p with
          | none => rfl
          | some u =>
            obtain ⟨u', y5⟩ := x2.th p u y4
            rw [nw p u' y5] at y3; cases y3
      · by_cases hp : p = D
        · subst hp; exact ⟨_, upd_same⟩
        · obtain ⟨u, y⟩ := x2.th p o e
          obtain ⟨u', y'⟩ := xx.th p u (nw p u y)
          exact ⟨u', by rw [upd_ne hp]; exact y'⟩
      · by_cases hj : j ∈ own.map (·.2)
        · obtain ⟨w', e0, _⟩ := mend_in hj e; cases e0
        · rw [mend_out hj] at e
          obtain ⟨c1, y⟩ := xx.so j _ e
          obtain ⟨y1, _⟩ := wipeA_some y
          exact x2.sl j c1 y1
    cases b with
    | true =>
      rw [if_pos rfl] at z5
      refine iteT ⟨e5, g5, S5, me _ _ _ _ (fun y e6 g6 ⟨hz, z6⟩ v H6 S6 x6 r6 => ?_) z5⟩
      obtain ⟨d6, k6, Sm, n6, no6, xm⟩ := fin S6 (x5.trans x6)
      obtain ⟨k7, S7⟩ := Sm.unseen (o' := .lst (vacc ++ [v])) d6 (fun z => z) n6 hd0 no6
      exact ⟨vacc, d6, by rw [← r2.length]; exact hz, (k2.trans k6).trans k7, acc ++ [y], vacc ++ [v], _, g6, upd_same, (RepL.mono (k6.trans k7) _ _ r2).append (.cons (Rep.mono k7 _ _ r6) .nil), S7, xm _, n6, no6, z6⟩
    | false =>
      rw [if_neg Bool.false_ne_true] at z5
      refine iteF ?_
      obtain ⟨d6, k6, Sm, n6, no6, xm⟩ := fin S5 x5
      have eu : upd H5 D (.lst vacc) = H5 := by
        funext p
        by_cases hp : p = D
        · subst hp; rw [upd_same, d6]
        · rw [upd_ne hp]
      have xm' := xm vacc
      rw [eu] at xm'
      exact ⟨k2.trans k6, acc, vacc, _, g5, d6, RepL.mono k6 _ _ r2, Sm, xm', n6, no6, z5⟩
end
end Ab

namespace Ab
open PySem PySem.Spec PyProof.Rows L2
/-! ### places that are written -/
def updA (h : AH) (a : Addr) (o : AO) : AH := fun b => if b = a then some o else h b
theorem updA_same {h : AH} {a : Addr} {o : AO} : updA h a o a = some o := by unfold updA; rw [if_pos rfl]
theorem updA_ne {h : AH} {a b : Addr} {o : AO} (n : b ≠ a) : updA h a o b = h b := by unfold updA; rw [if_neg n]
theorem updA_upd {h : AH} {a : Addr} {o u : AO} : updA (updA h a o) a u = updA h a u := by
  funext b; unfold updA; split <;> rfl
/-- the list or dict that may be written through a result -/
def plc (env : AEnv) (h : AH) : RV → Option Cont
  | .slot i => match env[i]? with
    | some (some (.own c)) => some c
    | _ => none
  | .val (.ref a) => match h a with
    | some (.cont c) => some c
    | _ => none
  | _ => none
def putE (env : AEnv) (r : RV) (c : Cont) : AEnv := match r with
  | .slot i => env.set i (some (.own c))
  | _ => env
def putH (h : AH) (r : RV) (c : Cont) : AH := match r with
  | .val (.ref a) => updA h a (.cont c)
  | _ => h
section
variable {G : Gx} {env : AEnv} {h : AH} {σ : L2.St} {H : Hp}
theorem put_ok (S : BS G env h σ H) {r : RV} {v : V} {c : Cont} (rr : RvRep G env h σ H r v) (e : plc env h r = some c) : ∃ p, v = .ref p ∧ CRep G.K H p c ∧
    ∀ o' c', (Keeps H (upd H p o') → CRep G.K (upd H p o') p c') → BS G (putE env r c') (putH h r c') σ (upd H p o') ∧ Xt env h σ H (putE env r c') (putH h r c') (upd H p o') := by
  -- what all cases have in common
  have com : ∀ (p : Addr) (o' : HO), (∃ u, H p = some u ∧ Mu u) → Keeps H (upd H p o') ∧ (∀ q o, H q = some o → ∃ u, upd H p o' q = some u) := fun p o' ⟨u, eu, mu⟩ => by
    refine ⟨fun q o eq i => ?_, fun q o eq => ?_⟩
    · have ne : q ≠ p := fun z => by subst z; rw [eu] at eq; cases eq; exact mu.imm i
      rw [upd_ne ne]; exact eq
    · by_cases z : q = p
      · subst z; exact ⟨_, upd_same⟩
      · exact ⟨o, by rw [upd_ne z]; exact eq⟩
  cases r with
  | own c0 => cases e
  | slot i =>
    have e : (match env[i]? with
      | some (some (.own c)) => some c
      | _ => none) = some c := e
    split at e
    · rename_i c0 hs
      cases e
      obtain ⟨p, es, cr, n, n0⟩ := S.own i c hs
      have es' : σ[i]? = some (some v) := rr
      rw [es] at es'; cases es'
      refine ⟨p, rfl, cr, fun o' c' hc => ?_⟩
      obtain ⟨kp, th⟩ := com p o' cr.there
      have hc := hc kp
      have at_ : ∀ (j : Nat) (sv : SV), (env.set i (some (SV.own c')))[j]? = some (some sv) → (j = i ∧ sv = .own c') ∨ (j ≠ i ∧ env[j]? = some (some sv)) := fun j sv z => by
        rw [set_slot hs] at z
        by_cases hj : j = i
        · rw [if_pos hj] at z; cases z; exact .inl ⟨hj, rfl⟩
        · rw [if_neg hj] at z; exact .inr ⟨hj, z⟩
      show BS G (env.set i (some (.own c'))) h σ _ ∧ Xt env h σ H (env.set i (some (.own c'))) h _
      refine ⟨⟨by rw [List.length_set]; exact S.len, fun j w z => ?_, fun j d z => ?_, fun j k d d' q z1 z2 f1 f2 => ?_, fun a o z => ?_, fun q o z y => ?_, S.ext, fun q o z => ?_⟩, fun q o z y w => ?_, fun q o z y => (by rw [y] at z; cases z), th, fun j d z => ?_⟩
      · rcases at_ j _ z with ⟨_, z⟩ | ⟨_, z⟩
        · cases z
        · obtain ⟨u, a, b⟩ := S.val j w z; exact ⟨u, a, Rep.mono kp w u b⟩
      · rcases at_ j _ z with ⟨hj, z⟩ | ⟨hj, z⟩
        · cases z; exact ⟨p, hj ▸ es, hc, n, n0⟩
        · obtain ⟨q, a, b, x, y⟩ := S.own j d z
          have nq : q ≠ p := fun z2 => hj (S.uni j i d c p z hs (z2 ▸ a) es)
          exact ⟨q, a, b.mono kp (upd_ne nq), x, y⟩
      · rcases at_ j _ z1 with ⟨hj, y1⟩ | ⟨hj, y1⟩
        · rcases at_ k _ z2 with ⟨hk, y2⟩ | ⟨hk, y2⟩
          · rw [hj, hk]
          · rw [hj] at f1 ⊢; exact S.uni i k c d' q hs y2 f1 f2
        · rcases at_ k _ z2 with ⟨hk, y2⟩ | ⟨hk, y2⟩
          · rw [hk] at f2 ⊢; exact S.uni j i d c q y1 hs f1 f2
          · exact S.uni j k d d' q y1 y2 f1 f2
      · have na : a ≠ p := fun y => by rw [y, n] at z; cases z
        exact (S.hp a o z).mono kp (upd_ne na)
      · have nq : q ≠ p := fun x => by rw [x, n0] at z; cases z
        rw [upd_ne nq]; exact S.fr q o z y
      · obtain ⟨u, y⟩ := S.tr q o z; exact th q u y
      · have nq : q ≠ p := fun x => w ⟨i, c, hs, x ▸ es⟩
        rw [upd_ne nq]; exact z
      · rcases at_ j _ z with ⟨hj, z⟩ | ⟨hj, z⟩
        · exact ⟨c, hj ▸ hs⟩
        · exact ⟨d, z⟩
    · cases e
  | val w0 =>
    cases w0 with
    | ref a =>
      have e : (match h a with
        | some (.cont c) => some c
        | _ => none) = some c := e
      split at e
      · rename_i c0 ha
        cases e
        have ev : v = .ref a := Rep.of_ref (K := G.K) (H := H) rr
        have cr : CRep G.K H a c := S.hp a _ ha
        refine ⟨a, ev, cr, fun o' c' hc => ?_⟩
        obtain ⟨kp, th⟩ := com a o' cr.there
        have hc := hc kp
        show BS G env (updA h a (.cont c')) σ _ ∧ Xt env h σ H env (updA h a (.cont c')) _
        have neo : ∀ {j : Nat} {d : Cont} {q : Addr}, env[j]? = some (some (SV.own d)) → σ[j]? = some (some (V.ref q)) → q ≠ a := fun z y x => by
          obtain ⟨q', a', _, n, _⟩ := S.own _ _ z
          rw [y] at a'; cases a'
          rw [x, ha] at n; cases n
        refine ⟨⟨S.len, fun j w z => ?_, fun j d z => ?_, S.uni, fun b o z => ?_, fun q o z y => ?_, fun b o z y => ?_, fun q o z => ?_⟩, fun q o z y w => ?_, fun q o z y => ?_, th, fun j d z => ⟨d, z⟩⟩
        · obtain ⟨u, x, y⟩ := S.val j w z; exact ⟨u, x, Rep.mono kp w u y⟩
        · obtain ⟨q, x, y, n, n0⟩ := S.own j d z
          have nq := neo z x
          exact ⟨q, x, y.mono kp (upd_ne nq), by rw [updA_ne nq]; exact n, n0⟩
        · by_cases hb : b = a
          · subst hb; rw [updA_same] at z; cases z; exact hc
          · rw [updA_ne hb] at z; exact (S.hp b o z).mono kp (upd_ne hb)
        · have nq : q ≠ a := fun x => by
            subst x
            have := S.ext q _ ha y
            rw [this] at z; cases z
          rw [upd_ne nq]; exact S.fr q o z y
        · by_cases hb : b = a
          · subst hb; exact S.ext b _ ha y
          · rw [updA_ne hb] at z; exact S.ext b o z y
        · obtain ⟨u, y⟩ := S.tr q o z; exact th q u y
        · have nq : q ≠ a := fun x => by rw [x, ha] at y; cases y
          rw [upd_ne nq]; exact z
        · have nq : q ≠ a := fun x => by rw [x, ha] at y; cases y
          rw [updA_ne nq, y] at z; cases z
      · cases e
    | _ => cases e
end
/-! ### methods of lists that write -/
abbrev LmT := List W → List W → (List W → W → Prop) → Prop
structure LmOk (K : PySem.W.Frag) (r : V → List V → Hp → VK → Prop) (f : LmT) : Prop where
  mono : ∀ xs ws Q Q', (∀ a b, Q a b → Q' a b) → f xs ws Q → f xs ws Q'
  ok : ∀ H p xs vs ws us Qf Q, H p = some (.lst vs) → RepL K H xs vs → RepL K H ws us → f xs ws Qf → (∀ xs' vs' w v, Qf xs' w → RepL K H xs' vs' → Rep K H w v → Q v (upd H p (.lst vs'))) → r (.ref p) us H Q
def isSeq : Option Cont → Prop
  | some (.seq _) => True
  | _ => False
def aLm (f : LmT) (to : AT) (t : AAT) : AT := fun env h Q => to env h fun ro env1 h1 => isSeq (plc env1 h1 ro) ∧ t env1 h1 fun ws env2 h2 => match plc env2 h2 ro with
  | some (.seq xs) => f xs ws fun xs' w => Q (.val w) (putE env2 ro (.seq xs')) (putH h2 ro (.seq xs'))
  | _ => False
theorem aLm.mono {K : PySem.W.Frag} {r : V → List V → Hp → VK → Prop} {f : LmT} {to : AT} {t : AAT} (lm : LmOk K r f) (a : Mono to) (b : Mono t) : Mono (aLm f to t) := fun env h Q Q' k q => a env h _ _ (fun ro e g z => ⟨z.1, b e g _ _ (fun ws e2 g2 z => by
  split at z
  · exact lm.mono _ _ _ _ (fun _ _ q => k _ _ _ q) z
  · exact z) z.2⟩) q
section
variable {X : Cx} {G : Gx} {o e : Expr} {es : List Expr} {to : AT} {t : AAT} {name : Str} {apos cpos : Pos} {id : String} {r : V → List V → Hp → VK → Prop} {f : LmT}
theorem lm_core {σ : L2.St} {H : Hp} {Q : VK} (gk : G.K = X.K) (lm : LmOk G.K r f) (mo : Mono to) (mt : Mono t) (q : cE G (aLm f to t) σ H Q) : tBM X.K "list" r (cE G to) (cA G t) σ H Q := by
  obtain ⟨env, h, S, q⟩ := q
  refine ⟨env, h, S, mo env h _ _ (fun ro env1 h1 ⟨hs, z⟩ x H1 S1 x1 r1 f1 => ?_) q⟩
  have ty : tyV X.K "list" x H1 := by
    cases e : plc env1 h1 ro with
    | none => rw [e] at hs; exact hs.elim
    | some c =>
      cases c with
      | map _ => rw [e] at hs; exact hs.elim
      | seq xs =>
        obtain ⟨p, rfl, ⟨vs, l, _⟩, _⟩ := put_ok S1 r1 e
        exact .inl ⟨rfl, _, .inl (.inl l)⟩
  refine ⟨ty, env1, h1, S1, mt env1 h1 _ _ (fun ws env2 h2 z vs H2 S2 x2 r2 => ?_) z⟩
  split at z
  · rename_i xs e
    obtain ⟨p, rfl, ⟨us, l, rl⟩, put⟩ := put_ok S2 (r1.xt S1 x2) e
    refine lm.ok H2 p xs us ws vs _ Q l rl r2 z fun xs' vs' w v q0 ra rw0 => ?_
    have kp : Keeps H2 (upd H2 p (.lst vs')) := fun q o e i => by
      have ne : q ≠ p := fun z => by subst z; rw [l] at e; cases e; exact i
      rw [upd_ne ne]; exact e
    obtain ⟨S3, x3⟩ := put (.lst vs') (.seq xs') fun k => ⟨vs', upd_same, RepL.mono k _ _ ra⟩
    exact q0 v _ S3 (x1.trans (x2.trans x3)) (show Rep G.K _ w v from Rep.mono kp w v rw0) trivial
  · exact z.elim
theorem ae_lm (gk : G.K = X.K) (lm : LmOk G.K r f) (pa : PlainAttrs "list") (slot : Slot "list" name id) (hty : typeOf (.builtin id) = pure (.type "method_descriptor")) (hm : MtR X id r) (ho : AE X G o to) (ha : AA X G (e :: es) t)
    (hbase : attributeBase o name X.env (eval o X.env) = eval o X.env := by rfl)
    (hfew : ((backTo cpos (starEach (e :: es) X.env)).all (fun x => !x.1) && (backToKw cpos (keywordEach [] X.env)).all (fun x => x.1.isSome)
      && decide ((e :: es).length + ([] : List Keyword).length + (if ([] : List Keyword).isEmpty then 0 else 1) < 30)) = true := by rfl)
    (hline : (apos.endLine == cpos.line) = true := by rfl) (hs : starEach (e :: es) X.env = (false, eval e X.env) :: starEach es X.env := by rfl) (hplain : (backTo cpos (starEach es X.env)).any (·.1) = false := by rfl) :
    AE X G (.Call (.Attribute o name apos) (e :: es) [] cpos) (aLm f to t) :=
  ⟨aLm.mono lm ho.mono ha.mono, PE.imp (pe_bm pa slot hty hm ho.pe ha.pa hbase hfew hline hs hplain) fun _ _ _ q => lm_core gk lm ho.mono ha.mono q⟩
theorem ae_lm0 (gk : G.K = X.K) (lm : LmOk G.K r f) (pa : PlainAttrs "list") (slot : Slot "list" name id) (hty : typeOf (.builtin id) = pure (.type "method_descriptor")) (hm : MtR X id r) (ho : AE X G o to)
    (hbase : attributeBase o name X.env (eval o X.env) = eval o X.env := by rfl) (hline : (apos.endLine == cpos.line) = true := by rfl) :
    AE X G (.Call (.Attribute o name apos) [] [] cpos) (aLm f to aNil) := by
  refine ⟨aLm.mono lm ho.mono aNil.mono, PE.imp (pe_bm0 pa slot hty hm ho.pe hbase hline) fun σ H Q q => ?_⟩
  obtain ⟨env, h, S, q⟩ := q
  have z := lm_core (X := X) (t := aNil) gk lm ho.mono aNil.mono ⟨env, h, S, q⟩
  obtain ⟨env, h, S, z⟩ := z
  refine ⟨env, h, S, ho.mono env h _ _ (fun ro env1 h1 z x H1 S1 x1 r1 f1 => ?_) z⟩
  obtain ⟨ty, env2, h2, S2, q2⟩ := z x H1 S1 x1 r1 f1
  exact ⟨ty, q2 [] H1 S2 .refl .nil⟩
end
section
variable {K : PySem.W.Frag}
def fAppend : LmT := fun xs ws Q => match ws with
  | [y] => xs.length < sizeLine ∧ Q (xs ++ [y]) .non
  | _ => False
theorem lm_append : LmOk K rAppend fAppend :=
  ⟨fun xs ws Q Q' k q => by
    unfold fAppend at q ⊢
    split at q
    · exact ⟨q.1, k _ _ q.2⟩
    · exact q, fun H p xs vs ws us Qf Q l rl rw0 q k => by
    unfold fAppend at q
    split at q
    · obtain ⟨v, t, rfl, rv, rt⟩ := rw0.of_cons
      rw [rt.of_nil]
      exact ⟨p, vs, v, rfl, rfl, l, by rw [← rl.length]; exact q.1, k _ _ _ _ q.2 (rl.append (.cons rv .nil)) .non⟩
    · exact q.elim⟩
def fPop : LmT := fun xs ws Q => match ws with
  | [] => ∃ y, xs[xs.length - 1]? = some y ∧ Q xs.dropLast y
  | _ => False
theorem RepL.dropLast {H : Hp} : ∀ {ws : List W} {vs : List V}, RepL K H ws vs → RepL K H ws.dropLast vs.dropLast
  | [], vs, h => by rw [h.of_nil]; exact .nil
  | [w], vs, h => by
    obtain ⟨v, t, rfl, a, b⟩ := h.of_cons
    rw [b.of_nil]; exact .nil
  | w :: x :: ws, vs, h => by
    obtain ⟨v, t, rfl, a, b⟩ := h.of_cons
    obtain ⟨v2, t2, rfl, a2, b2⟩ := b.of_cons
    exact .cons a (RepL.dropLast (.cons a2 b2))
theorem lm_pop : LmOk K rPop fPop :=
  ⟨fun xs ws Q Q' k q => by
    unfold fPop at q ⊢
    split at q
    · obtain ⟨y, e, q⟩ := q; exact ⟨y, e, k _ _ q⟩
    · exact q, fun H p xs vs ws us Qf Q l rl rw0 q k => by
    unfold fPop at q
    split at q
    · rw [rw0.of_nil]
      obtain ⟨y, e, q⟩ := q
      obtain ⟨v, ev, rv⟩ := rl.get e
      exact ⟨p, vs, v, rfl, rfl, l, by rw [← rl.length]; exact ev, k _ _ _ _ q rl.dropLast rv⟩
    · exact q.elim⟩
def fPopAt : LmT := fun xs ws Q => match ws with
  | [.int i] => -(2 ^ 63) ≤ i ∧ i < 2 ^ 63 ∧ ∃ k y, seqIndex? i xs.length = some k ∧ xs[k]? = some y ∧ Q (xs.eraseIdx k) y
  | _ => False
theorem lm_popAt : LmOk K rPopAt fPopAt :=
  ⟨fun xs ws Q Q' k q => by
    unfold fPopAt at q ⊢
    split at q
    · obtain ⟨a, b, j, y, e, f, q⟩ := q; exact ⟨a, b, j, y, e, f, k _ _ q⟩
    · exact q, fun H p xs vs ws us Qf Q l rl rw0 q k => by
    unfold fPopAt at q
    split at q
    · obtain ⟨v, t, rfl, rv, rt⟩ := rw0.of_cons
      rw [rt.of_nil, Rep.of_int (K := K) (H := H) rv]
      obtain ⟨a, b, j, y, e, f, q⟩ := q
      obtain ⟨v, ev, rv⟩ := rl.get f
      exact ⟨p, vs, _, j, v, rfl, rfl, l, a, b, by rw [← rl.length]; exact e, ev, k _ _ _ _ q (rl.eraseIdx j) rv⟩
    · exact q.elim⟩
end
/-! ### x[i] = e of a list -/
def gSet (to ti : AT) : AGT := fun w env h Q => to env h fun ro env1 h1 => ti env1 h1 fun ri env2 h2 => match view env2 h2 ri with
  | .wv (.int k) => match plc env2 h2 ro with
    | some (.seq xs) => ∃ j, ixN xs.length k = some j ∧ Q (putE env2 ro (.seq (xs.set j w))) (putH h2 ro (.seq (xs.set j w)))
    | _ => False
  | _ => False
section
variable {X : Cx} {G : Gx} {o i : Expr} {to ti : AT} {pos : Pos}
theorem ag_set (ho : AE X G o to) (hi : AE X G i ti)
    (ha : PG X (.Subscript o i pos) (gSub (cE G to) (cE G ti) rSetL)) : AG X G (.Subscript o i pos) [] (gSet to ti) := by
  refine ⟨fun w env h Q Q' k q => ho.mono env h _ _ (fun ro e g z => hi.mono e g _ _ (fun ri e g z => ?_) z) q, PG.imp ha fun v σ H Q ⟨w, env, h, rv, S, q⟩ => ?_⟩
  · split at z
    · split at z
      · obtain ⟨j, e, z⟩ := z; exact ⟨j, e, k _ _ z⟩
      · exact z
    · exact z
  · refine ⟨env, h, S, ho.mono env h _ _ (fun ro env1 h1 z x H1 S1 x1 r1 f1 => ?_) q⟩
    refine ⟨env1, h1, S1, hi.mono env1 h1 _ _ (fun ri env2 h2 z y H2 S2 x2 r2 f2 => ?_) z⟩
    have ry := r2.vr S2
    split at z
    · rename_i k ek
      rw [ek] at ry
      split at z
      · rename_i xs e
        obtain ⟨j, ej, z⟩ := z
        obtain ⟨p, rfl, ⟨us, l, rl⟩, put⟩ := put_ok S2 (r1.xt S1 x2) e
        have rv2 : Rep G.K H2 w v := Rep.mono ((x1.keeps S).trans (x2.keeps S1)) w v rv
        refine ⟨p, us, k, j, rfl, ry.int, l, by rw [← rl.length]; exact ej, ?_⟩
        obtain ⟨S3, x3⟩ := put (.lst (us.set j v)) (.seq (xs.set j w)) fun kk => ⟨_, upd_same, RepL.mono kk _ _ (rl.set j rv2)⟩
        exact z σ _ S3 (x1.trans (x2.trans x3)).xg
      · exact z.elim
    · exact z.elim
end
/-! ### target = e -/
section
variable {X : Cx} {G : Gx} {tg e : Expr} {tv : AVT} {g : AGT} {sl : List Nat} {pos : Pos} {st : Stmt} {t : ATS}
def aAsg (tv : AVT) (g : AGT) : ATS := fun D env h => tv env h fun w env1 h1 => g w env1 h1 D.nx
theorem as_asg (he : AV X G e tv) (hg : AG X G tg sl g) (hs : swapsWithSole [tg] e pos.line X.env = pure false := by rfl) (hw : swappedStores [tg] e X.env = pure none := by rfl) (h1 : (assignEach [tg] X.env).map (·.2) = [assign tg X.env] := by rfl) : AS X G (.Assign [tg] e pos) (aAsg tv g) := by
  refine ⟨fun D D' env h l q => he.mono env h _ _ (fun w e g z => hg.mono _ _ _ _ _ l.nx z) q, PS.imp (ps_asg he.pe hg.pg hs hw h1) fun D σ H ⟨env, h, Da, S, q, l⟩ => ?_⟩
  refine ⟨env, h, S, he.mono env h _ _ (fun w env1 h1 z v H1 S1 x1 r1 => ?_) q⟩
  exact ⟨w, env1, h1, r1, S1, hg.mono _ _ _ _ _ (fun env2 h2 z σ2 H2 S2 x2 => l.nx _ _ _ _ S2 ((x1.keeps S).trans (x2.keeps S1)) z) z⟩
/-! ### steps of the ghost -/
/-- the slot's own list or dict is shared from here on: it lies in the abstract heap -/
def aProm (i : Nat) (t : ATS) : ATS := fun D env h => match env[i]? with
  | some (some (.own c)) => ∀ p, h p = none → t D (env.set i (some (.val (.ref p)))) (updA h p (.cont c))
  | _ => False
theorem as_prom (i : Nat) (a : AS X G st t) : AS X G st (aProm i t) := by
  refine ⟨fun D D' env h l q => ?_, PS.imp a.ps fun D σ H ⟨env, h, Da, S, q, l⟩ => ?_⟩
  · unfold aProm at q ⊢
    split at q
    · exact fun p n => a.mono _ _ _ _ l (q p n)
    · exact q
  · unfold aProm at q
    split at q
    · rename_i c e
      obtain ⟨p, es, cr, n, n0⟩ := S.own i c e
      refine ⟨_, _, Da, ?_, q p n, l⟩
      have at_ : ∀ (j : Nat) (sv : SV), (env.set i (some (SV.val (.ref p))))[j]? = some (some sv) → (j = i ∧ sv = .val (.ref p)) ∨ (j ≠ i ∧ env[j]? = some (some sv)) := fun j sv z => by
        rw [set_slot e] at z
        by_cases hj : j = i
        · rw [if_pos hj] at z; cases z; exact .inl ⟨hj, rfl⟩
        · rw [if_neg hj] at z; exact .inr ⟨hj, z⟩
      refine ⟨by rw [List.length_set]; exact S.len, fun j w z => ?_, fun j d z => ?_, fun j k d d' q z1 z2 f1 f2 => ?_, fun a o z => ?_, S.fr, fun a o z y => ?_, S.tr⟩
      · rcases at_ j _ z with ⟨hj, z⟩ | ⟨_, z⟩
        · cases z; exact ⟨_, hj ▸ es, .ref⟩
        · exact S.val j w z
      · rcases at_ j _ z with ⟨_, z⟩ | ⟨hj, z⟩
        · cases z
        · obtain ⟨q, a, b, x, y⟩ := S.own j d z
          have nq : q ≠ p := fun z2 => hj (S.uni j i d c p z e (z2 ▸ a) es)
          exact ⟨q, a, b, by rw [updA_ne nq]; exact x, y⟩
      · rcases at_ j _ z1 with ⟨_, y⟩ | ⟨_, y1⟩
        · cases y
        · rcases at_ k _ z2 with ⟨_, y⟩ | ⟨_, y2⟩
          · cases y
          · exact S.uni j k d d' q y1 y2 f1 f2
      · by_cases ha : a = p
        · subst ha; rw [updA_same] at z; cases z; exact cr
        · rw [updA_ne ha] at z; exact S.hp a o z
      · by_cases ha : a = p
        · subst ha; exact n0
        · rw [updA_ne ha] at z; exact S.ext a o z y
    · exact q.elim
end
/-! ### a def's body keeps its promise -/
def startA (n : Nat) (ws : List W) : AEnv := ws.map (fun w => some (.val w)) ++ List.replicate (n - ws.length) none
def AH.Le (h h' : AH) : Prop := ∀ a o, h a = some o → h' a = some o
/-- what is wanted where the body ends: parts of the abstract heap may be forgotten -/
def endsOf (Qa : RR → AH → Prop) : AEnds where
  nx := fun _ h => ∃ h', AH.Le h' h ∧ Qa (.val .non) h'
  rt := fun r env h => ∃ h', AH.Le h' h ∧ match r with
    | .val w => Qa (.val w) h'
    | .own c => Qa (.own c) h'
    | .slot i => match env[i]? with
      | some (some (.val w)) => Qa (.val w) h'
      | some (some (.own c)) => Qa (.own c) h'
      | _ => False
def excOf (Ea : AExc → AH → Prop) : AExc → AEnv → AH → Prop := fun x _ h => ∃ h', AH.Le h' h ∧ Ea x h'
theorem BS.begin {K : PySem.W.Frag} {h : AH} {H : Hp} {ws : List W} {vs : List V} {N : List Str} (hp : ∀ a o, h a = some o → ORep K H a o) (r : RepL K H ws vs) (hl : ws.length ≤ N.length) : BS ⟨K, h, H⟩ (startA N.length ws) h (L2.start N vs) H := by
  have e1 : (startA N.length ws).length = N.length := by simp [startA]; omega
  have e2 : (L2.start N vs).length = N.length := by simp [L2.start, ← r.length]; omega
  have at_ : ∀ (i : Nat) (sv : SV), (startA N.length ws)[i]? = some (some sv) → ∃ w, sv = .val w ∧ ws[i]? = some w := fun i sv e => by
    unfold startA at e
    by_cases hi : i < ws.length
    · rw [List.getElem?_append_left (by simpa using hi), List.getElem?_map] at e
      cases q : ws[i]? with
      | none => rw [q] at e; cases e
      | some w => rw [q] at e; cases e; exact ⟨w, rfl, rfl⟩
    · rw [List.getElem?_append_right (by simpa using hi), List.getElem?_replicate] at e
      split at e <;> cases e
  refine ⟨by rw [e1, e2], fun i w e => ?_, fun i c e => ?_, fun i j c c' p e => ?_, hp, fun p o e _ => e, fun a o e n => (by have n : h a = none := n; rw [n] at e; cases e), fun p o e => ⟨o, e⟩⟩
  · obtain ⟨w', z, y⟩ := at_ i _ e
    cases z
    obtain ⟨v, ev, rv⟩ := r.get y
    refine ⟨v, ?_, rv⟩
    have hi : i < vs.length := (List.getElem?_eq_some_iff.mp ev).1
    unfold L2.start
    rw [List.getElem?_append_left (by simpa using hi), List.getElem?_map, ev]
    rfl
  · obtain ⟨w', z, _⟩ := at_ i _ e; cases z
  · obtain ⟨w', z, _⟩ := at_ i _ e; cases z
section
variable {P : Program} {w : World} {K : PySem.W.Frag} {mg : Str → Option Value} {base : Heap} {x qual : Str} {params : Arguments} {body : List Stmt} {scope : Scope} {f : Addr} {fd : FuncData} {N ps : List Str} {k n : Nat} {sp : ASp}
/-- the context of the def's body -/
abbrev bx (P : Program) (w : World) (K : PySem.W.Frag) (mg : Str → Option Value) (base : Heap) (N : List Str) (qual : Str) (scope : Scope) (f : Addr) (cdv : Value) (A : Around) (outer : List Env) (s : Shared) (H : Hp) (E : XK) : Cx :=
  cxOf (L2.CX P w) P w K mg base N qual scope f cdv A outer s H E
theorem HS.le {G : Gx} {h h' : AH} {H : Hp} (a : HS G h H) (l : AH.Le h' h) : HS G h' H := ⟨fun p o e => a.hp p o (l p o e), a.fr, fun p o e => a.ext p o (l p o e), a.tr⟩
theorem def_ok {t : (AExc → AEnv → AH → Prop) → ATS} (dvs : List V) (kws : List (Str × V)) (F : FunD K x qual params body scope dvs kws f fd) (S : FnScope N ps scope) (hn : ps.length = n)
    (hb : ∀ (cdv : Value) (A : Around) (outer : List Env) (s : Shared) (H : Hp) (E : XK) (G : Gx) (E' : AExc → AEnv → AH → Prop), Room k (A.deeper (envOfC qual scope s.heap.objs.size f cdv)) → G.K = K → Takes (bx P w K mg base N qual scope f cdv A outer s H E) (cW G E') →
      ASs (bx P w K mg base N qual scope f cdv A outer s H E) G body (t E'))
    (hq : ∀ ws h Qa Ea, ws.length = n → sp ws h Qa Ea → t (excOf Ea) (endsOf Qa) (startA N.length ws) h) :
    FnOk P w K mg base (L2.CX P w) (k + 1) f fd ps (cSp K n sp) := by
  refine F.ok S (fun vs H Q E ⟨ws, h, Qa, Ea, hl, _, r, _⟩ => by rw [← r.length, hl, hn]) (fun cdv A outer s H vs Q E hr ⟨ws, h, Qa, Ea, hl, hp, r, q, kq, ke⟩ => ?_)
  have hwN : ws.length ≤ N.length := by
    have z := congrArg List.length S.pre
    rw [List.length_take] at z
    omega
  have tk : Takes (bx P w K mg base N qual scope f cdv A outer s H E) (cW ⟨K, h, H⟩ (excOf Ea)) := Takes.imp (W := fun cls d _ H' => E cls d H') (takes_of rfl rfl rfl rfl) fun cls d σ H' ⟨x, env, h', SB, xr, h'', le, e⟩ =>
    ke x h'' cls d H' e (HS.le (G := ⟨K, h, H⟩) ⟨SB.hp, SB.fr, SB.ext, SB.tr⟩ le) xr
  refine ⟨_, (hb cdv A outer s H E ⟨K, h, H⟩ (excOf Ea) hr rfl tk).ps, startA N.length ws, h, endsOf Qa, BS.begin hp r hwN, hq ws h Qa Ea hl q, ?_⟩
  have hs : ∀ {env h' σ' H'}, BS ⟨K, h, H⟩ env h' σ' H' → HS ⟨K, h, H⟩ h' H' := fun SB => ⟨SB.hp, SB.fr, SB.ext, SB.tr⟩
  refine ⟨fun env h' σ' H' SB _ ⟨h'', le, e⟩ => kq (.val .non) h'' .non H' e ((hs SB).le le) (show Rep K H' .non .non from .non), fun r0 env h' σ' H' v SB _ rr ⟨h'', le, e⟩ => ?_, fun _ _ _ _ _ _ z => z.elim, fun _ _ _ _ _ _ z => z.elim⟩
  have own_end : ∀ {p : Addr} {c : Cont}, v = .ref p → CRep K H' p c → h' p = none → H p = none → RrRep ⟨K, h, H⟩ h'' H' (.own c) v := fun {p c} e1 e2 e3 e4 => by
    have e5 : h'' p = none := by
      cases z : h'' p with
      | none => rfl
      | some u => rw [le p u z] at e3; cases e3
    exact ⟨p, e1, e2, e5, e4⟩
  cases r0 with
  | val w0 => exact kq (.val w0) h'' v H' e ((hs SB).le le) rr
  | own c =>
    obtain ⟨p, e1, cr, a, b, _⟩ := rr
    exact kq (.own c) h'' v H' e ((hs SB).le le) (own_end e1 cr a b)
  | slot i =>
    have es : σ'[i]? = some (some v) := rr
    have e : match env[i]? with
      | some (some (.val w)) => Qa (.val w) h''
      | some (some (.own c)) => Qa (.own c) h''
      | _ => False := e
    split at e
    · rename_i w0 ei
      obtain ⟨u, e3, rv⟩ := SB.val i w0 ei
      rw [es] at e3; cases e3
      exact kq (.val w0) h'' v H' e ((hs SB).le le) rv
    · rename_i c ei
      obtain ⟨p, e3, cr, a, b⟩ := SB.own i c ei
      rw [es] at e3; cases e3
      exact kq (.own c) h'' _ H' e ((hs SB).le le) (own_end rfl cr a b)
    · exact e.elim
end
end Ab

namespace Ab
open PySem PySem.Spec PyProof.Rows L2 RZ
/-! ### and, or, not as values -/
def aAndV (ta tb : AT) : AT := fun env h Q => ta env h fun r env1 h1 => match view env1 h1 r with
  | .wv (.bl c) => if c = true then tb env1 h1 Q else Q (.val (.bl false)) env1 h1
  | _ => False
def aOrV (ta tb : AT) : AT := fun env h Q => ta env h fun r env1 h1 => match view env1 h1 r with
  | .wv (.bl c) => if c = true then Q (.val (.bl true)) env1 h1 else tb env1 h1 Q
  | _ => False
def aNotV (ta : AT) : AT := fun env h Q => ta env h fun r env1 h1 => match view env1 h1 r with
  | .wv (.bl c) => Q (.val (.bl (!c))) env1 h1
  | _ => False
section
variable {X : Cx} {G : Gx} {a b : Expr} {ta tb : AT} {pos : Pos} {rest : List Expr}
theorem fsh_from {env env1 : AEnv} {h h1 : AH} {σ : L2.St} {H H1 : Hp} (x1 : Xt env h σ H env1 h1 H1) {r : RV} {v : V} (f : Fsh H1 r v) : Fsh H r v := by
  cases r with
  | own c => exact fun p e => x1.fresh (f p e)
  | _ => trivial
/-- go on with another expression in the same state -/
theorem on_with {t : AT} {env env1 : AEnv} {h h1 : AH} {σ : L2.St} {H H1 : Hp} {Q : VK} (m : Mono t) (S1 : BS G env1 h1 σ H1) (x1 : Xt env h σ H env1 h1 H1)
    (z : t env1 h1 fun r env' h' => ∀ v H', BS G env' h' σ H' → Xt env h σ H env' h' H' → RvRep G env' h' σ H' r v → Fsh H r v → Q v H') : cE G t σ H1 Q :=
  ⟨env1, h1, S1, m env1 h1 _ _ (fun r env2 h2 z2 v H2 S2 x2 r2 f2 => z2 v H2 S2 (x1.trans x2) r2 (fsh_from x1 f2)) z⟩
theorem ae_and1 (ha : AE X G a ta) : AE X G (.BoolOp .And [a] pos) ta := ⟨ha.mono, pe_one ha.pe⟩
theorem ae_or1 (ha : AE X G a ta) : AE X G (.BoolOp .Or [a] pos) ta := ⟨ha.mono, pe_one ha.pe⟩
theorem ae_and (ha : AE X G a ta) (hb : AE X G (.BoolOp .And (b :: rest) pos) tb) : AE X G (.BoolOp .And (a :: b :: rest) pos) (aAndV ta tb) := by
  refine ⟨fun env h Q Q' k q => ha.mono env h _ _ (fun r e g z => ?_) q, PE.imp (pe_and ha.pe hb.pe) fun σ H Q ⟨env, h, S, q⟩ => ⟨env, h, S, ha.mono env h _ _ (fun r e g z v H1 S1 x1 r1 f1 => ?_) q⟩⟩
  · split at z
    · rename_i c _
      cases c with
      | true => exact iteT (hb.mono e g _ _ k (by simpa using z))
      | false => exact iteF (k _ _ _ (by simpa using z))
    · exact z
  · have rv := r1.vr S1
    split at z
    · rename_i c ec
      rw [ec] at rv
      refine ⟨c, rv.bl, ?_⟩
      cases c with
      | true => rw [if_pos rfl] at z; exact iteT (on_with hb.mono S1 x1 z)
      | false => rw [if_neg Bool.false_ne_true] at z; exact iteF (z (.bl false) H1 S1 x1 (show Rep G.K H1 (.bl false) (.bl false) from .bl) trivial)
    · exact z.elim
theorem ae_or (ha : AE X G a ta) (hb : AE X G (.BoolOp .Or (b :: rest) pos) tb) : AE X G (.BoolOp .Or (a :: b :: rest) pos) (aOrV ta tb) := by
  refine ⟨fun env h Q Q' k q => ha.mono env h _ _ (fun r e g z => ?_) q, PE.imp (pe_or ha.pe hb.pe) fun σ H Q ⟨env, h, S, q⟩ => ⟨env, h, S, ha.mono env h _ _ (fun r e g z v H1 S1 x1 r1 f1 => ?_) q⟩⟩
  · split at z
    · rename_i c _
      cases c with
      | true => exact iteT (k _ _ _ (by simpa using z))
      | false => exact iteF (hb.mono e g _ _ k (by simpa using z))
    · exact z
  · have rv := r1.vr S1
    split at z
    · rename_i c ec
      rw [ec] at rv
      refine ⟨c, rv.bl, ?_⟩
      cases c with
      | true => rw [if_pos rfl] at z; exact iteT (z (.bl true) H1 S1 x1 (show Rep G.K H1 (.bl true) (.bl true) from .bl) trivial)
      | false => rw [if_neg Bool.false_ne_true] at z; exact iteF (on_with hb.mono S1 x1 z)
    · exact z.elim
theorem ae_not (ha : AE X G a ta) : AE X G (.UnaryOp .Not a pos) (aNotV ta) := by
  refine ⟨fun env h Q Q' k q => ha.mono env h _ _ (fun r e g z => ?_) q, PE.imp (pe_not ha.pe) fun σ H Q ⟨env, h, S, q⟩ => ⟨env, h, S, ha.mono env h _ _ (fun r e g z v H1 S1 x1 r1 f1 => ?_) q⟩⟩
  · split at z
    · exact k _ _ _ z
    · exact z
  · have rv := r1.vr S1
    split at z
    · rename_i c ec
      rw [ec] at rv
      exact ⟨c, rv.bl, z (.bl (!c)) H1 S1 x1 (show Rep G.K H1 (.bl (!c)) (.bl (!c)) from .bl) trivial⟩
    · exact z.elim
theorem ae_mulI (ha : AE X G a ta) (hb : AE X G b tb) : AE X G (.BinOp a .Mult b pos) (aOp2 (oII CMulW fun i j => .int (i * j)) ta tb) := ae_op op_mulW (opa_int fun _ _ _ => .int) ha hb
theorem ae_pow (ha : AE X G a ta) (hb : AE X G b tb) : AE X G (.BinOp a .Pow b pos) (aOp2 (oII CPow fun i j => .int (i ^ j.toNat)) ta tb) := ae_op op_pow (opa_int fun _ _ _ => .int) ha hb
/-! ### x, y = a, b -/
def aPar (i j : Nat) (t : AAT) : ATS := fun D env h => t env h fun ws env1 h1 => match ws with
  | [v, w] => D.nx ((env1.set i (some (.val v))).set j (some (.val w))) h1
  | _ => False
theorem as_par {i j : Nat} {x y : Str} {t : AAT} {px py pt : Pos} {kt k2 pt2} (hc : X.calm = true) (hN : X.N.Nodup) (hi : X.N[i]? = some x) (hj : X.N[j]? = some y) (hij : i ≠ j)
    (hx : X.env.scope.names.lookup x = some .local) (hy : X.env.scope.names.lookup y = some .local) (ha : AA X G [a, b] t)
    (hw : swappedStores [.Tuple [.Name x px, .Name y py] kt pt] (.Tuple [a, b] k2 pt2) X.env = pure (some [x, y]))
    (hs : swapsWithSole [.Tuple [.Name x px, .Name y py] kt pt] (.Tuple [a, b] k2 pt2) pos.line X.env = pure false := by rfl) :
    AS X G (.Assign [.Tuple [.Name x px, .Name y py] kt pt] (.Tuple [a, b] k2 pt2) pos) (aPar i j t) := by
  refine ⟨fun D D' env h l q => ha.mono env h _ _ (fun ws e g z => ?_) q, PS.imp (ps_par hc hN hi hj hij hx hy ha.pa hw hs) fun D σ H ⟨env, h, Da, S, q, l⟩ => ⟨env, h, S, ha.mono env h _ _ (fun ws env1 h1 z vs H1 S1 x1 r1 => ?_) q⟩⟩
  · split at z
    · exact l.nx _ _ z
    · exact z
  · split at z
    · rename_i v w
      obtain ⟨v', t, rfl, a1, b1⟩ := r1.of_cons
      obtain ⟨w', t, rfl, a2, b2⟩ := b1.of_cons
      rw [b2.of_nil]
      exact ⟨v', w', rfl, l.nx _ _ _ _ ((S1.set (r := .val v) i a1 trivial).set (r := .val w) j a2 trivial) (x1.keeps S) z⟩
    · exact z.elim
/-! ### zip -/
theorem zipWith_get {ws us : List W} {i : Nat} {w : W} (e : (List.zipWith (fun a b => W.tup [a, b]) ws us)[i]? = some w) : ∃ a b, ws[i]? = some a ∧ us[i]? = some b ∧ w = .tup [a, b] := by
  rw [List.getElem?_zipWith] at e
  cases q : ws[i]? with
  | none => rw [q] at e; cases e
  | some a =>
    cases q2 : us[i]? with
    | none => rw [q, q2] at e; cases e
    | some b => rw [q, q2] at e; cases e; exact ⟨a, b, rfl, rfl, rfl⟩
theorem gives_zipT {K : PySem.W.Frag} {H : Hp} {a b : Addr} {ws us : List W} {vs xs : List V} (l : SqT K H a vs) (l' : SqT K H b xs) (r : RepL K H ws vs) (r' : RepL K H us xs) : Gives K (ItzT K a b) H (List.zipWith (fun a b => W.tup [a, b]) ws us) := fun H' k i => by
  have l := k.sqT l
  have l' := k.sqT l'
  have r := RepL.mono k _ _ r
  have r' := RepL.mono k _ _ r'
  refine ⟨fun h => ⟨vs, xs, l, l', ?_⟩, fun w e => ?_⟩
  · rw [List.length_zipWith, r.length, r'.length] at h; omega
  · obtain ⟨x, y, e1, e2, rfl⟩ := zipWith_get e
    obtain ⟨v, ev, rv⟩ := r.get e1
    obtain ⟨u, eu, ru⟩ := r'.get e2
    refine ⟨⟨vs, xs, v, u, l, l', ev, eu⟩, fun z H2 ⟨T, v', u', e3, n, e4, q1, q2⟩ => ?_⟩
    have z1 := q1 vs l
    have z2 := q2 xs l'
    rw [ev] at z1; rw [eu] at z2
    cases z1; cases z2
    subst e3; subst e4
    have nw : New H' (upd H' T (.tup [v, u])) := New.upd n
    exact ⟨nw, .tup (.inl (.inl upd_same)) (.cons (Rep.mono nw.keeps _ _ rv) (.cons (Rep.mono nw.keeps _ _ ru) .nil))⟩
theorem gives_zipL {K : PySem.W.Frag} {H : Hp} {a b : Addr} {ws us : List W} {vs xs : List V} (l : LsF H a vs) (l' : LsF H b xs) (r : RepL K H ws vs) (r' : RepL K H us xs) : Gives K (Itz K a b) H (List.zipWith (fun a b => W.tup [a, b]) ws us) := fun H' k i => by
  have l := (k.lsF l).sq (K := K)
  have l' := (k.lsF l').sq (K := K)
  have r := RepL.mono k _ _ r
  have r' := RepL.mono k _ _ r'
  refine ⟨fun h => ⟨vs, xs, l, l', ?_⟩, fun w e => ?_⟩
  · rw [List.length_zipWith, r.length, r'.length] at h; omega
  · obtain ⟨x, y, e1, e2, rfl⟩ := zipWith_get e
    obtain ⟨v, ev, rv⟩ := r.get e1
    obtain ⟨u, eu, ru⟩ := r'.get e2
    refine ⟨⟨vs, xs, v, u, l, l', ev, eu⟩, fun z H2 ⟨T, v', u', e3, n, e4, q1, q2⟩ => ?_⟩
    have z1 := q1 vs l
    have z2 := q2 xs l'
    rw [ev] at z1; rw [eu] at z2
    cases z1; cases z2
    subst e3; subst e4
    have nw : New H' (upd H' T (.tup [v, u])) := New.upd n
    exact ⟨nw, .tup (.inl (.inl upd_same)) (.cons (Rep.mono nw.keeps _ _ rv) (.cons (Rep.mono nw.keeps _ _ ru) .nil))⟩
def iZp (t : AAT) : AIT := fun env h Q => t env h fun ws env' h' => match ws with
  | [.tup xs, .tup ys] => Q (List.zipWith (fun a b => W.tup [a, b]) xs ys) env' h'
  | [.lst xs, .lst ys] => Q (List.zipWith (fun a b => W.tup [a, b]) xs ys) env' h'
  | _ => False
theorem ai_zip {e e2 : Expr} {ta : AAT} {p pos tpos : Pos} {elts : List Expr} {kk : Nat} (gk : G.K = X.K) (hg : Gl X "zip") (hm : X.mg "zip" = none) (ha : AA X G [e, e2] ta)
    (hs : starEach [e, e2] X.env = (false, eval e X.env) :: starEach [e2] X.env := by rfl) (hpl : (backTo pos (starEach [e2] X.env)).any (·.1) = false := by rfl) : AI X G (.Tuple elts kk tpos) (.Call (.Name "zip" p) [e, e2] [] pos) (iZp ta) := by
  refine ⟨fun env h Q Q' k q => ha.mono env h _ _ (fun ws e g z => ?_) q, PI.imp (pi_zipA hg hm ha.pa hs hpl) fun σ H R ⟨env, h, S, q⟩ => ⟨env, h, S, ha.mono env h _ _ (fun ws env1 h1 z vs H1 S1 x1 r1 => ?_) q⟩⟩
  · split at z
    · exact k _ _ _ z
    · exact k _ _ _ z
    · exact z
  · split at z
    · obtain ⟨v', t, rfl, a1, b1⟩ := r1.of_cons
      obtain ⟨w', t, rfl, a2, b2⟩ := b1.of_cons
      rw [b2.of_nil]
      obtain ⟨p1, u1, rfl, l1, q1⟩ := Rep.of_tup a1
      obtain ⟨p2, u2, rfl, l2, q2⟩ := Rep.of_tup a2
      exact ⟨p1, p2, u1, u2, rfl, .inr ⟨gk ▸ l1, gk ▸ l2, z _ H1 S1 x1 (gk ▸ gives_zipT l1 l2 q1 q2)⟩⟩
    · obtain ⟨v', t, rfl, a1, b1⟩ := r1.of_cons
      obtain ⟨w', t, rfl, a2, b2⟩ := b1.of_cons
      rw [b2.of_nil]
      obtain ⟨p1, u1, rfl, l1, q1⟩ := Rep.of_lst a1
      obtain ⟨p2, u2, rfl, l2, q2⟩ := Rep.of_lst a2
      exact ⟨p1, p2, u1, u2, rfl, .inl ⟨l1.sq, l2.sq, z _ H1 S1 x1 (gk ▸ gives_zipL l1 l2 q1 q2)⟩⟩
    · exact z.elim
end
/-! ### keywords -/
structure AK (X : Cx) (G : Gx) (kws : List Keyword) (t : AAT) : Prop where
  mono : Mono t
  pk : PK X kws (cA G t)
theorem PK.imp {X : Cx} {e : List Keyword} {t t' : TA} (h : PK X e t) (i : ∀ σ H Q, t' σ H Q → t σ H Q) : PK X e t' := ⟨fun pos pins s σ H Q I q => h.run pos pins s σ H Q I (i σ H Q q)⟩
section
variable {X : Cx} {G : Gx} {k n : Nat} {f : Addr} {fd : FuncData} {ps ks : List Str} {sp : ASp} {x : Str} {p pos kpos : Pos} {e : Expr} {es : List Expr} {kws : List Keyword} {nm : Option Str} {t tk : AAT} {tv : AVT} {E : AExc → AEnv → AH → Prop}
theorem ak_nil : AK X G [] aNil := ⟨aNil.mono, PK.imp pk_nil fun σ H Q ⟨env, h, S, q⟩ => q [] H S .refl .nil⟩
theorem ak_cons (a : AV X G e tv) (b : AK X G kws tk) : AK X G (⟨nm, e, kpos⟩ :: kws) (aCons tv tk) := by
  refine ⟨aCons.mono a.mono b.mono, PK.imp (pk_cons a.pe b.pk) fun σ H Q ⟨env, h, S, q⟩ => ?_⟩
  refine ⟨env, h, S, a.mono env h _ _ (fun w env1 h1 z v H1 S1 x1 r1 => ?_) q⟩
  refine ⟨env1, h1, S1, b.mono env1 h1 _ _ (fun ws env2 h2 z vs H2 S2 x2 r2 => ?_) z⟩
  exact z (v :: vs) H2 S2 (x1.trans x2) (.cons (Rep.mono (x2.keeps S1) w v r1) r2)
/-- how a call with keywords puts what it has in the parameters' order: gW on data, gV on values, g on the machine's -/
structure AKB (K : PySem.W.Frag) (fd : FuncData) (ps ks : List Str) (n : Nat) (gW : List W → List W → List W) where
  g : List Value → List Value → List Value
  gV : List V → List V → List V
  kb : KBinds K fd ps ks g gV
  rep : ∀ (H : Hp) (ws zs : List W) (vs us : List V), (gW ws zs).length = n → RepL K H ws vs → RepL K H zs us → RepL K H (gW ws zs) (gV vs us)
theorem run_kw {CX : CXT} {sp : Sp} {g : List Value → List Value → List Value} {gV : List V → List V → List V} {pins : List (Addr × Obj)} {σ : L2.St} {H : Hp} {s : Shared} {Q : VK} {E : XK} {us ws : List Value} {vs zs : List V} (F : FnOk X.prog X.w X.K X.mg X.base CX k f fd ps sp) (hr : Room k X.A) (hb : KBinds X.K fd ps ks g gV)
    (hx : PassesAt CX X σ E) (I : Inv X pins σ H s) (r : Vals vs us) (rz : Vals zs ws) (h : sp (gV vs zs) H Q E) : wpAny (model X.prog X.w) X.A (call (.ref f) us (ks.zip ws)) (EP X pins σ Q) X.xe s := by
  have r2 := hb.rel r rz
  have hl : (g us ws).length = ps.length := r2.length.symm.trans (F.len _ _ _ _ h)
  refine wpAny_call (codeAny_mono (F.run X.A X.stack s H ⟨us, ks.zip ws⟩ _ _ Q E hr I.env0 (hb.to s us ws I.kIn hl) r2 h) fun r s' hq => ?_)
  cases r with
  | error e => exact hx pins H s e s' I hq
  | ok fl => cases fl <;> first | exact I.after hq | exact False.elim hq
def aCallK (E : AExc → AEnv → AH → Prop) (sp : ASp) (n : Nat) (gW : List W → List W → List W) (t tk : AAT) : AT := fun env h Q => t env h fun ws env1 h1 => tk env1 h1 fun zs env2 h2 => (gW ws zs).length = n ∧ sp (gW ws zs) h2 (fun r h3 => match r with
  | .val w => Q (.val w) env2 h3
  | .own c => Q (.own c) env2 h3) fun x h3 => E x env2 h3
theorem aCallK.mono {gW : List W → List W → List W} (m : SpMono sp) (a : Mono t) (b : Mono tk) : Mono (aCallK E sp n gW t tk) := fun env h Q Q' k q => a env h _ _ (fun ws e g z => b e g _ _ (fun zs e g z => ⟨z.1, m _ _ _ _ _ _ (fun r f y => by
  cases r with
  | val w => exact k _ _ _ y
  | own c => exact k _ _ _ y) (fun x f y => y) z.2⟩) z) q
/-- behind the arguments -/
theorem callK_end {gW : List W → List W → List W} {g : List V → List V → List V} {env env2 : AEnv} {h h2 : AH} {σ : L2.St} {H H2 : Hp} {ws zs : List W} {vs us : List V} {Q : VK} (S2 : BS G env2 h2 σ H2) (x2 : Xt env h σ H env2 h2 H2) (r : RepL G.K H2 (gW ws zs) (g vs us))
    (z : (gW ws zs).length = n ∧ sp (gW ws zs) h2 (fun r h3 => match r with
      | .val w => ∀ v H', BS G env2 h3 σ H' → Xt env h σ H env2 h3 H' → RvRep G env2 h3 σ H' (.val w) v → Fsh H (.val w) v → Q v H'
      | .own c => ∀ v H', BS G env2 h3 σ H' → Xt env h σ H env2 h3 H' → RvRep G env2 h3 σ H' (.own c) v → Fsh H (.own c) v → Q v H') fun x h3 => E x env2 h3) : cSp G.K n sp (g vs us) H2 Q (WE (cW G E) σ) := by
  refine ⟨_, h2, _, _, z.1, S2.hp, r, z.2, fun r h' v H' y c rr => ?_, fun x h' cls d H' y c xr => ?_⟩
  · obtain ⟨S3, x3⟩ := S2.after c
    cases r with
    | val w => exact y v H' S3 (x2.trans x3) rr trivial
    | own c0 =>
      obtain ⟨p, e, cr, a, b⟩ := rr
      have nw : H2 p = none := b
      obtain ⟨_, g0, no⟩ := S2.noAt nw
      exact y v H' S3 (x2.trans x3) ⟨p, e, cr, a, g0, no⟩ fun p' e' => by
        rw [e] at e'; cases e'; exact x2.fresh nw
  · obtain ⟨S3, x3⟩ := S2.after c
    exact ⟨x, env2, h', S3, xr, y⟩
theorem repL_k {K K' : PySem.W.Frag} {H : Hp} {ws : List W} {vs : List V} (e : K = K') (r : RepL K H ws vs) : RepL K' H ws vs := e ▸ r
/-- f(k = v, ..) -/
theorem ae_callK0 {gW : List W → List W → List W} (gk : G.K = X.K) (F : FnOk X.prog X.w X.K X.mg X.base (L2.CX X.prog X.w) k f fd ps (cSp G.K n sp)) (sm : SpMono sp) (hr : Room k X.A) (hg : Gl X x) (hm : X.mg x = some (.ref f)) (hk : PySem.W.keepIn X.K (.ref f) = true) (kb : AKB X.K fd ps ks n gW) (tkk : Takes X (cW G E))
    (hkw : AK X G kws tk) (hall : (backToKw pos (keywordEach kws X.env)).all (·.1.isSome) = true := by rfl) (hks : (backToKw pos (keywordEach kws X.env)).filterMap (·.1) = ks := by rfl) (hdb : (x == ("__debug__" : Str)) = false := by decide)
    (hpl : ((backTo pos (starEach [] X.env)).any (·.1) || (backToKw pos (keywordEach kws X.env)).any (·.1.isNone)) = false := by rfl) :
    AE X G (.Call (.Name x p) [] kws pos) (aCallK E sp n gW aNil tk) := by
  refine ⟨aCallK.mono sm aNil.mono hkw.mono, ⟨fun pins s σ H Q I ⟨env, h, S, q⟩ => ?_⟩⟩
  refine wpAny_Call_Name_kw (ld_glob I hg hm ?_ hdb)
  refine PySem.W.callWith_KW0 (h₀ := X.base) I.ok.mod.kin hk hall ?_ hpl
  refine thn (hkw.pk.run pos pins s σ H (fun zs H2 => cSp G.K n sp (kb.gV [] zs) H2 Q (WE (cW G E) σ)) I ⟨env, h, S, hkw.mono env h _ _ (fun zs env2 h2 z us H2 S2 x2 r2 => ?_) q⟩) fun ws s2 ⟨zs, H2, I2, rz, q2⟩ => ⟨I2.kIn, ?_⟩
  · have rr := kb.rep H2 [] zs [] us z.1 .nil (repL_k gk r2)
    exact callK_end (g := kb.gV) S2 x2 (repL_k gk.symm rr) z
  · rw [hks, List.append_nil]
    exact run_kw F hr kb.kb (passAt tkk σ) I2 .nil rz q2
end
end Ab

namespace Ab
open PySem PySem.Spec PyProof.Rows L2 RZ
section
variable {X : Cx} {G : Gx} {a b c : Expr} {ta tb tc : AT} {t : ABT} {pos p : Pos}
/-! ### tests -/
theorem ap_v (h : AE X G a ta) (he : ∀ whole, isTrue a X.env whole = (do let v ← whole; standAt a.pos; holding [v] (truthy v)) := by intro _; rfl) : AP X G a (aTst ta) := ap_val h fun t k => pt_val k he
theorem ap_lt (ha : AE X G a ta) (hb : AE X G b tb) : AP X G (.Compare a [.Lt] [b] pos) (aTst (aOp2 (oII (fun _ _ => True) fun i j => .bl (decide (i < j))) ta tb)) := ap_cmp op_lt (opa_int0 fun _ _ _ => .bl) ha hb (nomark _)
theorem ap_le (ha : AE X G a ta) (hb : AE X G b tb) : AP X G (.Compare a [.LtE] [b] pos) (aTst (aOp2 (oII (fun _ _ => True) fun i j => .bl (decide (i ≤ j))) ta tb)) := ap_cmp op_le (opa_int0 fun _ _ _ => .bl) ha hb (nomark _)
theorem ap_gt (ha : AE X G a ta) (hb : AE X G b tb) : AP X G (.Compare a [.Gt] [b] pos) (aTst (aOp2 (oII (fun _ _ => True) fun i j => .bl (decide (j < i))) ta tb)) := ap_cmp op_gt (opa_int0 fun _ _ _ => .bl) ha hb (nomark _)
theorem ap_ge (ha : AE X G a ta) (hb : AE X G b tb) : AP X G (.Compare a [.GtE] [b] pos) (aTst (aOp2 (oII (fun _ _ => True) fun i j => .bl (decide (j ≤ i))) ta tb)) := ap_cmp op_ge (opa_int0 fun _ _ _ => .bl) ha hb (nomark _)
theorem ap_eq (gk : G.K = X.K) (hu : X.A.units + 64 < cLine) (ha : AE X G a ta) (hb : AE X G b tb) : AP X G (.Compare a [.Eq] [b] pos) (aTst (aOp2 (oEq false) ta tb)) := ap_cmp (op_eqP hu) (gk ▸ opa_eq) ha hb (nomark _)
theorem ap_ne (gk : G.K = X.K) (hu : X.A.units + 64 < cLine) (ha : AE X G a ta) (hb : AE X G b tb) : AP X G (.Compare a [.NotEq] [b] pos) (aTst (aOp2 (oEq true) ta tb)) := ap_cmp (op_neP hu) (gk ▸ opa_eq) ha hb (nomark _)
theorem ae_isN (ha : AE X G a ta) (hb : AE X G b tb) : AE X G (.Compare a [.Is] [b] pos) (aOp2 (oIsN false) ta tb) := ae_cmp op_isN opa_isN ha hb (nomark _)
theorem ae_notN (ha : AE X G a ta) (hb : AE X G b tb) : AE X G (.Compare a [.IsNot] [b] pos) (aOp2 (oIsN true) ta tb) := ae_cmp op_notN opa_notN ha hb (nomark _)
theorem ap_isN (ha : AE X G a ta) (hb : AE X G b tb) : AP X G (.Compare a [.Is] [b] pos) (aTst (aOp2 (oIsN false) ta tb)) := ap_cmp op_isN opa_isN ha hb (nomark _)
theorem ap_notN (ha : AE X G a ta) (hb : AE X G b tb) : AP X G (.Compare a [.IsNot] [b] pos) (aTst (aOp2 (oIsN true) ta tb)) := ap_cmp op_notN opa_notN ha hb (nomark _)
theorem ae_in (gk : G.K = X.K) (hu : X.A.units + 64 < cLine) (ha : AE X G a ta) (hb : AE X G b tb) (hm : behindInMarks .In b = false := by rfl) : AE X G (.Compare a [.In] [b] pos) (aOp2 (oInL false) ta tb) := ae_cmp (op_inP hu) (gk ▸ opa_inL) ha hb hm
theorem ae_nin (gk : G.K = X.K) (hu : X.A.units + 64 < cLine) (ha : AE X G a ta) (hb : AE X G b tb) (hm : behindInMarks .NotIn b = false := by rfl) : AE X G (.Compare a [.NotIn] [b] pos) (aOp2 (oInL true) ta tb) := ae_cmp (op_notInP hu) (gk ▸ opa_inL) ha hb hm
theorem ap_in (gk : G.K = X.K) (hu : X.A.units + 64 < cLine) (ha : AE X G a ta) (hb : AE X G b tb) (hm : behindInMarks .In b = false := by rfl) : AP X G (.Compare a [.In] [b] pos) (aTst (aOp2 (oInL false) ta tb)) := ap_cmp (op_inP hu) (gk ▸ opa_inL) ha hb hm
theorem ap_nin (gk : G.K = X.K) (hu : X.A.units + 64 < cLine) (ha : AE X G a ta) (hb : AE X G b tb) (hm : behindInMarks .NotIn b = false := by rfl) : AP X G (.Compare a [.NotIn] [b] pos) (aTst (aOp2 (oInL true) ta tb)) := ap_cmp (op_notInP hu) (gk ▸ opa_inL) ha hb hm
/-! ### -a -/
def aNeg (ta : AT) : AT := fun env h Q => ta env h fun r env1 h1 => match view env1 h1 r with
  | .wv (.int i) => Q (.val (.int (-i))) env1 h1
  | _ => False
theorem ae_neg (ha : AE X G a ta) : AE X G (.UnaryOp .USub a pos) (aNeg ta) := by
  refine ⟨fun env h Q Q' k q => ha.mono env h _ _ (fun r e g z => ?_) q, PE.imp (pe_un un_neg ha.pe) fun σ H Q ⟨env, h, S, q⟩ => ⟨env, h, S, ha.mono env h _ _ (fun r e g z v H1 S1 x1 r1 f1 => ?_) q⟩⟩
  · split at z
    · exact k _ _ _ z
    · exact z
  · have rv := r1.vr S1
    split at z
    · rename_i i ei
      rw [ei] at rv
      exact ⟨i, rv.int, z _ H1 S1 x1 (show Rep G.K H1 _ _ from .int) trivial⟩
    · exact z.elim
/-! ### chains of two comparisons of ints -/
def aChn (P P' : Int → Int → Bool) (ta tb tc : AT) : AT := fun env h Q => ta env h fun ra env1 h1 => tb env1 h1 fun rb env2 h2 => match view env2 h2 ra, view env2 h2 rb with
  | .wv (.int i), .wv (.int j) => if P i j = true then tc env2 h2 fun rc env3 h3 => (match view env3 h3 rc with
      | .wv (.int k) => Q (.val (.bl (P' j k))) env3 h3
      | _ => False) else Q (.val (.bl false)) env2 h2
  | _, _ => False
theorem aChn.mono {P P' : Int → Int → Bool} (ma : Mono ta) (mb : Mono tb) (mc : Mono tc) : Mono (aChn P P' ta tb tc) := fun env h Q Q' k q => ma env h _ _ (fun ra e g z => mb e g _ _ (fun rb e g z => by
  split at z
  · refine ite2 (fun y => ?_) fun y => k _ _ _ (by rw [if_neg y] at z; exact z)
    rw [if_pos y] at z
    refine mc _ _ _ _ (fun rc e g z => ?_) z
    split at z
    · exact k _ _ _ z
    · exact z
  · exact z) z) q
theorem chn_step {P P' : Int → Int → Bool} {σ : L2.St} {H : Hp} {Q : VK} (ma : Mono ta) (mb : Mono tb) (mc : Mono tc) (q : cE G (aChn P P' ta tb tc) σ H Q) :
    tChain (rI0 fun i j => .bl (P i j)) (rI0 fun i j => .bl (P' i j)) (cE G ta) (cE G tb) (cE G tc) σ H Q := by
  obtain ⟨env, h, S, q⟩ := q
  refine ⟨env, h, S, ma env h _ _ (fun ra env1 h1 z v H1 S1 x1 r1 f1 => ?_) q⟩
  refine ⟨env1, h1, S1, mb env1 h1 _ _ (fun rb env2 h2 z u H2 S2 x2 r2 f2 => ?_) z⟩
  have va := (r1.xt S1 x2).vr S2
  have vb := r2.vr S2
  split at z
  · rename_i i j ei ej
    rw [ei] at va
    rw [ej] at vb
    refine ⟨i, j, va.int, vb.int, P i j, rfl, ite2 (fun y => ?_) fun y => ?_⟩
    · rw [if_pos y] at z
      refine ⟨env2, h2, S2, mc env2 h2 _ _ (fun rc env3 h3 z w H3 S3 x3 r3 f3 => ?_) z⟩
      have vc := r3.vr S3
      split at z
      · rename_i k ek
        rw [ek] at vc
        exact ⟨j, k, vb.int, vc.int, z _ H3 S3 (x1.trans (x2.trans x3)) (show Rep G.K H3 _ _ from .bl) trivial⟩
      · exact z.elim
    · rw [if_neg y] at z
      exact z _ H2 S2 (x1.trans x2) (show Rep G.K H2 _ _ from .bl) trivial
  · exact z.elim
theorem ae_chn {op op' : CmpOp} {P P' : Int → Int → Bool} (ho : OpR X (compareOp op) (rI0 fun i j => .bl (P i j))) (ho' : OpR X (compareOp op') (rI0 fun i j => .bl (P' i j))) (ha : AE X G a ta) (hb : AE X G b tb) (hc : AE X G c tc)
    (hm : lastMarks [op, op'] [b, c] = false := by with_unfolding_all rfl) : AE X G (.Compare a [op, op'] [b, c] pos) (aChn P P' ta tb tc) :=
  ⟨aChn.mono ha.mono hb.mono hc.mono, PE.imp (pe_chain ho ho' ha.pe hb.pe hc.pe hm) fun _ _ _ q => chn_step ha.mono hb.mono hc.mono q⟩
theorem ap_chn {op op' : CmpOp} {P P' : Int → Int → Bool} (ho : OpR X (compareOp op) (rI0 fun i j => .bl (P i j))) (ho' : OpR X (compareOp op') (rI0 fun i j => .bl (P' i j))) (ha : AE X G a ta) (hb : AE X G b tb) (hc : AE X G c tc)
    (hm : lastMarks [op, op'] [b, c] = false := by with_unfolding_all rfl) : AP X G (.Compare a [op, op'] [b, c] pos) (aTst (aChn P P' ta tb tc)) := by
  refine ⟨aTst.mono (aChn.mono ha.mono hb.mono hc.mono), PT.imp (pt_chain ho ho' ha.pe hb.pe hc.pe hm) fun σ H Q ⟨env, k, S, q⟩ => ?_⟩
  refine chn_step ha.mono hb.mono hc.mono ⟨env, k, S, aChn.mono ha.mono hb.mono hc.mono env k _ _ (fun r env1 h1 z v H1 S1 x1 r1 f1 => ?_) q⟩
  have r2 := r1.vr S1
  split at z
  · rename_i b e
    rw [e] at r2
    exact ⟨b, r2.bl, z H1 S1 x1⟩
  · exact z.elim
end
/-! ### a def that keeps a promise -/
structure Ok (P : Program) (w : World) (K : PySem.W.Frag) (mg : Str → Option Value) (base : Heap) (x : Str) (st : Stmt) (k n : Nat) (ps : List Str) (sp : ASp) : Prop where
  m : SpMono sp
  ex : ∃ f fd, mg x = some (.ref f) ∧ FunD K x x (defArgs st) (defBody st) (defScope st) [] [] f fd ∧ FnOk P w K mg base (L2.CX P w) k f fd ps (cSp K n sp)
def BindsAll (x : Str) (st : Stmt) (ps : List Str) : Prop := ∀ (kV doc pm : Value) (an : Option Addr) (cdv ct : Value) (us : List Value), us.length = ps.length → bindArgs (PySem.W.fnOf x x (defArgs st) (defBody st) (defScope st) .none kV doc pm an cdv ct) ⟨us, []⟩ = pure (ps.zip us)
section
variable {X : Cx} {G : Gx} {sp : ASp} {st : Stmt} {k j n : Nat} {ps : List Str} {x : Str} {p pos : Pos} {e : Expr} {es : List Expr} {t : AAT} {E : AExc → AEnv → AH → Prop}
theorem ae_callO0 (gk : G.K = X.K) (O : Ok X.prog X.w X.K X.mg X.base x st k n ps sp) (bd : BindsAll x st ps) (hr : Room j X.A) (kj : k ≤ j) (hg : Gl X x) (tk : Takes X (cW G E))
    (ha : AA X G (e :: es) t) (hn : ∀ env h (R : List W → AEnv → AH → Prop), t env h R → t env h fun ws e g => ws.length = n ∧ R ws e g)
    (hdb : (x == ("__debug__" : Str)) = false := by decide) (he : starEach (e :: es) X.env = (false, eval e X.env) :: starEach es X.env := by rfl) (hpl : (backTo pos (starEach es X.env)).any (·.1) = false := by rfl) :
    AE X G (.Call (.Name x p) (e :: es) [] pos) (aCall E sp t) := by
  obtain ⟨f, fd, hm, FD, F⟩ := O.ex
  exact ae_call (G := G) (gk ▸ F) O.m (hr.mono kj) hg hm FD.kp (FD.bindsN bd) tk ha hn hdb he hpl
/-- a call's arguments, counted -/
structure AN (X : Cx) (G : Gx) (es : List Expr) (n : Nat) (t : AAT) : Prop where
  aa : AA X G es t
  ln : ∀ env h (R : List W → AEnv → AH → Prop), t env h R → t env h fun ws e g => ws.length = n ∧ R ws e g
theorem an_nil : AN X G [] 0 aNil := ⟨aa_nil, len_nil⟩
theorem an_cons {tv : AVT} (a : AV X G e tv) (b : AN X G es n t) (hs : starEach (e :: es) X.env = (false, eval e X.env) :: starEach es X.env := by rfl) : AN X G (e :: es) (n + 1) (aCons tv t) :=
  ⟨aa_cons a b.aa hs, len_cons a.mono b.ln b.aa.mono⟩
theorem ae_callO (gk : G.K = X.K) (O : Ok X.prog X.w X.K X.mg X.base x st k n ps sp) (bd : BindsAll x st ps) (hr : Room j X.A) (kj : k ≤ j) (hg : Gl X x) (tk : Takes X (cW G E))
    (ha : AN X G (e :: es) n t) (hdb : (x == ("__debug__" : Str)) = false := by decide) (he : starEach (e :: es) X.env = (false, eval e X.env) :: starEach es X.env := by rfl) (hpl : (backTo pos (starEach es X.env)).any (·.1) = false := by rfl) :
    AE X G (.Call (.Name x p) (e :: es) [] pos) (aCall E sp t) := ae_callO0 gk O bd hr kj hg tk ha.aa ha.ln hdb he hpl
end
abbrev E0 : AExc → AEnv → AH → Prop := fun _ _ _ => False
theorem ok_none {P : Program} {w : World} {K : PySem.W.Frag} {mg : Str → Option Value} {base : Heap} {x : Str} {st : Stmt} {f : Addr} {fd : FuncData} {ps : List Str} {n : Nat} (hm : mg x = some (.ref f)) (F : FunD K x x (defArgs st) (defBody st) (defScope st) [] [] f fd) : Ok P w K mg base x st 0 n ps (fun _ _ _ _ => False) :=
  ⟨fun _ _ _ _ _ _ _ _ z => z, f, fd, hm, F, ⟨fun _ _ _ _ ⟨_, _, _, _, _, _, _, z, _⟩ => z.elim, fun _ _ _ _ _ _ _ _ _ _ _ _ _ ⟨_, _, _, _, _, _, _, z, _⟩ => z.elim⟩⟩
section
variable {P : Program} {w : World} {K : PySem.W.Frag} {mg : Str → Option Value} {base : Heap} {x : Str} {st : Stmt} {f : Addr} {fd : FuncData} {N ps : List Str} {k n : Nat} {sp : ASp}
theorem Ok.mk' {t : (AExc → AEnv → AH → Prop) → ATS} (sm : SpMono sp) (hm : mg x = some (.ref f)) (F : FunD K x x (defArgs st) (defBody st) (defScope st) [] [] f fd) (S : FnScope N ps (defScope st)) (hn : ps.length = n)
    (hb : ∀ (cdv : Value) (A : Around) (outer : List Env) (s : Shared) (H : Hp) (E : XK) (G : Gx) (E' : AExc → AEnv → AH → Prop), Room k (A.deeper (envOfC x (defScope st) s.heap.objs.size f cdv)) → G.K = K → Takes (bx P w K mg base N x (defScope st) f cdv A outer s H E) (cW G E') →
      ASs (bx P w K mg base N x (defScope st) f cdv A outer s H E) G (defBody st) (t E'))
    (hq : ∀ ws h Qa Ea, ws.length = n → sp ws h Qa Ea → t (excOf Ea) (endsOf Qa) (startA N.length ws) h) : Ok P w K mg base x st (k + 1) n ps sp :=
  ⟨sm, f, fd, hm, F, def_ok [] [] F S hn hb hq⟩
end
end Ab

namespace Ab
open PySem PySem.Spec PyProof.Rows L2 RZ
theorem bo_len : bootBuiltins "len" = some (.builtin "len") := by decide +kernel
theorem bo_sum : bootBuiltins "sum" = some (.builtin "sum") := by decide +kernel
theorem bo_min : bootBuiltins "min" = some (.builtin "min") := by decide +kernel
theorem bo_max : bootBuiltins "max" = some (.builtin "max") := by decide +kernel
theorem bo_abs : bootBuiltins "abs" = some (.builtin "abs") := by decide +kernel
theorem bo_any : bootBuiltins "any" = some (.builtin "any") := by decide +kernel
theorem bo_all : bootBuiltins "all" = some (.builtin "all") := by decide +kernel
theorem bo_isinstance : bootBuiltins "isinstance" = some (.builtin "isinstance") := by decide +kernel
theorem bo_sorted : bootBuiltins "sorted" = some (.builtin "sorted") := by decide +kernel
theorem bo_tuple : bootBuiltins "tuple" = some (.type "tuple") := by decide +kernel
theorem bo_list : bootBuiltins "list" = some (.type "list") := by decide +kernel
theorem bo_bool : bootBuiltins "bool" = some (.type "bool") := by decide +kernel
theorem bo_int : bootBuiltins "int" = some (.type "int") := by decide +kernel
theorem bo_str : bootBuiltins "str" = some (.type "str") := by decide +kernel
section
variable {X : Cx} {G : Gx}
theorem ae_ty {x : Str} {T : String} {pos : Pos} (hg : Gl X x) (hm : X.mg x = none) (hv : bootBuiltins x = some (.type T)) (hn : x ≠ "__name__" := by decide) (hd : (x == ("__debug__" : Str)) = false := by decide) : AE X G (.Name x pos) (aC (.ty T)) :=
  ae_c (v := V.ty T) (pe_bltn (v := V.ty T) hg hm hv (show _ = _ from rfl) hn hd) fun _ => .ty
variable {elt tg iter : Expr} {ifs : List Expr} {scope : Scope} {own : List (Str × Nat)} {pos : Pos} {ti : AIT} {g : AGT} {tt : ABT} {te : AVT} {sl : List Nat}
theorem ae_lcO (hc : X.calm = true) (hN : X.N.Nodup) (hi : AI X G tg iter ti) (ok : BlkOk X.N X.env.scope scope own) (hsl : ∀ i ∈ sl, i ∈ own.map (·.2))
    (hg : ∀ (s : Shared) (H : Hp) (C : Addr) (cl : List (Str × Addr)) (fp : List Addr), AG (X.blk s H scope (compEnvC scope cl C X.env) fp) G tg sl g) (ht : ∀ (s : Shared) (H : Hp) (C : Addr) (cl : List (Str × Addr)) (fp : List Addr), APs (X.blk s H scope (compEnvC scope cl C X.env) fp) G ifs tt)
    (he : ∀ (s : Shared) (H : Hp) (C : Addr) (cl : List (Str × Addr)) (fp : List Addr), AV (X.blk s H scope (compEnvC scope cl C X.env) fp) G elt te) (hs : ∀ x, foldedSetIterable iter X.env x = pure x := by intro _; rfl) :
    AE X G (.ListComp elt [⟨tg, iter, ifs, 0⟩] scope pos) (aLc (own.map (·.2)) ti g tt te) :=
  ae_lc hc hN hi ok hsl hg ht he (hg X.s_0 X.H_0 0 [] []).mono (ht X.s_0 X.H_0 0 [] []).mono (he X.s_0 X.H_0 0 [] []).mono hs
end
/-! ### all by keywords -/
def gKwG {α : Type} (d : α) (perm : List Nat) (us ws : List α) : List α := if us.isEmpty && ws.length == perm.length then perm.map fun i => ws.getD i d else []
abbrev gKw (perm : List Nat) : List W → List W → List W := gKwG W.non perm
def KwAll (x : Str) (st : Stmt) (ps ks : List Str) (perm : List Nat) : Prop := ∀ (kV doc pm : Value) (an : Option Addr) (cdv ct : Value) (ws : List Value), ws.length = perm.length →
  bindArgs (PySem.W.fnOf x x (defArgs st) (defBody st) (defScope st) .none kV doc pm an cdv ct) ⟨[], ks.zip ws⟩ = pure (ps.zip (perm.map fun i => ws.getD i .none))
theorem RepL.getD' {K : PySem.W.Frag} {H : Hp} : ∀ {ws : List W} {vs : List V} (i : Nat), RepL K H ws vs → Rep K H (ws.getD i .non) (vs.getD i .non)
  | [], vs, i, r => by rw [r.of_nil]; simpa using Rep.non
  | w :: ws, vs, i, r => by
    obtain ⟨v, t, rfl, a, b⟩ := r.of_cons
    cases i with
    | zero => simpa using a
    | succ i => simpa using b.getD' i
theorem Vals.getD' : ∀ {vs : List V} {us : List Value} (i : Nat), Vals vs us → RelV (vs.getD i .non) (us.getD i .none)
  | _, _, i, .nil => by cases i <;> rfl
  | _, _, 0, .cons a b => by simpa using a
  | _, _, i + 1, .cons a b => by simpa using Vals.getD' i b
theorem gKwG_rep {K : PySem.W.Frag} {H : Hp} {perm : List Nat} {ws zs : List W} {vs us : List V} (r : RepL K H ws vs) (q : RepL K H zs us) : RepL K H (gKwG .non perm ws zs) (gKwG .non perm vs us) := by
  unfold gKwG
  have e1 : ws.isEmpty = vs.isEmpty := by
    have := r.length
    cases ws <;> cases vs <;> simp_all
  rw [e1, q.length]
  split
  · clear e1
    induction perm with
    | nil => exact .nil
    | cons i t ih =>
      rename_i hh
      refine .cons (q.getD' i) ?_
      have : ∀ t : List Nat, RepL K H (t.map fun i => zs.getD i .non) (t.map fun i => us.getD i .non) := fun t => by
        induction t with
        | nil => exact .nil
        | cons i t ih => exact .cons (q.getD' i) ih
      exact this t
  · exact .nil
theorem gKwG_vals {perm : List Nat} {vs : List V} {us : List Value} {zs : List V} {ws : List Value} (r : Vals vs us) (q : Vals zs ws) : Vals (gKwG .non perm vs zs) (gKwG .none perm us ws) := by
  unfold gKwG
  have e1 : vs.isEmpty = us.isEmpty := by cases r <;> rfl
  rw [e1, q.length]
  split
  · have : ∀ t : List Nat, Vals (t.map fun i => zs.getD i .non) (t.map fun i => ws.getD i .none) := fun t => by
      induction t with
      | nil => exact .nil
      | cons i t ih => exact .cons (Vals.getD' i q) ih
    exact this perm
  · exact .nil
theorem AKB.all {K : PySem.W.Frag} {x : Str} {st : Stmt} {f : Addr} {fd : FuncData} {ps ks : List Str} {perm : List Nat} (F : FunD K x x (defArgs st) (defBody st) (defScope st) [] [] f fd) (hp : ps.length = perm.length) (h0 : 0 < perm.length) (h : KwAll x st ps ks perm) : Nonempty (AKB K fd ps ks perm.length (gKw perm)) := by
  refine ⟨⟨gKwG .none perm, gKwG .non perm, ⟨fun s us ws X hl => ?_, fun r q => gKwG_vals r q⟩, fun H ws zs vs us _ r q => gKwG_rep r q⟩⟩
  obtain ⟨oc, od, dV, kV, doc, pm, an, cdv, ct, osl, rfl, lk, hcd, hD, hK⟩ := F.ex
  rcases hD with ⟨_, rfl⟩ | ⟨e, _⟩
  · unfold gKwG at hl ⊢
    split at hl
    · rename_i hc
      rw [if_pos hc]
      simp only [Bool.and_eq_true, List.isEmpty_iff, beq_iff_eq] at hc
      rw [hc.1]
      exact .of_eq (h kV doc pm an cdv ct ws hc.2)
    · rw [hp] at hl
      exact absurd hl (by simp; omega)
  · exact absurd rfl e
section
variable {X : Cx} {G : Gx} {sp : ASp} {st : Stmt} {k j : Nat} {ps ks : List Str} {x : Str} {p pos : Pos} {kws : List Keyword} {tk : AAT} {E : AExc → AEnv → AH → Prop} {perm : List Nat}
theorem ae_callKO (gk : G.K = X.K) (O : Ok X.prog X.w X.K X.mg X.base x st k perm.length ps sp) (kw : KwAll x st ps ks perm) (hr : Room j X.A) (kj : k ≤ j) (hg : Gl X x) (tkk : Takes X (cW G E)) (hkw : AK X G kws tk)
    (hp : ps.length = perm.length := by rfl) (h0 : 0 < perm.length := by decide) (hall : (backToKw pos (keywordEach kws X.env)).all (·.1.isSome) = true := by rfl) (hks : (backToKw pos (keywordEach kws X.env)).filterMap (·.1) = ks := by rfl) (hdb : (x == ("__debug__" : Str)) = false := by decide)
    (hpl : ((backTo pos (starEach [] X.env)).any (·.1) || (backToKw pos (keywordEach kws X.env)).any (·.1.isNone)) = false := by rfl) :
    AE X G (.Call (.Name x p) [] kws pos) (aCallK E sp perm.length (gKw perm) aNil tk) := by
  obtain ⟨f, fd, hm, FD, F⟩ := O.ex
  obtain ⟨kb⟩ := AKB.all FD hp h0 kw
  exact ae_callK0 (G := G) gk (gk ▸ F) O.m (hr.mono kj) hg hm FD.kp kb tkk hkw hall hks hdb hpl
end
theorem Ok.up {P : Program} {w : World} {K : PySem.W.Frag} {mg : Str → Option Value} {base : Heap} {x : Str} {st : Stmt} {ps : List Str} {k k' n : Nat} {sp sp' : ASp} (O : Ok P w K mg base x st k n ps sp) (h : k ≤ k') (m : SpMono sp') (i : ∀ ws h Q E, sp' ws h Q E → sp ws h Q E) : Ok P w K mg base x st k' n ps sp' := by
  obtain ⟨f, fd, hm, FD, F⟩ := O.ex
  exact ⟨m, f, fd, hm, FD, (F.imp fun vs H Q E ⟨ws, h, Qa, Ea, hl, hp, r, q, z⟩ => ⟨ws, h, Qa, Ea, hl, hp, r, i _ _ _ _ q, z⟩).mono h⟩
end Ab

namespace Ab
open PySem PySem.Spec PyProof.Rows L2 RZ
/-! ### promises in short -/
/-- nothing is written: what is handed in, what is told -/
def pureSp (P : List W → RR → Prop) : ASp := fun ws h Q _ => ∃ r, P ws r ∧ Q r h
theorem pureSp.m {P : List W → RR → Prop} : SpMono (pureSp P) := fun _ _ _ _ _ _ k _ ⟨r, p, q⟩ => ⟨r, p, k _ _ q⟩
/-- alike but at p -/
def Bt (p : Addr) (h h' : AH) : Prop := ∀ q, q ≠ p → h' q = h q
theorem Bt.refl {p : Addr} {h : AH} : Bt p h h := fun _ _ => rfl
theorem Bt.trans {p : Addr} {h h1 h2 : AH} (a : Bt p h h1) (b : Bt p h1 h2) : Bt p h h2 := fun q n => (b q n).trans (a q n)
theorem Bt.upd {p : Addr} {h : AH} {o : AO} : Bt p h (updA h p o) := fun q n => by unfold updA; rw [if_neg n]
/-! ### loops -/
section
variable {vs : List Nat} {g : AGT} {tt : ABT} {te : AVT} {env : AEnv} {h : AH} {Q : List W → AEnv → AH → Prop}
theorem lc_map (f : W → W) : ∀ (ws acc : List W), acc.length + ws.length ≤ sizeLine →
    (∀ w ∈ ws, ∀ R : W → AEnv → AH → Prop, R (f w) env h → g w (wipeA env vs) h fun e1 h1 => te e1 h1 fun y e3 h3 => R y (mend env e3 vs) h3) →
    Q (acc ++ ws.map f) env h → lcLoop vs g aYes te Q ws acc env h
  | [], acc, _, _, q => by
    show Q acc env h
    simpa using q
  | w :: ws, acc, hl, hs, q => by
    have hl' : acc.length + ws.length + 1 ≤ sizeLine := by rw [List.length_cons] at hl; omega
    exact hs w (by simp) (fun y e3 h3 => acc.length < sizeLine ∧ lcLoop vs g aYes te Q ws (acc ++ [y]) e3 h3) ⟨by omega, lc_map f ws (acc ++ [f w]) (by rw [List.length_append, List.length_singleton]; omega) (fun w hw => hs w (by simp [hw])) (by simpa using q)⟩
theorem lc_fmap (f : W → Option W) : ∀ (ws acc : List W), acc.length + ws.length ≤ sizeLine →
    (∀ w ∈ ws, ∀ (R : W → AEnv → AH → Prop) (R0 : AEnv → AH → Prop), (match f w with
        | some y => R y env h
        | none => R0 env h) → g w (wipeA env vs) h fun e1 h1 => tt e1 h1 fun b e2 h2 => if b = true then te e2 h2 (fun y e3 h3 => R y (mend env e3 vs) h3) else R0 (mend env e2 vs) h2) →
    Q (acc ++ ws.filterMap f) env h → lcLoop vs g tt te Q ws acc env h
  | [], acc, _, _, q => by
    show Q acc env h
    simpa using q
  | w :: ws, acc, hl, hs, q => by
    have hl' : acc.length + ws.length + 1 ≤ sizeLine := by rw [List.length_cons] at hl; omega
    refine hs w (by simp) (fun y e3 h3 => acc.length < sizeLine ∧ lcLoop vs g tt te Q ws (acc ++ [y]) e3 h3) (fun e3 h3 => lcLoop vs g tt te Q ws acc e3 h3) ?_
    cases e : f w with
    | none => exact lc_fmap f ws acc (by omega) (fun w hw => hs w (by simp [hw])) (by rw [List.filterMap_cons_none e] at q; exact q)
    | some y => exact ⟨by omega, lc_fmap f ws (acc ++ [y]) (by rw [List.length_append, List.length_singleton]; omega) (fun w hw => hs w (by simp [hw])) (by rw [List.filterMap_cons_some e] at q; simpa using q)⟩
/-- pairs in order -/
inductive All2 {α β : Type} (P : α → β → Prop) : List α → List β → Prop where
  | nil : All2 P [] []
  | cons {a : α} {b : β} {as : List α} {bs : List β} : P a b → All2 P as bs → All2 P (a :: as) (b :: bs)
theorem All2.length {α β : Type} {P : α → β → Prop} {as : List α} {bs : List β} (r : All2 P as bs) : as.length = bs.length := by
  induction r with
  | nil => rfl
  | cons _ _ ih => rw [List.length_cons, List.length_cons, ih]
/-- something is drawn at each turn -/
theorem lc_draw (J : Nat → AH → Prop) (P : W → W → Prop) : ∀ (ws acc : List W) (i : Nat) (h : AH), acc.length + ws.length ≤ sizeLine → J i h →
    (∀ w ∈ ws, ∀ j h, j < i + ws.length → J j h → ∀ R : W → AEnv → AH → Prop, (∀ y h', P w y → J (j + 1) h' → R y env h') → g w (wipeA env vs) h fun e1 h1 => te e1 h1 fun y e3 h3 => R y (mend env e3 vs) h3) →
    (∀ ys h', All2 P ws ys → J (i + ws.length) h' → Q (acc ++ ys) env h') → lcLoop vs g aYes te Q ws acc env h
  | [], acc, i, h, _, j, _, q => by
    show Q acc env h
    have z := q [] h .nil (by simpa using j)
    simpa using z
  | w :: ws, acc, i, h, hl, j, hs, q => by
    have hl' : acc.length + ws.length + 1 ≤ sizeLine := by rw [List.length_cons] at hl; omega
    exact hs w (by simp) i h (by rw [List.length_cons]; omega) j (fun y e3 h3 => acc.length < sizeLine ∧ lcLoop vs g aYes te Q ws (acc ++ [y]) e3 h3) fun y h' py j' => ⟨by omega, lc_draw J P ws (acc ++ [y]) (i + 1) h' (by rw [List.length_append, List.length_singleton]; omega) j' (fun w hw j h lt => hs w (by simp [hw]) j h (by rw [List.length_cons]; omega)) fun ys h2 ay j2 => by
      have z := q (y :: ys) h2 (.cons py ay) (by rw [List.length_cons]; rwa [show i + (ws.length + 1) = i + 1 + ws.length by omega])
      simpa using z⟩
end
section
variable {g : AGT} {tb : ATS} {D : AEnds}
theorem loop_ind (I : List W → AEnv → AH → Prop) (h0 : ∀ e h, I [] e h → D.nx e h)
    (hs : ∀ w ws e h (N : AEnv → AH → Prop), I (w :: ws) e h → (∀ e' h', I ws e' h' → N e' h') → g w e h fun e1 h1 => tb { D with nx := N, ct := N, bk := D.nx } e1 h1) : ∀ ws e h, I ws e h → aLoop g tb D ws e h
  | [], e, h, i => h0 e h i
  | w :: ws, e, h, i => hs w ws e h _ i fun e' h' i' => loop_ind I h0 hs ws e' h' i'
end
end Ab

namespace Ab
open PySem PySem.Spec PyProof.Rows L2 RZ
/-! ### readings, reckoned -/
section
variable {xs ys : List W} {i j : Int} {Q : RV → Prop} {v : Vw} {a b c d e w : W} {n : String}
def ixK (v : Vw) (i : Int) (Q : RV → Prop) : Prop := match v.items.bind fun xs => atI xs i with
  | some w => Q (.val w)
  | none => False
theorem ixK_eq {v : Vw} : (∃ xs w, v.items = some xs ∧ atI xs i = some w ∧ Q (.val w)) = ixK v i Q := by
  unfold ixK
  refine propext ⟨fun ⟨xs, w, e, f, q⟩ => ?_, fun q => ?_⟩
  · rw [e]
    show match atI xs i with
      | some w => Q (.val w)
      | none => False
    rw [f]; exact q
  · split at q
    · rename_i w e
      obtain ⟨xs, e1, e2⟩ := Option.bind_eq_some_iff.mp e
      exact ⟨xs, w, e1, e2, q⟩
    · exact q.elim
theorem y_ix {v b : Vw} : oIx v b Q = (match b with
  | .wv (.int i) => match v with
    | .wv (.str x) => x.length ≤ sizeLine ∧ ∃ c, L2.atI x.cps.toList i = some c ∧ Q (.val (.str ⟨#[c]⟩))
    | v => ixK v i Q
  | _ => False) := by
  cases b with
  | wv w => cases w with
    | int i => cases v with
      | wv u => cases u <;> first | rfl | exact ixK_eq
      | cv c => exact ixK_eq
      | bad => exact ixK_eq
    | _ => rfl
  | _ => rfl
theorem y_len : oLen [v] Q = (match v with
  | .wv (.str x) => x.length ≤ sizeLine ∧ Q (.val (.int x.length))
  | v => match v.items with
    | some xs => Q (.val (.int xs.length))
    | none => False) := by
  cases v with
  | wv w => cases w <;> simp [oLen, Vw.items]
  | cv c => cases c <;> simp [oLen, Vw.items]
  | bad => simp [oLen, Vw.items]
theorem y_tupC : oTupC [v] Q = (match v.items with
    | some xs => Q (.val (.tup xs))
    | none => False) := by
  unfold oTupC
  cases e : v.items <;> simp [e]
theorem y_lstC : oLstC [v] Q = (match v.items with
    | some xs => Q (.own (.seq xs))
    | none => False) := by
  unfold oLstC
  cases e : v.items <;> simp [e]
theorem y_set {v : Vw} {ro : RV} {w : W} {env : AEnv} {h : AH} {R : AEnv → AH → Prop} : (match v with
  | .wv (.int k) => match plc env h ro with
    | some (.seq xs) => ∃ j, ixN xs.length k = some j ∧ R (putE env ro (.seq (xs.set j w))) (putH h ro (.seq (xs.set j w)))
    | _ => False
  | _ => False) = (match v with
  | .wv (.int k) => match plc env h ro with
    | some (.seq xs) => match ixN xs.length k with
      | some j => R (putE env ro (.seq (xs.set j w))) (putH h ro (.seq (xs.set j w)))
      | none => False
    | _ => False
  | _ => False) := by
  cases v with
  | wv u => cases u with
    | int k =>
      show (match plc env h ro with
        | some (.seq xs) => ∃ j, ixN xs.length k = some j ∧ R (putE env ro (.seq (xs.set j w))) (putH h ro (.seq (xs.set j w)))
        | _ => False) = (match plc env h ro with
        | some (.seq xs) => match ixN xs.length k with
          | some j => R (putE env ro (.seq (xs.set j w))) (putH h ro (.seq (xs.set j w)))
          | none => False
        | _ => False)
      cases plc env h ro with
      | none => rfl
      | some c => cases c with
        | seq xs =>
          show (∃ j, ixN xs.length k = some j ∧ R (putE env ro (.seq (xs.set j w))) (putH h ro (.seq (xs.set j w)))) = (match ixN xs.length k with
            | some j => R (putE env ro (.seq (xs.set j w))) (putH h ro (.seq (xs.set j w)))
            | none => False)
          cases ixN xs.length k <;> simp
        | map kvs => rfl
    | _ => rfl
  | _ => rfl
theorem y_gSet {to ti : AT} : gSet to ti = fun w env h Q => to env h fun ro env1 h1 => ti env1 h1 fun ri env2 h2 => match view env2 h2 ri with
  | .wv (.int k) => match plc env2 h2 ro with
    | some (.seq xs) => match ixN xs.length k with
      | some j => Q (putE env2 ro (.seq (xs.set j w))) (putH h2 ro (.seq (xs.set j w)))
      | none => False
    | _ => False
  | _ => False := by
  funext w env h Q
  unfold gSet
  congr 1
  funext ro env1 h1
  congr 1
  funext ri env2 h2
  exact y_set
theorem at5_0 : atI [a, b, c, d, e] 0 = some a := rfl
theorem at5_1 : atI [a, b, c, d, e] 1 = some b := rfl
theorem at5_2 : atI [a, b, c, d, e] 2 = some c := rfl
theorem at5_3 : atI [a, b, c, d, e] 3 = some d := rfl
theorem at5_4 : atI [a, b, c, d, e] 4 = some e := rfl
theorem ix5_0 : ixN 5 0 = some 0 := rfl
theorem ix5_1 : ixN 5 1 = some 1 := rfl
theorem ix5_2 : ixN 5 2 = some 2 := rfl
theorem ix5_3 : ixN 5 3 = some 3 := rfl
theorem ix5_4 : ixN 5 4 = some 4 := rfl
theorem y_isN {v : Vw} {neg : Bool} : oIsN neg v (.wv .non) Q = (v ≠ .bad ∧ Q (.val (.bl (if neg then !v.isNon else v.isNon)))) := by
  simp only [oIsN, true_and]
theorem eqw_int : eqw (.int i) (.int j) = decide (i = j) := rfl
/-! isinstance -/
def isW (w : W) (T : String) : Bool := match w.tyName with
  | some n => (isiB n T).getD false
  | none => false
end
theorem at_ints {ns : List Int} {i : Int} (h0 : 0 ≤ i) (h1 : i < ns.length) : ∃ v ∈ ns, atI (ns.map W.int) i = some (.int v) := by
  obtain ⟨k, rfl⟩ := Int.eq_ofNat_of_zero_le h0
  have hk : k < ns.length := by omega
  exact ⟨ns[k], List.getElem_mem hk, atI_nat (by rw [List.getElem?_map, List.getElem?_eq_getElem hk]; rfl)⟩
theorem at_mem {xs : List W} {i : Int} (h0 : 0 ≤ i) (h1 : i < xs.length) : ∃ v ∈ xs, atI xs i = some v := by
  obtain ⟨k, rfl⟩ := Int.eq_ofNat_of_zero_le h0
  have hk : k < xs.length := by omega
  exact ⟨xs[k], List.getElem_mem hk, atI_nat (List.getElem?_eq_getElem hk)⟩
theorem mul_ok {i j : Int} (h0 : 0 ≤ i) (h1 : i < 2 ^ 200) (g0 : 0 ≤ j) (g1 : j < 2 ^ 200) : CMulW i j :=
  wide_mul (a := 200) (b := 200) (by omega) (by omega) (by decide) (by decide) (by decide)
theorem cut_to {xs : List W} {k : Nat} : cutW xs none (some (k : Int)) = xs.take k := by
  unfold cutW
  rw [HT.sIx_none, HT.sIx_nat]
  simp only [List.drop_zero, Nat.sub_zero]
  rcases Nat.le_total k xs.length with h | h
  · rw [Nat.min_eq_left h]
  · rw [Nat.min_eq_right h, List.take_of_length_le (Nat.le_refl _), List.take_of_length_le h]
theorem isi_NoneType_bool : isiB "NoneType" "bool" = some false := rfl
theorem isi_NoneType_int : isiB "NoneType" "int" = some false := rfl
theorem isi_NoneType_str : isiB "NoneType" "str" = some false := rfl
theorem isi_NoneType_tuple : isiB "NoneType" "tuple" = some false := rfl
theorem isi_NoneType_list : isiB "NoneType" "list" = some false := rfl
theorem isi_bool_bool : isiB "bool" "bool" = some true := rfl
theorem isi_bool_int : isiB "bool" "int" = some true := rfl
theorem isi_bool_str : isiB "bool" "str" = some false := rfl
theorem isi_bool_tuple : isiB "bool" "tuple" = some false := rfl
theorem isi_bool_list : isiB "bool" "list" = some false := rfl
theorem isi_int_bool : isiB "int" "bool" = some false := rfl
theorem isi_int_int : isiB "int" "int" = some true := rfl
theorem isi_int_str : isiB "int" "str" = some false := rfl
theorem isi_int_tuple : isiB "int" "tuple" = some false := rfl
theorem isi_int_list : isiB "int" "list" = some false := rfl
theorem isi_str_bool : isiB "str" "bool" = some false := rfl
theorem isi_str_int : isiB "str" "int" = some false := rfl
theorem isi_str_str : isiB "str" "str" = some true := rfl
theorem isi_str_tuple : isiB "str" "tuple" = some false := rfl
theorem isi_str_list : isiB "str" "list" = some false := rfl
theorem isi_tuple_bool : isiB "tuple" "bool" = some false := rfl
theorem isi_tuple_int : isiB "tuple" "int" = some false := rfl
theorem isi_tuple_str : isiB "tuple" "str" = some false := rfl
theorem isi_tuple_tuple : isiB "tuple" "tuple" = some true := rfl
theorem isi_tuple_list : isiB "tuple" "list" = some false := rfl
theorem isi_list_bool : isiB "list" "bool" = some false := rfl
theorem isi_list_int : isiB "list" "int" = some false := rfl
theorem isi_list_str : isiB "list" "str" = some false := rfl
theorem isi_list_tuple : isiB "list" "tuple" = some false := rfl
theorem isi_list_list : isiB "list" "list" = some true := rfl
theorem y_isi {v : Vw} {T : String} {Q : RV → Prop} : oIsi [v, .wv (.ty T)] Q = (match v.tyName with
  | some n => match isiB n T with
    | some b => Q (.val (.bl b))
    | none => False
  | none => False) := by
  refine propext ⟨fun q => ?_, fun q => ?_⟩
  · obtain ⟨n, b, e, f, q⟩ : ∃ n b, v.tyName = some n ∧ isiB n T = some b ∧ Q (.val (.bl b)) := q
    simp only [e, f]
    exact q
  · show ∃ n b, v.tyName = some n ∧ isiB n T = some b ∧ Q (.val (.bl b))
    split at q
    · rename_i n e
      split at q
      · rename_i b f
        exact ⟨n, b, e, f, q⟩
      · exact q.elim
    · exact q.elim
mutual
/-- data that is not too long anywhere, nested at most so deep -/
def W.fit : Nat → W → Bool
  | _, .non => true
  | _, .bl _ => true
  | _, .int _ => true
  | _, .str _ => true
  | n + 1, .tup xs => decide (xs.length ≤ 100000) && W.fitL n xs
  | n + 1, .lst xs => decide (xs.length ≤ 100000) && W.fitL n xs
  | _, _ => false
def W.fitL : Nat → List W → Bool
  | _, [] => true
  | n, x :: xs => W.fit n x && W.fitL n xs
end
theorem W.fitL_mem {n : Nat} : ∀ {xs : List W}, W.fitL n xs = true → ∀ x ∈ xs, x.fit n = true
  | [], _, x, h => by cases h
  | y :: ys, e, x, h => by
    simp only [W.fitL, Bool.and_eq_true] at e
    rcases List.mem_cons.mp h with rfl | h
    · exact e.1
    · exact W.fitL_mem e.2 x h
theorem W.fitL_of {n : Nat} : ∀ {xs : List W}, (∀ x ∈ xs, x.fit n = true) → W.fitL n xs = true
  | [], _ => rfl
  | y :: ys, h => by
    simp only [W.fitL, Bool.and_eq_true]
    exact ⟨h y (by simp), W.fitL_of fun x hx => h x (by simp [hx])⟩
theorem eqw_self_int {i : Int} : eqw (.int i) (.int i) = true := by simp [eqw, W.pd, PyData.eqv]
theorem eqw_self_bl {i : Bool} : eqw (.bl i) (.bl i) = true := by simp [eqw, W.pd, PyData.eqv]
theorem eqw_self_str {i : Str} : eqw (.str i) (.str i) = true := by simp [eqw, W.pd, PyData.eqv]
theorem rngW_mem {n : Nat} {w : W} (h : w ∈ rngW 0 n) : ∃ i : Nat, i < n ∧ w = .int i := by
  unfold rngW at h
  obtain ⟨i, hi, rfl⟩ := List.mem_map.mp h
  exact ⟨i, List.mem_range.mp hi, by simp⟩
theorem rngW_len {lo : Int} {n : Nat} : (rngW lo n).length = n := by simp [rngW]
theorem y_blsT {ws : List W} {g : List Bool → Bool} {Q : RV → Prop} (f : W → Bool) (q : Q (.val (.bl (g (ws.map f))))) : oBls g [Vw.cv (Cont.seq ([] ++ ws.map fun w => .bl (f w)))] Q :=
  ⟨ws.map f, by simp [Vw.seq], q⟩
theorem y_gsCons {t : AGT} {u : AGTs} : gsCons t u = fun ws env h Q => match ws with
  | w :: r => t w env h fun env' h' => u r env' h' Q
  | [] => False := by
  funext ws env h Q
  cases ws with
  | nil => simp [gsCons]
  | cons w r => exact propext ⟨fun ⟨a, b, e, q⟩ => by cases e; exact q, fun q => ⟨w, r, rfl, q⟩⟩
theorem y_gsNil : gsNil = fun ws env h Q => match ws with
  | [] => Q env h
  | _ => False := by
  funext ws env h Q
  cases ws with
  | nil => simp [gsNil]
  | cons w r => simp [gsNil]
theorem fitL_ints {d : Nat} {xs : List Int} : W.fitL d (xs.map .int) = true := W.fitL_of fun x hx => by
  obtain ⟨i, _, rfl⟩ := List.mem_map.mp hx
  cases d <;> rfl
theorem dat_ints60 {as : List Int} : W.dat 60 (.tup (as.map W.int)) = true := by
  show (as.map W.int).all (W.dat 59) = true
  rw [List.all_eq_true]
  intro x hx
  obtain ⟨i, _, rfl⟩ := List.mem_map.mp hx
  rfl
theorem eqv_ints : ∀ as bs : List Int, PyData.eqvAll (W.pds (as.map W.int)) (W.pds (bs.map W.int)) = decide (as = bs)
  | [], [] => rfl
  | [], _ :: _ => rfl
  | _ :: _, [] => rfl
  | a :: as, b :: bs => by
    show (PyData.eqv (.int a) (.int b) && PyData.eqvAll (W.pds (as.map W.int)) (W.pds (bs.map W.int))) = _
    rw [eqv_ints as bs]
    show (a == b && decide (as = bs)) = _
    by_cases h : a = b <;> by_cases h2 : as = bs <;> simp [h, h2]
theorem eqw_ints {as bs : List Int} : eqw (.tup (as.map W.int)) (.tup (bs.map W.int)) = decide (as = bs) := eqv_ints as bs
/-- a plain step: what comes behind it -/
theorem seq_step {t u : ATS} {D : AEnds} {env e1 : AEnv} {h h1 : AH} (k : ∀ N : AEnv → AH → Prop, N e1 h1 → t { D with nx := N } env h) (q : u D e1 h1) : aSeq t u D env h := k (u D) q
theorem seq_post {t u : ATS} {D : AEnds} {env : AEnv} {h : AH} (P : AEnv → AH → Prop) (k : ∀ N : AEnv → AH → Prop, (∀ e1 h1, P e1 h1 → N e1 h1) → t { D with nx := N } env h) (q : ∀ e1 h1, P e1 h1 → u D e1 h1) : aSeq t u D env h := k (u D) q
end Ab

namespace Ab
open PySem PySem.Spec PyProof.Rows L2 RZ
/-! ### what the head keeps of the top's heap: no lists -/
def isLs (o : Obj) : Bool := match o.cls with
  | .type c => decide (c = "list")
  | _ => false
def frK (g : Addr → Option Obj) (as : List Addr) : PySem.W.Frag := He.frG (fun a => (g a).bind fun o => if isLs o = true then none else some o) as
theorem frK_in {as : List Addr} {h : Heap} : (frK h.get? as).In h := fun a o e => by
  have z := He.frG_at (g := fun a => (h.get? a).bind fun o => if isLs o = true then none else some o) as e
  cases q : h.get? a with
  | none => rw [q] at z; cases z
  | some u =>
    rw [q] at z
    have z : (if isLs u = true then none else some u) = some o := z
    split at z
    · cases z
    · exact z
def NoLs (K : PySem.W.Frag) : Prop := ∀ a o, K.lookup a = some o → o.cls ≠ .type "list"
theorem frK_no {g : Addr → Option Obj} {as : List Addr} : NoLs (frK g as) := fun a o e c => by
  have z := He.frG_at (g := fun a => (g a).bind fun o => if isLs o = true then none else some o) as e
  cases q : g a with
  | none => rw [q] at z; cases z
  | some u =>
    rw [q] at z
    have z : (if isLs u = true then none else some u) = some o := z
    split at z
    · cases z
    · rename_i n
      cases z
      exact n (by unfold isLs; rw [c]; rfl)
def refsK (g : Addr → Option Obj) (a : Addr) : List Addr := match g a with
  | some o => match o.data with
    | .seq its _ => its.toList.flatMap He.refV
    | .dict es _ => es.toList.flatMap fun e => He.refV e.val
    | .func fd => He.refV fd.code ++ He.refV fd.defaults ++ He.refV fd.kwdefaults ++ fd.closure.map (·.2)
    | .cls cd => [cd.ns]
    | .cell (some v) => He.refV v
    | _ => []
  | none => []
/-- the module's names; what they name; a class's names; its methods; their codes -/
def asK (g : Addr → Option Obj) : List Addr :=
  let l1 := refsK g mainGlobals
  let l2 := l1.flatMap (refsK g)
  let l3 := l2.flatMap (refsK g)
  let l4 := l3.flatMap (refsK g)
  mainGlobals :: (l1 ++ l2 ++ l3 ++ l4)
def obsK (fa : List He.Fa) (fn : List He.DefD) (g : Addr → Option Obj) : He.AlD := He.obsD fa fn (frK g (asK g))
def hookK (fa : List He.Fa) (fn : List He.DefD) : PySem.W.Hook where
  α := He.AlD
  obs := fun s => obsK fa fn s.heap.get?
  val := fun _ => He.valD fn
  says := fun _ h => ∃ K : PySem.W.Frag, K.In h ∧ He.SaysD fa fn K ∧ NoLs K
  of := fun _ _ e => ⟨_, frK_in, e, frK_no⟩
  keeps := fun _ _ _ ⟨K, hK, c⟩ k => ⟨K, PySem.W.Frag.In.keeps hK k, c⟩
theorem obsK_eq {fa : List He.Fa} {fn : List He.DefD} {g : Addr → Option Obj} {s : Shared} (h : ∀ a, g a = s.heap.get? a) : obsK fa fn g = (hookK fa fn).obs s := by
  have e : g = s.heap.get? := funext h
  rw [e] <;> rfl
theorem FunD.one {K : PySem.W.Frag} {x q x' q' : Str} {a a' : Arguments} {b b' : List Stmt} {sc sc' : Scope} {d d' : List V} {k k' : List (Str × V)} {f : Addr} {fd fd' : FuncData} (F : FunD K x q a b sc d k f fd) (F' : FunD K x' q' a' b' sc' d' k' f fd') : fd = fd' := by
  obtain ⟨oc, od, dV, kV, doc, pm, an, cdv, ct, osl, _, lk, _⟩ := F.ex
  obtain ⟨oc', od', dV', kV', doc', pm', an', cdv', ct', osl', _, lk', _⟩ := F'.ex
  rw [lk] at lk'
  cases lk'
  rfl
/-! ### the law's call -/
theorem script_rep {K : PySem.W.Frag} {H : Hp} {a : Addr} {ns : List Int} (no : NoLs K) (hO : Only H) (hS : SqL K H a (ns.map V.int)) : RepL K H [W.lst (ns.map .int)] [V.ref a] := by
  refine .cons (.lst ?_ .ints) .nil
  rcases hS with (h | h) | ⟨o, its, n, l, c, _⟩
  · rcases hO a with e | ⟨o, xs, e⟩
    · rw [e] at h; cases h
    · rw [e] at h; cases h
  · exact h
  · exact absurd c (no a o l)
def LawSp (sp : ASp) : Prop := ∀ (ns : List Int), ns.length ≤ 63 → sp [W.lst (ns.map .int)] (fun _ => none) (fun r _ => r = .val (.bl true)) fun _ _ => False
theorem law_sp {K : PySem.W.Frag} {sp : ASp} (ls : LawSp sp) (no : NoLs K) (H : Hp) (a : Addr) (ns : List Int) (hl : ns.length ≤ 63) (hO : Only H) (hS : SqL K H a (ns.map V.int)) : cSp K 1 sp [.ref a] H (fun v _ => v = .bl true) fun _ _ _ => False :=
  ⟨[.lst (ns.map .int)], fun _ => none, _, _, rfl, (fun _ _ e => nomatch e), script_rep no hO hS, ls ns hl, fun r h' v H' e _ rr => by
    subst e
    exact Rep.of_bl (K := K) (H := H') rr, fun _ _ _ _ _ z _ _ => z⟩
theorem cx_no {P : Program} {w : World} (H : Hp) (s : Shared) (e : Value) (s' : Shared) (z : L2.CX P w [] H s (fun _ _ _ => False) e s') : False := by
  obtain ⟨_, _, _, _, _, _, _, _, _, _, _, _, z⟩ := z
  exact z
/-- the end of a head whose law may hold exceptions within -/
theorem walk_end {l : PySem.W.OpenLaw} {m j : Nat} {vw : Program} {lo : List Str} {A : (Str → Option Value) → Heap → Prop} {B : World → Heap → Prop} {d : DefRec} {y : Str} (h1 : l.most = some m) (h2 : m ≤ sizeLine) (h3 : d.params.defaults = []) (h4 : Room j callerA)
    (F : ∀ (u : World) (g : Str → Option Value) (at_ : Addr) (hp : Heap), B u hp → hp.Ns mainGlobals g → g d.name = some (.ref at_) → ∃ (K : PySem.W.Frag) (fd : FuncData) (sp : Sp), K.In hp ∧ (∀ (t : Shared) (z : Value), BindsTo t fd ⟨[z], []⟩ [(y, z)]) ∧
      (∀ (H : Hp) (b : Addr) (is : List Int), is.length ≤ m → Only H → SqL K H b (is.map V.int) → sp [.ref b] H (fun v _ => v = .bl true) fun _ _ _ => False) ∧ ∀ base : Heap, FnOk l.prog u K g base (L2.CX l.prog u) j at_ fd [y] sp) :
    PySem.W.WalkO vw lo A B l.row.toRowW d [] (fun f vs => PySem.call f vs) :=
  Att.attach_call h1 h3 fun u t0 t1 g gb at_ o1 o2 o3 o4 b vals is G yb c1 c2 c3 named obj iv few gens =>
    let ⟨K, fd, sp, inK, bind, prom, ok⟩ := F u g at_ _ yb G.T.g named
    law_call inK G.T.g G.T.b G.T.builtins G.T.nolimit gens obj iv (Nat.le_trans few h2) h4 (fun base _ _ => ok base) bind (fun H only seq => prom H b is few only seq) fun H e t' => cx_no H t1 e t'
 end Ab

namespace Ab
open PySem PySem.Spec PyProof.Rows L2 RZ
/-! ### the law's common helpers: promises -/
/-- the bag of draws at p: n draws at most have been done -/
def Bag (n : Nat) (h : AH) (p : Addr) : Prop := ∃ (ns : List Int) (i b m c : Int), h p = some (.cont (.seq [.lst (ns.map .int), .int i, .int b, .int m, .int c])) ∧ 0 ≤ i ∧ i ≤ ns.length ∧ 0 ≤ b ∧ 0 ≤ m ∧ m < 2147483648 ∧ 0 ≤ c ∧ c ≤ n
def sp__law_open : ASp := fun ws h Q _ => match ws with
  | [.lst xs] => ∃ ns : List Int, xs = ns.map .int ∧ ns.length ≤ 63 ∧ Q (.own (.seq [.lst xs, .int 0, .int 0, .int 9465, .int 0])) h
  | _ => False
def sp__law_take : ASp := fun ws h Q _ => match ws with
  | [.ref p, .int s] => ∃ n, Bag n h p ∧ n ≤ 1000000000000000 ∧ 1 ≤ s ∧ s ≤ 10 ^ 40 ∧ ∀ k h', 0 ≤ k → k < s → Bag (n + 1) h' p → Bt p h h' → Q (.val (.int k)) h'
  | _ => False
def pickP (p : Addr) (xs : List W) (h : AH) (Q : RR → AH → Prop) : Prop := ∃ n, Bag n h p ∧ n ≤ 1000000000000000 ∧ xs ≠ [] ∧ xs.length ≤ 1000000 ∧ ∀ w h', w ∈ xs → Bag (n + 1) h' p → Bt p h h' → Q (.val w) h'
def sp__law_pick : ASp := fun ws h Q _ => match ws with
  | [.ref p, .lst xs] => pickP p xs h Q
  | [.ref p, .tup xs] => pickP p xs h Q
  | _ => False
def sameP (d : Nat) : ASp := fun ws h Q _ => match ws with
  | [a, b] => a = b ∧ a.fit d = true ∧ Q (.val (.bl true)) h
  | _ => False
def sp__law_same : Nat → ASp
  | 0 => fun _ _ _ _ => False
  | d + 1 => sameP d
/-! ### promises -/
def sp_lesser : ASp := fun ws h Q _ => match ws with
  | [.tup xs, .tup ys] => ∃ as bs : List Int, xs = as.map .int ∧ ys = bs.map .int ∧ as.length ≤ 1000 ∧ Q (.val (.tup ((List.zipWith min as bs).map .int))) h
  | _ => False
theorem m_lesser : SpMono sp_lesser := fun _ _ _ _ _ _ k _ z => by
  unfold sp_lesser at z ⊢
  split at z
  · obtain ⟨as, bs, h1, h2, h3, q⟩ := z
    exact ⟨as, bs, h1, h2, h3, k _ _ q⟩
  · exact z
def sp__law_lesser : ASp := fun ws h Q _ => match ws with
  | [.tup xs, .tup ys] => ∃ as bs : List Int, xs = as.map .int ∧ ys = bs.map .int ∧ as.length ≤ 1000 ∧ as.length = bs.length ∧ Q (.val (.tup ((List.zipWith min as bs).map .int))) h
  | _ => False
theorem m__law_lesser : SpMono sp__law_lesser := fun _ _ _ _ _ _ k _ z => by
  unfold sp__law_lesser at z ⊢
  split at z
  · obtain ⟨as, bs, h1, h2, h3, q⟩ := z
    exact ⟨as, bs, h1, h2, h3, q.1, k _ _ q.2⟩
  · exact z
def sp_greater : ASp := fun ws h Q _ => match ws with
  | [.tup xs, .tup ys] => ∃ as bs : List Int, xs = as.map .int ∧ ys = bs.map .int ∧ as.length ≤ 1000 ∧ Q (.val (.tup ((List.zipWith max as bs).map .int))) h
  | _ => False
theorem m_greater : SpMono sp_greater := fun _ _ _ _ _ _ k _ z => by
  unfold sp_greater at z ⊢
  split at z
  · obtain ⟨as, bs, h1, h2, h3, q⟩ := z
    exact ⟨as, bs, h1, h2, h3, k _ _ q⟩
  · exact z
def sp__law_greater : ASp := fun ws h Q _ => match ws with
  | [.tup xs, .tup ys] => ∃ as bs : List Int, xs = as.map .int ∧ ys = bs.map .int ∧ as.length ≤ 1000 ∧ as.length = bs.length ∧ Q (.val (.tup ((List.zipWith max as bs).map .int))) h
  | _ => False
theorem m__law_greater : SpMono sp__law_greater := fun _ _ _ _ _ _ k _ z => by
  unfold sp__law_greater at z ⊢
  split at z
  · obtain ⟨as, bs, h1, h2, h3, q⟩ := z
    exact ⟨as, bs, h1, h2, h3, q.1, k _ _ q.2⟩
  · exact z
def sp_within : ASp := fun ws h Q _ => match ws with
  | [.tup xs, .tup ys] => ∃ as bs : List Int, xs = as.map .int ∧ ys = bs.map .int ∧ as.length ≤ 1000 ∧ Q (.val (.bl ((List.zipWith (fun a b => decide (a ≤ b)) as bs).all id))) h
  | _ => False
theorem m_within : SpMono sp_within := fun _ _ _ _ _ _ k _ z => by
  unfold sp_within at z ⊢
  split at z
  · obtain ⟨as, bs, h1, h2, h3, q⟩ := z
    exact ⟨as, bs, h1, h2, h3, k _ _ q⟩
  · exact z
def sp_apart : ASp := fun ws h Q _ => match ws with
  | [.tup xs, .tup ys] => ∃ as bs : List Int, xs = as.map .int ∧ ys = bs.map .int ∧ as.length ≤ 1000 ∧ Q (.val (.int (List.zipWith (fun a b => ((a - b).natAbs : Int)) as bs).sum)) h
  | _ => False
theorem m_apart : SpMono sp_apart := fun _ _ _ _ _ _ k _ z => by
  unfold sp_apart at z ⊢
  split at z
  · obtain ⟨as, bs, h1, h2, h3, q⟩ := z
    exact ⟨as, bs, h1, h2, h3, k _ _ q⟩
  · exact z
def sp__law_apart : ASp := fun ws h Q _ => match ws with
  | [.tup xs, .tup ys] => ∃ as bs : List Int, xs = as.map .int ∧ ys = bs.map .int ∧ as.length ≤ 1000 ∧ as.length = bs.length ∧ Q (.val (.int (List.zipWith (fun a b => ((a - b).natAbs : Int)) as bs).sum)) h
  | _ => False
theorem m__law_apart : SpMono sp__law_apart := fun _ _ _ _ _ _ k _ z => by
  unfold sp__law_apart at z ⊢
  split at z
  · obtain ⟨as, bs, h1, h2, h3, q⟩ := z
    exact ⟨as, bs, h1, h2, h3, q.1, k _ _ q.2⟩
  · exact z
def sp_law : ASp := fun ws h Q _ => ∃ ns : List Int, ws = [.lst (ns.map .int)] ∧ ns.length ≤ 63 ∧ ∀ h', Q (.val (.bl true)) h'
def t_lesser (E : AExc → AEnv → AH → Prop) : ATS := (aRet (aCB oTupC (rCons (aLc [2, 3] (iZp (aCons (aFz (aVar 0)) (aCons (aFz (aVar 1)) aNil))) (gTp 2 (gsCons (gNm 2) (gsCons (gNm 3) gsNil))) aYes (aFz (aCB (o2I fun i j => if j < i then j else i) (rCons (aVar 2) (rCons (aVar 3) rNil))))) rNil)))
def t_greater (E : AExc → AEnv → AH → Prop) : ATS := (aRet (aCB oTupC (rCons (aLc [2, 3] (iZp (aCons (aFz (aVar 0)) (aCons (aFz (aVar 1)) aNil))) (gTp 2 (gsCons (gNm 2) (gsCons (gNm 3) gsNil))) aYes (aFz (aCB (o2I fun i j => if j > i then j else i) (rCons (aVar 2) (rCons (aVar 3) rNil))))) rNil)))
def t_within (E : AExc → AEnv → AH → Prop) : ATS := (aRet (aCB (oBls fun bs => bs.all id) (rCons (aLc [2, 3] (iZp (aCons (aFz (aVar 0)) (aCons (aFz (aVar 1)) aNil))) (gTp 2 (gsCons (gNm 2) (gsCons (gNm 3) gsNil))) aYes (aFz (aOp2 (oII (fun _ _ => True) fun i j => .bl (decide (i ≤ j))) (aVar 2) (aVar 3)))) rNil)))
def t_apart (E : AExc → AEnv → AH → Prop) : ATS := (aRet (aCB oSum (rCons (aLc [2, 3] (iZp (aCons (aFz (aVar 0)) (aCons (aFz (aVar 1)) aNil))) (gTp 2 (gsCons (gNm 2) (gsCons (gNm 3) gsNil))) aYes (aFz (aCB (o1I fun i => if i < 0 then -i else i) (rCons (aOp2 (oII (fun _ _ => True) fun i j => .int (i - j)) (aVar 2) (aVar 3)) rNil)))) rNil)))
def t__law_open (E : AExc → AEnv → AH → Prop) : ATS := (aRet (aLst (aCons (aFz (aCB oLstC (rCons (aSl (aVar 0) aNoPart (aPart (aC (.int 63)))) rNil))) (aCons (aFz (aC (.int 0))) (aCons (aFz (aC (.int 0))) (aCons (aFz (aC (.int 9465))) (aCons (aFz (aC (.int 0))) aNil)))))))
def t__law_take (E : AExc → AEnv → AH → Prop) : ATS := (aSeq (aIf (aAndT (aTst (aOp2 (oII (fun _ _ => True) fun i j => .bl (decide (i < j))) (aOp2 oIx (aVar 0) (aC (.int 2))) (aVar 1))) (aTst (aOp2 (oII (fun _ _ => True) fun i j => .bl (decide (i < j))) (aOp2 oIx (aVar 0) (aC (.int 1))) (aCB oLen (rCons (aOp2 oIx (aVar 0) (aC (.int 0))) rNil))))) (aSeq (aSet 2 (aOp2 oIx (aOp2 oIx (aVar 0) (aC (.int 0))) (aOp2 oIx (aVar 0) (aC (.int 1))))) (aSeq (aAsg (aFz (aOp2 oAdd (aOp2 oIx (aVar 0) (aC (.int 1))) (aC (.int 1)))) (gSet (aVar 0) (aC (.int 1)))) (aSeq (aAsg (aFz (aC (.int 0))) (gSet (aVar 0) (aC (.int 2)))) (aIf (aTst (aOp2 (oII (fun _ _ => True) fun i j => .bl (decide (j ≤ i))) (aVar 2) (aOp2 (oII CPow fun i j => .int (i ^ j.toNat)) (aC (.int 10)) (aC (.int 18))))) (aAsg (aFz (aVar 2)) (gSet (aVar 0) (aC (.int 2)))) (aAsg (aFz (aOp2 (oII CMod fun i j => .int (i % j)) (aOp2 oAdd (aOp2 oAdd (aOp2 (oII CMulW fun i j => .int (i * j)) (aOp2 oIx (aVar 0) (aC (.int 3))) (aC (.int 48271))) (aOp2 (oII CMulW fun i j => .int (i * j)) (aOp2 (oII CMod fun i j => .int (i % j)) (aVar 2) (aC (.int 2147483629))) (aC (.int 69621)))) (aC (.int 12345))) (aC (.int 2147483647)))) (gSet (aVar 0) (aC (.int 3)))))))) aNext) (aSeq (aIf (aTst (aOp2 (oII (fun _ _ => True) fun i j => .bl (decide (j ≤ i))) (aOp2 oIx (aVar 0) (aC (.int 2))) (aVar 1))) (aSeq (aSet 3 (aOp2 (oII CMod fun i j => .int (i % j)) (aOp2 oIx (aVar 0) (aC (.int 2))) (aVar 1))) (aSeq (aAsg (aFz (aOp2 (oII CDivW fun i j => .int (i / j)) (aOp2 oIx (aVar 0) (aC (.int 2))) (aVar 1))) (gSet (aVar 0) (aC (.int 2)))) (aRet (aVar 3)))) aNext) (aSeq (aAsg (aFz (aOp2 oAdd (aOp2 oIx (aVar 0) (aC (.int 4))) (aC (.int 1)))) (gSet (aVar 0) (aC (.int 4)))) (aSeq (aSet 4 (aOp2 oIx (aVar 0) (aC (.int 3)))) (aSeq (aAsg (aFz (aOp2 (oII CMod fun i j => .int (i % j)) (aOp2 oAdd (aOp2 oAdd (aOp2 oAdd (aOp2 (oII CMulW fun i j => .int (i * j)) (aOp2 (oII CMod fun i j => .int (i % j)) (aOp2 (oII CMulW fun i j => .int (i * j)) (aVar 4) (aVar 4)) (aC (.int 2147483629))) (aC (.int 5))) (aOp2 (oII CMulW fun i j => .int (i * j)) (aVar 4) (aC (.int 16811)))) (aOp2 (oII CMulW fun i j => .int (i * j)) (aC (.int 7919)) (aOp2 oIx (aVar 0) (aC (.int 4))))) (aC (.int 2531011))) (aC (.int 2147483647)))) (gSet (aVar 0) (aC (.int 3)))) (aRet (aOp2 (oII CMod fun i j => .int (i % j)) (aOp2 oAdd (aOp2 (oII CDivW fun i j => .int (i / j)) (aOp2 oIx (aVar 0) (aC (.int 3))) (aC (.int 61))) (aOp2 (oII CMulW fun i j => .int (i * j)) (aOp2 (oII CMod fun i j => .int (i % j)) (aOp2 oIx (aVar 0) (aC (.int 3))) (aC (.int 8191))) (aC (.int 31)))) (aVar 1))))))))
def t__law_pick (E : AExc → AEnv → AH → Prop) : ATS := (aRet (aOp2 oIx (aVar 1) (aCall E sp__law_take (aCons (aFz (aVar 0)) (aCons (aFz (aCB oLen (rCons (aVar 1) rNil))) aNil)))))
def t__law_same (d : Nat) (E : AExc → AEnv → AH → Prop) : ATS := (aSeq (aIf (aTst (aOp2 (oIsN false) (aVar 1) (aC .non))) (aRet (aOp2 (oIsN false) (aVar 0) (aC .non))) aNext) (aSeq (aIf (aTst (aCB oIsi (rCons (aVar 1) (rCons (aC (.ty "bool")) rNil)))) (aRet (aAndV (aCB oIsi (rCons (aVar 0) (rCons (aC (.ty "bool")) rNil))) (aOp2 (oEq false) (aVar 0) (aVar 1)))) aNext) (aSeq (aIf (aTst (aCB oIsi (rCons (aVar 1) (rCons (aC (.ty "int")) rNil)))) (aRet (aAndV (aCB oIsi (rCons (aVar 0) (rCons (aC (.ty "int")) rNil))) (aAndV (aNotV (aCB oIsi (rCons (aVar 0) (rCons (aC (.ty "bool")) rNil)))) (aOp2 (oEq false) (aVar 0) (aVar 1))))) aNext) (aSeq (aIf (aTst (aCB oIsi (rCons (aVar 1) (rCons (aC (.ty "str")) rNil)))) (aRet (aAndV (aCB oIsi (rCons (aVar 0) (rCons (aC (.ty "str")) rNil))) (aOp2 (oEq false) (aVar 0) (aVar 1)))) aNext) (aSeq (aIf (aOrT (aTst (aOp2 (oEq true) (aCB oIsi (rCons (aVar 1) (rCons (aC (.ty "tuple")) rNil))) (aCB oIsi (rCons (aVar 0) (rCons (aC (.ty "tuple")) rNil))))) (aTst (aOp2 (oEq true) (aCB oIsi (rCons (aVar 1) (rCons (aC (.ty "list")) rNil))) (aCB oIsi (rCons (aVar 0) (rCons (aC (.ty "list")) rNil)))))) (aRet (aC (.bl false))) aNext) (aSeq (aIf (aTst (aOp2 (oEq true) (aCB oLen (rCons (aVar 0) rNil)) (aCB oLen (rCons (aVar 1) rNil)))) (aRet (aC (.bl false))) aNext) (aRet (aCB (oBls fun bs => bs.all id) (rCons (aLc [2] (iRg1 (rCons (aCB oLen (rCons (aVar 1) rNil)) rNil)) (gNm 2) aYes (aFz (aCall E0 (sp__law_same d) (aCons (aFz (aOp2 oIx (aVar 0) (aVar 2))) (aCons (aFz (aOp2 oIx (aVar 1) (aVar 2))) aNil))))) rNil)))))))))
def t__law_lesser (E : AExc → AEnv → AH → Prop) : ATS := (aRet (aCB oTupC (rCons (aLc [2] (iRg1 (rCons (aCB oLen (rCons (aVar 0) rNil)) rNil)) (gNm 2) aYes (aFz (aCB (o2I fun i j => if j < i then j else i) (rCons (aOp2 oIx (aVar 0) (aVar 2)) (rCons (aOp2 oIx (aVar 1) (aVar 2)) rNil))))) rNil)))
def t__law_greater (E : AExc → AEnv → AH → Prop) : ATS := (aRet (aCB oTupC (rCons (aLc [2] (iRg1 (rCons (aCB oLen (rCons (aVar 0) rNil)) rNil)) (gNm 2) aYes (aFz (aCB (o2I fun i j => if j > i then j else i) (rCons (aOp2 oIx (aVar 0) (aVar 2)) (rCons (aOp2 oIx (aVar 1) (aVar 2)) rNil))))) rNil)))
def t__law_apart (E : AExc → AEnv → AH → Prop) : ATS := (aRet (aCB oSum (rCons (aLc [2] (iRg1 (rCons (aCB oLen (rCons (aVar 0) rNil)) rNil)) (gNm 2) aYes (aFz (aCB (o1I fun i => if i < 0 then -i else i) (rCons (aOp2 (oII (fun _ _ => True) fun i j => .int (i - j)) (aOp2 oIx (aVar 0) (aVar 2)) (aOp2 oIx (aVar 1) (aVar 2))) rNil)))) rNil)))
def t_law (E : AExc → AEnv → AH → Prop) : ATS := (aSeq (aSet 1 (aCall E sp__law_open (aCons (aFz (aVar 0)) aNil))) (aSeq (aProm 1 (aFor (iRg1 (rCons (aC (.int 8)) rNil)) (gNm 2) (aSeq (aSet 3 (aCB oTupC (rCons (aLc [4] (iRg1 (rCons (aOp2 oAdd (aC (.int 1)) (aCall E sp__law_take (aCons (aFz (aVar 1)) (aCons (aFz (aC (.int 4))) aNil)))) rNil)) (gNm 4) aYes (aFz (aCall E0 sp__law_take (aCons (aFz (aVar 1)) (aCons (aFz (aC (.int 41))) aNil))))) rNil))) (aSeq (aSet 3 (aOp2 oAdd (aVar 3) (aTup (aCons (aFz (aCall E sp__law_pick (aCons (aFz (aVar 1)) (aCons (aFz (aLst (aCons (aFz (aOp2 (oII (fun _ _ => True) fun i j => .int (i - j)) (aC (.int 0)) (aCall E sp__law_take (aCons (aFz (aVar 1)) (aCons (aFz (aC (.int 9))) aNil))))) (aCons (aFz (aCall E sp__law_take (aCons (aFz (aVar 1)) (aCons (aFz (aOp2 (oII CPow fun i j => .int (i ^ j.toNat)) (aC (.int 10)) (aC (.int 30)))) aNil)))) aNil)))) aNil)))) aNil)))) (aSeq (aSet 5 (aCB oTupC (rCons (aLc [6] (iOr (iLst (aFz (aVar 3))) (iTpl (aFz (aVar 3)))) (gNm 6) aYes (aFz (aOp2 oAdd (aVar 6) (aCall E0 sp__law_pick (aCons (aFz (aVar 1)) (aCons (aFz (aLst (aCons (aFz (aC (.int 0))) (aCons (aFz (aC (.int 0))) (aCons (aFz (aC (.int 1))) (aCons (aFz (aNeg (aC (.int 1)))) (aCons (aFz (aCall E0 sp__law_take (aCons (aFz (aVar 1)) (aCons (aFz (aC (.int 40))) aNil)))) aNil))))))) aNil)))))) rNil))) (aSeq (aPar 7 8 (aCons (aFz (aCall E sp__law_lesser (aCons (aFz (aVar 3)) (aCons (aFz (aVar 5)) aNil)))) (aCons (aFz (aCall E sp__law_greater (aCons (aFz (aVar 3)) (aCons (aFz (aVar 5)) aNil)))) aNil))) (aSeq (aIf (aNotT (aTst (aCall E (sp__law_same 4) (aCons (aFz (aLst (aCons (aFz (aCall E sp_lesser (aCons (aFz (aVar 3)) (aCons (aFz (aVar 5)) aNil)))) (aCons (aFz (aCall E sp_greater (aCons (aFz (aVar 3)) (aCons (aFz (aVar 5)) aNil)))) aNil)))) (aCons (aFz (aLst (aCons (aFz (aVar 7)) (aCons (aFz (aVar 8)) aNil)))) aNil))))) (aRet (aC (.bl false))) aNext) (aSeq (aIf (aNotT (aTst (aCall E (sp__law_same 4) (aCons (aFz (aLst (aCons (aFz (aCall E sp_lesser (aCons (aFz (aVar 5)) (aCons (aFz (aVar 3)) aNil)))) (aCons (aFz (aCallK E sp_greater 2 (gKw [1, 0]) aNil (aCons (aFz (aVar 5)) (aCons (aFz (aVar 3)) aNil)))) aNil)))) (aCons (aFz (aLst (aCons (aFz (aVar 7)) (aCons (aFz (aVar 8)) aNil)))) aNil))))) (aRet (aC (.bl false))) aNext) (aSeq (aSet 9 (aCall E sp__law_apart (aCons (aFz (aVar 3)) (aCons (aFz (aVar 5)) aNil)))) (aSeq (aIf (aNotT (aTst (aCall E (sp__law_same 4) (aCons (aFz (aLst (aCons (aFz (aCall E sp_apart (aCons (aFz (aVar 3)) (aCons (aFz (aVar 5)) aNil)))) (aCons (aFz (aCallK E sp_apart 2 (gKw [1, 0]) aNil (aCons (aFz (aVar 3)) (aCons (aFz (aVar 5)) aNil)))) (aCons (aFz (aCall E sp_apart (aCons (aFz (aVar 3)) (aCons (aFz (aVar 3)) aNil)))) aNil))))) (aCons (aFz (aLst (aCons (aFz (aVar 9)) (aCons (aFz (aVar 9)) (aCons (aFz (aC (.int 0))) aNil))))) aNil))))) (aRet (aC (.bl false))) aNext) (aSeq (aSet 10 (aLst (aCons (aFz (aCall E sp_within (aCons (aFz (aVar 3)) (aCons (aFz (aVar 5)) aNil)))) (aCons (aFz (aCall E sp_within (aCons (aFz (aVar 5)) (aCons (aFz (aVar 3)) aNil)))) (aCons (aFz (aCall E sp_within (aCons (aFz (aVar 7)) (aCons (aFz (aVar 3)) aNil)))) aNil))))) (aSeq (aDrop (aLm fAppend (aVar 10) (aCons (aFz (aCallK E sp_within 2 (gKw [0, 1]) aNil (aCons (aFz (aVar 3)) (aCons (aFz (aVar 8)) aNil)))) aNil))) (aIf (aNotT (aTst (aCall E (sp__law_same 4) (aCons (aFz (aVar 10)) (aCons (aFz (aLst (aCons (aFz (aOp2 (oEq false) (aVar 7) (aVar 3))) (aCons (aFz (aOp2 (oEq false) (aVar 7) (aVar 5))) (aCons (aFz (aC (.bl true))) (aCons (aFz (aC (.bl true))) aNil)))))) aNil))))) (aRet (aC (.bl false))) aNext))))))))))))) (aRet (aC (.bl true)))))
end Ab

namespace Ab
open PySem PySem.Spec PyProof.Rows L2 RZ
def top (i : Nat) : Stmt := PySem.Challenge.pw_hidelater_k04_rows_of_numbers_beside_one.main.body.getD i (.Pass ⟨0, 0, 0, 0⟩)
abbrev s_lesser : Stmt := top 1
abbrev N_lesser : List Str := ["one", "other", "here", "there"]
abbrev P_lesser : List Str := ["one", "other"]
theorem c_lesser : FnScope N_lesser P_lesser (defScope s_lesser) := ⟨rfl, rfl, rfl, by decide +kernel, rfl, by decide +kernel, by decide +kernel⟩
theorem a_lesser : BindsAll "lesser" s_lesser P_lesser := fun _ _ _ _ _ _ us hl => match us, hl with | [_, _], _ => rfl
abbrev s_greater : Stmt := top 2
abbrev N_greater : List Str := ["one", "other", "here", "there"]
abbrev P_greater : List Str := ["one", "other"]
theorem c_greater : FnScope N_greater P_greater (defScope s_greater) := ⟨rfl, rfl, rfl, by decide +kernel, rfl, by decide +kernel, by decide +kernel⟩
theorem a_greater : BindsAll "greater" s_greater P_greater := fun _ _ _ _ _ _ us hl => match us, hl with | [_, _], _ => rfl
abbrev s_within : Stmt := top 3
abbrev N_within : List Str := ["one", "other", "here", "there"]
abbrev P_within : List Str := ["one", "other"]
theorem c_within : FnScope N_within P_within (defScope s_within) := ⟨rfl, rfl, rfl, by decide +kernel, rfl, by decide +kernel, by decide +kernel⟩
theorem a_within : BindsAll "within" s_within P_within := fun _ _ _ _ _ _ us hl => match us, hl with | [_, _], _ => rfl
abbrev s_apart : Stmt := top 4
abbrev N_apart : List Str := ["one", "other", "here", "there"]
abbrev P_apart : List Str := ["one", "other"]
theorem c_apart : FnScope N_apart P_apart (defScope s_apart) := ⟨rfl, rfl, rfl, by decide +kernel, rfl, by decide +kernel, by decide +kernel⟩
theorem a_apart : BindsAll "apart" s_apart P_apart := fun _ _ _ _ _ _ us hl => match us, hl with | [_, _], _ => rfl
abbrev s__law_open : Stmt := top 6
abbrev N__law_open : List Str := ["_law_script"]
abbrev P__law_open : List Str := ["_law_script"]
theorem c__law_open : FnScope N__law_open P__law_open (defScope s__law_open) := ⟨rfl, rfl, rfl, by decide +kernel, rfl, by decide +kernel, by decide +kernel⟩
theorem a__law_open : BindsAll "_law_open" s__law_open P__law_open := fun _ _ _ _ _ _ us hl => match us, hl with | [_], _ => rfl
abbrev s__law_take : Stmt := top 7
abbrev N__law_take : List Str := ["_law_bag", "_law_sides", "_law_cell", "_law_side", "_law_mix"]
abbrev P__law_take : List Str := ["_law_bag", "_law_sides"]
theorem c__law_take : FnScope N__law_take P__law_take (defScope s__law_take) := ⟨rfl, rfl, rfl, by decide +kernel, rfl, by decide +kernel, by decide +kernel⟩
theorem a__law_take : BindsAll "_law_take" s__law_take P__law_take := fun _ _ _ _ _ _ us hl => match us, hl with | [_, _], _ => rfl
abbrev s__law_pick : Stmt := top 8
abbrev N__law_pick : List Str := ["_law_bag", "_law_row"]
abbrev P__law_pick : List Str := ["_law_bag", "_law_row"]
theorem c__law_pick : FnScope N__law_pick P__law_pick (defScope s__law_pick) := ⟨rfl, rfl, rfl, by decide +kernel, rfl, by decide +kernel, by decide +kernel⟩
theorem a__law_pick : BindsAll "_law_pick" s__law_pick P__law_pick := fun _ _ _ _ _ _ us hl => match us, hl with | [_, _], _ => rfl
abbrev s__law_same : Stmt := top 9
abbrev N__law_same : List Str := ["_law_found", "_law_due", "_law_at"]
abbrev P__law_same : List Str := ["_law_found", "_law_due"]
theorem c__law_same : FnScope N__law_same P__law_same (defScope s__law_same) := ⟨rfl, rfl, rfl, by decide +kernel, rfl, by decide +kernel, by decide +kernel⟩
theorem a__law_same : BindsAll "_law_same" s__law_same P__law_same := fun _ _ _ _ _ _ us hl => match us, hl with | [_, _], _ => rfl
abbrev s__law_lesser : Stmt := top 10
abbrev N__law_lesser : List Str := ["_law_mone", "_law_mother", "_law_at"]
abbrev P__law_lesser : List Str := ["_law_mone", "_law_mother"]
theorem c__law_lesser : FnScope N__law_lesser P__law_lesser (defScope s__law_lesser) := ⟨rfl, rfl, rfl, by decide +kernel, rfl, by decide +kernel, by decide +kernel⟩
theorem a__law_lesser : BindsAll "_law_lesser" s__law_lesser P__law_lesser := fun _ _ _ _ _ _ us hl => match us, hl with | [_, _], _ => rfl
abbrev s__law_greater : Stmt := top 11
abbrev N__law_greater : List Str := ["_law_mone", "_law_mother", "_law_at"]
abbrev P__law_greater : List Str := ["_law_mone", "_law_mother"]
theorem c__law_greater : FnScope N__law_greater P__law_greater (defScope s__law_greater) := ⟨rfl, rfl, rfl, by decide +kernel, rfl, by decide +kernel, by decide +kernel⟩
theorem a__law_greater : BindsAll "_law_greater" s__law_greater P__law_greater := fun _ _ _ _ _ _ us hl => match us, hl with | [_, _], _ => rfl
abbrev s__law_apart : Stmt := top 12
abbrev N__law_apart : List Str := ["_law_mone", "_law_mother", "_law_at"]
abbrev P__law_apart : List Str := ["_law_mone", "_law_mother"]
theorem c__law_apart : FnScope N__law_apart P__law_apart (defScope s__law_apart) := ⟨rfl, rfl, rfl, by decide +kernel, rfl, by decide +kernel, by decide +kernel⟩
theorem a__law_apart : BindsAll "_law_apart" s__law_apart P__law_apart := fun _ _ _ _ _ _ us hl => match us, hl with | [_, _], _ => rfl
abbrev s_law : Stmt := top 13
abbrev N_law : List Str := ["_law_script", "_law_bag", "_law_turn", "_law_mone", "_law_k", "_law_mother", "_law_number", "_law_low", "_law_high", "_law_due", "_law_found"]
abbrev P_law : List Str := ["_law_script"]
theorem c_law : FnScope N_law P_law (defScope s_law) := ⟨rfl, rfl, rfl, by decide +kernel, rfl, by decide +kernel, by decide +kernel⟩
theorem a_law : BindsAll "law" s_law P_law := fun _ _ _ _ _ _ us hl => match us, hl with | [_], _ => rfl
theorem kw_within_0_1 : KwAll "within" s_within P_within ["one", "other"] [0, 1] := fun _ _ _ _ _ _ us hl => match us, hl with | [u0, u1], _ => rfl
theorem kw_greater_1_0 : KwAll "greater" s_greater P_greater ["other", "one"] [1, 0] := fun _ _ _ _ _ _ us hl => match us, hl with | [u0, u1], _ => rfl
theorem kw_apart_1_0 : KwAll "apart" s_apart P_apart ["other", "one"] [1, 0] := fun _ _ _ _ _ _ us hl => match us, hl with | [u0, u1], _ => rfl
end Ab

namespace Ab
open PySem PySem.Spec PyProof.Rows L2 RZ
structure Blt (mg : Str → Option Value) : Prop where
  n_abs : mg "abs" = none
  n_all : mg "all" = none
  n_bool : mg "bool" = none
  n_int : mg "int" = none
  n_isinstance : mg "isinstance" = none
  n_len : mg "len" = none
  n_list : mg "list" = none
  n_max : mg "max" = none
  n_min : mg "min" = none
  n_range : mg "range" = none
  n_str : mg "str" = none
  n_sum : mg "sum" = none
  n_tuple : mg "tuple" = none
  n_zip : mg "zip" = none
theorem b_lesser {P : Program} {w : World} {K : PySem.W.Frag} {mg : Str → Option Value} {base : Heap} {f : Addr} {cdv : Value} {A : Around} {outer : List Env} {s : Shared} {H : Hp} {EX : XK} {G : Gx} {E : AExc → AEnv → AH → Prop} (Z : Blt mg)  (hr : Room 0 (A.deeper (envOfC "lesser" (defScope s_lesser) s.heap.objs.size f cdv))) (gk : G.K = K) (tk : Takes (bx P w K mg base N_lesser "lesser" (defScope s_lesser) f cdv A outer s H EX) (cW G E)) :
    ASs (bx P w K mg base N_lesser "lesser" (defScope s_lesser) f cdv A outer s H EX) G (defBody s_lesser) (t_lesser E) := by
  subst gk
  have gk : G.K = G.K := rfl
  have sc := c_lesser
  have hu := hr.units
  exact (ass_one (as_ret (ae_callTy call_tuple_of ca_tup rfl Z.n_tuple bo_tuple (ar_cons (ae_lcO (own := [("here", 2), ("there", 3)]) rfl sc.nd (ai_zip gk rfl Z.n_zip (aa_cons (av_of (ae_var (pv 0))) (aa_cons (av_of (ae_var (pv 1))) aa_nil))) (blkOk_by (by first | (show blkC N_lesser (defScope s_lesser) _ _ = true; decide +kernel) | rfl)) (by decide) (fun _ _ _ _ _ => (ag_tup gk rfl (ags_cons (ag_name (i := 2) sc.nd rfl (by first | exact .inl rfl | exact .inr rfl)) (ags_cons (ag_name (i := 3) sc.nd rfl (by first | exact .inl rfl | exact .inr rfl)) ags_nil)))) (fun _ _ _ _ _ => aps_nil) (fun _ _ _ _ _ => (av_of (ae_callB (call_min2 rfl) (ca_2I (g := fun i j => if j < i then j else i)) rfl Z.n_min bo_min (ar_cons (ae_var (pv 2)) (ar_cons (ae_var (pv 3)) ar_nil)))))) ar_nil))))
theorem b_greater {P : Program} {w : World} {K : PySem.W.Frag} {mg : Str → Option Value} {base : Heap} {f : Addr} {cdv : Value} {A : Around} {outer : List Env} {s : Shared} {H : Hp} {EX : XK} {G : Gx} {E : AExc → AEnv → AH → Prop} (Z : Blt mg)  (hr : Room 0 (A.deeper (envOfC "greater" (defScope s_greater) s.heap.objs.size f cdv))) (gk : G.K = K) (tk : Takes (bx P w K mg base N_greater "greater" (defScope s_greater) f cdv A outer s H EX) (cW G E)) :
    ASs (bx P w K mg base N_greater "greater" (defScope s_greater) f cdv A outer s H EX) G (defBody s_greater) (t_greater E) := by
  subst gk
  have gk : G.K = G.K := rfl
  have sc := c_greater
  have hu := hr.units
  exact (ass_one (as_ret (ae_callTy call_tuple_of ca_tup rfl Z.n_tuple bo_tuple (ar_cons (ae_lcO (own := [("here", 2), ("there", 3)]) rfl sc.nd (ai_zip gk rfl Z.n_zip (aa_cons (av_of (ae_var (pv 0))) (aa_cons (av_of (ae_var (pv 1))) aa_nil))) (blkOk_by (by first | (show blkC N_greater (defScope s_greater) _ _ = true; decide +kernel) | rfl)) (by decide) (fun _ _ _ _ _ => (ag_tup gk rfl (ags_cons (ag_name (i := 2) sc.nd rfl (by first | exact .inl rfl | exact .inr rfl)) (ags_cons (ag_name (i := 3) sc.nd rfl (by first | exact .inl rfl | exact .inr rfl)) ags_nil)))) (fun _ _ _ _ _ => aps_nil) (fun _ _ _ _ _ => (av_of (ae_callB (call_max2 rfl) (ca_2I (g := fun i j => if j > i then j else i)) rfl Z.n_max bo_max (ar_cons (ae_var (pv 2)) (ar_cons (ae_var (pv 3)) ar_nil)))))) ar_nil))))
theorem b_within {P : Program} {w : World} {K : PySem.W.Frag} {mg : Str → Option Value} {base : Heap} {f : Addr} {cdv : Value} {A : Around} {outer : List Env} {s : Shared} {H : Hp} {EX : XK} {G : Gx} {E : AExc → AEnv → AH → Prop} (Z : Blt mg)  (hr : Room 0 (A.deeper (envOfC "within" (defScope s_within) s.heap.objs.size f cdv))) (gk : G.K = K) (tk : Takes (bx P w K mg base N_within "within" (defScope s_within) f cdv A outer s H EX) (cW G E)) :
    ASs (bx P w K mg base N_within "within" (defScope s_within) f cdv A outer s H EX) G (defBody s_within) (t_within E) := by
  subst gk
  have gk : G.K = G.K := rfl
  have sc := c_within
  have hu := hr.units
  exact (ass_one (as_ret (ae_callB (cr_all rfl) ca_all rfl Z.n_all bo_all (ar_cons (ae_lcO (own := [("here", 2), ("there", 3)]) rfl sc.nd (ai_zip gk rfl Z.n_zip (aa_cons (av_of (ae_var (pv 0))) (aa_cons (av_of (ae_var (pv 1))) aa_nil))) (blkOk_by (by first | (show blkC N_within (defScope s_within) _ _ = true; decide +kernel) | rfl)) (by decide) (fun _ _ _ _ _ => (ag_tup gk rfl (ags_cons (ag_name (i := 2) sc.nd rfl (by first | exact .inl rfl | exact .inr rfl)) (ags_cons (ag_name (i := 3) sc.nd rfl (by first | exact .inl rfl | exact .inr rfl)) ags_nil)))) (fun _ _ _ _ _ => aps_nil) (fun _ _ _ _ _ => (av_of (ae_le (ae_var (pv 2)) (ae_var (pv 3)))))) ar_nil))))
theorem b_apart {P : Program} {w : World} {K : PySem.W.Frag} {mg : Str → Option Value} {base : Heap} {f : Addr} {cdv : Value} {A : Around} {outer : List Env} {s : Shared} {H : Hp} {EX : XK} {G : Gx} {E : AExc → AEnv → AH → Prop} (Z : Blt mg)  (hr : Room 0 (A.deeper (envOfC "apart" (defScope s_apart) s.heap.objs.size f cdv))) (gk : G.K = K) (tk : Takes (bx P w K mg base N_apart "apart" (defScope s_apart) f cdv A outer s H EX) (cW G E)) :
    ASs (bx P w K mg base N_apart "apart" (defScope s_apart) f cdv A outer s H EX) G (defBody s_apart) (t_apart E) := by
  subst gk
  have gk : G.K = G.K := rfl
  have sc := c_apart
  have hu := hr.units
  exact (ass_one (as_ret (ae_callB (cr_sum rfl) ca_sum rfl Z.n_sum bo_sum (ar_cons (ae_lcO (own := [("here", 2), ("there", 3)]) rfl sc.nd (ai_zip gk rfl Z.n_zip (aa_cons (av_of (ae_var (pv 0))) (aa_cons (av_of (ae_var (pv 1))) aa_nil))) (blkOk_by (by first | (show blkC N_apart (defScope s_apart) _ _ = true; decide +kernel) | rfl)) (by decide) (fun _ _ _ _ _ => (ag_tup gk rfl (ags_cons (ag_name (i := 2) sc.nd rfl (by first | exact .inl rfl | exact .inr rfl)) (ags_cons (ag_name (i := 3) sc.nd rfl (by first | exact .inl rfl | exact .inr rfl)) ags_nil)))) (fun _ _ _ _ _ => aps_nil) (fun _ _ _ _ _ => (av_of (ae_callB call_abs (ca_1I (g := fun i => if i < 0 then -i else i)) rfl Z.n_abs bo_abs (ar_cons (ae_sub (ae_var (pv 2)) (ae_var (pv 3))) ar_nil))))) ar_nil))))
theorem b__law_open {P : Program} {w : World} {K : PySem.W.Frag} {mg : Str → Option Value} {base : Heap} {f : Addr} {cdv : Value} {A : Around} {outer : List Env} {s : Shared} {H : Hp} {EX : XK} {G : Gx} {E : AExc → AEnv → AH → Prop} (Z : Blt mg)  (hr : Room 0 (A.deeper (envOfC "_law_open" (defScope s__law_open) s.heap.objs.size f cdv))) (gk : G.K = K) (tk : Takes (bx P w K mg base N__law_open "_law_open" (defScope s__law_open) f cdv A outer s H EX) (cW G E)) :
    ASs (bx P w K mg base N__law_open "_law_open" (defScope s__law_open) f cdv A outer s H EX) G (defBody s__law_open) (t__law_open E) := by
  subst gk
  have gk : G.K = G.K := rfl
  have sc := c__law_open
  have hu := hr.units
  exact (ass_one (as_ret (ae_lst (aa_cons (av_of (ae_callTy call_list_of ca_lst rfl Z.n_list bo_list (ar_cons (ae_slice gk (ae_var (pv 0)) ao_none (ao_some ae_int)) ar_nil))) (aa_cons (av_of ae_int) (aa_cons (av_of ae_int) (aa_cons (av_of ae_int) (aa_cons (av_of ae_int) aa_nil))))))))
theorem b__law_take {P : Program} {w : World} {K : PySem.W.Frag} {mg : Str → Option Value} {base : Heap} {f : Addr} {cdv : Value} {A : Around} {outer : List Env} {s : Shared} {H : Hp} {EX : XK} {G : Gx} {E : AExc → AEnv → AH → Prop} (Z : Blt mg)  (hr : Room 0 (A.deeper (envOfC "_law_take" (defScope s__law_take) s.heap.objs.size f cdv))) (gk : G.K = K) (tk : Takes (bx P w K mg base N__law_take "_law_take" (defScope s__law_take) f cdv A outer s H EX) (cW G E)) :
    ASs (bx P w K mg base N__law_take "_law_take" (defScope s__law_take) f cdv A outer s H EX) G (defBody s__law_take) (t__law_take E) := by
  subst gk
  have gk : G.K = G.K := rfl
  have sc := c__law_take
  have hu := hr.units
  exact (ass_cons (as_if (AW.ap (aw_and (ap_lt (ae_ix gk (ae_var (pv 0)) ae_int (fun _ _ => rfl)) (ae_var (pv 1))) (aw_and1 (ap_lt (ae_ix gk (ae_var (pv 0)) ae_int (fun _ _ => rfl)) (ae_callB call_len ca_len rfl Z.n_len bo_len (ar_cons (ae_ix gk (ae_var (pv 0)) ae_int (fun _ _ => rfl)) ar_nil)))))) (ass_cons (as_set (i := 2) sc.nd rfl (by first | exact .inl rfl | exact .inr rfl) (ae_ix gk (ae_ix gk (ae_var (pv 0)) ae_int (fun _ _ => rfl)) (ae_ix gk (ae_var (pv 0)) ae_int (fun _ _ => rfl)) (fun _ _ => rfl)))
    (ass_cons (as_asg (av_of (ae_add gk (ae_ix gk (ae_var (pv 0)) ae_int (fun _ _ => rfl)) ae_int)) (ag_set (ae_var (pv 0)) ae_int (pg_sub (ae_var (pv 0)).pe ae_int.pe set_list)))
    (ass_cons (as_asg (av_of ae_int) (ag_set (ae_var (pv 0)) ae_int (pg_sub (ae_var (pv 0)).pe ae_int.pe set_list)))
    (ass_one (as_if (ap_ge (ae_var (pv 2)) (ae_pow ae_int ae_int)) (ass_one (as_asg (av_of (ae_var (pv 2))) (ag_set (ae_var (pv 0)) ae_int (pg_sub (ae_var (pv 0)).pe ae_int.pe set_list)))) (ass_one (as_asg (av_of (ae_mod (ae_add gk (ae_add gk (ae_mulI (ae_ix gk (ae_var (pv 0)) ae_int (fun _ _ => rfl)) ae_int) (ae_mulI (ae_mod (ae_var (pv 2)) ae_int) ae_int)) ae_int) ae_int)) (ag_set (ae_var (pv 0)) ae_int (pg_sub (ae_var (pv 0)).pe ae_int.pe set_list))))))))) ass_nil)
    (ass_cons (as_if (ap_ge (ae_ix gk (ae_var (pv 0)) ae_int (fun _ _ => rfl)) (ae_var (pv 1))) (ass_cons (as_set (i := 3) sc.nd rfl (by first | exact .inl rfl | exact .inr rfl) (ae_mod (ae_ix gk (ae_var (pv 0)) ae_int (fun _ _ => rfl)) (ae_var (pv 1))))
    (ass_cons (as_asg (av_of (ae_fdiv (ae_ix gk (ae_var (pv 0)) ae_int (fun _ _ => rfl)) (ae_var (pv 1)))) (ag_set (ae_var (pv 0)) ae_int (pg_sub (ae_var (pv 0)).pe ae_int.pe set_list)))
    (ass_one (as_ret (ae_var (pv 3)))))) ass_nil)
    (ass_cons (as_asg (av_of (ae_add gk (ae_ix gk (ae_var (pv 0)) ae_int (fun _ _ => rfl)) ae_int)) (ag_set (ae_var (pv 0)) ae_int (pg_sub (ae_var (pv 0)).pe ae_int.pe set_list)))
    (ass_cons (as_set (i := 4) sc.nd rfl (by first | exact .inl rfl | exact .inr rfl) (ae_ix gk (ae_var (pv 0)) ae_int (fun _ _ => rfl)))
    (ass_cons (as_asg (av_of (ae_mod (ae_add gk (ae_add gk (ae_add gk (ae_mulI (ae_mod (ae_mulI (ae_var (pv 4)) (ae_var (pv 4))) ae_int) ae_int) (ae_mulI (ae_var (pv 4)) ae_int)) (ae_mulI ae_int (ae_ix gk (ae_var (pv 0)) ae_int (fun _ _ => rfl)))) ae_int) ae_int)) (ag_set (ae_var (pv 0)) ae_int (pg_sub (ae_var (pv 0)).pe ae_int.pe set_list)))
    (ass_one (as_ret (ae_mod (ae_add gk (ae_fdiv (ae_ix gk (ae_var (pv 0)) ae_int (fun _ _ => rfl)) ae_int) (ae_mulI (ae_mod (ae_ix gk (ae_var (pv 0)) ae_int (fun _ _ => rfl)) ae_int) ae_int)) (ae_var (pv 1))))))))))
theorem b__law_pick {P : Program} {w : World} {K : PySem.W.Frag} {mg : Str → Option Value} {base : Heap} {f : Addr} {cdv : Value} {A : Around} {outer : List Env} {s : Shared} {H : Hp} {EX : XK} {G : Gx} {E : AExc → AEnv → AH → Prop} (Z : Blt mg) (O__law_take : Ok P w K mg base "_law_take" s__law_take 1 2 P__law_take sp__law_take) (hr : Room 1 (A.deeper (envOfC "_law_pick" (defScope s__law_pick) s.heap.objs.size f cdv))) (gk : G.K = K) (tk : Takes (bx P w K mg base N__law_pick "_law_pick" (defScope s__law_pick) f cdv A outer s H EX) (cW G E)) :
    ASs (bx P w K mg base N__law_pick "_law_pick" (defScope s__law_pick) f cdv A outer s H EX) G (defBody s__law_pick) (t__law_pick E) := by
  subst gk
  have gk : G.K = G.K := rfl
  have sc := c__law_pick
  have hu := hr.units
  exact (ass_one (as_ret (ae_ix gk (ae_var (pv 1)) (ae_callO gk O__law_take a__law_take hr (by decide) rfl tk (an_cons (av_of (ae_var (pv 0))) (an_cons (av_of (ae_callB call_len ca_len rfl Z.n_len bo_len (ar_cons (ae_var (pv 1)) ar_nil))) an_nil))) (fun _ _ => rfl))))
theorem b__law_same {P : Program} {w : World} {K : PySem.W.Frag} {mg : Str → Option Value} {base : Heap} {f : Addr} {cdv : Value} {A : Around} {outer : List Env} {s : Shared} {H : Hp} {EX : XK} {G : Gx} {E : AExc → AEnv → AH → Prop} {d j : Nat} (Z : Blt mg) (O__law_same : Ok P w K mg base "_law_same" s__law_same j 2 P__law_same (sp__law_same d)) (hr : Room (max j 0) (A.deeper (envOfC "_law_same" (defScope s__law_same) s.heap.objs.size f cdv))) (gk : G.K = K) (tk : Takes (bx P w K mg base N__law_same "_law_same" (defScope s__law_same) f cdv A outer s H EX) (cW G E)) :
    ASs (bx P w K mg base N__law_same "_law_same" (defScope s__law_same) f cdv A outer s H EX) G (defBody s__law_same) (t__law_same d E) := by
  subst gk
  have gk : G.K = G.K := rfl
  have sc := c__law_same
  have hu := hr.units
  exact (ass_cons (as_if (ap_isN (ae_var (pv 1)) ae_non) (ass_one (as_ret (ae_isN (ae_var (pv 0)) ae_non))) ass_nil)
    (ass_cons (as_if (ap_v (ae_callB call_isi ca_isi rfl Z.n_isinstance bo_isinstance (ar_cons (ae_var (pv 1)) (ar_cons (ae_ty rfl Z.n_bool bo_bool) ar_nil)))) (ass_one (as_ret (ae_and (ae_callB call_isi ca_isi rfl Z.n_isinstance bo_isinstance (ar_cons (ae_var (pv 0)) (ar_cons (ae_ty rfl Z.n_bool bo_bool) ar_nil))) (ae_and1 (ae_eq gk hu (ae_var (pv 0)) (ae_var (pv 1))))))) ass_nil)
    (ass_cons (as_if (ap_v (ae_callB call_isi ca_isi rfl Z.n_isinstance bo_isinstance (ar_cons (ae_var (pv 1)) (ar_cons (ae_ty rfl Z.n_int bo_int) ar_nil)))) (ass_one (as_ret (ae_and (ae_callB call_isi ca_isi rfl Z.n_isinstance bo_isinstance (ar_cons (ae_var (pv 0)) (ar_cons (ae_ty rfl Z.n_int bo_int) ar_nil))) (ae_and (ae_not (ae_callB call_isi ca_isi rfl Z.n_isinstance bo_isinstance (ar_cons (ae_var (pv 0)) (ar_cons (ae_ty rfl Z.n_bool bo_bool) ar_nil)))) (ae_and1 (ae_eq gk hu (ae_var (pv 0)) (ae_var (pv 1)))))))) ass_nil)
    (ass_cons (as_if (ap_v (ae_callB call_isi ca_isi rfl Z.n_isinstance bo_isinstance (ar_cons (ae_var (pv 1)) (ar_cons (ae_ty rfl Z.n_str bo_str) ar_nil)))) (ass_one (as_ret (ae_and (ae_callB call_isi ca_isi rfl Z.n_isinstance bo_isinstance (ar_cons (ae_var (pv 0)) (ar_cons (ae_ty rfl Z.n_str bo_str) ar_nil))) (ae_and1 (ae_eq gk hu (ae_var (pv 0)) (ae_var (pv 1))))))) ass_nil)
    (ass_cons (as_if (AW.ap (aw_or (ap_ne gk hu (ae_callB call_isi ca_isi rfl Z.n_isinstance bo_isinstance (ar_cons (ae_var (pv 1)) (ar_cons (ae_ty rfl Z.n_tuple bo_tuple) ar_nil))) (ae_callB call_isi ca_isi rfl Z.n_isinstance bo_isinstance (ar_cons (ae_var (pv 0)) (ar_cons (ae_ty rfl Z.n_tuple bo_tuple) ar_nil)))) (aw_or1 (ap_ne gk hu (ae_callB call_isi ca_isi rfl Z.n_isinstance bo_isinstance (ar_cons (ae_var (pv 1)) (ar_cons (ae_ty rfl Z.n_list bo_list) ar_nil))) (ae_callB call_isi ca_isi rfl Z.n_isinstance bo_isinstance (ar_cons (ae_var (pv 0)) (ar_cons (ae_ty rfl Z.n_list bo_list) ar_nil))))))) (ass_one (as_ret ae_bl)) ass_nil)
    (ass_cons (as_if (ap_ne gk hu (ae_callB call_len ca_len rfl Z.n_len bo_len (ar_cons (ae_var (pv 0)) ar_nil)) (ae_callB call_len ca_len rfl Z.n_len bo_len (ar_cons (ae_var (pv 1)) ar_nil))) (ass_one (as_ret ae_bl)) ass_nil)
    (ass_one (as_ret (ae_callB (cr_all rfl) ca_all rfl Z.n_all bo_all (ar_cons (ae_lcO (own := [("_law_at", 2)]) rfl sc.nd (ai_range1 rfl Z.n_range (ar_cons (ae_callB call_len ca_len rfl Z.n_len bo_len (ar_cons (ae_var (pv 1)) ar_nil)) ar_nil)) (blkOk_by (by first | (show blkC N__law_same (defScope s__law_same) _ _ = true; decide +kernel) | rfl)) (by decide) (fun _ _ _ _ _ => (ag_name (i := 2) sc.nd rfl (by first | exact .inl rfl | exact .inr rfl))) (fun _ _ _ _ _ => aps_nil) (fun _ _ _ _ _ => (av_of (ae_callO gk O__law_same a__law_same hr (by omega) rfl tk_none (an_cons (av_of (ae_ix gk (ae_var (pv 0)) (ae_var (pv 2)) (fun _ _ => rfl))) (an_cons (av_of (ae_ix gk (ae_var (pv 1)) (ae_var (pv 2)) (fun _ _ => rfl))) an_nil)))))) ar_nil))))))))))
theorem b__law_lesser {P : Program} {w : World} {K : PySem.W.Frag} {mg : Str → Option Value} {base : Heap} {f : Addr} {cdv : Value} {A : Around} {outer : List Env} {s : Shared} {H : Hp} {EX : XK} {G : Gx} {E : AExc → AEnv → AH → Prop} (Z : Blt mg)  (hr : Room 0 (A.deeper (envOfC "_law_lesser" (defScope s__law_lesser) s.heap.objs.size f cdv))) (gk : G.K = K) (tk : Takes (bx P w K mg base N__law_lesser "_law_lesser" (defScope s__law_lesser) f cdv A outer s H EX) (cW G E)) :
    ASs (bx P w K mg base N__law_lesser "_law_lesser" (defScope s__law_lesser) f cdv A outer s H EX) G (defBody s__law_lesser) (t__law_lesser E) := by
  subst gk
  have gk : G.K = G.K := rfl
  have sc := c__law_lesser
  have hu := hr.units
  exact (ass_one (as_ret (ae_callTy call_tuple_of ca_tup rfl Z.n_tuple bo_tuple (ar_cons (ae_lcO (own := [("_law_at", 2)]) rfl sc.nd (ai_range1 rfl Z.n_range (ar_cons (ae_callB call_len ca_len rfl Z.n_len bo_len (ar_cons (ae_var (pv 0)) ar_nil)) ar_nil)) (blkOk_by (by first | (show blkC N__law_lesser (defScope s__law_lesser) _ _ = true; decide +kernel) | rfl)) (by decide) (fun _ _ _ _ _ => (ag_name (i := 2) sc.nd rfl (by first | exact .inl rfl | exact .inr rfl))) (fun _ _ _ _ _ => aps_nil) (fun _ _ _ _ _ => (av_of (ae_callB (call_min2 rfl) (ca_2I (g := fun i j => if j < i then j else i)) rfl Z.n_min bo_min (ar_cons (ae_ix gk (ae_var (pv 0)) (ae_var (pv 2)) (fun _ _ => rfl)) (ar_cons (ae_ix gk (ae_var (pv 1)) (ae_var (pv 2)) (fun _ _ => rfl)) ar_nil)))))) ar_nil))))
theorem b__law_greater {P : Program} {w : World} {K : PySem.W.Frag} {mg : Str → Option Value} {base : Heap} {f : Addr} {cdv : Value} {A : Around} {outer : List Env} {s : Shared} {H : Hp} {EX : XK} {G : Gx} {E : AExc → AEnv → AH → Prop} (Z : Blt mg)  (hr : Room 0 (A.deeper (envOfC "_law_greater" (defScope s__law_greater) s.heap.objs.size f cdv))) (gk : G.K = K) (tk : Takes (bx P w K mg base N__law_greater "_law_greater" (defScope s__law_greater) f cdv A outer s H EX) (cW G E)) :
    ASs (bx P w K mg base N__law_greater "_law_greater" (defScope s__law_greater) f cdv A outer s H EX) G (defBody s__law_greater) (t__law_greater E) := by
  subst gk
  have gk : G.K = G.K := rfl
  have sc := c__law_greater
  have hu := hr.units
  exact (ass_one (as_ret (ae_callTy call_tuple_of ca_tup rfl Z.n_tuple bo_tuple (ar_cons (ae_lcO (own := [("_law_at", 2)]) rfl sc.nd (ai_range1 rfl Z.n_range (ar_cons (ae_callB call_len ca_len rfl Z.n_len bo_len (ar_cons (ae_var (pv 0)) ar_nil)) ar_nil)) (blkOk_by (by first | (show blkC N__law_greater (defScope s__law_greater) _ _ = true; decide +kernel) | rfl)) (by decide) (fun _ _ _ _ _ => (ag_name (i := 2) sc.nd rfl (by first | exact .inl rfl | exact .inr rfl))) (fun _ _ _ _ _ => aps_nil) (fun _ _ _ _ _ => (av_of (ae_callB (call_max2 rfl) (ca_2I (g := fun i j => if j > i then j else i)) rfl Z.n_max bo_max (ar_cons (ae_ix gk (ae_var (pv 0)) (ae_var (pv 2)) (fun _ _ => rfl)) (ar_cons (ae_ix gk (ae_var (pv 1)) (ae_var (pv 2)) (fun _ _ => rfl)) ar_nil)))))) ar_nil))))
theorem b__law_apart {P : Program} {w : World} {K : PySem.W.Frag} {mg : Str → Option Value} {base : Heap} {f : Addr} {cdv : Value} {A : Around} {outer : List Env} {s : Shared} {H : Hp} {EX : XK} {G : Gx} {E : AExc → AEnv → AH → Prop} (Z : Blt mg)  (hr : Room 0 (A.deeper (envOfC "_law_apart" (defScope s__law_apart) s.heap.objs.size f cdv))) (gk : G.K = K) (tk : Takes (bx P w K mg base N__law_apart "_law_apart" (defScope s__law_apart) f cdv A outer s H EX) (cW G E)) :
    ASs (bx P w K mg base N__law_apart "_law_apart" (defScope s__law_apart) f cdv A outer s H EX) G (defBody s__law_apart) (t__law_apart E) := by
  subst gk
  have gk : G.K = G.K := rfl
  have sc := c__law_apart
  have hu := hr.units
  exact (ass_one (as_ret (ae_callB (cr_sum rfl) ca_sum rfl Z.n_sum bo_sum (ar_cons (ae_lcO (own := [("_law_at", 2)]) rfl sc.nd (ai_range1 rfl Z.n_range (ar_cons (ae_callB call_len ca_len rfl Z.n_len bo_len (ar_cons (ae_var (pv 0)) ar_nil)) ar_nil)) (blkOk_by (by first | (show blkC N__law_apart (defScope s__law_apart) _ _ = true; decide +kernel) | rfl)) (by decide) (fun _ _ _ _ _ => (ag_name (i := 2) sc.nd rfl (by first | exact .inl rfl | exact .inr rfl))) (fun _ _ _ _ _ => aps_nil) (fun _ _ _ _ _ => (av_of (ae_callB call_abs (ca_1I (g := fun i => if i < 0 then -i else i)) rfl Z.n_abs bo_abs (ar_cons (ae_sub (ae_ix gk (ae_var (pv 0)) (ae_var (pv 2)) (fun _ _ => rfl)) (ae_ix gk (ae_var (pv 1)) (ae_var (pv 2)) (fun _ _ => rfl))) ar_nil))))) ar_nil))))
theorem b_law {P : Program} {w : World} {K : PySem.W.Frag} {mg : Str → Option Value} {base : Heap} {f : Addr} {cdv : Value} {A : Around} {outer : List Env} {s : Shared} {H : Hp} {EX : XK} {G : Gx} {E : AExc → AEnv → AH → Prop} (Z : Blt mg) (O__law_open : Ok P w K mg base "_law_open" s__law_open 1 1 P__law_open sp__law_open) (O__law_take : Ok P w K mg base "_law_take" s__law_take 1 2 P__law_take sp__law_take) (O__law_pick : Ok P w K mg base "_law_pick" s__law_pick 2 2 P__law_pick sp__law_pick) (O__law_greater : Ok P w K mg base "_law_greater" s__law_greater 1 2 P__law_greater sp__law_greater) (O__law_lesser : Ok P w K mg base "_law_lesser" s__law_lesser 1 2 P__law_lesser sp__law_lesser) (O__law_same : Ok P w K mg base "_law_same" s__law_same 5 2 P__law_same (sp__law_same 4)) (O_greater : Ok P w K mg base "greater" s_greater 1 2 P_greater sp_greater) (O_lesser : Ok P w K mg base "lesser" s_lesser 1 2 P_lesser sp_lesser) (O__law_apart : Ok P w K mg base "_law_apart" s__law_apart 1 2 P__law_apart sp__law_apart) (O_apart : Ok P w K mg base "apart" s_apart 1 2 P_apart sp_apart) (O_within : Ok P w K mg base "within" s_within 1 2 P_within sp_within) (hr : Room 5 (A.deeper (envOfC "law" (defScope s_law) s.heap.objs.size f cdv))) (gk : G.K = K) (tk : Takes (bx P w K mg base N_law "law" (defScope s_law) f cdv A outer s H EX) (cW G E)) :
    ASs (bx P w K mg base N_law "law" (defScope s_law) f cdv A outer s H EX) G (defBody s_law) (t_law E) := by
  subst gk
  have gk : G.K = G.K := rfl
  have sc := c_law
  have hu := hr.units
  exact (ass_cons (as_set (i := 1) sc.nd rfl (by first | exact .inl rfl | exact .inr rfl) (ae_callO gk O__law_open a__law_open hr (by decide) rfl tk (an_cons (av_of (ae_var (pv 0))) an_nil)))
    (ass_cons (as_prom 1 (as_for (passes_of rfl) rfl (ai_range1 rfl Z.n_range (ar_cons ae_int ar_nil)) (ag_name (i := 2) sc.nd rfl (by first | exact .inl rfl | exact .inr rfl)) (ass_cons (as_set (i := 3) sc.nd rfl (by first | exact .inl rfl | exact .inr rfl) (ae_callTy call_tuple_of ca_tup rfl Z.n_tuple bo_tuple (ar_cons (ae_lcO (own := [("_law_k", 4)]) rfl sc.nd (ai_range1 rfl Z.n_range (ar_cons (ae_add gk ae_int (ae_callO gk O__law_take a__law_take hr (by decide) rfl tk (an_cons (av_of (ae_var (pv 1))) (an_cons (av_of ae_int) an_nil)))) ar_nil)) (blkOk_by (by first | (show blkC N_law (defScope s_law) _ _ = true; decide +kernel) | rfl)) (by decide) (fun _ _ _ _ _ => (ag_name (i := 4) sc.nd rfl (by first | exact .inl rfl | exact .inr rfl))) (fun _ _ _ _ _ => aps_nil) (fun _ _ _ _ _ => (av_of (ae_callO gk O__law_take a__law_take hr (by decide) rfl tk_none (an_cons (av_of (ae_var (pv 1))) (an_cons (av_of ae_int) an_nil)))))) ar_nil)))
    (ass_cons (as_set (i := 3) sc.nd rfl (by first | exact .inl rfl | exact .inr rfl) (ae_add gk (ae_var (pv 3)) (ae_tup (aa_cons (av_of (ae_callO gk O__law_pick a__law_pick hr (by decide) rfl tk (an_cons (av_of (ae_var (pv 1))) (an_cons (av_of (ae_lst (aa_cons (av_of (ae_sub ae_int (ae_callO gk O__law_take a__law_take hr (by decide) rfl tk (an_cons (av_of (ae_var (pv 1))) (an_cons (av_of ae_int) an_nil))))) (aa_cons (av_of (ae_callO gk O__law_take a__law_take hr (by decide) rfl tk (an_cons (av_of (ae_var (pv 1))) (an_cons (av_of (ae_pow ae_int ae_int)) an_nil)))) aa_nil)))) an_nil)))) aa_nil))))
    (ass_cons (as_set (i := 5) sc.nd rfl (by first | exact .inl rfl | exact .inr rfl) (ae_callTy call_tuple_of ca_tup rfl Z.n_tuple bo_tuple (ar_cons (ae_lcO (own := [("_law_number", 6)]) rfl sc.nd (ai_seq gk (av_of (ae_var (pv 3)))) (blkOk_by (by first | (show blkC N_law (defScope s_law) _ _ = true; decide +kernel) | rfl)) (by decide) (fun _ _ _ _ _ => (ag_name (i := 6) sc.nd rfl (by first | exact .inl rfl | exact .inr rfl))) (fun _ _ _ _ _ => aps_nil) (fun _ _ _ _ _ => (av_of (ae_add gk (ae_var (pv 6)) (ae_callO gk O__law_pick a__law_pick hr (by decide) rfl tk_none (an_cons (av_of (ae_var (pv 1))) (an_cons (av_of (ae_lst (aa_cons (av_of ae_int) (aa_cons (av_of ae_int) (aa_cons (av_of ae_int) (aa_cons (av_of (ae_neg ae_int)) (aa_cons (av_of (ae_callO gk O__law_take a__law_take hr (by decide) rfl tk_none (an_cons (av_of (ae_var (pv 1))) (an_cons (av_of ae_int) an_nil)))) aa_nil))))))) an_nil))))))) ar_nil)))
    (ass_cons (as_par (i := 7) (j := 8) rfl sc.nd rfl rfl (by decide) rfl rfl (aa_cons (av_of (ae_callO gk O__law_lesser a__law_lesser hr (by decide) rfl tk (an_cons (av_of (ae_var (pv 3))) (an_cons (av_of (ae_var (pv 5))) an_nil)))) (aa_cons (av_of (ae_callO gk O__law_greater a__law_greater hr (by decide) rfl tk (an_cons (av_of (ae_var (pv 3))) (an_cons (av_of (ae_var (pv 5))) an_nil)))) aa_nil)) rfl)
    (ass_cons (as_if (ap_not (ap_v (ae_callO gk O__law_same a__law_same hr (by decide) rfl tk (an_cons (av_of (ae_lst (aa_cons (av_of (ae_callO gk O_lesser a_lesser hr (by decide) rfl tk (an_cons (av_of (ae_var (pv 3))) (an_cons (av_of (ae_var (pv 5))) an_nil)))) (aa_cons (av_of (ae_callO gk O_greater a_greater hr (by decide) rfl tk (an_cons (av_of (ae_var (pv 3))) (an_cons (av_of (ae_var (pv 5))) an_nil)))) aa_nil)))) (an_cons (av_of (ae_lst (aa_cons (av_of (ae_var (pv 7))) (aa_cons (av_of (ae_var (pv 8))) aa_nil)))) an_nil))))) (ass_one (as_ret ae_bl)) ass_nil)
    (ass_cons (as_if (ap_not (ap_v (ae_callO gk O__law_same a__law_same hr (by decide) rfl tk (an_cons (av_of (ae_lst (aa_cons (av_of (ae_callO gk O_lesser a_lesser hr (by decide) rfl tk (an_cons (av_of (ae_var (pv 5))) (an_cons (av_of (ae_var (pv 3))) an_nil)))) (aa_cons (av_of (ae_callKO gk O_greater (kw_greater_1_0) hr (by decide) rfl tk (ak_cons (av_of (ae_var (pv 5))) (ak_cons (av_of (ae_var (pv 3))) ak_nil)))) aa_nil)))) (an_cons (av_of (ae_lst (aa_cons (av_of (ae_var (pv 7))) (aa_cons (av_of (ae_var (pv 8))) aa_nil)))) an_nil))))) (ass_one (as_ret ae_bl)) ass_nil)
    (ass_cons (as_set (i := 9) sc.nd rfl (by first | exact .inl rfl | exact .inr rfl) (ae_callO gk O__law_apart a__law_apart hr (by decide) rfl tk (an_cons (av_of (ae_var (pv 3))) (an_cons (av_of (ae_var (pv 5))) an_nil))))
    (ass_cons (as_if (ap_not (ap_v (ae_callO gk O__law_same a__law_same hr (by decide) rfl tk (an_cons (av_of (ae_lst (aa_cons (av_of (ae_callO gk O_apart a_apart hr (by decide) rfl tk (an_cons (av_of (ae_var (pv 3))) (an_cons (av_of (ae_var (pv 5))) an_nil)))) (aa_cons (av_of (ae_callKO gk O_apart (kw_apart_1_0) hr (by decide) rfl tk (ak_cons (av_of (ae_var (pv 3))) (ak_cons (av_of (ae_var (pv 5))) ak_nil)))) (aa_cons (av_of (ae_callO gk O_apart a_apart hr (by decide) rfl tk (an_cons (av_of (ae_var (pv 3))) (an_cons (av_of (ae_var (pv 3))) an_nil)))) aa_nil))))) (an_cons (av_of (ae_lst (aa_cons (av_of (ae_var (pv 9))) (aa_cons (av_of (ae_var (pv 9))) (aa_cons (av_of ae_int) aa_nil))))) an_nil))))) (ass_one (as_ret ae_bl)) ass_nil)
    (ass_cons (as_set (i := 10) sc.nd rfl (by first | exact .inl rfl | exact .inr rfl) (ae_lst (aa_cons (av_of (ae_callO gk O_within a_within hr (by decide) rfl tk (an_cons (av_of (ae_var (pv 3))) (an_cons (av_of (ae_var (pv 5))) an_nil)))) (aa_cons (av_of (ae_callO gk O_within a_within hr (by decide) rfl tk (an_cons (av_of (ae_var (pv 5))) (an_cons (av_of (ae_var (pv 3))) an_nil)))) (aa_cons (av_of (ae_callO gk O_within a_within hr (by decide) rfl tk (an_cons (av_of (ae_var (pv 7))) (an_cons (av_of (ae_var (pv 3))) an_nil)))) aa_nil)))))
    (ass_cons (as_expr (ae_lm gk lm_append PySem.F.plainAttrs_list PySem.F.slot_list_append PySem.F.type_list_append mt_append (ae_var (pv 10)) (aa_cons (av_of (ae_callKO gk O_within (kw_within_0_1) hr (by decide) rfl tk (ak_cons (av_of (ae_var (pv 3))) (ak_cons (av_of (ae_var (pv 8))) ak_nil)))) aa_nil)))
    (ass_one (as_if (ap_not (ap_v (ae_callO gk O__law_same a__law_same hr (by decide) rfl tk (an_cons (av_of (ae_var (pv 10))) (an_cons (av_of (ae_lst (aa_cons (av_of (ae_eq gk hu (ae_var (pv 7)) (ae_var (pv 3)))) (aa_cons (av_of (ae_eq gk hu (ae_var (pv 7)) (ae_var (pv 5)))) (aa_cons (av_of ae_bl) (aa_cons (av_of ae_bl) aa_nil)))))) an_nil))))) (ass_one (as_ret ae_bl)) ass_nil))))))))))))))
    (ass_one (as_ret ae_bl))))
end Ab

namespace Ab
open PySem PySem.Spec PyProof.Rows L2 RZ
/-! ### the law's common helpers keep their promises -/
theorem q__law_take (ws : List W) (h : AH) (Qa : RR → AH → Prop) (Ea : AExc → AH → Prop) (_ : ws.length = 2) (z : sp__law_take ws h Qa Ea) : t__law_take (excOf Ea) (endsOf Qa) (startA 5 ws) h := by
  unfold sp__law_take at z
  split at z
  case h_2 => exact z.elim
  rename_i p s _
  obtain ⟨n, ⟨ns, i, b, m, c, hp, i0, i1, b0, m0, m1, c0, c1⟩, hn, s1, s2, q⟩ := z
  unfold t__law_take
  refine seq_post (fun e k => ∃ x, e = [some (.val (.ref p)), some (.val (.int s)), x, none, none] ∧ ∃ i' b' m' : Int, 0 ≤ i' ∧ i' ≤ ns.length ∧ 0 ≤ b' ∧ 0 ≤ m' ∧ m' < 2147483648 ∧ k p = some (.cont (.seq [.lst (ns.map .int), .int i', .int b', .int m', .int c])) ∧ Bt p h k) (fun N hN => ?_) ?_
  · simp (maxSteps := 2000000) only [↓startA, ↓aRet, ↓aRetN, ↓aNext, ↓aSeq, ↓aIf, ↓aDrop, ↓aSet, ↓aNs, ↓aAsg, ↓aPar, ↓aBrk, ↓aCnt, ↓aFor, ↓aCB, ↓aOp2, ↓aTst, ↓aAndT, ↓aOrT, ↓aNotT, ↓aIfE, ↓aAndV, ↓aOrV, ↓aNotV, ↓aNeg, ↓aChn, ↓rCons, ↓rNil, ↓aLc, ↓iZp, ↓iRg1, ↓iRg2, ↓iLst, ↓iTpl, ↓aCons, ↓aNil, ↓aFz, ↓aVar, ↓aC, ↓aTup, ↓aLst, ↓aSl, ↓aPart, ↓aNoPart, ↓aYes, ↓aCall, ↓aCallK, ↓gKw, ↓gKwG, ↓gNm, ↓gTp, ↓y_gsCons, ↓y_gsNil, ↓y_gSet, ↓ixK, ↓plc, ↓putE, ↓putH, ↓aLm, ↓isSeq, ↓fAppend, ↓view, ↓viewW, ↓viewS, ↓Vw.items, ↓Vw.seq, ↓Vw.tpl, ↓y_ix, ↓y_len, ↓y_tupC, ↓y_lstC, ↓y_isi, ↓Vw.tyName, ↓W.tyName, ↓oEq, ↓Vw.ok, ↓Vw.toW, ↓Vw.isNon, ↓oII, ↓oAdd, ↓o2I, ↓o1I, ↓oSl, ↓RV.sv, ↓Cont.fz, ↓wipeA, ↓mend, ↓keepV, ↓Option.bind_some, ↓Option.bind, List.isEmpty_nil, Bool.true_and, Nat.reduceBEq, List.getD_cons_zero, List.getD_cons_succ, dat_ints60, eqw_ints, ne_eq, reduceCtorEq, not_false_eq_true, isi_NoneType_bool, isi_NoneType_int, isi_NoneType_str, isi_NoneType_tuple, isi_NoneType_list, isi_bool_bool, isi_bool_int, isi_bool_str, isi_bool_tuple, isi_bool_list, isi_int_bool, isi_int_int, isi_int_str, isi_int_tuple, isi_int_list, isi_str_bool, isi_str_int, isi_str_str, isi_str_tuple, isi_str_list, isi_tuple_bool, isi_tuple_int, isi_tuple_str, isi_tuple_tuple, isi_tuple_list, isi_list_bool, isi_list_int, isi_list_str, isi_list_tuple, isi_list_list, eqw_self_int, eqw_self_bl, eqw_self_str, Bool.not_true, Bool.not_false, W.dat, List.map_cons, List.map_nil, List.length_cons, List.length_nil, List.replicate, List.cons_append, List.nil_append, List.getElem?_cons_zero, List.getElem?_cons_succ, List.set_cons_zero, List.set_cons_succ, Nat.reduceAdd, Nat.reduceSub, y_isN, at5_0, at5_1, at5_2, at5_3, at5_4, ix5_0, ix5_1, ix5_2, ix5_3, ix5_4, updA_same, updA_upd, true_and, and_true, decide_eq_true_eq, reduceIte, Bool.false_eq_true, Nat.zero_add, hp]
    refine ite2 (fun _ => ite2 (fun h2 => ?_) fun _ => ?_) fun _ => ?_
    · rw [List.length_map] at h2
      obtain ⟨v, _, ev⟩ := at_ints i0 h2
      simp (maxSteps := 2000000) only [↓startA, ↓aRet, ↓aRetN, ↓aNext, ↓aSeq, ↓aIf, ↓aDrop, ↓aSet, ↓aNs, ↓aAsg, ↓aPar, ↓aBrk, ↓aCnt, ↓aFor, ↓aCB, ↓aOp2, ↓aTst, ↓aAndT, ↓aOrT, ↓aNotT, ↓aIfE, ↓aAndV, ↓aOrV, ↓aNotV, ↓aNeg, ↓aChn, ↓rCons, ↓rNil, ↓aLc, ↓iZp, ↓iRg1, ↓iRg2, ↓iLst, ↓iTpl, ↓aCons, ↓aNil, ↓aFz, ↓aVar, ↓aC, ↓aTup, ↓aLst, ↓aSl, ↓aPart, ↓aNoPart, ↓aYes, ↓aCall, ↓aCallK, ↓gKw, ↓gKwG, ↓gNm, ↓gTp, ↓y_gsCons, ↓y_gsNil, ↓y_gSet, ↓ixK, ↓plc, ↓putE, ↓putH, ↓aLm, ↓isSeq, ↓fAppend, ↓view, ↓viewW, ↓viewS, ↓Vw.items, ↓Vw.seq, ↓Vw.tpl, ↓y_ix, ↓y_len, ↓y_tupC, ↓y_lstC, ↓y_isi, ↓Vw.tyName, ↓W.tyName, ↓oEq, ↓Vw.ok, ↓Vw.toW, ↓Vw.isNon, ↓oII, ↓oAdd, ↓o2I, ↓o1I, ↓oSl, ↓RV.sv, ↓Cont.fz, ↓wipeA, ↓mend, ↓keepV, ↓Option.bind_some, ↓Option.bind, List.isEmpty_nil, Bool.true_and, Nat.reduceBEq, List.getD_cons_zero, List.getD_cons_succ, dat_ints60, eqw_ints, ne_eq, reduceCtorEq, not_false_eq_true, isi_NoneType_bool, isi_NoneType_int, isi_NoneType_str, isi_NoneType_tuple, isi_NoneType_list, isi_bool_bool, isi_bool_int, isi_bool_str, isi_bool_tuple, isi_bool_list, isi_int_bool, isi_int_int, isi_int_str, isi_int_tuple, isi_int_list, isi_str_bool, isi_str_int, isi_str_str, isi_str_tuple, isi_str_list, isi_tuple_bool, isi_tuple_int, isi_tuple_str, isi_tuple_tuple, isi_tuple_list, isi_list_bool, isi_list_int, isi_list_str, isi_list_tuple, isi_list_list, eqw_self_int, eqw_self_bl, eqw_self_str, Bool.not_true, Bool.not_false, W.dat, List.map_cons, List.map_nil, List.length_cons, List.length_nil, List.replicate, List.cons_append, List.nil_append, List.getElem?_cons_zero, List.getElem?_cons_succ, List.set_cons_zero, List.set_cons_succ, Nat.reduceAdd, Nat.reduceSub, y_isN, at5_0, at5_1, at5_2, at5_3, at5_4, ix5_0, ix5_1, ix5_2, ix5_3, ix5_4, updA_same, updA_upd, true_and, and_true, decide_eq_true_eq, reduceIte, Bool.false_eq_true, Nat.zero_add, ev]
      refine ⟨⟨by decide, by decide, by decide⟩, ite2 (fun h3 => ?_) fun h3 => ⟨mul_ok m0 (by omega) (by decide) (by decide), (show (0 : Int) < 2147483629 by decide), ?_⟩⟩
      · have z : (0 : Int) ≤ 10 ^ Int.toNat 18 := by decide
        exact hN _ _ ⟨_, rfl, i + 1, v, m, by omega, by omega, by omega, m0, m1, updA_same, Bt.upd⟩
      · have a0 : 0 ≤ v % 2147483629 := Int.emod_nonneg _ (by decide)
        have a1 : v % 2147483629 < 2147483629 := Int.emod_lt_of_pos _ (by decide)
        refine ⟨mul_ok a0 (by omega) (by decide) (by decide), (show (0 : Int) < 2147483647 by decide), hN _ _ ⟨_, rfl, i + 1, 0, _, by omega, by omega, by omega, Int.emod_nonneg _ (by decide), ?_, updA_same, Bt.upd⟩⟩
        have := Int.emod_lt_of_pos (m * 48271 + v % 2147483629 * 69621 + 12345) (show (0 : Int) < 2147483647 by decide)
        omega
    · exact hN _ _ ⟨_, rfl, i, b, m, i0, i1, b0, m0, m1, hp, .refl⟩
    · exact hN _ _ ⟨_, rfl, i, b, m, i0, i1, b0, m0, m1, hp, .refl⟩
  · rintro e k ⟨x, rfl, i, b, m, i0, i1, b0, m0, m1, hp, bt⟩
    have cd : CDivW b s := wide_div (b := 200) (by omega) (by omega) (by decide) (by decide)
    refine seq_post (fun e k' => e = [some (.val (.ref p)), some (.val (.int s)), x, none, none] ∧ k' = k) (fun N hN => ?_) ?_
    · simp (maxSteps := 2000000) only [↓startA, ↓aRet, ↓aRetN, ↓aNext, ↓aSeq, ↓aIf, ↓aDrop, ↓aSet, ↓aNs, ↓aAsg, ↓aPar, ↓aBrk, ↓aCnt, ↓aFor, ↓aCB, ↓aOp2, ↓aTst, ↓aAndT, ↓aOrT, ↓aNotT, ↓aIfE, ↓aAndV, ↓aOrV, ↓aNotV, ↓aNeg, ↓aChn, ↓rCons, ↓rNil, ↓aLc, ↓iZp, ↓iRg1, ↓iRg2, ↓iLst, ↓iTpl, ↓aCons, ↓aNil, ↓aFz, ↓aVar, ↓aC, ↓aTup, ↓aLst, ↓aSl, ↓aPart, ↓aNoPart, ↓aYes, ↓aCall, ↓aCallK, ↓gKw, ↓gKwG, ↓gNm, ↓gTp, ↓y_gsCons, ↓y_gsNil, ↓y_gSet, ↓ixK, ↓plc, ↓putE, ↓putH, ↓aLm, ↓isSeq, ↓fAppend, ↓view, ↓viewW, ↓viewS, ↓Vw.items, ↓Vw.seq, ↓Vw.tpl, ↓y_ix, ↓y_len, ↓y_tupC, ↓y_lstC, ↓y_isi, ↓Vw.tyName, ↓W.tyName, ↓oEq, ↓Vw.ok, ↓Vw.toW, ↓Vw.isNon, ↓oII, ↓oAdd, ↓o2I, ↓o1I, ↓oSl, ↓RV.sv, ↓Cont.fz, ↓wipeA, ↓mend, ↓keepV, ↓Option.bind_some, ↓Option.bind, List.isEmpty_nil, Bool.true_and, Nat.reduceBEq, List.getD_cons_zero, List.getD_cons_succ, dat_ints60, eqw_ints, ne_eq, reduceCtorEq, not_false_eq_true, isi_NoneType_bool, isi_NoneType_int, isi_NoneType_str, isi_NoneType_tuple, isi_NoneType_list, isi_bool_bool, isi_bool_int, isi_bool_str, isi_bool_tuple, isi_bool_list, isi_int_bool, isi_int_int, isi_int_str, isi_int_tuple, isi_int_list, isi_str_bool, isi_str_int, isi_str_str, isi_str_tuple, isi_str_list, isi_tuple_bool, isi_tuple_int, isi_tuple_str, isi_tuple_tuple, isi_tuple_list, isi_list_bool, isi_list_int, isi_list_str, isi_list_tuple, isi_list_list, eqw_self_int, eqw_self_bl, eqw_self_str, Bool.not_true, Bool.not_false, W.dat, List.map_cons, List.map_nil, List.length_cons, List.length_nil, List.replicate, List.cons_append, List.nil_append, List.getElem?_cons_zero, List.getElem?_cons_succ, List.set_cons_zero, List.set_cons_succ, Nat.reduceAdd, Nat.reduceSub, y_isN, at5_0, at5_1, at5_2, at5_3, at5_4, ix5_0, ix5_1, ix5_2, ix5_3, ix5_4, updA_same, updA_upd, true_and, and_true, decide_eq_true_eq, reduceIte, Bool.false_eq_true, Nat.zero_add, hp]
      refine ite2 (fun h1 => ⟨(show (0 : Int) < s by omega), cd, _, fun _ _ e => e, q _ _ (Int.emod_nonneg _ (by omega)) (Int.emod_lt_of_pos _ (by omega)) ⟨ns, i, b / s, m, c, updA_same, i0, i1, Int.ediv_nonneg b0 (by omega), m0, m1, c0, by omega⟩ (bt.trans .upd)⟩) fun _ => hN _ _ ⟨rfl, rfl⟩
    · rintro e k' ⟨rfl, rfl⟩
      simp (maxSteps := 2000000) only [↓startA, ↓aRet, ↓aRetN, ↓aNext, ↓aSeq, ↓aIf, ↓aDrop, ↓aSet, ↓aNs, ↓aAsg, ↓aPar, ↓aBrk, ↓aCnt, ↓aFor, ↓aCB, ↓aOp2, ↓aTst, ↓aAndT, ↓aOrT, ↓aNotT, ↓aIfE, ↓aAndV, ↓aOrV, ↓aNotV, ↓aNeg, ↓aChn, ↓rCons, ↓rNil, ↓aLc, ↓iZp, ↓iRg1, ↓iRg2, ↓iLst, ↓iTpl, ↓aCons, ↓aNil, ↓aFz, ↓aVar, ↓aC, ↓aTup, ↓aLst, ↓aSl, ↓aPart, ↓aNoPart, ↓aYes, ↓aCall, ↓aCallK, ↓gKw, ↓gKwG, ↓gNm, ↓gTp, ↓y_gsCons, ↓y_gsNil, ↓y_gSet, ↓ixK, ↓plc, ↓putE, ↓putH, ↓aLm, ↓isSeq, ↓fAppend, ↓view, ↓viewW, ↓viewS, ↓Vw.items, ↓Vw.seq, ↓Vw.tpl, ↓y_ix, ↓y_len, ↓y_tupC, ↓y_lstC, ↓y_isi, ↓Vw.tyName, ↓W.tyName, ↓oEq, ↓Vw.ok, ↓Vw.toW, ↓Vw.isNon, ↓oII, ↓oAdd, ↓o2I, ↓o1I, ↓oSl, ↓RV.sv, ↓Cont.fz, ↓wipeA, ↓mend, ↓keepV, ↓Option.bind_some, ↓Option.bind, List.isEmpty_nil, Bool.true_and, Nat.reduceBEq, List.getD_cons_zero, List.getD_cons_succ, dat_ints60, eqw_ints, ne_eq, reduceCtorEq, not_false_eq_true, isi_NoneType_bool, isi_NoneType_int, isi_NoneType_str, isi_NoneType_tuple, isi_NoneType_list, isi_bool_bool, isi_bool_int, isi_bool_str, isi_bool_tuple, isi_bool_list, isi_int_bool, isi_int_int, isi_int_str, isi_int_tuple, isi_int_list, isi_str_bool, isi_str_int, isi_str_str, isi_str_tuple, isi_str_list, isi_tuple_bool, isi_tuple_int, isi_tuple_str, isi_tuple_tuple, isi_tuple_list, isi_list_bool, isi_list_int, isi_list_str, isi_list_tuple, isi_list_list, eqw_self_int, eqw_self_bl, eqw_self_str, Bool.not_true, Bool.not_false, W.dat, List.map_cons, List.map_nil, List.length_cons, List.length_nil, List.replicate, List.cons_append, List.nil_append, List.getElem?_cons_zero, List.getElem?_cons_succ, List.set_cons_zero, List.set_cons_succ, Nat.reduceAdd, Nat.reduceSub, y_isN, at5_0, at5_1, at5_2, at5_3, at5_4, ix5_0, ix5_1, ix5_2, ix5_3, ix5_4, updA_same, updA_upd, true_and, and_true, decide_eq_true_eq, reduceIte, Bool.false_eq_true, Nat.zero_add, hp]
      have e0 : 0 ≤ m * m % 2147483629 := Int.emod_nonneg _ (by decide)
      have e1 : m * m % 2147483629 < 2147483629 := Int.emod_lt_of_pos _ (by decide)
      generalize m * m % 2147483629 * 5 + m * 16811 + 7919 * (c + 1) + 2531011 = y
      have g0 : 0 ≤ y % 2147483647 := Int.emod_nonneg _ (by decide)
      have g1 : y % 2147483647 < 2147483647 := Int.emod_lt_of_pos _ (by decide)
      have h0 : 0 ≤ y % 2147483647 % 8191 := Int.emod_nonneg _ (by decide)
      have h1 : y % 2147483647 % 8191 < 8191 := Int.emod_lt_of_pos _ (by decide)
      refine ⟨mul_ok m0 (by omega) m0 (by omega), (show (0 : Int) < 2147483629 by decide), mul_ok e0 (by omega) (by decide) (by decide), mul_ok m0 (by omega) (by decide) (by decide), mul_ok (by decide) (by decide) (by omega) (by omega), (show (0 : Int) < 2147483647 by decide),
        wide_div (b := 10) (by decide) (by decide) (by decide) (by decide), (show (0 : Int) < 8191 by decide), mul_ok h0 (by omega) (by decide) (by decide), (show (0 : Int) < s by omega), ?_⟩
      exact ⟨_, fun _ _ e => e, q _ _ (Int.emod_nonneg _ (by omega)) (Int.emod_lt_of_pos _ (by omega)) ⟨ns, i, b, y % 2147483647, c + 1, updA_same, i0, i1, b0, g0, by omega, by omega, by omega⟩ (bt.trans .upd)⟩
theorem q__law_pick (ws : List W) (h : AH) (Qa : RR → AH → Prop) (Ea : AExc → AH → Prop) (_ : ws.length = 2) (z : sp__law_pick ws h Qa Ea) : t__law_pick (excOf Ea) (endsOf Qa) (startA 2 ws) h := by
  unfold sp__law_pick at z
  split at z
  case h_3 => exact z.elim
  all_goals
    obtain ⟨n, bag, hn, h0, h1, q⟩ := z
    rename_i p xs _
    have l0 : 0 < xs.length := List.length_pos_iff.mpr h0
    simp (maxSteps := 2000000) only [↓startA, ↓aRet, ↓aRetN, ↓aNext, ↓aSeq, ↓aIf, ↓aDrop, ↓aSet, ↓aNs, ↓aAsg, ↓aPar, ↓aBrk, ↓aCnt, ↓aFor, ↓aCB, ↓aOp2, ↓aTst, ↓aAndT, ↓aOrT, ↓aNotT, ↓aIfE, ↓aAndV, ↓aOrV, ↓aNotV, ↓aNeg, ↓aChn, ↓rCons, ↓rNil, ↓aLc, ↓iZp, ↓iRg1, ↓iRg2, ↓iLst, ↓iTpl, ↓aCons, ↓aNil, ↓aFz, ↓aVar, ↓aC, ↓aTup, ↓aLst, ↓aSl, ↓aPart, ↓aNoPart, ↓aYes, ↓aCall, ↓aCallK, ↓gKw, ↓gKwG, ↓gNm, ↓gTp, ↓y_gsCons, ↓y_gsNil, ↓y_gSet, ↓ixK, ↓plc, ↓putE, ↓putH, ↓aLm, ↓isSeq, ↓fAppend, ↓view, ↓viewW, ↓viewS, ↓Vw.items, ↓Vw.seq, ↓Vw.tpl, ↓y_ix, ↓y_len, ↓y_tupC, ↓y_lstC, ↓y_isi, ↓Vw.tyName, ↓W.tyName, ↓oEq, ↓Vw.ok, ↓Vw.toW, ↓Vw.isNon, ↓oII, ↓oAdd, ↓o2I, ↓o1I, ↓oSl, ↓RV.sv, ↓Cont.fz, ↓wipeA, ↓mend, ↓keepV, ↓Option.bind_some, ↓Option.bind, List.isEmpty_nil, Bool.true_and, Nat.reduceBEq, List.getD_cons_zero, List.getD_cons_succ, dat_ints60, eqw_ints, ne_eq, reduceCtorEq, not_false_eq_true, isi_NoneType_bool, isi_NoneType_int, isi_NoneType_str, isi_NoneType_tuple, isi_NoneType_list, isi_bool_bool, isi_bool_int, isi_bool_str, isi_bool_tuple, isi_bool_list, isi_int_bool, isi_int_int, isi_int_str, isi_int_tuple, isi_int_list, isi_str_bool, isi_str_int, isi_str_str, isi_str_tuple, isi_str_list, isi_tuple_bool, isi_tuple_int, isi_tuple_str, isi_tuple_tuple, isi_tuple_list, isi_list_bool, isi_list_int, isi_list_str, isi_list_tuple, isi_list_list, eqw_self_int, eqw_self_bl, eqw_self_str, Bool.not_true, Bool.not_false, W.dat, List.map_cons, List.map_nil, List.length_cons, List.length_nil, List.replicate, List.cons_append, List.nil_append, List.getElem?_cons_zero, List.getElem?_cons_succ, List.set_cons_zero, List.set_cons_succ, Nat.reduceAdd, Nat.reduceSub, y_isN, at5_0, at5_1, at5_2, at5_3, at5_4, ix5_0, ix5_1, ix5_2, ix5_3, ix5_4, updA_same, updA_upd, true_and, and_true, decide_eq_true_eq, reduceIte, Bool.false_eq_true, Nat.zero_add, t__law_pick, ↓sp__law_take]
    refine ⟨n, bag, hn, by omega, by omega, fun k h' k0 k1 b t => ?_⟩
    obtain ⟨w, hw, e⟩ := at_mem k0 k1
    simp (maxSteps := 2000000) only [↓startA, ↓aRet, ↓aRetN, ↓aNext, ↓aSeq, ↓aIf, ↓aDrop, ↓aSet, ↓aNs, ↓aAsg, ↓aPar, ↓aBrk, ↓aCnt, ↓aFor, ↓aCB, ↓aOp2, ↓aTst, ↓aAndT, ↓aOrT, ↓aNotT, ↓aIfE, ↓aAndV, ↓aOrV, ↓aNotV, ↓aNeg, ↓aChn, ↓rCons, ↓rNil, ↓aLc, ↓iZp, ↓iRg1, ↓iRg2, ↓iLst, ↓iTpl, ↓aCons, ↓aNil, ↓aFz, ↓aVar, ↓aC, ↓aTup, ↓aLst, ↓aSl, ↓aPart, ↓aNoPart, ↓aYes, ↓aCall, ↓aCallK, ↓gKw, ↓gKwG, ↓gNm, ↓gTp, ↓y_gsCons, ↓y_gsNil, ↓y_gSet, ↓ixK, ↓plc, ↓putE, ↓putH, ↓aLm, ↓isSeq, ↓fAppend, ↓view, ↓viewW, ↓viewS, ↓Vw.items, ↓Vw.seq, ↓Vw.tpl, ↓y_ix, ↓y_len, ↓y_tupC, ↓y_lstC, ↓y_isi, ↓Vw.tyName, ↓W.tyName, ↓oEq, ↓Vw.ok, ↓Vw.toW, ↓Vw.isNon, ↓oII, ↓oAdd, ↓o2I, ↓o1I, ↓oSl, ↓RV.sv, ↓Cont.fz, ↓wipeA, ↓mend, ↓keepV, ↓Option.bind_some, ↓Option.bind, List.isEmpty_nil, Bool.true_and, Nat.reduceBEq, List.getD_cons_zero, List.getD_cons_succ, dat_ints60, eqw_ints, ne_eq, reduceCtorEq, not_false_eq_true, isi_NoneType_bool, isi_NoneType_int, isi_NoneType_str, isi_NoneType_tuple, isi_NoneType_list, isi_bool_bool, isi_bool_int, isi_bool_str, isi_bool_tuple, isi_bool_list, isi_int_bool, isi_int_int, isi_int_str, isi_int_tuple, isi_int_list, isi_str_bool, isi_str_int, isi_str_str, isi_str_tuple, isi_str_list, isi_tuple_bool, isi_tuple_int, isi_tuple_str, isi_tuple_tuple, isi_tuple_list, isi_list_bool, isi_list_int, isi_list_str, isi_list_tuple, isi_list_list, eqw_self_int, eqw_self_bl, eqw_self_str, Bool.not_true, Bool.not_false, W.dat, List.map_cons, List.map_nil, List.length_cons, List.length_nil, List.replicate, List.cons_append, List.nil_append, List.getElem?_cons_zero, List.getElem?_cons_succ, List.set_cons_zero, List.set_cons_succ, Nat.reduceAdd, Nat.reduceSub, y_isN, at5_0, at5_1, at5_2, at5_3, at5_4, ix5_0, ix5_1, ix5_2, ix5_3, ix5_4, updA_same, updA_upd, true_and, and_true, decide_eq_true_eq, reduceIte, Bool.false_eq_true, Nat.zero_add, e]
    exact ⟨h', fun _ _ e => e, q _ _ hw b t⟩
theorem q__law_open (ws : List W) (h : AH) (Qa : RR → AH → Prop) (Ea : AExc → AH → Prop) (_ : ws.length = 1) (z : sp__law_open ws h Qa Ea) : t__law_open (excOf Ea) (endsOf Qa) (startA 1 ws) h := by
  unfold sp__law_open at z
  split at z
  case h_2 => exact z.elim
  obtain ⟨ns, rfl, hl, q⟩ := z
  simp (maxSteps := 2000000) only [↓startA, ↓aRet, ↓aRetN, ↓aNext, ↓aSeq, ↓aIf, ↓aDrop, ↓aSet, ↓aNs, ↓aAsg, ↓aPar, ↓aBrk, ↓aCnt, ↓aFor, ↓aCB, ↓aOp2, ↓aTst, ↓aAndT, ↓aOrT, ↓aNotT, ↓aIfE, ↓aAndV, ↓aOrV, ↓aNotV, ↓aNeg, ↓aChn, ↓rCons, ↓rNil, ↓aLc, ↓iZp, ↓iRg1, ↓iRg2, ↓iLst, ↓iTpl, ↓aCons, ↓aNil, ↓aFz, ↓aVar, ↓aC, ↓aTup, ↓aLst, ↓aSl, ↓aPart, ↓aNoPart, ↓aYes, ↓aCall, ↓aCallK, ↓gKw, ↓gKwG, ↓gNm, ↓gTp, ↓y_gsCons, ↓y_gsNil, ↓y_gSet, ↓ixK, ↓plc, ↓putE, ↓putH, ↓aLm, ↓isSeq, ↓fAppend, ↓view, ↓viewW, ↓viewS, ↓Vw.items, ↓Vw.seq, ↓Vw.tpl, ↓y_ix, ↓y_len, ↓y_tupC, ↓y_lstC, ↓y_isi, ↓Vw.tyName, ↓W.tyName, ↓oEq, ↓Vw.ok, ↓Vw.toW, ↓Vw.isNon, ↓oII, ↓oAdd, ↓o2I, ↓o1I, ↓oSl, ↓RV.sv, ↓Cont.fz, ↓wipeA, ↓mend, ↓keepV, ↓Option.bind_some, ↓Option.bind, List.isEmpty_nil, Bool.true_and, Nat.reduceBEq, List.getD_cons_zero, List.getD_cons_succ, dat_ints60, eqw_ints, ne_eq, reduceCtorEq, not_false_eq_true, isi_NoneType_bool, isi_NoneType_int, isi_NoneType_str, isi_NoneType_tuple, isi_NoneType_list, isi_bool_bool, isi_bool_int, isi_bool_str, isi_bool_tuple, isi_bool_list, isi_int_bool, isi_int_int, isi_int_str, isi_int_tuple, isi_int_list, isi_str_bool, isi_str_int, isi_str_str, isi_str_tuple, isi_str_list, isi_tuple_bool, isi_tuple_int, isi_tuple_str, isi_tuple_tuple, isi_tuple_list, isi_list_bool, isi_list_int, isi_list_str, isi_list_tuple, isi_list_list, eqw_self_int, eqw_self_bl, eqw_self_str, Bool.not_true, Bool.not_false, W.dat, List.map_cons, List.map_nil, List.length_cons, List.length_nil, List.replicate, List.cons_append, List.nil_append, List.getElem?_cons_zero, List.getElem?_cons_succ, List.set_cons_zero, List.set_cons_succ, Nat.reduceAdd, Nat.reduceSub, y_isN, at5_0, at5_1, at5_2, at5_3, at5_4, ix5_0, ix5_1, ix5_2, ix5_3, ix5_4, updA_same, updA_upd, true_and, and_true, decide_eq_true_eq, reduceIte, Bool.false_eq_true, Nat.zero_add, t__law_open]
  refine ⟨by decide, h, fun _ _ e => e, ?_⟩
  rw [show cutW (ns.map W.int) none (some 63) = (ns.map W.int).take 63 from cut_to (k := 63), List.take_of_length_le (by rw [List.length_map]; exact hl)]
  exact q
theorem m__law_take : SpMono sp__law_take := fun _ _ _ _ _ _ k _ z => by
  unfold sp__law_take at z ⊢
  split at z
  · obtain ⟨n, a, b, c, d, q⟩ := z
    exact ⟨n, a, b, c, d, fun i h' x y u v => k _ _ (q i h' x y u v)⟩
  · exact z
theorem m__law_pick : SpMono sp__law_pick := fun _ _ _ _ _ _ k _ z => by
  unfold sp__law_pick at z ⊢
  split at z
  · obtain ⟨n, a, b, c, d, q⟩ := z
    exact ⟨n, a, b, c, d, fun i h' x y u => k _ _ (q i h' x y u)⟩
  · obtain ⟨n, a, b, c, d, q⟩ := z
    exact ⟨n, a, b, c, d, fun i h' x y u => k _ _ (q i h' x y u)⟩
  · exact z
theorem m__law_open : SpMono sp__law_open := fun _ _ _ _ _ _ k _ z => by
  unfold sp__law_open at z ⊢
  split at z
  · obtain ⟨n, a, b, q⟩ := z
    exact ⟨n, a, b, k _ _ q⟩
  · exact z
theorem sameP_m {d : Nat} : SpMono (sameP d) := fun _ _ _ _ _ _ k _ z => by
  unfold sameP at z ⊢
  split at z
  · exact ⟨z.1, z.2.1, k _ _ z.2.2⟩
  · exact z
theorem m__law_same : ∀ d, SpMono (sp__law_same d)
  | 0 => fun _ _ _ _ _ _ _ _ z => z
  | _ + 1 => sameP_m
theorem q__law_same (d : Nat) (ws : List W) (h : AH) (Qa : RR → AH → Prop) (Ea : AExc → AH → Prop) (_ : ws.length = 2) (z : sp__law_same (d + 1) ws h Qa Ea) : t__law_same d (excOf Ea) (endsOf Qa) (startA 3 ws) h := by
  have z2 : sameP d ws h Qa Ea := z
  clear z
  unfold sameP at z2
  split at z2
  case h_2 => exact z2.elim
  rename_i a b _
  obtain ⟨e, da, q⟩ := z2
  subst e
  have fin : (endsOf Qa).rt (.val (.bl true)) [some (.val a), some (.val a), none] h := ⟨h, fun _ _ e => e, q⟩
  have lists : ∀ (xs : List W) (v : W), (∀ i w, atI xs i = some w → L2.atI xs i = some w) → W.fit d v = true → (v = .tup xs ∨ v = .lst xs) → -2 ^ 62 ≤ (xs.length : Int) ∧ (xs.length : Int) < 2 ^ 62 ∧
      lcLoop [2] (gNm 2) aYes (aFz (aCall E0 (sp__law_same d) (aCons (aFz (aOp2 oIx (aVar 0) (aVar 2))) (aCons (aFz (aOp2 oIx (aVar 1) (aVar 2))) aNil))))
        (fun acc e h => oBls (fun bs => bs.all id) [Vw.cv (Cont.seq acc)] fun r => (endsOf Qa).rt r e h) (rngW 0 (xs.length : Int).toNat) [] [some (SV.val v), some (SV.val v), none] h := fun xs v _ da hv => by
    obtain ⟨d', hd, hl, he⟩ : ∃ d', d = d' + 1 ∧ xs.length ≤ 100000 ∧ ∀ x ∈ xs, W.fit d' x = true := by
      cases d with
      | zero => rcases hv with rfl | rfl <;> simp [W.fit] at da
      | succ d' => rcases hv with rfl | rfl <;> (simp only [W.fit, Bool.and_eq_true, decide_eq_true_eq] at da; exact ⟨d', rfl, da.1, W.fitL_mem da.2⟩)
    subst hd
    refine ⟨by omega, by omega, lc_map (fun _ => .bl true) _ _ (by rw [rngW_len]; show 0 + _ ≤ 2 ^ 24; omega) (fun w hw R hR => ?_) (y_blsT (fun _ => true) ?_)⟩
    · obtain ⟨i, hi, rfl⟩ := rngW_mem hw
      have hi : i < xs.length := by omega
      have e : atI xs (i : Int) = some xs[i] := atI_nat (List.getElem?_eq_getElem hi)
      rcases hv with rfl | rfl
      all_goals
        simp (maxSteps := 2000000) only [↓startA, ↓aRet, ↓aRetN, ↓aNext, ↓aSeq, ↓aIf, ↓aDrop, ↓aSet, ↓aNs, ↓aAsg, ↓aPar, ↓aBrk, ↓aCnt, ↓aFor, ↓aCB, ↓aOp2, ↓aTst, ↓aAndT, ↓aOrT, ↓aNotT, ↓aIfE, ↓aAndV, ↓aOrV, ↓aNotV, ↓aNeg, ↓aChn, ↓rCons, ↓rNil, ↓aLc, ↓iZp, ↓iRg1, ↓iRg2, ↓iLst, ↓iTpl, ↓aCons, ↓aNil, ↓aFz, ↓aVar, ↓aC, ↓aTup, ↓aLst, ↓aSl, ↓aPart, ↓aNoPart, ↓aYes, ↓aCall, ↓aCallK, ↓gKw, ↓gKwG, ↓gNm, ↓gTp, ↓y_gsCons, ↓y_gsNil, ↓y_gSet, ↓ixK, ↓plc, ↓putE, ↓putH, ↓aLm, ↓isSeq, ↓fAppend, ↓view, ↓viewW, ↓viewS, ↓Vw.items, ↓Vw.seq, ↓Vw.tpl, ↓y_ix, ↓y_len, ↓y_tupC, ↓y_lstC, ↓y_isi, ↓Vw.tyName, ↓W.tyName, ↓oEq, ↓Vw.ok, ↓Vw.toW, ↓Vw.isNon, ↓oII, ↓oAdd, ↓o2I, ↓o1I, ↓oSl, ↓RV.sv, ↓Cont.fz, ↓wipeA, ↓mend, ↓keepV, ↓Option.bind_some, ↓Option.bind, List.isEmpty_nil, Bool.true_and, Nat.reduceBEq, List.getD_cons_zero, List.getD_cons_succ, dat_ints60, eqw_ints, ne_eq, reduceCtorEq, not_false_eq_true, isi_NoneType_bool, isi_NoneType_int, isi_NoneType_str, isi_NoneType_tuple, isi_NoneType_list, isi_bool_bool, isi_bool_int, isi_bool_str, isi_bool_tuple, isi_bool_list, isi_int_bool, isi_int_int, isi_int_str, isi_int_tuple, isi_int_list, isi_str_bool, isi_str_int, isi_str_str, isi_str_tuple, isi_str_list, isi_tuple_bool, isi_tuple_int, isi_tuple_str, isi_tuple_tuple, isi_tuple_list, isi_list_bool, isi_list_int, isi_list_str, isi_list_tuple, isi_list_list, eqw_self_int, eqw_self_bl, eqw_self_str, Bool.not_true, Bool.not_false, W.dat, List.map_cons, List.map_nil, List.length_cons, List.length_nil, List.replicate, List.cons_append, List.nil_append, List.getElem?_cons_zero, List.getElem?_cons_succ, List.set_cons_zero, List.set_cons_succ, Nat.reduceAdd, Nat.reduceSub, y_isN, at5_0, at5_1, at5_2, at5_3, at5_4, ix5_0, ix5_1, ix5_2, ix5_3, ix5_4, updA_same, updA_upd, true_and, and_true, decide_eq_true_eq, reduceIte, Bool.false_eq_true, Nat.zero_add, e]
        exact ⟨rfl, he _ (List.getElem_mem hi), hR⟩
    · have z : ((rngW 0 (xs.length : Int).toNat).map fun _ => true).all id = true := by simp
      rw [z]
      exact ⟨h, fun _ _ e => e, q⟩
  cases a with
  | non =>
    simp (maxSteps := 2000000) only [↓startA, ↓aRet, ↓aRetN, ↓aNext, ↓aSeq, ↓aIf, ↓aDrop, ↓aSet, ↓aNs, ↓aAsg, ↓aPar, ↓aBrk, ↓aCnt, ↓aFor, ↓aCB, ↓aOp2, ↓aTst, ↓aAndT, ↓aOrT, ↓aNotT, ↓aIfE, ↓aAndV, ↓aOrV, ↓aNotV, ↓aNeg, ↓aChn, ↓rCons, ↓rNil, ↓aLc, ↓iZp, ↓iRg1, ↓iRg2, ↓iLst, ↓iTpl, ↓aCons, ↓aNil, ↓aFz, ↓aVar, ↓aC, ↓aTup, ↓aLst, ↓aSl, ↓aPart, ↓aNoPart, ↓aYes, ↓aCall, ↓aCallK, ↓gKw, ↓gKwG, ↓gNm, ↓gTp, ↓y_gsCons, ↓y_gsNil, ↓y_gSet, ↓ixK, ↓plc, ↓putE, ↓putH, ↓aLm, ↓isSeq, ↓fAppend, ↓view, ↓viewW, ↓viewS, ↓Vw.items, ↓Vw.seq, ↓Vw.tpl, ↓y_ix, ↓y_len, ↓y_tupC, ↓y_lstC, ↓y_isi, ↓Vw.tyName, ↓W.tyName, ↓oEq, ↓Vw.ok, ↓Vw.toW, ↓Vw.isNon, ↓oII, ↓oAdd, ↓o2I, ↓o1I, ↓oSl, ↓RV.sv, ↓Cont.fz, ↓wipeA, ↓mend, ↓keepV, ↓Option.bind_some, ↓Option.bind, List.isEmpty_nil, Bool.true_and, Nat.reduceBEq, List.getD_cons_zero, List.getD_cons_succ, dat_ints60, eqw_ints, ne_eq, reduceCtorEq, not_false_eq_true, isi_NoneType_bool, isi_NoneType_int, isi_NoneType_str, isi_NoneType_tuple, isi_NoneType_list, isi_bool_bool, isi_bool_int, isi_bool_str, isi_bool_tuple, isi_bool_list, isi_int_bool, isi_int_int, isi_int_str, isi_int_tuple, isi_int_list, isi_str_bool, isi_str_int, isi_str_str, isi_str_tuple, isi_str_list, isi_tuple_bool, isi_tuple_int, isi_tuple_str, isi_tuple_tuple, isi_tuple_list, isi_list_bool, isi_list_int, isi_list_str, isi_list_tuple, isi_list_list, eqw_self_int, eqw_self_bl, eqw_self_str, Bool.not_true, Bool.not_false, W.dat, List.map_cons, List.map_nil, List.length_cons, List.length_nil, List.replicate, List.cons_append, List.nil_append, List.getElem?_cons_zero, List.getElem?_cons_succ, List.set_cons_zero, List.set_cons_succ, Nat.reduceAdd, Nat.reduceSub, y_isN, at5_0, at5_1, at5_2, at5_3, at5_4, ix5_0, ix5_1, ix5_2, ix5_3, ix5_4, updA_same, updA_upd, true_and, and_true, decide_eq_true_eq, reduceIte, Bool.false_eq_true, Nat.zero_add, t__law_same]
    exact fin
  | bl b =>
    simp (maxSteps := 2000000) only [↓startA, ↓aRet, ↓aRetN, ↓aNext, ↓aSeq, ↓aIf, ↓aDrop, ↓aSet, ↓aNs, ↓aAsg, ↓aPar, ↓aBrk, ↓aCnt, ↓aFor, ↓aCB, ↓aOp2, ↓aTst, ↓aAndT, ↓aOrT, ↓aNotT, ↓aIfE, ↓aAndV, ↓aOrV, ↓aNotV, ↓aNeg, ↓aChn, ↓rCons, ↓rNil, ↓aLc, ↓iZp, ↓iRg1, ↓iRg2, ↓iLst, ↓iTpl, ↓aCons, ↓aNil, ↓aFz, ↓aVar, ↓aC, ↓aTup, ↓aLst, ↓aSl, ↓aPart, ↓aNoPart, ↓aYes, ↓aCall, ↓aCallK, ↓gKw, ↓gKwG, ↓gNm, ↓gTp, ↓y_gsCons, ↓y_gsNil, ↓y_gSet, ↓ixK, ↓plc, ↓putE, ↓putH, ↓aLm, ↓isSeq, ↓fAppend, ↓view, ↓viewW, ↓viewS, ↓Vw.items, ↓Vw.seq, ↓Vw.tpl, ↓y_ix, ↓y_len, ↓y_tupC, ↓y_lstC, ↓y_isi, ↓Vw.tyName, ↓W.tyName, ↓oEq, ↓Vw.ok, ↓Vw.toW, ↓Vw.isNon, ↓oII, ↓oAdd, ↓o2I, ↓o1I, ↓oSl, ↓RV.sv, ↓Cont.fz, ↓wipeA, ↓mend, ↓keepV, ↓Option.bind_some, ↓Option.bind, List.isEmpty_nil, Bool.true_and, Nat.reduceBEq, List.getD_cons_zero, List.getD_cons_succ, dat_ints60, eqw_ints, ne_eq, reduceCtorEq, not_false_eq_true, isi_NoneType_bool, isi_NoneType_int, isi_NoneType_str, isi_NoneType_tuple, isi_NoneType_list, isi_bool_bool, isi_bool_int, isi_bool_str, isi_bool_tuple, isi_bool_list, isi_int_bool, isi_int_int, isi_int_str, isi_int_tuple, isi_int_list, isi_str_bool, isi_str_int, isi_str_str, isi_str_tuple, isi_str_list, isi_tuple_bool, isi_tuple_int, isi_tuple_str, isi_tuple_tuple, isi_tuple_list, isi_list_bool, isi_list_int, isi_list_str, isi_list_tuple, isi_list_list, eqw_self_int, eqw_self_bl, eqw_self_str, Bool.not_true, Bool.not_false, W.dat, List.map_cons, List.map_nil, List.length_cons, List.length_nil, List.replicate, List.cons_append, List.nil_append, List.getElem?_cons_zero, List.getElem?_cons_succ, List.set_cons_zero, List.set_cons_succ, Nat.reduceAdd, Nat.reduceSub, y_isN, at5_0, at5_1, at5_2, at5_3, at5_4, ix5_0, ix5_1, ix5_2, ix5_3, ix5_4, updA_same, updA_upd, true_and, and_true, decide_eq_true_eq, reduceIte, Bool.false_eq_true, Nat.zero_add, t__law_same]
    exact fin
  | int i =>
    simp (maxSteps := 2000000) only [↓startA, ↓aRet, ↓aRetN, ↓aNext, ↓aSeq, ↓aIf, ↓aDrop, ↓aSet, ↓aNs, ↓aAsg, ↓aPar, ↓aBrk, ↓aCnt, ↓aFor, ↓aCB, ↓aOp2, ↓aTst, ↓aAndT, ↓aOrT, ↓aNotT, ↓aIfE, ↓aAndV, ↓aOrV, ↓aNotV, ↓aNeg, ↓aChn, ↓rCons, ↓rNil, ↓aLc, ↓iZp, ↓iRg1, ↓iRg2, ↓iLst, ↓iTpl, ↓aCons, ↓aNil, ↓aFz, ↓aVar, ↓aC, ↓aTup, ↓aLst, ↓aSl, ↓aPart, ↓aNoPart, ↓aYes, ↓aCall, ↓aCallK, ↓gKw, ↓gKwG, ↓gNm, ↓gTp, ↓y_gsCons, ↓y_gsNil, ↓y_gSet, ↓ixK, ↓plc, ↓putE, ↓putH, ↓aLm, ↓isSeq, ↓fAppend, ↓view, ↓viewW, ↓viewS, ↓Vw.items, ↓Vw.seq, ↓Vw.tpl, ↓y_ix, ↓y_len, ↓y_tupC, ↓y_lstC, ↓y_isi, ↓Vw.tyName, ↓W.tyName, ↓oEq, ↓Vw.ok, ↓Vw.toW, ↓Vw.isNon, ↓oII, ↓oAdd, ↓o2I, ↓o1I, ↓oSl, ↓RV.sv, ↓Cont.fz, ↓wipeA, ↓mend, ↓keepV, ↓Option.bind_some, ↓Option.bind, List.isEmpty_nil, Bool.true_and, Nat.reduceBEq, List.getD_cons_zero, List.getD_cons_succ, dat_ints60, eqw_ints, ne_eq, reduceCtorEq, not_false_eq_true, isi_NoneType_bool, isi_NoneType_int, isi_NoneType_str, isi_NoneType_tuple, isi_NoneType_list, isi_bool_bool, isi_bool_int, isi_bool_str, isi_bool_tuple, isi_bool_list, isi_int_bool, isi_int_int, isi_int_str, isi_int_tuple, isi_int_list, isi_str_bool, isi_str_int, isi_str_str, isi_str_tuple, isi_str_list, isi_tuple_bool, isi_tuple_int, isi_tuple_str, isi_tuple_tuple, isi_tuple_list, isi_list_bool, isi_list_int, isi_list_str, isi_list_tuple, isi_list_list, eqw_self_int, eqw_self_bl, eqw_self_str, Bool.not_true, Bool.not_false, W.dat, List.map_cons, List.map_nil, List.length_cons, List.length_nil, List.replicate, List.cons_append, List.nil_append, List.getElem?_cons_zero, List.getElem?_cons_succ, List.set_cons_zero, List.set_cons_succ, Nat.reduceAdd, Nat.reduceSub, y_isN, at5_0, at5_1, at5_2, at5_3, at5_4, ix5_0, ix5_1, ix5_2, ix5_3, ix5_4, updA_same, updA_upd, true_and, and_true, decide_eq_true_eq, reduceIte, Bool.false_eq_true, Nat.zero_add, t__law_same]
    exact fin
  | str x =>
    simp (maxSteps := 2000000) only [↓startA, ↓aRet, ↓aRetN, ↓aNext, ↓aSeq, ↓aIf, ↓aDrop, ↓aSet, ↓aNs, ↓aAsg, ↓aPar, ↓aBrk, ↓aCnt, ↓aFor, ↓aCB, ↓aOp2, ↓aTst, ↓aAndT, ↓aOrT, ↓aNotT, ↓aIfE, ↓aAndV, ↓aOrV, ↓aNotV, ↓aNeg, ↓aChn, ↓rCons, ↓rNil, ↓aLc, ↓iZp, ↓iRg1, ↓iRg2, ↓iLst, ↓iTpl, ↓aCons, ↓aNil, ↓aFz, ↓aVar, ↓aC, ↓aTup, ↓aLst, ↓aSl, ↓aPart, ↓aNoPart, ↓aYes, ↓aCall, ↓aCallK, ↓gKw, ↓gKwG, ↓gNm, ↓gTp, ↓y_gsCons, ↓y_gsNil, ↓y_gSet, ↓ixK, ↓plc, ↓putE, ↓putH, ↓aLm, ↓isSeq, ↓fAppend, ↓view, ↓viewW, ↓viewS, ↓Vw.items, ↓Vw.seq, ↓Vw.tpl, ↓y_ix, ↓y_len, ↓y_tupC, ↓y_lstC, ↓y_isi, ↓Vw.tyName, ↓W.tyName, ↓oEq, ↓Vw.ok, ↓Vw.toW, ↓Vw.isNon, ↓oII, ↓oAdd, ↓o2I, ↓o1I, ↓oSl, ↓RV.sv, ↓Cont.fz, ↓wipeA, ↓mend, ↓keepV, ↓Option.bind_some, ↓Option.bind, List.isEmpty_nil, Bool.true_and, Nat.reduceBEq, List.getD_cons_zero, List.getD_cons_succ, dat_ints60, eqw_ints, ne_eq, reduceCtorEq, not_false_eq_true, isi_NoneType_bool, isi_NoneType_int, isi_NoneType_str, isi_NoneType_tuple, isi_NoneType_list, isi_bool_bool, isi_bool_int, isi_bool_str, isi_bool_tuple, isi_bool_list, isi_int_bool, isi_int_int, isi_int_str, isi_int_tuple, isi_int_list, isi_str_bool, isi_str_int, isi_str_str, isi_str_tuple, isi_str_list, isi_tuple_bool, isi_tuple_int, isi_tuple_str, isi_tuple_tuple, isi_tuple_list, isi_list_bool, isi_list_int, isi_list_str, isi_list_tuple, isi_list_list, eqw_self_int, eqw_self_bl, eqw_self_str, Bool.not_true, Bool.not_false, W.dat, List.map_cons, List.map_nil, List.length_cons, List.length_nil, List.replicate, List.cons_append, List.nil_append, List.getElem?_cons_zero, List.getElem?_cons_succ, List.set_cons_zero, List.set_cons_succ, Nat.reduceAdd, Nat.reduceSub, y_isN, at5_0, at5_1, at5_2, at5_3, at5_4, ix5_0, ix5_1, ix5_2, ix5_3, ix5_4, updA_same, updA_upd, true_and, and_true, decide_eq_true_eq, reduceIte, Bool.false_eq_true, Nat.zero_add, t__law_same]
    exact fin
  | tup xs =>
    simp (maxSteps := 2000000) only [↓startA, ↓aRet, ↓aRetN, ↓aNext, ↓aSeq, ↓aIf, ↓aDrop, ↓aSet, ↓aNs, ↓aAsg, ↓aPar, ↓aBrk, ↓aCnt, ↓aFor, ↓aCB, ↓aOp2, ↓aTst, ↓aAndT, ↓aOrT, ↓aNotT, ↓aIfE, ↓aAndV, ↓aOrV, ↓aNotV, ↓aNeg, ↓aChn, ↓rCons, ↓rNil, ↓aLc, ↓iZp, ↓iRg1, ↓iRg2, ↓iLst, ↓iTpl, ↓aCons, ↓aNil, ↓aFz, ↓aVar, ↓aC, ↓aTup, ↓aLst, ↓aSl, ↓aPart, ↓aNoPart, ↓aYes, ↓aCall, ↓aCallK, ↓gKw, ↓gKwG, ↓gNm, ↓gTp, ↓y_gsCons, ↓y_gsNil, ↓y_gSet, ↓ixK, ↓plc, ↓putE, ↓putH, ↓aLm, ↓isSeq, ↓fAppend, ↓view, ↓viewW, ↓viewS, ↓Vw.items, ↓Vw.seq, ↓Vw.tpl, ↓y_ix, ↓y_len, ↓y_tupC, ↓y_lstC, ↓y_isi, ↓Vw.tyName, ↓W.tyName, ↓oEq, ↓Vw.ok, ↓Vw.toW, ↓Vw.isNon, ↓oII, ↓oAdd, ↓o2I, ↓o1I, ↓oSl, ↓RV.sv, ↓Cont.fz, ↓wipeA, ↓mend, ↓keepV, ↓Option.bind_some, ↓Option.bind, List.isEmpty_nil, Bool.true_and, Nat.reduceBEq, List.getD_cons_zero, List.getD_cons_succ, dat_ints60, eqw_ints, ne_eq, reduceCtorEq, not_false_eq_true, isi_NoneType_bool, isi_NoneType_int, isi_NoneType_str, isi_NoneType_tuple, isi_NoneType_list, isi_bool_bool, isi_bool_int, isi_bool_str, isi_bool_tuple, isi_bool_list, isi_int_bool, isi_int_int, isi_int_str, isi_int_tuple, isi_int_list, isi_str_bool, isi_str_int, isi_str_str, isi_str_tuple, isi_str_list, isi_tuple_bool, isi_tuple_int, isi_tuple_str, isi_tuple_tuple, isi_tuple_list, isi_list_bool, isi_list_int, isi_list_str, isi_list_tuple, isi_list_list, eqw_self_int, eqw_self_bl, eqw_self_str, Bool.not_true, Bool.not_false, W.dat, List.map_cons, List.map_nil, List.length_cons, List.length_nil, List.replicate, List.cons_append, List.nil_append, List.getElem?_cons_zero, List.getElem?_cons_succ, List.set_cons_zero, List.set_cons_succ, Nat.reduceAdd, Nat.reduceSub, y_isN, at5_0, at5_1, at5_2, at5_3, at5_4, ix5_0, ix5_1, ix5_2, ix5_3, ix5_4, updA_same, updA_upd, true_and, and_true, decide_eq_true_eq, reduceIte, Bool.false_eq_true, Nat.zero_add, t__law_same]
    exact lists xs _ (fun _ _ e => e) da (.inl rfl)
  | lst xs =>
    simp (maxSteps := 2000000) only [↓startA, ↓aRet, ↓aRetN, ↓aNext, ↓aSeq, ↓aIf, ↓aDrop, ↓aSet, ↓aNs, ↓aAsg, ↓aPar, ↓aBrk, ↓aCnt, ↓aFor, ↓aCB, ↓aOp2, ↓aTst, ↓aAndT, ↓aOrT, ↓aNotT, ↓aIfE, ↓aAndV, ↓aOrV, ↓aNotV, ↓aNeg, ↓aChn, ↓rCons, ↓rNil, ↓aLc, ↓iZp, ↓iRg1, ↓iRg2, ↓iLst, ↓iTpl, ↓aCons, ↓aNil, ↓aFz, ↓aVar, ↓aC, ↓aTup, ↓aLst, ↓aSl, ↓aPart, ↓aNoPart, ↓aYes, ↓aCall, ↓aCallK, ↓gKw, ↓gKwG, ↓gNm, ↓gTp, ↓y_gsCons, ↓y_gsNil, ↓y_gSet, ↓ixK, ↓plc, ↓putE, ↓putH, ↓aLm, ↓isSeq, ↓fAppend, ↓view, ↓viewW, ↓viewS, ↓Vw.items, ↓Vw.seq, ↓Vw.tpl, ↓y_ix, ↓y_len, ↓y_tupC, ↓y_lstC, ↓y_isi, ↓Vw.tyName, ↓W.tyName, ↓oEq, ↓Vw.ok, ↓Vw.toW, ↓Vw.isNon, ↓oII, ↓oAdd, ↓o2I, ↓o1I, ↓oSl, ↓RV.sv, ↓Cont.fz, ↓wipeA, ↓mend, ↓keepV, ↓Option.bind_some, ↓Option.bind, List.isEmpty_nil, Bool.true_and, Nat.reduceBEq, List.getD_cons_zero, List.getD_cons_succ, dat_ints60, eqw_ints, ne_eq, reduceCtorEq, not_false_eq_true, isi_NoneType_bool, isi_NoneType_int, isi_NoneType_str, isi_NoneType_tuple, isi_NoneType_list, isi_bool_bool, isi_bool_int, isi_bool_str, isi_bool_tuple, isi_bool_list, isi_int_bool, isi_int_int, isi_int_str, isi_int_tuple, isi_int_list, isi_str_bool, isi_str_int, isi_str_str, isi_str_tuple, isi_str_list, isi_tuple_bool, isi_tuple_int, isi_tuple_str, isi_tuple_tuple, isi_tuple_list, isi_list_bool, isi_list_int, isi_list_str, isi_list_tuple, isi_list_list, eqw_self_int, eqw_self_bl, eqw_self_str, Bool.not_true, Bool.not_false, W.dat, List.map_cons, List.map_nil, List.length_cons, List.length_nil, List.replicate, List.cons_append, List.nil_append, List.getElem?_cons_zero, List.getElem?_cons_succ, List.set_cons_zero, List.set_cons_succ, Nat.reduceAdd, Nat.reduceSub, y_isN, at5_0, at5_1, at5_2, at5_3, at5_4, ix5_0, ix5_1, ix5_2, ix5_3, ix5_4, updA_same, updA_upd, true_and, and_true, decide_eq_true_eq, reduceIte, Bool.false_eq_true, Nat.zero_add, t__law_same]
    exact lists xs _ (fun _ _ e => e) da (.inr rfl)
  | dct ks vs => simp [W.fit] at da
  | ref a => simp [W.fit] at da
  | ty n => simp [W.fit] at da
section
variable {p : Addr} {s : Int} {n : Nat} {h : AH}
theorem Bag.le {m : Nat} (b : Bag n h p) (l : n ≤ m) : Bag m h p := let ⟨ns, i, x, y, c, a1, a2, a3, a4, a5, a6, a7, a8⟩ := b; ⟨ns, i, x, y, c, a1, a2, a3, a4, a5, a6, a7, by omega⟩
theorem bag_new {ns : List Int} : Bag 0 (updA h p (.cont (.seq [.lst (ns.map .int), .int 0, .int 0, .int 9465, .int 0]))) p := ⟨ns, 0, 0, 9465, 0, updA_same, by omega, by omega, by omega, by omega, by omega, by omega, by omega⟩
end
theorem fit_ints {d : Nat} {as : List Int} (h : as.length ≤ 100000) : (W.tup (as.map .int)).fit (d + 1) = true := by
  simp only [W.fit, Bool.and_eq_true, decide_eq_true_eq, List.length_map]
  refine ⟨h, W.fitL_of fun x hx => ?_⟩
  obtain ⟨i, _, rfl⟩ := List.mem_map.mp hx
  cases d <;> rfl
/-! ### rows beside one another -/
def pairF (g : Int → Int → W) : W → W
  | .tup [.int a, .int b] => g a b
  | _ => .non
theorem zip_pairs (g : Int → Int → W) : ∀ as bs : List Int, (List.zipWith (fun a b => W.tup [a, b]) (as.map W.int) (bs.map W.int)).map (pairF g) = List.zipWith g as bs
  | [], _ => rfl
  | _ :: _, [] => rfl
  | a :: as, b :: bs => by
    show g a b :: _ = g a b :: _
    rw [zip_pairs g as bs]
theorem zip_mem {as bs : List Int} {w : W} (h : w ∈ List.zipWith (fun a b => W.tup [a, b]) (as.map W.int) (bs.map W.int)) : ∃ a b, w = .tup [.int a, .int b] := by
  obtain ⟨i, hi, rfl⟩ := List.mem_iff_getElem.mp h
  rw [List.getElem_zipWith, List.getElem_map, List.getElem_map]
  exact ⟨_, _, rfl⟩
theorem zip_len {as bs : List Int} (h : as.length ≤ 1000) : ([] : List W).length + (List.zipWith (fun a b => W.tup [a, b]) (as.map W.int) (bs.map W.int)).length ≤ sizeLine := by
  rw [List.length_zipWith, List.length_map, List.length_map]
  show 0 + _ ≤ 2 ^ 24
  omega
theorem zw_map {α : Type} (f : Int → Int → α) (g : α → W) (as bs : List Int) : List.zipWith (fun a b => g (f a b)) as bs = (List.zipWith f as bs).map g := by
  rw [List.map_zipWith]
theorem min_eq (a b : Int) : (if b < a then b else a) = min a b := by
  rw [Int.min_def]; split <;> split <;> omega
theorem max_eq (a b : Int) : (if b > a then b else a) = max a b := by
  rw [Int.max_def]; split <;> split <;> omega
theorem abs_eq (a : Int) : (if a < 0 then -a else a) = (a.natAbs : Int) := by
  split <;> omega
theorem q_lesser (ws : List W) (h : AH) (Qa : RR → AH → Prop) (Ea : AExc → AH → Prop) (_ : ws.length = 2) (z : sp_lesser ws h Qa Ea) : t_lesser (excOf Ea) (endsOf Qa) (startA 4 ws) h := by
  unfold sp_lesser at z
  split at z
  case h_2 => exact z.elim
  obtain ⟨as, bs, rfl, rfl, hl, q⟩ := z
  simp (maxSteps := 2000000) only [↓startA, ↓aRet, ↓aRetN, ↓aNext, ↓aSeq, ↓aIf, ↓aDrop, ↓aSet, ↓aNs, ↓aAsg, ↓aPar, ↓aBrk, ↓aCnt, ↓aFor, ↓aCB, ↓aOp2, ↓aTst, ↓aAndT, ↓aOrT, ↓aNotT, ↓aIfE, ↓aAndV, ↓aOrV, ↓aNotV, ↓aNeg, ↓aChn, ↓rCons, ↓rNil, ↓aLc, ↓iZp, ↓iRg1, ↓iRg2, ↓iLst, ↓iTpl, ↓aCons, ↓aNil, ↓aFz, ↓aVar, ↓aC, ↓aTup, ↓aLst, ↓aSl, ↓aPart, ↓aNoPart, ↓aYes, ↓aCall, ↓aCallK, ↓gKw, ↓gKwG, ↓gNm, ↓gTp, ↓y_gsCons, ↓y_gsNil, ↓y_gSet, ↓ixK, ↓plc, ↓putE, ↓putH, ↓aLm, ↓isSeq, ↓fAppend, ↓view, ↓viewW, ↓viewS, ↓Vw.items, ↓Vw.seq, ↓Vw.tpl, ↓y_ix, ↓y_len, ↓y_tupC, ↓y_lstC, ↓y_isi, ↓Vw.tyName, ↓W.tyName, ↓oEq, ↓Vw.ok, ↓Vw.toW, ↓Vw.isNon, ↓oII, ↓oAdd, ↓o2I, ↓o1I, ↓oSl, ↓RV.sv, ↓Cont.fz, ↓wipeA, ↓mend, ↓keepV, ↓Option.bind_some, ↓Option.bind, List.isEmpty_nil, Bool.true_and, Nat.reduceBEq, List.getD_cons_zero, List.getD_cons_succ, dat_ints60, eqw_ints, ne_eq, reduceCtorEq, not_false_eq_true, isi_NoneType_bool, isi_NoneType_int, isi_NoneType_str, isi_NoneType_tuple, isi_NoneType_list, isi_bool_bool, isi_bool_int, isi_bool_str, isi_bool_tuple, isi_bool_list, isi_int_bool, isi_int_int, isi_int_str, isi_int_tuple, isi_int_list, isi_str_bool, isi_str_int, isi_str_str, isi_str_tuple, isi_str_list, isi_tuple_bool, isi_tuple_int, isi_tuple_str, isi_tuple_tuple, isi_tuple_list, isi_list_bool, isi_list_int, isi_list_str, isi_list_tuple, isi_list_list, eqw_self_int, eqw_self_bl, eqw_self_str, Bool.not_true, Bool.not_false, W.dat, List.map_cons, List.map_nil, List.length_cons, List.length_nil, List.replicate, List.cons_append, List.nil_append, List.getElem?_cons_zero, List.getElem?_cons_succ, List.set_cons_zero, List.set_cons_succ, Nat.reduceAdd, Nat.reduceSub, y_isN, at5_0, at5_1, at5_2, at5_3, at5_4, ix5_0, ix5_1, ix5_2, ix5_3, ix5_4, updA_same, updA_upd, true_and, and_true, decide_eq_true_eq, reduceIte, Bool.false_eq_true, Nat.zero_add, t_lesser]
  refine lc_map (pairF fun a b => .int (min a b)) _ _ (zip_len hl) (fun w hw R hR => ?_) ?_
  · obtain ⟨a, b, rfl⟩ := zip_mem hw
    simp (maxSteps := 2000000) only [↓startA, ↓aRet, ↓aRetN, ↓aNext, ↓aSeq, ↓aIf, ↓aDrop, ↓aSet, ↓aNs, ↓aAsg, ↓aPar, ↓aBrk, ↓aCnt, ↓aFor, ↓aCB, ↓aOp2, ↓aTst, ↓aAndT, ↓aOrT, ↓aNotT, ↓aIfE, ↓aAndV, ↓aOrV, ↓aNotV, ↓aNeg, ↓aChn, ↓rCons, ↓rNil, ↓aLc, ↓iZp, ↓iRg1, ↓iRg2, ↓iLst, ↓iTpl, ↓aCons, ↓aNil, ↓aFz, ↓aVar, ↓aC, ↓aTup, ↓aLst, ↓aSl, ↓aPart, ↓aNoPart, ↓aYes, ↓aCall, ↓aCallK, ↓gKw, ↓gKwG, ↓gNm, ↓gTp, ↓y_gsCons, ↓y_gsNil, ↓y_gSet, ↓ixK, ↓plc, ↓putE, ↓putH, ↓aLm, ↓isSeq, ↓fAppend, ↓view, ↓viewW, ↓viewS, ↓Vw.items, ↓Vw.seq, ↓Vw.tpl, ↓y_ix, ↓y_len, ↓y_tupC, ↓y_lstC, ↓y_isi, ↓Vw.tyName, ↓W.tyName, ↓oEq, ↓Vw.ok, ↓Vw.toW, ↓Vw.isNon, ↓oII, ↓oAdd, ↓o2I, ↓o1I, ↓oSl, ↓RV.sv, ↓Cont.fz, ↓wipeA, ↓mend, ↓keepV, ↓Option.bind_some, ↓Option.bind, List.isEmpty_nil, Bool.true_and, Nat.reduceBEq, List.getD_cons_zero, List.getD_cons_succ, dat_ints60, eqw_ints, ne_eq, reduceCtorEq, not_false_eq_true, isi_NoneType_bool, isi_NoneType_int, isi_NoneType_str, isi_NoneType_tuple, isi_NoneType_list, isi_bool_bool, isi_bool_int, isi_bool_str, isi_bool_tuple, isi_bool_list, isi_int_bool, isi_int_int, isi_int_str, isi_int_tuple, isi_int_list, isi_str_bool, isi_str_int, isi_str_str, isi_str_tuple, isi_str_list, isi_tuple_bool, isi_tuple_int, isi_tuple_str, isi_tuple_tuple, isi_tuple_list, isi_list_bool, isi_list_int, isi_list_str, isi_list_tuple, isi_list_list, eqw_self_int, eqw_self_bl, eqw_self_str, Bool.not_true, Bool.not_false, W.dat, List.map_cons, List.map_nil, List.length_cons, List.length_nil, List.replicate, List.cons_append, List.nil_append, List.getElem?_cons_zero, List.getElem?_cons_succ, List.set_cons_zero, List.set_cons_succ, Nat.reduceAdd, Nat.reduceSub, y_isN, at5_0, at5_1, at5_2, at5_3, at5_4, ix5_0, ix5_1, ix5_2, ix5_3, ix5_4, updA_same, updA_upd, true_and, and_true, decide_eq_true_eq, reduceIte, Bool.false_eq_true, Nat.zero_add, min_eq]
    exact hR
  · simp (maxSteps := 2000000) only [↓startA, ↓aRet, ↓aRetN, ↓aNext, ↓aSeq, ↓aIf, ↓aDrop, ↓aSet, ↓aNs, ↓aAsg, ↓aPar, ↓aBrk, ↓aCnt, ↓aFor, ↓aCB, ↓aOp2, ↓aTst, ↓aAndT, ↓aOrT, ↓aNotT, ↓aIfE, ↓aAndV, ↓aOrV, ↓aNotV, ↓aNeg, ↓aChn, ↓rCons, ↓rNil, ↓aLc, ↓iZp, ↓iRg1, ↓iRg2, ↓iLst, ↓iTpl, ↓aCons, ↓aNil, ↓aFz, ↓aVar, ↓aC, ↓aTup, ↓aLst, ↓aSl, ↓aPart, ↓aNoPart, ↓aYes, ↓aCall, ↓aCallK, ↓gKw, ↓gKwG, ↓gNm, ↓gTp, ↓y_gsCons, ↓y_gsNil, ↓y_gSet, ↓ixK, ↓plc, ↓putE, ↓putH, ↓aLm, ↓isSeq, ↓fAppend, ↓view, ↓viewW, ↓viewS, ↓Vw.items, ↓Vw.seq, ↓Vw.tpl, ↓y_ix, ↓y_len, ↓y_tupC, ↓y_lstC, ↓y_isi, ↓Vw.tyName, ↓W.tyName, ↓oEq, ↓Vw.ok, ↓Vw.toW, ↓Vw.isNon, ↓oII, ↓oAdd, ↓o2I, ↓o1I, ↓oSl, ↓RV.sv, ↓Cont.fz, ↓wipeA, ↓mend, ↓keepV, ↓Option.bind_some, ↓Option.bind, List.isEmpty_nil, Bool.true_and, Nat.reduceBEq, List.getD_cons_zero, List.getD_cons_succ, dat_ints60, eqw_ints, ne_eq, reduceCtorEq, not_false_eq_true, isi_NoneType_bool, isi_NoneType_int, isi_NoneType_str, isi_NoneType_tuple, isi_NoneType_list, isi_bool_bool, isi_bool_int, isi_bool_str, isi_bool_tuple, isi_bool_list, isi_int_bool, isi_int_int, isi_int_str, isi_int_tuple, isi_int_list, isi_str_bool, isi_str_int, isi_str_str, isi_str_tuple, isi_str_list, isi_tuple_bool, isi_tuple_int, isi_tuple_str, isi_tuple_tuple, isi_tuple_list, isi_list_bool, isi_list_int, isi_list_str, isi_list_tuple, isi_list_list, eqw_self_int, eqw_self_bl, eqw_self_str, Bool.not_true, Bool.not_false, W.dat, List.map_cons, List.map_nil, List.length_cons, List.length_nil, List.replicate, List.cons_append, List.nil_append, List.getElem?_cons_zero, List.getElem?_cons_succ, List.set_cons_zero, List.set_cons_succ, Nat.reduceAdd, Nat.reduceSub, y_isN, at5_0, at5_1, at5_2, at5_3, at5_4, ix5_0, ix5_1, ix5_2, ix5_3, ix5_4, updA_same, updA_upd, true_and, and_true, decide_eq_true_eq, reduceIte, Bool.false_eq_true, Nat.zero_add]
    rw [zip_pairs, zw_map]
    exact ⟨h, fun _ _ e => e, q⟩
theorem q_greater (ws : List W) (h : AH) (Qa : RR → AH → Prop) (Ea : AExc → AH → Prop) (_ : ws.length = 2) (z : sp_greater ws h Qa Ea) : t_greater (excOf Ea) (endsOf Qa) (startA 4 ws) h := by
  unfold sp_greater at z
  split at z
  case h_2 => exact z.elim
  obtain ⟨as, bs, rfl, rfl, hl, q⟩ := z
  simp (maxSteps := 2000000) only [↓startA, ↓aRet, ↓aRetN, ↓aNext, ↓aSeq, ↓aIf, ↓aDrop, ↓aSet, ↓aNs, ↓aAsg, ↓aPar, ↓aBrk, ↓aCnt, ↓aFor, ↓aCB, ↓aOp2, ↓aTst, ↓aAndT, ↓aOrT, ↓aNotT, ↓aIfE, ↓aAndV, ↓aOrV, ↓aNotV, ↓aNeg, ↓aChn, ↓rCons, ↓rNil, ↓aLc, ↓iZp, ↓iRg1, ↓iRg2, ↓iLst, ↓iTpl, ↓aCons, ↓aNil, ↓aFz, ↓aVar, ↓aC, ↓aTup, ↓aLst, ↓aSl, ↓aPart, ↓aNoPart, ↓aYes, ↓aCall, ↓aCallK, ↓gKw, ↓gKwG, ↓gNm, ↓gTp, ↓y_gsCons, ↓y_gsNil, ↓y_gSet, ↓ixK, ↓plc, ↓putE, ↓putH, ↓aLm, ↓isSeq, ↓fAppend, ↓view, ↓viewW, ↓viewS, ↓Vw.items, ↓Vw.seq, ↓Vw.tpl, ↓y_ix, ↓y_len, ↓y_tupC, ↓y_lstC, ↓y_isi, ↓Vw.tyName, ↓W.tyName, ↓oEq, ↓Vw.ok, ↓Vw.toW, ↓Vw.isNon, ↓oII, ↓oAdd, ↓o2I, ↓o1I, ↓oSl, ↓RV.sv, ↓Cont.fz, ↓wipeA, ↓mend, ↓keepV, ↓Option.bind_some, ↓Option.bind, List.isEmpty_nil, Bool.true_and, Nat.reduceBEq, List.getD_cons_zero, List.getD_cons_succ, dat_ints60, eqw_ints, ne_eq, reduceCtorEq, not_false_eq_true, isi_NoneType_bool, isi_NoneType_int, isi_NoneType_str, isi_NoneType_tuple, isi_NoneType_list, isi_bool_bool, isi_bool_int, isi_bool_str, isi_bool_tuple, isi_bool_list, isi_int_bool, isi_int_int, isi_int_str, isi_int_tuple, isi_int_list, isi_str_bool, isi_str_int, isi_str_str, isi_str_tuple, isi_str_list, isi_tuple_bool, isi_tuple_int, isi_tuple_str, isi_tuple_tuple, isi_tuple_list, isi_list_bool, isi_list_int, isi_list_str, isi_list_tuple, isi_list_list, eqw_self_int, eqw_self_bl, eqw_self_str, Bool.not_true, Bool.not_false, W.dat, List.map_cons, List.map_nil, List.length_cons, List.length_nil, List.replicate, List.cons_append, List.nil_append, List.getElem?_cons_zero, List.getElem?_cons_succ, List.set_cons_zero, List.set_cons_succ, Nat.reduceAdd, Nat.reduceSub, y_isN, at5_0, at5_1, at5_2, at5_3, at5_4, ix5_0, ix5_1, ix5_2, ix5_3, ix5_4, updA_same, updA_upd, true_and, and_true, decide_eq_true_eq, reduceIte, Bool.false_eq_true, Nat.zero_add, t_greater]
  refine lc_map (pairF fun a b => .int (max a b)) _ _ (zip_len hl) (fun w hw R hR => ?_) ?_
  · obtain ⟨a, b, rfl⟩ := zip_mem hw
    simp (maxSteps := 2000000) only [↓startA, ↓aRet, ↓aRetN, ↓aNext, ↓aSeq, ↓aIf, ↓aDrop, ↓aSet, ↓aNs, ↓aAsg, ↓aPar, ↓aBrk, ↓aCnt, ↓aFor, ↓aCB, ↓aOp2, ↓aTst, ↓aAndT, ↓aOrT, ↓aNotT, ↓aIfE, ↓aAndV, ↓aOrV, ↓aNotV, ↓aNeg, ↓aChn, ↓rCons, ↓rNil, ↓aLc, ↓iZp, ↓iRg1, ↓iRg2, ↓iLst, ↓iTpl, ↓aCons, ↓aNil, ↓aFz, ↓aVar, ↓aC, ↓aTup, ↓aLst, ↓aSl, ↓aPart, ↓aNoPart, ↓aYes, ↓aCall, ↓aCallK, ↓gKw, ↓gKwG, ↓gNm, ↓gTp, ↓y_gsCons, ↓y_gsNil, ↓y_gSet, ↓ixK, ↓plc, ↓putE, ↓putH, ↓aLm, ↓isSeq, ↓fAppend, ↓view, ↓viewW, ↓viewS, ↓Vw.items, ↓Vw.seq, ↓Vw.tpl, ↓y_ix, ↓y_len, ↓y_tupC, ↓y_lstC, ↓y_isi, ↓Vw.tyName, ↓W.tyName, ↓oEq, ↓Vw.ok, ↓Vw.toW, ↓Vw.isNon, ↓oII, ↓oAdd, ↓o2I, ↓o1I, ↓oSl, ↓RV.sv, ↓Cont.fz, ↓wipeA, ↓mend, ↓keepV, ↓Option.bind_some, ↓Option.bind, List.isEmpty_nil, Bool.true_and, Nat.reduceBEq, List.getD_cons_zero, List.getD_cons_succ, dat_ints60, eqw_ints, ne_eq, reduceCtorEq, not_false_eq_true, isi_NoneType_bool, isi_NoneType_int, isi_NoneType_str, isi_NoneType_tuple, isi_NoneType_list, isi_bool_bool, isi_bool_int, isi_bool_str, isi_bool_tuple, isi_bool_list, isi_int_bool, isi_int_int, isi_int_str, isi_int_tuple, isi_int_list, isi_str_bool, isi_str_int, isi_str_str, isi_str_tuple, isi_str_list, isi_tuple_bool, isi_tuple_int, isi_tuple_str, isi_tuple_tuple, isi_tuple_list, isi_list_bool, isi_list_int, isi_list_str, isi_list_tuple, isi_list_list, eqw_self_int, eqw_self_bl, eqw_self_str, Bool.not_true, Bool.not_false, W.dat, List.map_cons, List.map_nil, List.length_cons, List.length_nil, List.replicate, List.cons_append, List.nil_append, List.getElem?_cons_zero, List.getElem?_cons_succ, List.set_cons_zero, List.set_cons_succ, Nat.reduceAdd, Nat.reduceSub, y_isN, at5_0, at5_1, at5_2, at5_3, at5_4, ix5_0, ix5_1, ix5_2, ix5_3, ix5_4, updA_same, updA_upd, true_and, and_true, decide_eq_true_eq, reduceIte, Bool.false_eq_true, Nat.zero_add, max_eq]
    exact hR
  · simp (maxSteps := 2000000) only [↓startA, ↓aRet, ↓aRetN, ↓aNext, ↓aSeq, ↓aIf, ↓aDrop, ↓aSet, ↓aNs, ↓aAsg, ↓aPar, ↓aBrk, ↓aCnt, ↓aFor, ↓aCB, ↓aOp2, ↓aTst, ↓aAndT, ↓aOrT, ↓aNotT, ↓aIfE, ↓aAndV, ↓aOrV, ↓aNotV, ↓aNeg, ↓aChn, ↓rCons, ↓rNil, ↓aLc, ↓iZp, ↓iRg1, ↓iRg2, ↓iLst, ↓iTpl, ↓aCons, ↓aNil, ↓aFz, ↓aVar, ↓aC, ↓aTup, ↓aLst, ↓aSl, ↓aPart, ↓aNoPart, ↓aYes, ↓aCall, ↓aCallK, ↓gKw, ↓gKwG, ↓gNm, ↓gTp, ↓y_gsCons, ↓y_gsNil, ↓y_gSet, ↓ixK, ↓plc, ↓putE, ↓putH, ↓aLm, ↓isSeq, ↓fAppend, ↓view, ↓viewW, ↓viewS, ↓Vw.items, ↓Vw.seq, ↓Vw.tpl, ↓y_ix, ↓y_len, ↓y_tupC, ↓y_lstC, ↓y_isi, ↓Vw.tyName, ↓W.tyName, ↓oEq, ↓Vw.ok, ↓Vw.toW, ↓Vw.isNon, ↓oII, ↓oAdd, ↓o2I, ↓o1I, ↓oSl, ↓RV.sv, ↓Cont.fz, ↓wipeA, ↓mend, ↓keepV, ↓Option.bind_some, ↓Option.bind, List.isEmpty_nil, Bool.true_and, Nat.reduceBEq, List.getD_cons_zero, List.getD_cons_succ, dat_ints60, eqw_ints, ne_eq, reduceCtorEq, not_false_eq_true, isi_NoneType_bool, isi_NoneType_int, isi_NoneType_str, isi_NoneType_tuple, isi_NoneType_list, isi_bool_bool, isi_bool_int, isi_bool_str, isi_bool_tuple, isi_bool_list, isi_int_bool, isi_int_int, isi_int_str, isi_int_tuple, isi_int_list, isi_str_bool, isi_str_int, isi_str_str, isi_str_tuple, isi_str_list, isi_tuple_bool, isi_tuple_int, isi_tuple_str, isi_tuple_tuple, isi_tuple_list, isi_list_bool, isi_list_int, isi_list_str, isi_list_tuple, isi_list_list, eqw_self_int, eqw_self_bl, eqw_self_str, Bool.not_true, Bool.not_false, W.dat, List.map_cons, List.map_nil, List.length_cons, List.length_nil, List.replicate, List.cons_append, List.nil_append, List.getElem?_cons_zero, List.getElem?_cons_succ, List.set_cons_zero, List.set_cons_succ, Nat.reduceAdd, Nat.reduceSub, y_isN, at5_0, at5_1, at5_2, at5_3, at5_4, ix5_0, ix5_1, ix5_2, ix5_3, ix5_4, updA_same, updA_upd, true_and, and_true, decide_eq_true_eq, reduceIte, Bool.false_eq_true, Nat.zero_add]
    rw [zip_pairs, zw_map]
    exact ⟨h, fun _ _ e => e, q⟩
theorem q_within (ws : List W) (h : AH) (Qa : RR → AH → Prop) (Ea : AExc → AH → Prop) (_ : ws.length = 2) (z : sp_within ws h Qa Ea) : t_within (excOf Ea) (endsOf Qa) (startA 4 ws) h := by
  unfold sp_within at z
  split at z
  case h_2 => exact z.elim
  obtain ⟨as, bs, rfl, rfl, hl, q⟩ := z
  simp (maxSteps := 2000000) only [↓startA, ↓aRet, ↓aRetN, ↓aNext, ↓aSeq, ↓aIf, ↓aDrop, ↓aSet, ↓aNs, ↓aAsg, ↓aPar, ↓aBrk, ↓aCnt, ↓aFor, ↓aCB, ↓aOp2, ↓aTst, ↓aAndT, ↓aOrT, ↓aNotT, ↓aIfE, ↓aAndV, ↓aOrV, ↓aNotV, ↓aNeg, ↓aChn, ↓rCons, ↓rNil, ↓aLc, ↓iZp, ↓iRg1, ↓iRg2, ↓iLst, ↓iTpl, ↓aCons, ↓aNil, ↓aFz, ↓aVar, ↓aC, ↓aTup, ↓aLst, ↓aSl, ↓aPart, ↓aNoPart, ↓aYes, ↓aCall, ↓aCallK, ↓gKw, ↓gKwG, ↓gNm, ↓gTp, ↓y_gsCons, ↓y_gsNil, ↓y_gSet, ↓ixK, ↓plc, ↓putE, ↓putH, ↓aLm, ↓isSeq, ↓fAppend, ↓view, ↓viewW, ↓viewS, ↓Vw.items, ↓Vw.seq, ↓Vw.tpl, ↓y_ix, ↓y_len, ↓y_tupC, ↓y_lstC, ↓y_isi, ↓Vw.tyName, ↓W.tyName, ↓oEq, ↓Vw.ok, ↓Vw.toW, ↓Vw.isNon, ↓oII, ↓oAdd, ↓o2I, ↓o1I, ↓oSl, ↓RV.sv, ↓Cont.fz, ↓wipeA, ↓mend, ↓keepV, ↓Option.bind_some, ↓Option.bind, List.isEmpty_nil, Bool.true_and, Nat.reduceBEq, List.getD_cons_zero, List.getD_cons_succ, dat_ints60, eqw_ints, ne_eq, reduceCtorEq, not_false_eq_true, isi_NoneType_bool, isi_NoneType_int, isi_NoneType_str, isi_NoneType_tuple, isi_NoneType_list, isi_bool_bool, isi_bool_int, isi_bool_str, isi_bool_tuple, isi_bool_list, isi_int_bool, isi_int_int, isi_int_str, isi_int_tuple, isi_int_list, isi_str_bool, isi_str_int, isi_str_str, isi_str_tuple, isi_str_list, isi_tuple_bool, isi_tuple_int, isi_tuple_str, isi_tuple_tuple, isi_tuple_list, isi_list_bool, isi_list_int, isi_list_str, isi_list_tuple, isi_list_list, eqw_self_int, eqw_self_bl, eqw_self_str, Bool.not_true, Bool.not_false, W.dat, List.map_cons, List.map_nil, List.length_cons, List.length_nil, List.replicate, List.cons_append, List.nil_append, List.getElem?_cons_zero, List.getElem?_cons_succ, List.set_cons_zero, List.set_cons_succ, Nat.reduceAdd, Nat.reduceSub, y_isN, at5_0, at5_1, at5_2, at5_3, at5_4, ix5_0, ix5_1, ix5_2, ix5_3, ix5_4, updA_same, updA_upd, true_and, and_true, decide_eq_true_eq, reduceIte, Bool.false_eq_true, Nat.zero_add, t_within]
  refine lc_map (pairF fun a b => .bl (decide (a ≤ b))) _ _ (zip_len hl) (fun w hw R hR => ?_) ?_
  · obtain ⟨a, b, rfl⟩ := zip_mem hw
    simp (maxSteps := 2000000) only [↓startA, ↓aRet, ↓aRetN, ↓aNext, ↓aSeq, ↓aIf, ↓aDrop, ↓aSet, ↓aNs, ↓aAsg, ↓aPar, ↓aBrk, ↓aCnt, ↓aFor, ↓aCB, ↓aOp2, ↓aTst, ↓aAndT, ↓aOrT, ↓aNotT, ↓aIfE, ↓aAndV, ↓aOrV, ↓aNotV, ↓aNeg, ↓aChn, ↓rCons, ↓rNil, ↓aLc, ↓iZp, ↓iRg1, ↓iRg2, ↓iLst, ↓iTpl, ↓aCons, ↓aNil, ↓aFz, ↓aVar, ↓aC, ↓aTup, ↓aLst, ↓aSl, ↓aPart, ↓aNoPart, ↓aYes, ↓aCall, ↓aCallK, ↓gKw, ↓gKwG, ↓gNm, ↓gTp, ↓y_gsCons, ↓y_gsNil, ↓y_gSet, ↓ixK, ↓plc, ↓putE, ↓putH, ↓aLm, ↓isSeq, ↓fAppend, ↓view, ↓viewW, ↓viewS, ↓Vw.items, ↓Vw.seq, ↓Vw.tpl, ↓y_ix, ↓y_len, ↓y_tupC, ↓y_lstC, ↓y_isi, ↓Vw.tyName, ↓W.tyName, ↓oEq, ↓Vw.ok, ↓Vw.toW, ↓Vw.isNon, ↓oII, ↓oAdd, ↓o2I, ↓o1I, ↓oSl, ↓RV.sv, ↓Cont.fz, ↓wipeA, ↓mend, ↓keepV, ↓Option.bind_some, ↓Option.bind, List.isEmpty_nil, Bool.true_and, Nat.reduceBEq, List.getD_cons_zero, List.getD_cons_succ, dat_ints60, eqw_ints, ne_eq, reduceCtorEq, not_false_eq_true, isi_NoneType_bool, isi_NoneType_int, isi_NoneType_str, isi_NoneType_tuple, isi_NoneType_list, isi_bool_bool, isi_bool_int, isi_bool_str, isi_bool_tuple, isi_bool_list, isi_int_bool, isi_int_int, isi_int_str, isi_int_tuple, isi_int_list, isi_str_bool, isi_str_int, isi_str_str, isi_str_tuple, isi_str_list, isi_tuple_bool, isi_tuple_int, isi_tuple_str, isi_tuple_tuple, isi_tuple_list, isi_list_bool, isi_list_int, isi_list_str, isi_list_tuple, isi_list_list, eqw_self_int, eqw_self_bl, eqw_self_str, Bool.not_true, Bool.not_false, W.dat, List.map_cons, List.map_nil, List.length_cons, List.length_nil, List.replicate, List.cons_append, List.nil_append, List.getElem?_cons_zero, List.getElem?_cons_succ, List.set_cons_zero, List.set_cons_succ, Nat.reduceAdd, Nat.reduceSub, y_isN, at5_0, at5_1, at5_2, at5_3, at5_4, ix5_0, ix5_1, ix5_2, ix5_3, ix5_4, updA_same, updA_upd, true_and, and_true, decide_eq_true_eq, reduceIte, Bool.false_eq_true, Nat.zero_add]
    exact hR
  · rw [List.nil_append, zip_pairs, zw_map]
    exact ⟨_, rfl, h, fun _ _ e => e, q⟩
theorem q_apart (ws : List W) (h : AH) (Qa : RR → AH → Prop) (Ea : AExc → AH → Prop) (_ : ws.length = 2) (z : sp_apart ws h Qa Ea) : t_apart (excOf Ea) (endsOf Qa) (startA 4 ws) h := by
  unfold sp_apart at z
  split at z
  case h_2 => exact z.elim
  obtain ⟨as, bs, rfl, rfl, hl, q⟩ := z
  simp (maxSteps := 2000000) only [↓startA, ↓aRet, ↓aRetN, ↓aNext, ↓aSeq, ↓aIf, ↓aDrop, ↓aSet, ↓aNs, ↓aAsg, ↓aPar, ↓aBrk, ↓aCnt, ↓aFor, ↓aCB, ↓aOp2, ↓aTst, ↓aAndT, ↓aOrT, ↓aNotT, ↓aIfE, ↓aAndV, ↓aOrV, ↓aNotV, ↓aNeg, ↓aChn, ↓rCons, ↓rNil, ↓aLc, ↓iZp, ↓iRg1, ↓iRg2, ↓iLst, ↓iTpl, ↓aCons, ↓aNil, ↓aFz, ↓aVar, ↓aC, ↓aTup, ↓aLst, ↓aSl, ↓aPart, ↓aNoPart, ↓aYes, ↓aCall, ↓aCallK, ↓gKw, ↓gKwG, ↓gNm, ↓gTp, ↓y_gsCons, ↓y_gsNil, ↓y_gSet, ↓ixK, ↓plc, ↓putE, ↓putH, ↓aLm, ↓isSeq, ↓fAppend, ↓view, ↓viewW, ↓viewS, ↓Vw.items, ↓Vw.seq, ↓Vw.tpl, ↓y_ix, ↓y_len, ↓y_tupC, ↓y_lstC, ↓y_isi, ↓Vw.tyName, ↓W.tyName, ↓oEq, ↓Vw.ok, ↓Vw.toW, ↓Vw.isNon, ↓oII, ↓oAdd, ↓o2I, ↓o1I, ↓oSl, ↓RV.sv, ↓Cont.fz, ↓wipeA, ↓mend, ↓keepV, ↓Option.bind_some, ↓Option.bind, List.isEmpty_nil, Bool.true_and, Nat.reduceBEq, List.getD_cons_zero, List.getD_cons_succ, dat_ints60, eqw_ints, ne_eq, reduceCtorEq, not_false_eq_true, isi_NoneType_bool, isi_NoneType_int, isi_NoneType_str, isi_NoneType_tuple, isi_NoneType_list, isi_bool_bool, isi_bool_int, isi_bool_str, isi_bool_tuple, isi_bool_list, isi_int_bool, isi_int_int, isi_int_str, isi_int_tuple, isi_int_list, isi_str_bool, isi_str_int, isi_str_str, isi_str_tuple, isi_str_list, isi_tuple_bool, isi_tuple_int, isi_tuple_str, isi_tuple_tuple, isi_tuple_list, isi_list_bool, isi_list_int, isi_list_str, isi_list_tuple, isi_list_list, eqw_self_int, eqw_self_bl, eqw_self_str, Bool.not_true, Bool.not_false, W.dat, List.map_cons, List.map_nil, List.length_cons, List.length_nil, List.replicate, List.cons_append, List.nil_append, List.getElem?_cons_zero, List.getElem?_cons_succ, List.set_cons_zero, List.set_cons_succ, Nat.reduceAdd, Nat.reduceSub, y_isN, at5_0, at5_1, at5_2, at5_3, at5_4, ix5_0, ix5_1, ix5_2, ix5_3, ix5_4, updA_same, updA_upd, true_and, and_true, decide_eq_true_eq, reduceIte, Bool.false_eq_true, Nat.zero_add, t_apart]
  refine lc_map (pairF fun a b => .int ((a - b).natAbs : Int)) _ _ (zip_len hl) (fun w hw R hR => ?_) ?_
  · obtain ⟨a, b, rfl⟩ := zip_mem hw
    simp (maxSteps := 2000000) only [↓startA, ↓aRet, ↓aRetN, ↓aNext, ↓aSeq, ↓aIf, ↓aDrop, ↓aSet, ↓aNs, ↓aAsg, ↓aPar, ↓aBrk, ↓aCnt, ↓aFor, ↓aCB, ↓aOp2, ↓aTst, ↓aAndT, ↓aOrT, ↓aNotT, ↓aIfE, ↓aAndV, ↓aOrV, ↓aNotV, ↓aNeg, ↓aChn, ↓rCons, ↓rNil, ↓aLc, ↓iZp, ↓iRg1, ↓iRg2, ↓iLst, ↓iTpl, ↓aCons, ↓aNil, ↓aFz, ↓aVar, ↓aC, ↓aTup, ↓aLst, ↓aSl, ↓aPart, ↓aNoPart, ↓aYes, ↓aCall, ↓aCallK, ↓gKw, ↓gKwG, ↓gNm, ↓gTp, ↓y_gsCons, ↓y_gsNil, ↓y_gSet, ↓ixK, ↓plc, ↓putE, ↓putH, ↓aLm, ↓isSeq, ↓fAppend, ↓view, ↓viewW, ↓viewS, ↓Vw.items, ↓Vw.seq, ↓Vw.tpl, ↓y_ix, ↓y_len, ↓y_tupC, ↓y_lstC, ↓y_isi, ↓Vw.tyName, ↓W.tyName, ↓oEq, ↓Vw.ok, ↓Vw.toW, ↓Vw.isNon, ↓oII, ↓oAdd, ↓o2I, ↓o1I, ↓oSl, ↓RV.sv, ↓Cont.fz, ↓wipeA, ↓mend, ↓keepV, ↓Option.bind_some, ↓Option.bind, List.isEmpty_nil, Bool.true_and, Nat.reduceBEq, List.getD_cons_zero, List.getD_cons_succ, dat_ints60, eqw_ints, ne_eq, reduceCtorEq, not_false_eq_true, isi_NoneType_bool, isi_NoneType_int, isi_NoneType_str, isi_NoneType_tuple, isi_NoneType_list, isi_bool_bool, isi_bool_int, isi_bool_str, isi_bool_tuple, isi_bool_list, isi_int_bool, isi_int_int, isi_int_str, isi_int_tuple, isi_int_list, isi_str_bool, isi_str_int, isi_str_str, isi_str_tuple, isi_str_list, isi_tuple_bool, isi_tuple_int, isi_tuple_str, isi_tuple_tuple, isi_tuple_list, isi_list_bool, isi_list_int, isi_list_str, isi_list_tuple, isi_list_list, eqw_self_int, eqw_self_bl, eqw_self_str, Bool.not_true, Bool.not_false, W.dat, List.map_cons, List.map_nil, List.length_cons, List.length_nil, List.replicate, List.cons_append, List.nil_append, List.getElem?_cons_zero, List.getElem?_cons_succ, List.set_cons_zero, List.set_cons_succ, Nat.reduceAdd, Nat.reduceSub, y_isN, at5_0, at5_1, at5_2, at5_3, at5_4, ix5_0, ix5_1, ix5_2, ix5_3, ix5_4, updA_same, updA_upd, true_and, and_true, decide_eq_true_eq, reduceIte, Bool.false_eq_true, Nat.zero_add, abs_eq]
    exact hR
  · rw [List.nil_append, zip_pairs, zw_map]
    exact ⟨_, rfl, h, fun _ _ e => e, q⟩
theorem rng_pairs {α : Type} (f : Int → Int → α) (g : Int → α) {as bs : List Int} (hl : as.length = bs.length) (hg : ∀ (i : Nat) a b, as[i]? = some a → bs[i]? = some b → g i = f a b) : (List.range as.length).map (fun (i : Nat) => g i) = List.zipWith f as bs := by
  refine List.ext_getElem (by simp [hl]) fun i h1 h2 => ?_
  simp only [List.length_map, List.length_range] at h1
  rw [List.getElem_map, List.getElem_zipWith, List.getElem_range]
  exact hg i _ _ (List.getElem?_eq_getElem h1) (List.getElem?_eq_getElem (by omega))
theorem rngW_map {α : Type} (g : W → α) (n : Nat) : (rngW 0 n).map g = (List.range n).map fun (i : Nat) => g (.int i) := by
  unfold rngW
  rw [List.map_map]
  refine List.map_congr_left fun i _ => ?_
  simp
theorem q__law_lesser (ws : List W) (h : AH) (Qa : RR → AH → Prop) (Ea : AExc → AH → Prop) (_ : ws.length = 2) (z : sp__law_lesser ws h Qa Ea) : t__law_lesser (excOf Ea) (endsOf Qa) (startA 3 ws) h := by
  unfold sp__law_lesser at z
  split at z
  case h_2 => exact z.elim
  obtain ⟨as, bs, rfl, rfl, hl, hb, q⟩ := z
  simp (maxSteps := 2000000) only [↓startA, ↓aRet, ↓aRetN, ↓aNext, ↓aSeq, ↓aIf, ↓aDrop, ↓aSet, ↓aNs, ↓aAsg, ↓aPar, ↓aBrk, ↓aCnt, ↓aFor, ↓aCB, ↓aOp2, ↓aTst, ↓aAndT, ↓aOrT, ↓aNotT, ↓aIfE, ↓aAndV, ↓aOrV, ↓aNotV, ↓aNeg, ↓aChn, ↓rCons, ↓rNil, ↓aLc, ↓iZp, ↓iRg1, ↓iRg2, ↓iLst, ↓iTpl, ↓aCons, ↓aNil, ↓aFz, ↓aVar, ↓aC, ↓aTup, ↓aLst, ↓aSl, ↓aPart, ↓aNoPart, ↓aYes, ↓aCall, ↓aCallK, ↓gKw, ↓gKwG, ↓gNm, ↓gTp, ↓y_gsCons, ↓y_gsNil, ↓y_gSet, ↓ixK, ↓plc, ↓putE, ↓putH, ↓aLm, ↓isSeq, ↓fAppend, ↓view, ↓viewW, ↓viewS, ↓Vw.items, ↓Vw.seq, ↓Vw.tpl, ↓y_ix, ↓y_len, ↓y_tupC, ↓y_lstC, ↓y_isi, ↓Vw.tyName, ↓W.tyName, ↓oEq, ↓Vw.ok, ↓Vw.toW, ↓Vw.isNon, ↓oII, ↓oAdd, ↓o2I, ↓o1I, ↓oSl, ↓RV.sv, ↓Cont.fz, ↓wipeA, ↓mend, ↓keepV, ↓Option.bind_some, ↓Option.bind, List.isEmpty_nil, Bool.true_and, Nat.reduceBEq, List.getD_cons_zero, List.getD_cons_succ, dat_ints60, eqw_ints, ne_eq, reduceCtorEq, not_false_eq_true, isi_NoneType_bool, isi_NoneType_int, isi_NoneType_str, isi_NoneType_tuple, isi_NoneType_list, isi_bool_bool, isi_bool_int, isi_bool_str, isi_bool_tuple, isi_bool_list, isi_int_bool, isi_int_int, isi_int_str, isi_int_tuple, isi_int_list, isi_str_bool, isi_str_int, isi_str_str, isi_str_tuple, isi_str_list, isi_tuple_bool, isi_tuple_int, isi_tuple_str, isi_tuple_tuple, isi_tuple_list, isi_list_bool, isi_list_int, isi_list_str, isi_list_tuple, isi_list_list, eqw_self_int, eqw_self_bl, eqw_self_str, Bool.not_true, Bool.not_false, W.dat, List.map_cons, List.map_nil, List.length_cons, List.length_nil, List.replicate, List.cons_append, List.nil_append, List.getElem?_cons_zero, List.getElem?_cons_succ, List.set_cons_zero, List.set_cons_succ, Nat.reduceAdd, Nat.reduceSub, y_isN, at5_0, at5_1, at5_2, at5_3, at5_4, ix5_0, ix5_1, ix5_2, ix5_3, ix5_4, updA_same, updA_upd, true_and, and_true, decide_eq_true_eq, reduceIte, Bool.false_eq_true, Nat.zero_add, t__law_lesser, List.length_map]
  refine ⟨by omega, by omega, lc_map (fun w => match w with
    | .int i => .int (min (as.getD i.toNat 0) (bs.getD i.toNat 0))
    | _ => .non) _ _ (by rw [rngW_len]; show 0 + _ ≤ 2 ^ 24; omega) (fun w hw R hR => ?_) ?_⟩
  · obtain ⟨i, hi, rfl⟩ := rngW_mem hw
    have hi : i < as.length := by omega
    have hj : i < bs.length := by omega
    have e1 : atI (as.map W.int) (i : Int) = some (.int as[i]) := atI_nat (by rw [List.getElem?_map, List.getElem?_eq_getElem hi]; rfl)
    have e2 : atI (bs.map W.int) (i : Int) = some (.int bs[i]) := atI_nat (by rw [List.getElem?_map, List.getElem?_eq_getElem hj]; rfl)
    simp (maxSteps := 2000000) only [↓startA, ↓aRet, ↓aRetN, ↓aNext, ↓aSeq, ↓aIf, ↓aDrop, ↓aSet, ↓aNs, ↓aAsg, ↓aPar, ↓aBrk, ↓aCnt, ↓aFor, ↓aCB, ↓aOp2, ↓aTst, ↓aAndT, ↓aOrT, ↓aNotT, ↓aIfE, ↓aAndV, ↓aOrV, ↓aNotV, ↓aNeg, ↓aChn, ↓rCons, ↓rNil, ↓aLc, ↓iZp, ↓iRg1, ↓iRg2, ↓iLst, ↓iTpl, ↓aCons, ↓aNil, ↓aFz, ↓aVar, ↓aC, ↓aTup, ↓aLst, ↓aSl, ↓aPart, ↓aNoPart, ↓aYes, ↓aCall, ↓aCallK, ↓gKw, ↓gKwG, ↓gNm, ↓gTp, ↓y_gsCons, ↓y_gsNil, ↓y_gSet, ↓ixK, ↓plc, ↓putE, ↓putH, ↓aLm, ↓isSeq, ↓fAppend, ↓view, ↓viewW, ↓viewS, ↓Vw.items, ↓Vw.seq, ↓Vw.tpl, ↓y_ix, ↓y_len, ↓y_tupC, ↓y_lstC, ↓y_isi, ↓Vw.tyName, ↓W.tyName, ↓oEq, ↓Vw.ok, ↓Vw.toW, ↓Vw.isNon, ↓oII, ↓oAdd, ↓o2I, ↓o1I, ↓oSl, ↓RV.sv, ↓Cont.fz, ↓wipeA, ↓mend, ↓keepV, ↓Option.bind_some, ↓Option.bind, List.isEmpty_nil, Bool.true_and, Nat.reduceBEq, List.getD_cons_zero, List.getD_cons_succ, dat_ints60, eqw_ints, ne_eq, reduceCtorEq, not_false_eq_true, isi_NoneType_bool, isi_NoneType_int, isi_NoneType_str, isi_NoneType_tuple, isi_NoneType_list, isi_bool_bool, isi_bool_int, isi_bool_str, isi_bool_tuple, isi_bool_list, isi_int_bool, isi_int_int, isi_int_str, isi_int_tuple, isi_int_list, isi_str_bool, isi_str_int, isi_str_str, isi_str_tuple, isi_str_list, isi_tuple_bool, isi_tuple_int, isi_tuple_str, isi_tuple_tuple, isi_tuple_list, isi_list_bool, isi_list_int, isi_list_str, isi_list_tuple, isi_list_list, eqw_self_int, eqw_self_bl, eqw_self_str, Bool.not_true, Bool.not_false, W.dat, List.map_cons, List.map_nil, List.length_cons, List.length_nil, List.replicate, List.cons_append, List.nil_append, List.getElem?_cons_zero, List.getElem?_cons_succ, List.set_cons_zero, List.set_cons_succ, Nat.reduceAdd, Nat.reduceSub, y_isN, at5_0, at5_1, at5_2, at5_3, at5_4, ix5_0, ix5_1, ix5_2, ix5_3, ix5_4, updA_same, updA_upd, true_and, and_true, decide_eq_true_eq, reduceIte, Bool.false_eq_true, Nat.zero_add, e1, e2, min_eq]
    simpa [List.getD_eq_getElem?_getD, hi, hj] using hR
  · rw [List.nil_append, rngW_map, show (as.length : Int).toNat = as.length from rfl, rng_pairs (fun a b => W.int (min a b)) (fun i => .int (min (as.getD i.toNat 0) (bs.getD i.toNat 0))) hb (fun i a b ea eb => by simp [List.getD_eq_getElem?_getD, ea, eb]), zw_map]
    exact ⟨h, fun _ _ e => e, q⟩
theorem q__law_greater (ws : List W) (h : AH) (Qa : RR → AH → Prop) (Ea : AExc → AH → Prop) (_ : ws.length = 2) (z : sp__law_greater ws h Qa Ea) : t__law_greater (excOf Ea) (endsOf Qa) (startA 3 ws) h := by
  unfold sp__law_greater at z
  split at z
  case h_2 => exact z.elim
  obtain ⟨as, bs, rfl, rfl, hl, hb, q⟩ := z
  simp (maxSteps := 2000000) only [↓startA, ↓aRet, ↓aRetN, ↓aNext, ↓aSeq, ↓aIf, ↓aDrop, ↓aSet, ↓aNs, ↓aAsg, ↓aPar, ↓aBrk, ↓aCnt, ↓aFor, ↓aCB, ↓aOp2, ↓aTst, ↓aAndT, ↓aOrT, ↓aNotT, ↓aIfE, ↓aAndV, ↓aOrV, ↓aNotV, ↓aNeg, ↓aChn, ↓rCons, ↓rNil, ↓aLc, ↓iZp, ↓iRg1, ↓iRg2, ↓iLst, ↓iTpl, ↓aCons, ↓aNil, ↓aFz, ↓aVar, ↓aC, ↓aTup, ↓aLst, ↓aSl, ↓aPart, ↓aNoPart, ↓aYes, ↓aCall, ↓aCallK, ↓gKw, ↓gKwG, ↓gNm, ↓gTp, ↓y_gsCons, ↓y_gsNil, ↓y_gSet, ↓ixK, ↓plc, ↓putE, ↓putH, ↓aLm, ↓isSeq, ↓fAppend, ↓view, ↓viewW, ↓viewS, ↓Vw.items, ↓Vw.seq, ↓Vw.tpl, ↓y_ix, ↓y_len, ↓y_tupC, ↓y_lstC, ↓y_isi, ↓Vw.tyName, ↓W.tyName, ↓oEq, ↓Vw.ok, ↓Vw.toW, ↓Vw.isNon, ↓oII, ↓oAdd, ↓o2I, ↓o1I, ↓oSl, ↓RV.sv, ↓Cont.fz, ↓wipeA, ↓mend, ↓keepV, ↓Option.bind_some, ↓Option.bind, List.isEmpty_nil, Bool.true_and, Nat.reduceBEq, List.getD_cons_zero, List.getD_cons_succ, dat_ints60, eqw_ints, ne_eq, reduceCtorEq, not_false_eq_true, isi_NoneType_bool, isi_NoneType_int, isi_NoneType_str, isi_NoneType_tuple, isi_NoneType_list, isi_bool_bool, isi_bool_int, isi_bool_str, isi_bool_tuple, isi_bool_list, isi_int_bool, isi_int_int, isi_int_str, isi_int_tuple, isi_int_list, isi_str_bool, isi_str_int, isi_str_str, isi_str_tuple, isi_str_list, isi_tuple_bool, isi_tuple_int, isi_tuple_str, isi_tuple_tuple, isi_tuple_list, isi_list_bool, isi_list_int, isi_list_str, isi_list_tuple, isi_list_list, eqw_self_int, eqw_self_bl, eqw_self_str, Bool.not_true, Bool.not_false, W.dat, List.map_cons, List.map_nil, List.length_cons, List.length_nil, List.replicate, List.cons_append, List.nil_append, List.getElem?_cons_zero, List.getElem?_cons_succ, List.set_cons_zero, List.set_cons_succ, Nat.reduceAdd, Nat.reduceSub, y_isN, at5_0, at5_1, at5_2, at5_3, at5_4, ix5_0, ix5_1, ix5_2, ix5_3, ix5_4, updA_same, updA_upd, true_and, and_true, decide_eq_true_eq, reduceIte, Bool.false_eq_true, Nat.zero_add, t__law_greater, List.length_map]
  refine ⟨by omega, by omega, lc_map (fun w => match w with
    | .int i => .int (max (as.getD i.toNat 0) (bs.getD i.toNat 0))
    | _ => .non) _ _ (by rw [rngW_len]; show 0 + _ ≤ 2 ^ 24; omega) (fun w hw R hR => ?_) ?_⟩
  · obtain ⟨i, hi, rfl⟩ := rngW_mem hw
    have hi : i < as.length := by omega
    have hj : i < bs.length := by omega
    have e1 : atI (as.map W.int) (i : Int) = some (.int as[i]) := atI_nat (by rw [List.getElem?_map, List.getElem?_eq_getElem hi]; rfl)
    have e2 : atI (bs.map W.int) (i : Int) = some (.int bs[i]) := atI_nat (by rw [List.getElem?_map, List.getElem?_eq_getElem hj]; rfl)
    simp (maxSteps := 2000000) only [↓startA, ↓aRet, ↓aRetN, ↓aNext, ↓aSeq, ↓aIf, ↓aDrop, ↓aSet, ↓aNs, ↓aAsg, ↓aPar, ↓aBrk, ↓aCnt, ↓aFor, ↓aCB, ↓aOp2, ↓aTst, ↓aAndT, ↓aOrT, ↓aNotT, ↓aIfE, ↓aAndV, ↓aOrV, ↓aNotV, ↓aNeg, ↓aChn, ↓rCons, ↓rNil, ↓aLc, ↓iZp, ↓iRg1, ↓iRg2, ↓iLst, ↓iTpl, ↓aCons, ↓aNil, ↓aFz, ↓aVar, ↓aC, ↓aTup, ↓aLst, ↓aSl, ↓aPart, ↓aNoPart, ↓aYes, ↓aCall, ↓aCallK, ↓gKw, ↓gKwG, ↓gNm, ↓gTp, ↓y_gsCons, ↓y_gsNil, ↓y_gSet, ↓ixK, ↓plc, ↓putE, ↓putH, ↓aLm, ↓isSeq, ↓fAppend, ↓view, ↓viewW, ↓viewS, ↓Vw.items, ↓Vw.seq, ↓Vw.tpl, ↓y_ix, ↓y_len, ↓y_tupC, ↓y_lstC, ↓y_isi, ↓Vw.tyName, ↓W.tyName, ↓oEq, ↓Vw.ok, ↓Vw.toW, ↓Vw.isNon, ↓oII, ↓oAdd, ↓o2I, ↓o1I, ↓oSl, ↓RV.sv, ↓Cont.fz, ↓wipeA, ↓mend, ↓keepV, ↓Option.bind_some, ↓Option.bind, List.isEmpty_nil, Bool.true_and, Nat.reduceBEq, List.getD_cons_zero, List.getD_cons_succ, dat_ints60, eqw_ints, ne_eq, reduceCtorEq, not_false_eq_true, isi_NoneType_bool, isi_NoneType_int, isi_NoneType_str, isi_NoneType_tuple, isi_NoneType_list, isi_bool_bool, isi_bool_int, isi_bool_str, isi_bool_tuple, isi_bool_list, isi_int_bool, isi_int_int, isi_int_str, isi_int_tuple, isi_int_list, isi_str_bool, isi_str_int, isi_str_str, isi_str_tuple, isi_str_list, isi_tuple_bool, isi_tuple_int, isi_tuple_str, isi_tuple_tuple, isi_tuple_list, isi_list_bool, isi_list_int, isi_list_str, isi_list_tuple, isi_list_list, eqw_self_int, eqw_self_bl, eqw_self_str, Bool.not_true, Bool.not_false, W.dat, List.map_cons, List.map_nil, List.length_cons, List.length_nil, List.replicate, List.cons_append, List.nil_append, List.getElem?_cons_zero, List.getElem?_cons_succ, List.set_cons_zero, List.set_cons_succ, Nat.reduceAdd, Nat.reduceSub, y_isN, at5_0, at5_1, at5_2, at5_3, at5_4, ix5_0, ix5_1, ix5_2, ix5_3, ix5_4, updA_same, updA_upd, true_and, and_true, decide_eq_true_eq, reduceIte, Bool.false_eq_true, Nat.zero_add, e1, e2, max_eq]
    simpa [List.getD_eq_getElem?_getD, hi, hj] using hR
  · rw [List.nil_append, rngW_map, show (as.length : Int).toNat = as.length from rfl, rng_pairs (fun a b => W.int (max a b)) (fun i => .int (max (as.getD i.toNat 0) (bs.getD i.toNat 0))) hb (fun i a b ea eb => by simp [List.getD_eq_getElem?_getD, ea, eb]), zw_map]
    exact ⟨h, fun _ _ e => e, q⟩
theorem q__law_apart (ws : List W) (h : AH) (Qa : RR → AH → Prop) (Ea : AExc → AH → Prop) (_ : ws.length = 2) (z : sp__law_apart ws h Qa Ea) : t__law_apart (excOf Ea) (endsOf Qa) (startA 3 ws) h := by
  unfold sp__law_apart at z
  split at z
  case h_2 => exact z.elim
  obtain ⟨as, bs, rfl, rfl, hl, hb, q⟩ := z
  simp (maxSteps := 2000000) only [↓startA, ↓aRet, ↓aRetN, ↓aNext, ↓aSeq, ↓aIf, ↓aDrop, ↓aSet, ↓aNs, ↓aAsg, ↓aPar, ↓aBrk, ↓aCnt, ↓aFor, ↓aCB, ↓aOp2, ↓aTst, ↓aAndT, ↓aOrT, ↓aNotT, ↓aIfE, ↓aAndV, ↓aOrV, ↓aNotV, ↓aNeg, ↓aChn, ↓rCons, ↓rNil, ↓aLc, ↓iZp, ↓iRg1, ↓iRg2, ↓iLst, ↓iTpl, ↓aCons, ↓aNil, ↓aFz, ↓aVar, ↓aC, ↓aTup, ↓aLst, ↓aSl, ↓aPart, ↓aNoPart, ↓aYes, ↓aCall, ↓aCallK, ↓gKw, ↓gKwG, ↓gNm, ↓gTp, ↓y_gsCons, ↓y_gsNil, ↓y_gSet, ↓ixK, ↓plc, ↓putE, ↓putH, ↓aLm, ↓isSeq, ↓fAppend, ↓view, ↓viewW, ↓viewS, ↓Vw.items, ↓Vw.seq, ↓Vw.tpl, ↓y_ix, ↓y_len, ↓y_tupC, ↓y_lstC, ↓y_isi, ↓Vw.tyName, ↓W.tyName, ↓oEq, ↓Vw.ok, ↓Vw.toW, ↓Vw.isNon, ↓oII, ↓oAdd, ↓o2I, ↓o1I, ↓oSl, ↓RV.sv, ↓Cont.fz, ↓wipeA, ↓mend, ↓keepV, ↓Option.bind_some, ↓Option.bind, List.isEmpty_nil, Bool.true_and, Nat.reduceBEq, List.getD_cons_zero, List.getD_cons_succ, dat_ints60, eqw_ints, ne_eq, reduceCtorEq, not_false_eq_true, isi_NoneType_bool, isi_NoneType_int, isi_NoneType_str, isi_NoneType_tuple, isi_NoneType_list, isi_bool_bool, isi_bool_int, isi_bool_str, isi_bool_tuple, isi_bool_list, isi_int_bool, isi_int_int, isi_int_str, isi_int_tuple, isi_int_list, isi_str_bool, isi_str_int, isi_str_str, isi_str_tuple, isi_str_list, isi_tuple_bool, isi_tuple_int, isi_tuple_str, isi_tuple_tuple, isi_tuple_list, isi_list_bool, isi_list_int, isi_list_str, isi_list_tuple, isi_list_list, eqw_self_int, eqw_self_bl, eqw_self_str, Bool.not_true, Bool.not_false, W.dat, List.map_cons, List.map_nil, List.length_cons, List.length_nil, List.replicate, List.cons_append, List.nil_append, List.getElem?_cons_zero, List.getElem?_cons_succ, List.set_cons_zero, List.set_cons_succ, Nat.reduceAdd, Nat.reduceSub, y_isN, at5_0, at5_1, at5_2, at5_3, at5_4, ix5_0, ix5_1, ix5_2, ix5_3, ix5_4, updA_same, updA_upd, true_and, and_true, decide_eq_true_eq, reduceIte, Bool.false_eq_true, Nat.zero_add, t__law_apart, List.length_map]
  refine ⟨by omega, by omega, lc_map (fun w => match w with
    | .int i => .int ((as.getD i.toNat 0 - bs.getD i.toNat 0).natAbs : Int)
    | _ => .non) _ _ (by rw [rngW_len]; show 0 + _ ≤ 2 ^ 24; omega) (fun w hw R hR => ?_) ?_⟩
  · obtain ⟨i, hi, rfl⟩ := rngW_mem hw
    have hi : i < as.length := by omega
    have hj : i < bs.length := by omega
    have e1 : atI (as.map W.int) (i : Int) = some (.int as[i]) := atI_nat (by rw [List.getElem?_map, List.getElem?_eq_getElem hi]; rfl)
    have e2 : atI (bs.map W.int) (i : Int) = some (.int bs[i]) := atI_nat (by rw [List.getElem?_map, List.getElem?_eq_getElem hj]; rfl)
    simp (maxSteps := 2000000) only [↓startA, ↓aRet, ↓aRetN, ↓aNext, ↓aSeq, ↓aIf, ↓aDrop, ↓aSet, ↓aNs, ↓aAsg, ↓aPar, ↓aBrk, ↓aCnt, ↓aFor, ↓aCB, ↓aOp2, ↓aTst, ↓aAndT, ↓aOrT, ↓aNotT, ↓aIfE, ↓aAndV, ↓aOrV, ↓aNotV, ↓aNeg, ↓aChn, ↓rCons, ↓rNil, ↓aLc, ↓iZp, ↓iRg1, ↓iRg2, ↓iLst, ↓iTpl, ↓aCons, ↓aNil, ↓aFz, ↓aVar, ↓aC, ↓aTup, ↓aLst, ↓aSl, ↓aPart, ↓aNoPart, ↓aYes, ↓aCall, ↓aCallK, ↓gKw, ↓gKwG, ↓gNm, ↓gTp, ↓y_gsCons, ↓y_gsNil, ↓y_gSet, ↓ixK, ↓plc, ↓putE, ↓putH, ↓aLm, ↓isSeq, ↓fAppend, ↓view, ↓viewW, ↓viewS, ↓Vw.items, ↓Vw.seq, ↓Vw.tpl, ↓y_ix, ↓y_len, ↓y_tupC, ↓y_lstC, ↓y_isi, ↓Vw.tyName, ↓W.tyName, ↓oEq, ↓Vw.ok, ↓Vw.toW, ↓Vw.isNon, ↓oII, ↓oAdd, ↓o2I, ↓o1I, ↓oSl, ↓RV.sv, ↓Cont.fz, ↓wipeA, ↓mend, ↓keepV, ↓Option.bind_some, ↓Option.bind, List.isEmpty_nil, Bool.true_and, Nat.reduceBEq, List.getD_cons_zero, List.getD_cons_succ, dat_ints60, eqw_ints, ne_eq, reduceCtorEq, not_false_eq_true, isi_NoneType_bool, isi_NoneType_int, isi_NoneType_str, isi_NoneType_tuple, isi_NoneType_list, isi_bool_bool, isi_bool_int, isi_bool_str, isi_bool_tuple, isi_bool_list, isi_int_bool, isi_int_int, isi_int_str, isi_int_tuple, isi_int_list, isi_str_bool, isi_str_int, isi_str_str, isi_str_tuple, isi_str_list, isi_tuple_bool, isi_tuple_int, isi_tuple_str, isi_tuple_tuple, isi_tuple_list, isi_list_bool, isi_list_int, isi_list_str, isi_list_tuple, isi_list_list, eqw_self_int, eqw_self_bl, eqw_self_str, Bool.not_true, Bool.not_false, W.dat, List.map_cons, List.map_nil, List.length_cons, List.length_nil, List.replicate, List.cons_append, List.nil_append, List.getElem?_cons_zero, List.getElem?_cons_succ, List.set_cons_zero, List.set_cons_succ, Nat.reduceAdd, Nat.reduceSub, y_isN, at5_0, at5_1, at5_2, at5_3, at5_4, ix5_0, ix5_1, ix5_2, ix5_3, ix5_4, updA_same, updA_upd, true_and, and_true, decide_eq_true_eq, reduceIte, Bool.false_eq_true, Nat.zero_add, e1, e2, abs_eq]
    simpa [List.getD_eq_getElem?_getD, hi, hj] using hR
  · rw [List.nil_append, rngW_map, show (as.length : Int).toNat = as.length from rfl, rng_pairs (fun a b => W.int ((a - b).natAbs : Int)) (fun i => .int ((as.getD i.toNat 0 - bs.getD i.toNat 0).natAbs : Int)) hb (fun i a b ea eb => by simp [List.getD_eq_getElem?_getD, ea, eb]), zw_map]
    exact ⟨_, rfl, h, fun _ _ e => e, q⟩
-- SPS sp__law_take sp__law_pick pickP sp__law_same sameP sp_lesser sp_greater sp_within sp_apart sp__law_lesser sp__law_greater sp__law_apart
/-! ### the law -/
theorem m_law : SpMono sp_law := fun _ _ _ _ _ _ k _ ⟨ns, e, l, q⟩ => ⟨ns, e, l, fun h' => k _ _ (q h')⟩
abbrev EL (ns : List Int) (p : Addr) (x2 x3 x5 x7 x8 x9 x10 : Option SV) : AEnv := [some (.val (.lst (ns.map .int))), some (.val (.ref p)), x2, x3, none, x5, none, x7, x8, x9, x10]
theorem all2_ints {P : Int → Prop} : ∀ {ws ys : List W}, All2 (fun _ y => ∃ i : Int, y = .int i ∧ P i) ws ys → ∃ as : List Int, ys = as.map .int ∧ as.length = ws.length ∧ ∀ a ∈ as, P a
  | _, _, .nil => ⟨[], rfl, rfl, fun _ h => by cases h⟩
  | _, _, .cons ⟨i, e, hp⟩ r => by
    obtain ⟨as, e2, l, h⟩ := all2_ints r
    subst e e2
    exact ⟨i :: as, rfl, by rw [List.length_cons, List.length_cons, l], fun a ha => by
      rcases List.mem_cons.mp ha with rfl | ha
      · exact hp
      · exact h a ha⟩
theorem zw_comm {α : Type} (f : Int → Int → α) (hf : ∀ a b, f a b = f b a) (as bs : List Int) : List.zipWith f bs as = List.zipWith f as bs := by
  rw [List.zipWith_comm]
  congr 1
  funext a b
  exact hf b a
theorem zw_self : ∀ as : List Int, (List.zipWith (fun a b => ((a - b).natAbs : Int)) as as).sum = 0
  | [] => rfl
  | a :: as => by
    rw [List.zipWith_cons_cons, List.sum_cons, zw_self as]
    omega
theorem le_min : ∀ (as bs : List Int), as.length = bs.length → (List.zipWith (fun a b => decide (a ≤ b)) as bs).all id = decide (List.zipWith min as bs = as)
  | [], [], _ => rfl
  | [], _ :: _, h => by simp at h
  | _ :: _, [], h => by simp at h
  | a :: as, b :: bs, h => by
    have ih := le_min as bs (by simpa using h)
    simp only [List.zipWith_cons_cons, List.all_cons, ih, List.cons.injEq, id]
    by_cases h1 : a ≤ b
    · simp [h1, Int.min_eq_left h1]
    · have h2 : ¬ min a b = a := fun e => h1 (by rw [← e]; exact Int.min_le_right a b)
      simp [h1, h2]
theorem min_le : ∀ (as bs : List Int), (List.zipWith (fun a b => decide (a ≤ b)) (List.zipWith min as bs) as).all id = true
  | [], _ => rfl
  | _ :: _, [] => rfl
  | a :: as, b :: bs => by
    simp only [List.zipWith_cons_cons, List.all_cons, min_le as bs, id, Bool.and_true, decide_eq_true_eq]
    exact Int.min_le_left a b
theorem le_max : ∀ (as bs : List Int), (List.zipWith (fun a b => decide (a ≤ b)) as (List.zipWith max as bs)).all id = true
  | [], _ => rfl
  | _ :: _, [] => rfl
  | a :: as, b :: bs => by
    simp only [List.zipWith_cons_cons, List.all_cons, le_max as bs, id, Bool.and_true, decide_eq_true_eq]
    exact Int.le_max_left a b
theorem q_law (ws : List W) (h : AH) (Qa : RR → AH → Prop) (Ea : AExc → AH → Prop) (_ : ws.length = 1) (z : sp_law ws h Qa Ea) : t_law (excOf Ea) (endsOf Qa) (startA 11 ws) h := by
  obtain ⟨ns, rfl, hl, q⟩ := z
  simp (maxSteps := 2000000) only [↓startA, ↓aRet, ↓aRetN, ↓aNext, ↓aSeq, ↓aIf, ↓aDrop, ↓aSet, ↓aNs, ↓aAsg, ↓aPar, ↓aBrk, ↓aCnt, ↓aFor, ↓aCB, ↓aOp2, ↓aTst, ↓aAndT, ↓aOrT, ↓aNotT, ↓aIfE, ↓aAndV, ↓aOrV, ↓aNotV, ↓aNeg, ↓aChn, ↓rCons, ↓rNil, ↓aLc, ↓iZp, ↓iRg1, ↓iRg2, ↓iLst, ↓iTpl, ↓aCons, ↓aNil, ↓aFz, ↓aVar, ↓aC, ↓aTup, ↓aLst, ↓aSl, ↓aPart, ↓aNoPart, ↓aYes, ↓aCall, ↓aCallK, ↓gKw, ↓gKwG, ↓gNm, ↓gTp, ↓y_gsCons, ↓y_gsNil, ↓y_gSet, ↓ixK, ↓plc, ↓putE, ↓putH, ↓aLm, ↓isSeq, ↓fAppend, ↓view, ↓viewW, ↓viewS, ↓Vw.items, ↓Vw.seq, ↓Vw.tpl, ↓y_ix, ↓y_len, ↓y_tupC, ↓y_lstC, ↓y_isi, ↓Vw.tyName, ↓W.tyName, ↓oEq, ↓Vw.ok, ↓Vw.toW, ↓Vw.isNon, ↓oII, ↓oAdd, ↓o2I, ↓o1I, ↓oSl, ↓RV.sv, ↓Cont.fz, ↓wipeA, ↓mend, ↓keepV, ↓Option.bind_some, ↓Option.bind, List.isEmpty_nil, Bool.true_and, Nat.reduceBEq, List.getD_cons_zero, List.getD_cons_succ, dat_ints60, eqw_ints, ne_eq, reduceCtorEq, not_false_eq_true, isi_NoneType_bool, isi_NoneType_int, isi_NoneType_str, isi_NoneType_tuple, isi_NoneType_list, isi_bool_bool, isi_bool_int, isi_bool_str, isi_bool_tuple, isi_bool_list, isi_int_bool, isi_int_int, isi_int_str, isi_int_tuple, isi_int_list, isi_str_bool, isi_str_int, isi_str_str, isi_str_tuple, isi_str_list, isi_tuple_bool, isi_tuple_int, isi_tuple_str, isi_tuple_tuple, isi_tuple_list, isi_list_bool, isi_list_int, isi_list_str, isi_list_tuple, isi_list_list, eqw_self_int, eqw_self_bl, eqw_self_str, Bool.not_true, Bool.not_false, W.dat, List.map_cons, List.map_nil, List.length_cons, List.length_nil, List.replicate, List.cons_append, List.nil_append, List.getElem?_cons_zero, List.getElem?_cons_succ, List.set_cons_zero, List.set_cons_succ, Nat.reduceAdd, Nat.reduceSub, y_isN, at5_0, at5_1, at5_2, at5_3, at5_4, ix5_0, ix5_1, ix5_2, ix5_3, ix5_4, updA_same, updA_upd, true_and, and_true, decide_eq_true_eq, reduceIte, Bool.false_eq_true, Nat.zero_add, t_law, ↓sp__law_open]
  refine ⟨ns, rfl, hl, ?_⟩
  simp (maxSteps := 2000000) only [↓startA, ↓aRet, ↓aRetN, ↓aNext, ↓aSeq, ↓aIf, ↓aDrop, ↓aSet, ↓aNs, ↓aAsg, ↓aPar, ↓aBrk, ↓aCnt, ↓aFor, ↓aCB, ↓aOp2, ↓aTst, ↓aAndT, ↓aOrT, ↓aNotT, ↓aIfE, ↓aAndV, ↓aOrV, ↓aNotV, ↓aNeg, ↓aChn, ↓rCons, ↓rNil, ↓aLc, ↓iZp, ↓iRg1, ↓iRg2, ↓iLst, ↓iTpl, ↓aCons, ↓aNil, ↓aFz, ↓aVar, ↓aC, ↓aTup, ↓aLst, ↓aSl, ↓aPart, ↓aNoPart, ↓aYes, ↓aCall, ↓aCallK, ↓gKw, ↓gKwG, ↓gNm, ↓gTp, ↓y_gsCons, ↓y_gsNil, ↓y_gSet, ↓ixK, ↓plc, ↓putE, ↓putH, ↓aLm, ↓isSeq, ↓fAppend, ↓view, ↓viewW, ↓viewS, ↓Vw.items, ↓Vw.seq, ↓Vw.tpl, ↓y_ix, ↓y_len, ↓y_tupC, ↓y_lstC, ↓y_isi, ↓Vw.tyName, ↓W.tyName, ↓oEq, ↓Vw.ok, ↓Vw.toW, ↓Vw.isNon, ↓oII, ↓oAdd, ↓o2I, ↓o1I, ↓oSl, ↓RV.sv, ↓Cont.fz, ↓wipeA, ↓mend, ↓keepV, ↓Option.bind_some, ↓Option.bind, List.isEmpty_nil, Bool.true_and, Nat.reduceBEq, List.getD_cons_zero, List.getD_cons_succ, dat_ints60, eqw_ints, ne_eq, reduceCtorEq, not_false_eq_true, isi_NoneType_bool, isi_NoneType_int, isi_NoneType_str, isi_NoneType_tuple, isi_NoneType_list, isi_bool_bool, isi_bool_int, isi_bool_str, isi_bool_tuple, isi_bool_list, isi_int_bool, isi_int_int, isi_int_str, isi_int_tuple, isi_int_list, isi_str_bool, isi_str_int, isi_str_str, isi_str_tuple, isi_str_list, isi_tuple_bool, isi_tuple_int, isi_tuple_str, isi_tuple_tuple, isi_tuple_list, isi_list_bool, isi_list_int, isi_list_str, isi_list_tuple, isi_list_list, eqw_self_int, eqw_self_bl, eqw_self_str, Bool.not_true, Bool.not_false, W.dat, List.map_cons, List.map_nil, List.length_cons, List.length_nil, List.replicate, List.cons_append, List.nil_append, List.getElem?_cons_zero, List.getElem?_cons_succ, List.set_cons_zero, List.set_cons_succ, Nat.reduceAdd, Nat.reduceSub, y_isN, at5_0, at5_1, at5_2, at5_3, at5_4, ix5_0, ix5_1, ix5_2, ix5_3, ix5_4, updA_same, updA_upd, true_and, and_true, decide_eq_true_eq, reduceIte, Bool.false_eq_true, Nat.zero_add, aProm]
  refine fun p hp => ⟨by decide, by decide, ?_⟩
  refine loop_ind (fun ws e k => ∃ x2 x3 x5 x7 x8 x9 x10, e = EL ns p x2 x3 x5 x7 x8 x9 x10 ∧ ws.length ≤ 8 ∧ Bag ((8 - ws.length) * 1000) k p) ?_ ?_ _ _ _ ⟨none, none, none, none, none, none, none, rfl, by rw [rngW_len]; decide, bag_new.le (by omega)⟩
  · rintro e k ⟨x2, x3, x5, x7, x8, x9, x10, rfl, _, b⟩
    exact ⟨k, fun _ _ e => e, q k⟩
  · rintro w ws e k N ⟨x2, x3, x5, x7, x8, x9, x10, rfl, hw, b⟩ hN
    rw [List.length_cons] at hw b
    generalize hn : (8 - (ws.length + 1)) * 1000 = n at b
    have hn2 : n + 1000 = (8 - ws.length) * 1000 := by omega
    show aSeq _ _ _ (EL ns p (some (.val w)) x3 x5 x7 x8 x9 x10) k
    -- a row
    refine seq_post (fun e k' => ∃ as : List Int, as.length ≤ 4 ∧ e = EL ns p (some (.val w)) (some (.val (.tup (as.map .int)))) x5 x7 x8 x9 x10 ∧ Bag (n + 5) k' p) (fun N' hN' => ?_) ?_
    · simp (maxSteps := 2000000) only [↓startA, ↓aRet, ↓aRetN, ↓aNext, ↓aSeq, ↓aIf, ↓aDrop, ↓aSet, ↓aNs, ↓aAsg, ↓aPar, ↓aBrk, ↓aCnt, ↓aFor, ↓aCB, ↓aOp2, ↓aTst, ↓aAndT, ↓aOrT, ↓aNotT, ↓aIfE, ↓aAndV, ↓aOrV, ↓aNotV, ↓aNeg, ↓aChn, ↓rCons, ↓rNil, ↓aLc, ↓iZp, ↓iRg1, ↓iRg2, ↓iLst, ↓iTpl, ↓aCons, ↓aNil, ↓aFz, ↓aVar, ↓aC, ↓aTup, ↓aLst, ↓aSl, ↓aPart, ↓aNoPart, ↓aYes, ↓aCall, ↓aCallK, ↓gKw, ↓gKwG, ↓gNm, ↓gTp, ↓y_gsCons, ↓y_gsNil, ↓y_gSet, ↓ixK, ↓plc, ↓putE, ↓putH, ↓aLm, ↓isSeq, ↓fAppend, ↓view, ↓viewW, ↓viewS, ↓Vw.items, ↓Vw.seq, ↓Vw.tpl, ↓y_ix, ↓y_len, ↓y_tupC, ↓y_lstC, ↓y_isi, ↓Vw.tyName, ↓W.tyName, ↓oEq, ↓Vw.ok, ↓Vw.toW, ↓Vw.isNon, ↓oII, ↓oAdd, ↓o2I, ↓o1I, ↓oSl, ↓RV.sv, ↓Cont.fz, ↓wipeA, ↓mend, ↓keepV, ↓Option.bind_some, ↓Option.bind, List.isEmpty_nil, Bool.true_and, Nat.reduceBEq, List.getD_cons_zero, List.getD_cons_succ, dat_ints60, eqw_ints, ne_eq, reduceCtorEq, not_false_eq_true, isi_NoneType_bool, isi_NoneType_int, isi_NoneType_str, isi_NoneType_tuple, isi_NoneType_list, isi_bool_bool, isi_bool_int, isi_bool_str, isi_bool_tuple, isi_bool_list, isi_int_bool, isi_int_int, isi_int_str, isi_int_tuple, isi_int_list, isi_str_bool, isi_str_int, isi_str_str, isi_str_tuple, isi_str_list, isi_tuple_bool, isi_tuple_int, isi_tuple_str, isi_tuple_tuple, isi_tuple_list, isi_list_bool, isi_list_int, isi_list_str, isi_list_tuple, isi_list_list, eqw_self_int, eqw_self_bl, eqw_self_str, Bool.not_true, Bool.not_false, W.dat, List.map_cons, List.map_nil, List.length_cons, List.length_nil, List.replicate, List.cons_append, List.nil_append, List.getElem?_cons_zero, List.getElem?_cons_succ, List.set_cons_zero, List.set_cons_succ, Nat.reduceAdd, Nat.reduceSub, y_isN, at5_0, at5_1, at5_2, at5_3, at5_4, ix5_0, ix5_1, ix5_2, ix5_3, ix5_4, updA_same, updA_upd, true_and, and_true, decide_eq_true_eq, reduceIte, Bool.false_eq_true, Nat.zero_add, ↓sp__law_take, ↓sp__law_pick, ↓pickP, ↓sp__law_same, ↓sameP, ↓sp_lesser, ↓sp_greater, ↓sp_within, ↓sp_apart, ↓sp__law_lesser, ↓sp__law_greater, ↓sp__law_apart]
      refine ⟨n, b, by omega, by decide, by decide, fun m h1 m0 m1 b1 _ => ⟨by omega, by omega, ?_⟩⟩
      refine lc_draw (fun i h' => Bag (n + 1 + i) h' p) (fun _ y => ∃ i : Int, y = .int i ∧ True) _ _ 0 _ (by rw [rngW_len]; show 0 + _ ≤ 2 ^ 24; omega) b1 (fun w' hw' i h2 li b2 R hR => ?_) fun ys h2 ay b2 => ?_
      · simp (maxSteps := 2000000) only [↓startA, ↓aRet, ↓aRetN, ↓aNext, ↓aSeq, ↓aIf, ↓aDrop, ↓aSet, ↓aNs, ↓aAsg, ↓aPar, ↓aBrk, ↓aCnt, ↓aFor, ↓aCB, ↓aOp2, ↓aTst, ↓aAndT, ↓aOrT, ↓aNotT, ↓aIfE, ↓aAndV, ↓aOrV, ↓aNotV, ↓aNeg, ↓aChn, ↓rCons, ↓rNil, ↓aLc, ↓iZp, ↓iRg1, ↓iRg2, ↓iLst, ↓iTpl, ↓aCons, ↓aNil, ↓aFz, ↓aVar, ↓aC, ↓aTup, ↓aLst, ↓aSl, ↓aPart, ↓aNoPart, ↓aYes, ↓aCall, ↓aCallK, ↓gKw, ↓gKwG, ↓gNm, ↓gTp, ↓y_gsCons, ↓y_gsNil, ↓y_gSet, ↓ixK, ↓plc, ↓putE, ↓putH, ↓aLm, ↓isSeq, ↓fAppend, ↓view, ↓viewW, ↓viewS, ↓Vw.items, ↓Vw.seq, ↓Vw.tpl, ↓y_ix, ↓y_len, ↓y_tupC, ↓y_lstC, ↓y_isi, ↓Vw.tyName, ↓W.tyName, ↓oEq, ↓Vw.ok, ↓Vw.toW, ↓Vw.isNon, ↓oII, ↓oAdd, ↓o2I, ↓o1I, ↓oSl, ↓RV.sv, ↓Cont.fz, ↓wipeA, ↓mend, ↓keepV, ↓Option.bind_some, ↓Option.bind, List.isEmpty_nil, Bool.true_and, Nat.reduceBEq, List.getD_cons_zero, List.getD_cons_succ, dat_ints60, eqw_ints, ne_eq, reduceCtorEq, not_false_eq_true, isi_NoneType_bool, isi_NoneType_int, isi_NoneType_str, isi_NoneType_tuple, isi_NoneType_list, isi_bool_bool, isi_bool_int, isi_bool_str, isi_bool_tuple, isi_bool_list, isi_int_bool, isi_int_int, isi_int_str, isi_int_tuple, isi_int_list, isi_str_bool, isi_str_int, isi_str_str, isi_str_tuple, isi_str_list, isi_tuple_bool, isi_tuple_int, isi_tuple_str, isi_tuple_tuple, isi_tuple_list, isi_list_bool, isi_list_int, isi_list_str, isi_list_tuple, isi_list_list, eqw_self_int, eqw_self_bl, eqw_self_str, Bool.not_true, Bool.not_false, W.dat, List.map_cons, List.map_nil, List.length_cons, List.length_nil, List.replicate, List.cons_append, List.nil_append, List.getElem?_cons_zero, List.getElem?_cons_succ, List.set_cons_zero, List.set_cons_succ, Nat.reduceAdd, Nat.reduceSub, y_isN, at5_0, at5_1, at5_2, at5_3, at5_4, ix5_0, ix5_1, ix5_2, ix5_3, ix5_4, updA_same, updA_upd, true_and, and_true, decide_eq_true_eq, reduceIte, Bool.false_eq_true, Nat.zero_add, ↓sp__law_take, ↓sp__law_pick, ↓pickP, ↓sp__law_same, ↓sameP, ↓sp_lesser, ↓sp_greater, ↓sp_within, ↓sp_apart, ↓sp__law_lesser, ↓sp__law_greater, ↓sp__law_apart]
        rw [rngW_len] at li
        exact ⟨_, b2, by omega, by decide, by decide, fun m h' _ _ b3 _ => hR _ _ ⟨m, rfl, trivial⟩ (b3.le (by omega))⟩
      · obtain ⟨as, rfl, la, _⟩ := all2_ints ay
        rw [rngW_len] at la b2
        exact hN' _ _ ⟨as, by omega, rfl, b2.le (by omega)⟩
    rintro e k ⟨as, la, rfl, b⟩
    refine seq_post (fun e k' => ∃ as : List Int, 1 ≤ as.length ∧ as.length ≤ 5 ∧ e = EL ns p (some (.val w)) (some (.val (.tup (as.map .int)))) x5 x7 x8 x9 x10 ∧ Bag (n + 10) k' p) (fun N' hN' => ?_) ?_
    · simp (maxSteps := 2000000) only [↓startA, ↓aRet, ↓aRetN, ↓aNext, ↓aSeq, ↓aIf, ↓aDrop, ↓aSet, ↓aNs, ↓aAsg, ↓aPar, ↓aBrk, ↓aCnt, ↓aFor, ↓aCB, ↓aOp2, ↓aTst, ↓aAndT, ↓aOrT, ↓aNotT, ↓aIfE, ↓aAndV, ↓aOrV, ↓aNotV, ↓aNeg, ↓aChn, ↓rCons, ↓rNil, ↓aLc, ↓iZp, ↓iRg1, ↓iRg2, ↓iLst, ↓iTpl, ↓aCons, ↓aNil, ↓aFz, ↓aVar, ↓aC, ↓aTup, ↓aLst, ↓aSl, ↓aPart, ↓aNoPart, ↓aYes, ↓aCall, ↓aCallK, ↓gKw, ↓gKwG, ↓gNm, ↓gTp, ↓y_gsCons, ↓y_gsNil, ↓y_gSet, ↓ixK, ↓plc, ↓putE, ↓putH, ↓aLm, ↓isSeq, ↓fAppend, ↓view, ↓viewW, ↓viewS, ↓Vw.items, ↓Vw.seq, ↓Vw.tpl, ↓y_ix, ↓y_len, ↓y_tupC, ↓y_lstC, ↓y_isi, ↓Vw.tyName, ↓W.tyName, ↓oEq, ↓Vw.ok, ↓Vw.toW, ↓Vw.isNon, ↓oII, ↓oAdd, ↓o2I, ↓o1I, ↓oSl, ↓RV.sv, ↓Cont.fz, ↓wipeA, ↓mend, ↓keepV, ↓Option.bind_some, ↓Option.bind, List.isEmpty_nil, Bool.true_and, Nat.reduceBEq, List.getD_cons_zero, List.getD_cons_succ, dat_ints60, eqw_ints, ne_eq, reduceCtorEq, not_false_eq_true, isi_NoneType_bool, isi_NoneType_int, isi_NoneType_str, isi_NoneType_tuple, isi_NoneType_list, isi_bool_bool, isi_bool_int, isi_bool_str, isi_bool_tuple, isi_bool_list, isi_int_bool, isi_int_int, isi_int_str, isi_int_tuple, isi_int_list, isi_str_bool, isi_str_int, isi_str_str, isi_str_tuple, isi_str_list, isi_tuple_bool, isi_tuple_int, isi_tuple_str, isi_tuple_tuple, isi_tuple_list, isi_list_bool, isi_list_int, isi_list_str, isi_list_tuple, isi_list_list, eqw_self_int, eqw_self_bl, eqw_self_str, Bool.not_true, Bool.not_false, W.dat, List.map_cons, List.map_nil, List.length_cons, List.length_nil, List.replicate, List.cons_append, List.nil_append, List.getElem?_cons_zero, List.getElem?_cons_succ, List.set_cons_zero, List.set_cons_succ, Nat.reduceAdd, Nat.reduceSub, y_isN, at5_0, at5_1, at5_2, at5_3, at5_4, ix5_0, ix5_1, ix5_2, ix5_3, ix5_4, updA_same, updA_upd, true_and, and_true, decide_eq_true_eq, reduceIte, Bool.false_eq_true, Nat.zero_add, ↓sp__law_take, ↓sp__law_pick, ↓pickP, ↓sp__law_same, ↓sameP, ↓sp_lesser, ↓sp_greater, ↓sp_within, ↓sp_apart, ↓sp__law_lesser, ↓sp__law_greater, ↓sp__law_apart]
      refine ⟨_, b, by omega, by decide, by decide, fun m h1 m0 m1 b1 _ => ⟨⟨by decide, by decide, by decide⟩, _, b1, by omega, by decide, by decide, fun m2 h2 _ _ b2 _ => ⟨by decide, _, b2, by omega, by decide, fun y h3 hy b3 _ => ?_⟩⟩⟩
      obtain ⟨z, rfl⟩ : ∃ z, y = .int z := by
        simp only [List.mem_cons, List.not_mem_nil, or_false] at hy
        rcases hy with rfl | rfl <;> exact ⟨_, rfl⟩
      refine ⟨by decide, by rw [List.length_map]; show as.length + 1 ≤ 2 ^ 24; omega, hN' _ _ ⟨as ++ [z], by simp, by simp; omega, by simp, b3.le (by omega)⟩⟩
    clear la b
    rintro e k ⟨as, l1, la, rfl, b⟩
    refine seq_post (fun e k' => ∃ bs : List Int, bs.length = as.length ∧ e = EL ns p (some (.val w)) (some (.val (.tup (as.map .int)))) (some (.val (.tup (bs.map .int)))) x7 x8 x9 x10 ∧ Bag (n + 100) k' p) (fun N' hN' => ?_) ?_
    · simp (maxSteps := 2000000) only [↓startA, ↓aRet, ↓aRetN, ↓aNext, ↓aSeq, ↓aIf, ↓aDrop, ↓aSet, ↓aNs, ↓aAsg, ↓aPar, ↓aBrk, ↓aCnt, ↓aFor, ↓aCB, ↓aOp2, ↓aTst, ↓aAndT, ↓aOrT, ↓aNotT, ↓aIfE, ↓aAndV, ↓aOrV, ↓aNotV, ↓aNeg, ↓aChn, ↓rCons, ↓rNil, ↓aLc, ↓iZp, ↓iRg1, ↓iRg2, ↓iLst, ↓iTpl, ↓aCons, ↓aNil, ↓aFz, ↓aVar, ↓aC, ↓aTup, ↓aLst, ↓aSl, ↓aPart, ↓aNoPart, ↓aYes, ↓aCall, ↓aCallK, ↓gKw, ↓gKwG, ↓gNm, ↓gTp, ↓y_gsCons, ↓y_gsNil, ↓y_gSet, ↓ixK, ↓plc, ↓putE, ↓putH, ↓aLm, ↓isSeq, ↓fAppend, ↓view, ↓viewW, ↓viewS, ↓Vw.items, ↓Vw.seq, ↓Vw.tpl, ↓y_ix, ↓y_len, ↓y_tupC, ↓y_lstC, ↓y_isi, ↓Vw.tyName, ↓W.tyName, ↓oEq, ↓Vw.ok, ↓Vw.toW, ↓Vw.isNon, ↓oII, ↓oAdd, ↓o2I, ↓o1I, ↓oSl, ↓RV.sv, ↓Cont.fz, ↓wipeA, ↓mend, ↓keepV, ↓Option.bind_some, ↓Option.bind, List.isEmpty_nil, Bool.true_and, Nat.reduceBEq, List.getD_cons_zero, List.getD_cons_succ, dat_ints60, eqw_ints, ne_eq, reduceCtorEq, not_false_eq_true, isi_NoneType_bool, isi_NoneType_int, isi_NoneType_str, isi_NoneType_tuple, isi_NoneType_list, isi_bool_bool, isi_bool_int, isi_bool_str, isi_bool_tuple, isi_bool_list, isi_int_bool, isi_int_int, isi_int_str, isi_int_tuple, isi_int_list, isi_str_bool, isi_str_int, isi_str_str, isi_str_tuple, isi_str_list, isi_tuple_bool, isi_tuple_int, isi_tuple_str, isi_tuple_tuple, isi_tuple_list, isi_list_bool, isi_list_int, isi_list_str, isi_list_tuple, isi_list_list, eqw_self_int, eqw_self_bl, eqw_self_str, Bool.not_true, Bool.not_false, W.dat, List.map_cons, List.map_nil, List.length_cons, List.length_nil, List.replicate, List.cons_append, List.nil_append, List.getElem?_cons_zero, List.getElem?_cons_succ, List.set_cons_zero, List.set_cons_succ, Nat.reduceAdd, Nat.reduceSub, y_isN, at5_0, at5_1, at5_2, at5_3, at5_4, ix5_0, ix5_1, ix5_2, ix5_3, ix5_4, updA_same, updA_upd, true_and, and_true, decide_eq_true_eq, reduceIte, Bool.false_eq_true, Nat.zero_add, ↓sp__law_take, ↓sp__law_pick, ↓pickP, ↓sp__law_same, ↓sameP, ↓sp_lesser, ↓sp_greater, ↓sp_within, ↓sp_apart, ↓sp__law_lesser, ↓sp__law_greater, ↓sp__law_apart]
      refine .inr ?_
      simp (maxSteps := 2000000) only [↓startA, ↓aRet, ↓aRetN, ↓aNext, ↓aSeq, ↓aIf, ↓aDrop, ↓aSet, ↓aNs, ↓aAsg, ↓aPar, ↓aBrk, ↓aCnt, ↓aFor, ↓aCB, ↓aOp2, ↓aTst, ↓aAndT, ↓aOrT, ↓aNotT, ↓aIfE, ↓aAndV, ↓aOrV, ↓aNotV, ↓aNeg, ↓aChn, ↓rCons, ↓rNil, ↓aLc, ↓iZp, ↓iRg1, ↓iRg2, ↓iLst, ↓iTpl, ↓aCons, ↓aNil, ↓aFz, ↓aVar, ↓aC, ↓aTup, ↓aLst, ↓aSl, ↓aPart, ↓aNoPart, ↓aYes, ↓aCall, ↓aCallK, ↓gKw, ↓gKwG, ↓gNm, ↓gTp, ↓y_gsCons, ↓y_gsNil, ↓y_gSet, ↓ixK, ↓plc, ↓putE, ↓putH, ↓aLm, ↓isSeq, ↓fAppend, ↓view, ↓viewW, ↓viewS, ↓Vw.items, ↓Vw.seq, ↓Vw.tpl, ↓y_ix, ↓y_len, ↓y_tupC, ↓y_lstC, ↓y_isi, ↓Vw.tyName, ↓W.tyName, ↓oEq, ↓Vw.ok, ↓Vw.toW, ↓Vw.isNon, ↓oII, ↓oAdd, ↓o2I, ↓o1I, ↓oSl, ↓RV.sv, ↓Cont.fz, ↓wipeA, ↓mend, ↓keepV, ↓Option.bind_some, ↓Option.bind, List.isEmpty_nil, Bool.true_and, Nat.reduceBEq, List.getD_cons_zero, List.getD_cons_succ, dat_ints60, eqw_ints, ne_eq, reduceCtorEq, not_false_eq_true, isi_NoneType_bool, isi_NoneType_int, isi_NoneType_str, isi_NoneType_tuple, isi_NoneType_list, isi_bool_bool, isi_bool_int, isi_bool_str, isi_bool_tuple, isi_bool_list, isi_int_bool, isi_int_int, isi_int_str, isi_int_tuple, isi_int_list, isi_str_bool, isi_str_int, isi_str_str, isi_str_tuple, isi_str_list, isi_tuple_bool, isi_tuple_int, isi_tuple_str, isi_tuple_tuple, isi_tuple_list, isi_list_bool, isi_list_int, isi_list_str, isi_list_tuple, isi_list_list, eqw_self_int, eqw_self_bl, eqw_self_str, Bool.not_true, Bool.not_false, W.dat, List.map_cons, List.map_nil, List.length_cons, List.length_nil, List.replicate, List.cons_append, List.nil_append, List.getElem?_cons_zero, List.getElem?_cons_succ, List.set_cons_zero, List.set_cons_succ, Nat.reduceAdd, Nat.reduceSub, y_isN, at5_0, at5_1, at5_2, at5_3, at5_4, ix5_0, ix5_1, ix5_2, ix5_3, ix5_4, updA_same, updA_upd, true_and, and_true, decide_eq_true_eq, reduceIte, Bool.false_eq_true, Nat.zero_add, ↓sp__law_take, ↓sp__law_pick, ↓pickP, ↓sp__law_same, ↓sameP, ↓sp_lesser, ↓sp_greater, ↓sp_within, ↓sp_apart, ↓sp__law_lesser, ↓sp__law_greater, ↓sp__law_apart]
      refine lc_draw (fun i h' => Bag (n + 10 + 2 * i) h' p) (fun _ y => ∃ i : Int, y = .int i ∧ True) _ _ 0 _ (by rw [List.length_map]; show 0 + _ ≤ 2 ^ 24; omega) b (fun w' hw' i h2 li b2 R hR => ?_) fun ys h2 ay b2 => ?_
      · obtain ⟨x, _, rfl⟩ := List.mem_map.mp hw'
        rw [List.length_map] at li
        simp (maxSteps := 2000000) only [↓startA, ↓aRet, ↓aRetN, ↓aNext, ↓aSeq, ↓aIf, ↓aDrop, ↓aSet, ↓aNs, ↓aAsg, ↓aPar, ↓aBrk, ↓aCnt, ↓aFor, ↓aCB, ↓aOp2, ↓aTst, ↓aAndT, ↓aOrT, ↓aNotT, ↓aIfE, ↓aAndV, ↓aOrV, ↓aNotV, ↓aNeg, ↓aChn, ↓rCons, ↓rNil, ↓aLc, ↓iZp, ↓iRg1, ↓iRg2, ↓iLst, ↓iTpl, ↓aCons, ↓aNil, ↓aFz, ↓aVar, ↓aC, ↓aTup, ↓aLst, ↓aSl, ↓aPart, ↓aNoPart, ↓aYes, ↓aCall, ↓aCallK, ↓gKw, ↓gKwG, ↓gNm, ↓gTp, ↓y_gsCons, ↓y_gsNil, ↓y_gSet, ↓ixK, ↓plc, ↓putE, ↓putH, ↓aLm, ↓isSeq, ↓fAppend, ↓view, ↓viewW, ↓viewS, ↓Vw.items, ↓Vw.seq, ↓Vw.tpl, ↓y_ix, ↓y_len, ↓y_tupC, ↓y_lstC, ↓y_isi, ↓Vw.tyName, ↓W.tyName, ↓oEq, ↓Vw.ok, ↓Vw.toW, ↓Vw.isNon, ↓oII, ↓oAdd, ↓o2I, ↓o1I, ↓oSl, ↓RV.sv, ↓Cont.fz, ↓wipeA, ↓mend, ↓keepV, ↓Option.bind_some, ↓Option.bind, List.isEmpty_nil, Bool.true_and, Nat.reduceBEq, List.getD_cons_zero, List.getD_cons_succ, dat_ints60, eqw_ints, ne_eq, reduceCtorEq, not_false_eq_true, isi_NoneType_bool, isi_NoneType_int, isi_NoneType_str, isi_NoneType_tuple, isi_NoneType_list, isi_bool_bool, isi_bool_int, isi_bool_str, isi_bool_tuple, isi_bool_list, isi_int_bool, isi_int_int, isi_int_str, isi_int_tuple, isi_int_list, isi_str_bool, isi_str_int, isi_str_str, isi_str_tuple, isi_str_list, isi_tuple_bool, isi_tuple_int, isi_tuple_str, isi_tuple_tuple, isi_tuple_list, isi_list_bool, isi_list_int, isi_list_str, isi_list_tuple, isi_list_list, eqw_self_int, eqw_self_bl, eqw_self_str, Bool.not_true, Bool.not_false, W.dat, List.map_cons, List.map_nil, List.length_cons, List.length_nil, List.replicate, List.cons_append, List.nil_append, List.getElem?_cons_zero, List.getElem?_cons_succ, List.set_cons_zero, List.set_cons_succ, Nat.reduceAdd, Nat.reduceSub, y_isN, at5_0, at5_1, at5_2, at5_3, at5_4, ix5_0, ix5_1, ix5_2, ix5_3, ix5_4, updA_same, updA_upd, true_and, and_true, decide_eq_true_eq, reduceIte, Bool.false_eq_true, Nat.zero_add, ↓sp__law_take, ↓sp__law_pick, ↓pickP, ↓sp__law_same, ↓sameP, ↓sp_lesser, ↓sp_greater, ↓sp_within, ↓sp_apart, ↓sp__law_lesser, ↓sp__law_greater, ↓sp__law_apart]
        refine ⟨_, b2, by omega, by decide, by decide, fun m h3 _ _ b3 _ => ⟨by decide, _, b3, by omega, by decide, fun y h4 hy b4 _ => ?_⟩⟩
        obtain ⟨z, rfl⟩ : ∃ z, y = .int z := by
          simp only [List.mem_cons, List.not_mem_nil, or_false] at hy
          rcases hy with rfl | rfl | rfl | rfl | rfl <;> exact ⟨_, rfl⟩
        simp (maxSteps := 2000000) only [↓startA, ↓aRet, ↓aRetN, ↓aNext, ↓aSeq, ↓aIf, ↓aDrop, ↓aSet, ↓aNs, ↓aAsg, ↓aPar, ↓aBrk, ↓aCnt, ↓aFor, ↓aCB, ↓aOp2, ↓aTst, ↓aAndT, ↓aOrT, ↓aNotT, ↓aIfE, ↓aAndV, ↓aOrV, ↓aNotV, ↓aNeg, ↓aChn, ↓rCons, ↓rNil, ↓aLc, ↓iZp, ↓iRg1, ↓iRg2, ↓iLst, ↓iTpl, ↓aCons, ↓aNil, ↓aFz, ↓aVar, ↓aC, ↓aTup, ↓aLst, ↓aSl, ↓aPart, ↓aNoPart, ↓aYes, ↓aCall, ↓aCallK, ↓gKw, ↓gKwG, ↓gNm, ↓gTp, ↓y_gsCons, ↓y_gsNil, ↓y_gSet, ↓ixK, ↓plc, ↓putE, ↓putH, ↓aLm, ↓isSeq, ↓fAppend, ↓view, ↓viewW, ↓viewS, ↓Vw.items, ↓Vw.seq, ↓Vw.tpl, ↓y_ix, ↓y_len, ↓y_tupC, ↓y_lstC, ↓y_isi, ↓Vw.tyName, ↓W.tyName, ↓oEq, ↓Vw.ok, ↓Vw.toW, ↓Vw.isNon, ↓oII, ↓oAdd, ↓o2I, ↓o1I, ↓oSl, ↓RV.sv, ↓Cont.fz, ↓wipeA, ↓mend, ↓keepV, ↓Option.bind_some, ↓Option.bind, List.isEmpty_nil, Bool.true_and, Nat.reduceBEq, List.getD_cons_zero, List.getD_cons_succ, dat_ints60, eqw_ints, ne_eq, reduceCtorEq, not_false_eq_true, isi_NoneType_bool, isi_NoneType_int, isi_NoneType_str, isi_NoneType_tuple, isi_NoneType_list, isi_bool_bool, isi_bool_int, isi_bool_str, isi_bool_tuple, isi_bool_list, isi_int_bool, isi_int_int, isi_int_str, isi_int_tuple, isi_int_list, isi_str_bool, isi_str_int, isi_str_str, isi_str_tuple, isi_str_list, isi_tuple_bool, isi_tuple_int, isi_tuple_str, isi_tuple_tuple, isi_tuple_list, isi_list_bool, isi_list_int, isi_list_str, isi_list_tuple, isi_list_list, eqw_self_int, eqw_self_bl, eqw_self_str, Bool.not_true, Bool.not_false, W.dat, List.map_cons, List.map_nil, List.length_cons, List.length_nil, List.replicate, List.cons_append, List.nil_append, List.getElem?_cons_zero, List.getElem?_cons_succ, List.set_cons_zero, List.set_cons_succ, Nat.reduceAdd, Nat.reduceSub, y_isN, at5_0, at5_1, at5_2, at5_3, at5_4, ix5_0, ix5_1, ix5_2, ix5_3, ix5_4, updA_same, updA_upd, true_and, and_true, decide_eq_true_eq, reduceIte, Bool.false_eq_true, Nat.zero_add, ↓sp__law_take, ↓sp__law_pick, ↓pickP, ↓sp__law_same, ↓sameP, ↓sp_lesser, ↓sp_greater, ↓sp_within, ↓sp_apart, ↓sp__law_lesser, ↓sp__law_greater, ↓sp__law_apart]
        exact hR _ _ ⟨_, rfl, trivial⟩ (b4.le (by omega))
      · obtain ⟨bs, rfl, lb, _⟩ := all2_ints ay
        rw [List.length_map] at lb b2
        exact hN' _ _ ⟨bs, lb, rfl, b2.le (by omega)⟩
    rintro e k ⟨bs, lb, rfl, b⟩
    have hlb : as.length ≤ 1000 := by omega
    have hbl : bs.length ≤ 1000 := by omega
    have bl : as.length = bs.length := lb.symm
    apply seq_step
    · intro N' hN'
      simp (maxSteps := 2000000) only [↓startA, ↓aRet, ↓aRetN, ↓aNext, ↓aSeq, ↓aIf, ↓aDrop, ↓aSet, ↓aNs, ↓aAsg, ↓aPar, ↓aBrk, ↓aCnt, ↓aFor, ↓aCB, ↓aOp2, ↓aTst, ↓aAndT, ↓aOrT, ↓aNotT, ↓aIfE, ↓aAndV, ↓aOrV, ↓aNotV, ↓aNeg, ↓aChn, ↓rCons, ↓rNil, ↓aLc, ↓iZp, ↓iRg1, ↓iRg2, ↓iLst, ↓iTpl, ↓aCons, ↓aNil, ↓aFz, ↓aVar, ↓aC, ↓aTup, ↓aLst, ↓aSl, ↓aPart, ↓aNoPart, ↓aYes, ↓aCall, ↓aCallK, ↓gKw, ↓gKwG, ↓gNm, ↓gTp, ↓y_gsCons, ↓y_gsNil, ↓y_gSet, ↓ixK, ↓plc, ↓putE, ↓putH, ↓aLm, ↓isSeq, ↓fAppend, ↓view, ↓viewW, ↓viewS, ↓Vw.items, ↓Vw.seq, ↓Vw.tpl, ↓y_ix, ↓y_len, ↓y_tupC, ↓y_lstC, ↓y_isi, ↓Vw.tyName, ↓W.tyName, ↓oEq, ↓Vw.ok, ↓Vw.toW, ↓Vw.isNon, ↓oII, ↓oAdd, ↓o2I, ↓o1I, ↓oSl, ↓RV.sv, ↓Cont.fz, ↓wipeA, ↓mend, ↓keepV, ↓Option.bind_some, ↓Option.bind, List.isEmpty_nil, Bool.true_and, Nat.reduceBEq, List.getD_cons_zero, List.getD_cons_succ, dat_ints60, eqw_ints, ne_eq, reduceCtorEq, not_false_eq_true, isi_NoneType_bool, isi_NoneType_int, isi_NoneType_str, isi_NoneType_tuple, isi_NoneType_list, isi_bool_bool, isi_bool_int, isi_bool_str, isi_bool_tuple, isi_bool_list, isi_int_bool, isi_int_int, isi_int_str, isi_int_tuple, isi_int_list, isi_str_bool, isi_str_int, isi_str_str, isi_str_tuple, isi_str_list, isi_tuple_bool, isi_tuple_int, isi_tuple_str, isi_tuple_tuple, isi_tuple_list, isi_list_bool, isi_list_int, isi_list_str, isi_list_tuple, isi_list_list, eqw_self_int, eqw_self_bl, eqw_self_str, Bool.not_true, Bool.not_false, W.dat, List.map_cons, List.map_nil, List.length_cons, List.length_nil, List.replicate, List.cons_append, List.nil_append, List.getElem?_cons_zero, List.getElem?_cons_succ, List.set_cons_zero, List.set_cons_succ, Nat.reduceAdd, Nat.reduceSub, y_isN, at5_0, at5_1, at5_2, at5_3, at5_4, ix5_0, ix5_1, ix5_2, ix5_3, ix5_4, updA_same, updA_upd, true_and, and_true, decide_eq_true_eq, reduceIte, Bool.false_eq_true, Nat.zero_add, ↓sp__law_take, ↓sp__law_pick, ↓pickP, ↓sp__law_same, ↓sameP, ↓sp_lesser, ↓sp_greater, ↓sp_within, ↓sp_apart, ↓sp__law_lesser, ↓sp__law_greater, ↓sp__law_apart]
      exact ⟨as, bs, rfl, rfl, hlb, bl, as, bs, rfl, rfl, hlb, bl, hN'⟩
    apply seq_step
    · intro N' hN'
      simp (maxSteps := 2000000) only [↓startA, ↓aRet, ↓aRetN, ↓aNext, ↓aSeq, ↓aIf, ↓aDrop, ↓aSet, ↓aNs, ↓aAsg, ↓aPar, ↓aBrk, ↓aCnt, ↓aFor, ↓aCB, ↓aOp2, ↓aTst, ↓aAndT, ↓aOrT, ↓aNotT, ↓aIfE, ↓aAndV, ↓aOrV, ↓aNotV, ↓aNeg, ↓aChn, ↓rCons, ↓rNil, ↓aLc, ↓iZp, ↓iRg1, ↓iRg2, ↓iLst, ↓iTpl, ↓aCons, ↓aNil, ↓aFz, ↓aVar, ↓aC, ↓aTup, ↓aLst, ↓aSl, ↓aPart, ↓aNoPart, ↓aYes, ↓aCall, ↓aCallK, ↓gKw, ↓gKwG, ↓gNm, ↓gTp, ↓y_gsCons, ↓y_gsNil, ↓y_gSet, ↓ixK, ↓plc, ↓putE, ↓putH, ↓aLm, ↓isSeq, ↓fAppend, ↓view, ↓viewW, ↓viewS, ↓Vw.items, ↓Vw.seq, ↓Vw.tpl, ↓y_ix, ↓y_len, ↓y_tupC, ↓y_lstC, ↓y_isi, ↓Vw.tyName, ↓W.tyName, ↓oEq, ↓Vw.ok, ↓Vw.toW, ↓Vw.isNon, ↓oII, ↓oAdd, ↓o2I, ↓o1I, ↓oSl, ↓RV.sv, ↓Cont.fz, ↓wipeA, ↓mend, ↓keepV, ↓Option.bind_some, ↓Option.bind, List.isEmpty_nil, Bool.true_and, Nat.reduceBEq, List.getD_cons_zero, List.getD_cons_succ, dat_ints60, eqw_ints, ne_eq, reduceCtorEq, not_false_eq_true, isi_NoneType_bool, isi_NoneType_int, isi_NoneType_str, isi_NoneType_tuple, isi_NoneType_list, isi_bool_bool, isi_bool_int, isi_bool_str, isi_bool_tuple, isi_bool_list, isi_int_bool, isi_int_int, isi_int_str, isi_int_tuple, isi_int_list, isi_str_bool, isi_str_int, isi_str_str, isi_str_tuple, isi_str_list, isi_tuple_bool, isi_tuple_int, isi_tuple_str, isi_tuple_tuple, isi_tuple_list, isi_list_bool, isi_list_int, isi_list_str, isi_list_tuple, isi_list_list, eqw_self_int, eqw_self_bl, eqw_self_str, Bool.not_true, Bool.not_false, W.dat, List.map_cons, List.map_nil, List.length_cons, List.length_nil, List.replicate, List.cons_append, List.nil_append, List.getElem?_cons_zero, List.getElem?_cons_succ, List.set_cons_zero, List.set_cons_succ, Nat.reduceAdd, Nat.reduceSub, y_isN, at5_0, at5_1, at5_2, at5_3, at5_4, ix5_0, ix5_1, ix5_2, ix5_3, ix5_4, updA_same, updA_upd, true_and, and_true, decide_eq_true_eq, reduceIte, Bool.false_eq_true, Nat.zero_add, ↓sp__law_take, ↓sp__law_pick, ↓pickP, ↓sp__law_same, ↓sameP, ↓sp_lesser, ↓sp_greater, ↓sp_within, ↓sp_apart, ↓sp__law_lesser, ↓sp__law_greater, ↓sp__law_apart]
      exact ⟨as, bs, rfl, rfl, hlb, as, bs, rfl, rfl, hlb, by decide, by decide, rfl, (by (try simp only [W.fit, W.fitL, fitL_ints, List.length_map, List.length_zipWith, List.length_cons, List.length_nil, Bool.and_eq_true, Bool.and_true, Bool.true_and, and_true, true_and, decide_eq_true_eq]) <;> omega), hN'⟩
    apply seq_step
    · intro N' hN'
      simp (maxSteps := 2000000) only [↓startA, ↓aRet, ↓aRetN, ↓aNext, ↓aSeq, ↓aIf, ↓aDrop, ↓aSet, ↓aNs, ↓aAsg, ↓aPar, ↓aBrk, ↓aCnt, ↓aFor, ↓aCB, ↓aOp2, ↓aTst, ↓aAndT, ↓aOrT, ↓aNotT, ↓aIfE, ↓aAndV, ↓aOrV, ↓aNotV, ↓aNeg, ↓aChn, ↓rCons, ↓rNil, ↓aLc, ↓iZp, ↓iRg1, ↓iRg2, ↓iLst, ↓iTpl, ↓aCons, ↓aNil, ↓aFz, ↓aVar, ↓aC, ↓aTup, ↓aLst, ↓aSl, ↓aPart, ↓aNoPart, ↓aYes, ↓aCall, ↓aCallK, ↓gKw, ↓gKwG, ↓gNm, ↓gTp, ↓y_gsCons, ↓y_gsNil, ↓y_gSet, ↓ixK, ↓plc, ↓putE, ↓putH, ↓aLm, ↓isSeq, ↓fAppend, ↓view, ↓viewW, ↓viewS, ↓Vw.items, ↓Vw.seq, ↓Vw.tpl, ↓y_ix, ↓y_len, ↓y_tupC, ↓y_lstC, ↓y_isi, ↓Vw.tyName, ↓W.tyName, ↓oEq, ↓Vw.ok, ↓Vw.toW, ↓Vw.isNon, ↓oII, ↓oAdd, ↓o2I, ↓o1I, ↓oSl, ↓RV.sv, ↓Cont.fz, ↓wipeA, ↓mend, ↓keepV, ↓Option.bind_some, ↓Option.bind, List.isEmpty_nil, Bool.true_and, Nat.reduceBEq, List.getD_cons_zero, List.getD_cons_succ, dat_ints60, eqw_ints, ne_eq, reduceCtorEq, not_false_eq_true, isi_NoneType_bool, isi_NoneType_int, isi_NoneType_str, isi_NoneType_tuple, isi_NoneType_list, isi_bool_bool, isi_bool_int, isi_bool_str, isi_bool_tuple, isi_bool_list, isi_int_bool, isi_int_int, isi_int_str, isi_int_tuple, isi_int_list, isi_str_bool, isi_str_int, isi_str_str, isi_str_tuple, isi_str_list, isi_tuple_bool, isi_tuple_int, isi_tuple_str, isi_tuple_tuple, isi_tuple_list, isi_list_bool, isi_list_int, isi_list_str, isi_list_tuple, isi_list_list, eqw_self_int, eqw_self_bl, eqw_self_str, Bool.not_true, Bool.not_false, W.dat, List.map_cons, List.map_nil, List.length_cons, List.length_nil, List.replicate, List.cons_append, List.nil_append, List.getElem?_cons_zero, List.getElem?_cons_succ, List.set_cons_zero, List.set_cons_succ, Nat.reduceAdd, Nat.reduceSub, y_isN, at5_0, at5_1, at5_2, at5_3, at5_4, ix5_0, ix5_1, ix5_2, ix5_3, ix5_4, updA_same, updA_upd, true_and, and_true, decide_eq_true_eq, reduceIte, Bool.false_eq_true, Nat.zero_add, ↓sp__law_take, ↓sp__law_pick, ↓pickP, ↓sp__law_same, ↓sameP, ↓sp_lesser, ↓sp_greater, ↓sp_within, ↓sp_apart, ↓sp__law_lesser, ↓sp__law_greater, ↓sp__law_apart]
      refine ⟨bs, as, rfl, rfl, hbl, as, bs, rfl, rfl, hlb, by decide, by decide, ?_, (by (try simp only [W.fit, W.fitL, fitL_ints, List.length_map, List.length_zipWith, List.length_cons, List.length_nil, Bool.and_eq_true, Bool.and_true, Bool.true_and, and_true, true_and, decide_eq_true_eq]) <;> omega), hN'⟩
      rw [zw_comm min Int.min_comm]
    apply seq_step
    · intro N' hN'
      simp (maxSteps := 2000000) only [↓startA, ↓aRet, ↓aRetN, ↓aNext, ↓aSeq, ↓aIf, ↓aDrop, ↓aSet, ↓aNs, ↓aAsg, ↓aPar, ↓aBrk, ↓aCnt, ↓aFor, ↓aCB, ↓aOp2, ↓aTst, ↓aAndT, ↓aOrT, ↓aNotT, ↓aIfE, ↓aAndV, ↓aOrV, ↓aNotV, ↓aNeg, ↓aChn, ↓rCons, ↓rNil, ↓aLc, ↓iZp, ↓iRg1, ↓iRg2, ↓iLst, ↓iTpl, ↓aCons, ↓aNil, ↓aFz, ↓aVar, ↓aC, ↓aTup, ↓aLst, ↓aSl, ↓aPart, ↓aNoPart, ↓aYes, ↓aCall, ↓aCallK, ↓gKw, ↓gKwG, ↓gNm, ↓gTp, ↓y_gsCons, ↓y_gsNil, ↓y_gSet, ↓ixK, ↓plc, ↓putE, ↓putH, ↓aLm, ↓isSeq, ↓fAppend, ↓view, ↓viewW, ↓viewS, ↓Vw.items, ↓Vw.seq, ↓Vw.tpl, ↓y_ix, ↓y_len, ↓y_tupC, ↓y_lstC, ↓y_isi, ↓Vw.tyName, ↓W.tyName, ↓oEq, ↓Vw.ok, ↓Vw.toW, ↓Vw.isNon, ↓oII, ↓oAdd, ↓o2I, ↓o1I, ↓oSl, ↓RV.sv, ↓Cont.fz, ↓wipeA, ↓mend, ↓keepV, ↓Option.bind_some, ↓Option.bind, List.isEmpty_nil, Bool.true_and, Nat.reduceBEq, List.getD_cons_zero, List.getD_cons_succ, dat_ints60, eqw_ints, ne_eq, reduceCtorEq, not_false_eq_true, isi_NoneType_bool, isi_NoneType_int, isi_NoneType_str, isi_NoneType_tuple, isi_NoneType_list, isi_bool_bool, isi_bool_int, isi_bool_str, isi_bool_tuple, isi_bool_list, isi_int_bool, isi_int_int, isi_int_str, isi_int_tuple, isi_int_list, isi_str_bool, isi_str_int, isi_str_str, isi_str_tuple, isi_str_list, isi_tuple_bool, isi_tuple_int, isi_tuple_str, isi_tuple_tuple, isi_tuple_list, isi_list_bool, isi_list_int, isi_list_str, isi_list_tuple, isi_list_list, eqw_self_int, eqw_self_bl, eqw_self_str, Bool.not_true, Bool.not_false, W.dat, List.map_cons, List.map_nil, List.length_cons, List.length_nil, List.replicate, List.cons_append, List.nil_append, List.getElem?_cons_zero, List.getElem?_cons_succ, List.set_cons_zero, List.set_cons_succ, Nat.reduceAdd, Nat.reduceSub, y_isN, at5_0, at5_1, at5_2, at5_3, at5_4, ix5_0, ix5_1, ix5_2, ix5_3, ix5_4, updA_same, updA_upd, true_and, and_true, decide_eq_true_eq, reduceIte, Bool.false_eq_true, Nat.zero_add, ↓sp__law_take, ↓sp__law_pick, ↓pickP, ↓sp__law_same, ↓sameP, ↓sp_lesser, ↓sp_greater, ↓sp_within, ↓sp_apart, ↓sp__law_lesser, ↓sp__law_greater, ↓sp__law_apart]
      exact ⟨as, bs, rfl, rfl, hlb, bl, hN'⟩
    apply seq_step
    · intro N' hN'
      simp (maxSteps := 2000000) only [↓startA, ↓aRet, ↓aRetN, ↓aNext, ↓aSeq, ↓aIf, ↓aDrop, ↓aSet, ↓aNs, ↓aAsg, ↓aPar, ↓aBrk, ↓aCnt, ↓aFor, ↓aCB, ↓aOp2, ↓aTst, ↓aAndT, ↓aOrT, ↓aNotT, ↓aIfE, ↓aAndV, ↓aOrV, ↓aNotV, ↓aNeg, ↓aChn, ↓rCons, ↓rNil, ↓aLc, ↓iZp, ↓iRg1, ↓iRg2, ↓iLst, ↓iTpl, ↓aCons, ↓aNil, ↓aFz, ↓aVar, ↓aC, ↓aTup, ↓aLst, ↓aSl, ↓aPart, ↓aNoPart, ↓aYes, ↓aCall, ↓aCallK, ↓gKw, ↓gKwG, ↓gNm, ↓gTp, ↓y_gsCons, ↓y_gsNil, ↓y_gSet, ↓ixK, ↓plc, ↓putE, ↓putH, ↓aLm, ↓isSeq, ↓fAppend, ↓view, ↓viewW, ↓viewS, ↓Vw.items, ↓Vw.seq, ↓Vw.tpl, ↓y_ix, ↓y_len, ↓y_tupC, ↓y_lstC, ↓y_isi, ↓Vw.tyName, ↓W.tyName, ↓oEq, ↓Vw.ok, ↓Vw.toW, ↓Vw.isNon, ↓oII, ↓oAdd, ↓o2I, ↓o1I, ↓oSl, ↓RV.sv, ↓Cont.fz, ↓wipeA, ↓mend, ↓keepV, ↓Option.bind_some, ↓Option.bind, List.isEmpty_nil, Bool.true_and, Nat.reduceBEq, List.getD_cons_zero, List.getD_cons_succ, dat_ints60, eqw_ints, ne_eq, reduceCtorEq, not_false_eq_true, isi_NoneType_bool, isi_NoneType_int, isi_NoneType_str, isi_NoneType_tuple, isi_NoneType_list, isi_bool_bool, isi_bool_int, isi_bool_str, isi_bool_tuple, isi_bool_list, isi_int_bool, isi_int_int, isi_int_str, isi_int_tuple, isi_int_list, isi_str_bool, isi_str_int, isi_str_str, isi_str_tuple, isi_str_list, isi_tuple_bool, isi_tuple_int, isi_tuple_str, isi_tuple_tuple, isi_tuple_list, isi_list_bool, isi_list_int, isi_list_str, isi_list_tuple, isi_list_list, eqw_self_int, eqw_self_bl, eqw_self_str, Bool.not_true, Bool.not_false, W.dat, List.map_cons, List.map_nil, List.length_cons, List.length_nil, List.replicate, List.cons_append, List.nil_append, List.getElem?_cons_zero, List.getElem?_cons_succ, List.set_cons_zero, List.set_cons_succ, Nat.reduceAdd, Nat.reduceSub, y_isN, at5_0, at5_1, at5_2, at5_3, at5_4, ix5_0, ix5_1, ix5_2, ix5_3, ix5_4, updA_same, updA_upd, true_and, and_true, decide_eq_true_eq, reduceIte, Bool.false_eq_true, Nat.zero_add, ↓sp__law_take, ↓sp__law_pick, ↓pickP, ↓sp__law_same, ↓sameP, ↓sp_lesser, ↓sp_greater, ↓sp_within, ↓sp_apart, ↓sp__law_lesser, ↓sp__law_greater, ↓sp__law_apart]
      refine ⟨as, bs, rfl, rfl, hlb, bs, as, rfl, rfl, hbl, as, as, rfl, rfl, hlb, by decide, by decide, ?_, (by (try simp only [W.fit, W.fitL, fitL_ints, List.length_map, List.length_zipWith, List.length_cons, List.length_nil, Bool.and_eq_true, Bool.and_true, Bool.true_and, and_true, true_and, decide_eq_true_eq]) <;> omega), hN'⟩
      rw [zw_self, zw_comm (fun a b => ((a - b).natAbs : Int)) fun a b => by omega]
    apply seq_step
    · intro N' hN'
      simp (maxSteps := 2000000) only [↓startA, ↓aRet, ↓aRetN, ↓aNext, ↓aSeq, ↓aIf, ↓aDrop, ↓aSet, ↓aNs, ↓aAsg, ↓aPar, ↓aBrk, ↓aCnt, ↓aFor, ↓aCB, ↓aOp2, ↓aTst, ↓aAndT, ↓aOrT, ↓aNotT, ↓aIfE, ↓aAndV, ↓aOrV, ↓aNotV, ↓aNeg, ↓aChn, ↓rCons, ↓rNil, ↓aLc, ↓iZp, ↓iRg1, ↓iRg2, ↓iLst, ↓iTpl, ↓aCons, ↓aNil, ↓aFz, ↓aVar, ↓aC, ↓aTup, ↓aLst, ↓aSl, ↓aPart, ↓aNoPart, ↓aYes, ↓aCall, ↓aCallK, ↓gKw, ↓gKwG, ↓gNm, ↓gTp, ↓y_gsCons, ↓y_gsNil, ↓y_gSet, ↓ixK, ↓plc, ↓putE, ↓putH, ↓aLm, ↓isSeq, ↓fAppend, ↓view, ↓viewW, ↓viewS, ↓Vw.items, ↓Vw.seq, ↓Vw.tpl, ↓y_ix, ↓y_len, ↓y_tupC, ↓y_lstC, ↓y_isi, ↓Vw.tyName, ↓W.tyName, ↓oEq, ↓Vw.ok, ↓Vw.toW, ↓Vw.isNon, ↓oII, ↓oAdd, ↓o2I, ↓o1I, ↓oSl, ↓RV.sv, ↓Cont.fz, ↓wipeA, ↓mend, ↓keepV, ↓Option.bind_some, ↓Option.bind, List.isEmpty_nil, Bool.true_and, Nat.reduceBEq, List.getD_cons_zero, List.getD_cons_succ, dat_ints60, eqw_ints, ne_eq, reduceCtorEq, not_false_eq_true, isi_NoneType_bool, isi_NoneType_int, isi_NoneType_str, isi_NoneType_tuple, isi_NoneType_list, isi_bool_bool, isi_bool_int, isi_bool_str, isi_bool_tuple, isi_bool_list, isi_int_bool, isi_int_int, isi_int_str, isi_int_tuple, isi_int_list, isi_str_bool, isi_str_int, isi_str_str, isi_str_tuple, isi_str_list, isi_tuple_bool, isi_tuple_int, isi_tuple_str, isi_tuple_tuple, isi_tuple_list, isi_list_bool, isi_list_int, isi_list_str, isi_list_tuple, isi_list_list, eqw_self_int, eqw_self_bl, eqw_self_str, Bool.not_true, Bool.not_false, W.dat, List.map_cons, List.map_nil, List.length_cons, List.length_nil, List.replicate, List.cons_append, List.nil_append, List.getElem?_cons_zero, List.getElem?_cons_succ, List.set_cons_zero, List.set_cons_succ, Nat.reduceAdd, Nat.reduceSub, y_isN, at5_0, at5_1, at5_2, at5_3, at5_4, ix5_0, ix5_1, ix5_2, ix5_3, ix5_4, updA_same, updA_upd, true_and, and_true, decide_eq_true_eq, reduceIte, Bool.false_eq_true, Nat.zero_add, ↓sp__law_take, ↓sp__law_pick, ↓pickP, ↓sp__law_same, ↓sameP, ↓sp_lesser, ↓sp_greater, ↓sp_within, ↓sp_apart, ↓sp__law_lesser, ↓sp__law_greater, ↓sp__law_apart]
      exact ⟨as, bs, rfl, rfl, hlb, bs, as, rfl, rfl, hbl, List.zipWith min as bs, as, rfl, rfl, by rw [List.length_zipWith]; omega, by decide, hN'⟩
    apply seq_step
    · intro N' hN'
      simp (maxSteps := 2000000) only [↓startA, ↓aRet, ↓aRetN, ↓aNext, ↓aSeq, ↓aIf, ↓aDrop, ↓aSet, ↓aNs, ↓aAsg, ↓aPar, ↓aBrk, ↓aCnt, ↓aFor, ↓aCB, ↓aOp2, ↓aTst, ↓aAndT, ↓aOrT, ↓aNotT, ↓aIfE, ↓aAndV, ↓aOrV, ↓aNotV, ↓aNeg, ↓aChn, ↓rCons, ↓rNil, ↓aLc, ↓iZp, ↓iRg1, ↓iRg2, ↓iLst, ↓iTpl, ↓aCons, ↓aNil, ↓aFz, ↓aVar, ↓aC, ↓aTup, ↓aLst, ↓aSl, ↓aPart, ↓aNoPart, ↓aYes, ↓aCall, ↓aCallK, ↓gKw, ↓gKwG, ↓gNm, ↓gTp, ↓y_gsCons, ↓y_gsNil, ↓y_gSet, ↓ixK, ↓plc, ↓putE, ↓putH, ↓aLm, ↓isSeq, ↓fAppend, ↓view, ↓viewW, ↓viewS, ↓Vw.items, ↓Vw.seq, ↓Vw.tpl, ↓y_ix, ↓y_len, ↓y_tupC, ↓y_lstC, ↓y_isi, ↓Vw.tyName, ↓W.tyName, ↓oEq, ↓Vw.ok, ↓Vw.toW, ↓Vw.isNon, ↓oII, ↓oAdd, ↓o2I, ↓o1I, ↓oSl, ↓RV.sv, ↓Cont.fz, ↓wipeA, ↓mend, ↓keepV, ↓Option.bind_some, ↓Option.bind, List.isEmpty_nil, Bool.true_and, Nat.reduceBEq, List.getD_cons_zero, List.getD_cons_succ, dat_ints60, eqw_ints, ne_eq, reduceCtorEq, not_false_eq_true, isi_NoneType_bool, isi_NoneType_int, isi_NoneType_str, isi_NoneType_tuple, isi_NoneType_list, isi_bool_bool, isi_bool_int, isi_bool_str, isi_bool_tuple, isi_bool_list, isi_int_bool, isi_int_int, isi_int_str, isi_int_tuple, isi_int_list, isi_str_bool, isi_str_int, isi_str_str, isi_str_tuple, isi_str_list, isi_tuple_bool, isi_tuple_int, isi_tuple_str, isi_tuple_tuple, isi_tuple_list, isi_list_bool, isi_list_int, isi_list_str, isi_list_tuple, isi_list_list, eqw_self_int, eqw_self_bl, eqw_self_str, Bool.not_true, Bool.not_false, W.dat, List.map_cons, List.map_nil, List.length_cons, List.length_nil, List.replicate, List.cons_append, List.nil_append, List.getElem?_cons_zero, List.getElem?_cons_succ, List.set_cons_zero, List.set_cons_succ, Nat.reduceAdd, Nat.reduceSub, y_isN, at5_0, at5_1, at5_2, at5_3, at5_4, ix5_0, ix5_1, ix5_2, ix5_3, ix5_4, updA_same, updA_upd, true_and, and_true, decide_eq_true_eq, reduceIte, Bool.false_eq_true, Nat.zero_add, ↓sp__law_take, ↓sp__law_pick, ↓pickP, ↓sp__law_same, ↓sameP, ↓sp_lesser, ↓sp_greater, ↓sp_within, ↓sp_apart, ↓sp__law_lesser, ↓sp__law_greater, ↓sp__law_apart]
      exact ⟨as, List.zipWith max as bs, rfl, rfl, hlb, by decide, hN'⟩
    simp (maxSteps := 2000000) only [↓startA, ↓aRet, ↓aRetN, ↓aNext, ↓aSeq, ↓aIf, ↓aDrop, ↓aSet, ↓aNs, ↓aAsg, ↓aPar, ↓aBrk, ↓aCnt, ↓aFor, ↓aCB, ↓aOp2, ↓aTst, ↓aAndT, ↓aOrT, ↓aNotT, ↓aIfE, ↓aAndV, ↓aOrV, ↓aNotV, ↓aNeg, ↓aChn, ↓rCons, ↓rNil, ↓aLc, ↓iZp, ↓iRg1, ↓iRg2, ↓iLst, ↓iTpl, ↓aCons, ↓aNil, ↓aFz, ↓aVar, ↓aC, ↓aTup, ↓aLst, ↓aSl, ↓aPart, ↓aNoPart, ↓aYes, ↓aCall, ↓aCallK, ↓gKw, ↓gKwG, ↓gNm, ↓gTp, ↓y_gsCons, ↓y_gsNil, ↓y_gSet, ↓ixK, ↓plc, ↓putE, ↓putH, ↓aLm, ↓isSeq, ↓fAppend, ↓view, ↓viewW, ↓viewS, ↓Vw.items, ↓Vw.seq, ↓Vw.tpl, ↓y_ix, ↓y_len, ↓y_tupC, ↓y_lstC, ↓y_isi, ↓Vw.tyName, ↓W.tyName, ↓oEq, ↓Vw.ok, ↓Vw.toW, ↓Vw.isNon, ↓oII, ↓oAdd, ↓o2I, ↓o1I, ↓oSl, ↓RV.sv, ↓Cont.fz, ↓wipeA, ↓mend, ↓keepV, ↓Option.bind_some, ↓Option.bind, List.isEmpty_nil, Bool.true_and, Nat.reduceBEq, List.getD_cons_zero, List.getD_cons_succ, dat_ints60, eqw_ints, ne_eq, reduceCtorEq, not_false_eq_true, isi_NoneType_bool, isi_NoneType_int, isi_NoneType_str, isi_NoneType_tuple, isi_NoneType_list, isi_bool_bool, isi_bool_int, isi_bool_str, isi_bool_tuple, isi_bool_list, isi_int_bool, isi_int_int, isi_int_str, isi_int_tuple, isi_int_list, isi_str_bool, isi_str_int, isi_str_str, isi_str_tuple, isi_str_list, isi_tuple_bool, isi_tuple_int, isi_tuple_str, isi_tuple_tuple, isi_tuple_list, isi_list_bool, isi_list_int, isi_list_str, isi_list_tuple, isi_list_list, eqw_self_int, eqw_self_bl, eqw_self_str, Bool.not_true, Bool.not_false, W.dat, List.map_cons, List.map_nil, List.length_cons, List.length_nil, List.replicate, List.cons_append, List.nil_append, List.getElem?_cons_zero, List.getElem?_cons_succ, List.set_cons_zero, List.set_cons_succ, Nat.reduceAdd, Nat.reduceSub, y_isN, at5_0, at5_1, at5_2, at5_3, at5_4, ix5_0, ix5_1, ix5_2, ix5_3, ix5_4, updA_same, updA_upd, true_and, and_true, decide_eq_true_eq, reduceIte, Bool.false_eq_true, Nat.zero_add, ↓sp__law_take, ↓sp__law_pick, ↓pickP, ↓sp__law_same, ↓sameP, ↓sp_lesser, ↓sp_greater, ↓sp_within, ↓sp_apart, ↓sp__law_lesser, ↓sp__law_greater, ↓sp__law_apart]
    refine ⟨by decide, ?_, (by (try simp only [W.fit, W.fitL, fitL_ints, List.length_map, List.length_zipWith, List.length_cons, List.length_nil, Bool.and_eq_true, Bool.and_true, Bool.true_and, and_true, true_and, decide_eq_true_eq]) <;> omega), hN _ _ ⟨_, _, _, _, _, _, _, rfl, by omega, b.le (by omega)⟩⟩
    rw [le_min as bs bl, le_min bs as lb, min_le, le_max, zw_comm min Int.min_comm as bs]
theorem law_says : ∀ ns : List Int, ns.length ≤ 63 → sp_law [W.lst (ns.map .int)] (fun _ => none) (fun r _ => r = .val (.bl true)) fun _ _ => False := fun ns h => ⟨ns, rfl, h, fun _ => rfl⟩
end Ab

namespace Ab
open PySem PySem.Spec PyProof.Rows L2 RZ
theorem o_lesser {P : Program} {w : World} {K : PySem.W.Frag} {mg : Str → Option Value} {base : Heap} {f : Addr} {fd : FuncData} (Z : Blt mg) (F : FunD K "lesser" "lesser" (defArgs s_lesser) (defBody s_lesser) (defScope s_lesser) [] [] f fd) (hm : mg "lesser" = some (.ref f))  : Ok P w K mg base "lesser" s_lesser 1 2 P_lesser sp_lesser :=
  Ok.mk' m_lesser hm F c_lesser rfl (fun cdv A outer s H EX G E hr gk tk => b_lesser Z  hr gk tk) q_lesser
theorem o_greater {P : Program} {w : World} {K : PySem.W.Frag} {mg : Str → Option Value} {base : Heap} {f : Addr} {fd : FuncData} (Z : Blt mg) (F : FunD K "greater" "greater" (defArgs s_greater) (defBody s_greater) (defScope s_greater) [] [] f fd) (hm : mg "greater" = some (.ref f))  : Ok P w K mg base "greater" s_greater 1 2 P_greater sp_greater :=
  Ok.mk' m_greater hm F c_greater rfl (fun cdv A outer s H EX G E hr gk tk => b_greater Z  hr gk tk) q_greater
theorem o_within {P : Program} {w : World} {K : PySem.W.Frag} {mg : Str → Option Value} {base : Heap} {f : Addr} {fd : FuncData} (Z : Blt mg) (F : FunD K "within" "within" (defArgs s_within) (defBody s_within) (defScope s_within) [] [] f fd) (hm : mg "within" = some (.ref f))  : Ok P w K mg base "within" s_within 1 2 P_within sp_within :=
  Ok.mk' m_within hm F c_within rfl (fun cdv A outer s H EX G E hr gk tk => b_within Z  hr gk tk) q_within
theorem o_apart {P : Program} {w : World} {K : PySem.W.Frag} {mg : Str → Option Value} {base : Heap} {f : Addr} {fd : FuncData} (Z : Blt mg) (F : FunD K "apart" "apart" (defArgs s_apart) (defBody s_apart) (defScope s_apart) [] [] f fd) (hm : mg "apart" = some (.ref f))  : Ok P w K mg base "apart" s_apart 1 2 P_apart sp_apart :=
  Ok.mk' m_apart hm F c_apart rfl (fun cdv A outer s H EX G E hr gk tk => b_apart Z  hr gk tk) q_apart
theorem o__law_open {P : Program} {w : World} {K : PySem.W.Frag} {mg : Str → Option Value} {base : Heap} {f : Addr} {fd : FuncData} (Z : Blt mg) (F : FunD K "_law_open" "_law_open" (defArgs s__law_open) (defBody s__law_open) (defScope s__law_open) [] [] f fd) (hm : mg "_law_open" = some (.ref f))  : Ok P w K mg base "_law_open" s__law_open 1 1 P__law_open sp__law_open :=
  Ok.mk' m__law_open hm F c__law_open rfl (fun cdv A outer s H EX G E hr gk tk => b__law_open Z  hr gk tk) q__law_open
theorem o__law_take {P : Program} {w : World} {K : PySem.W.Frag} {mg : Str → Option Value} {base : Heap} {f : Addr} {fd : FuncData} (Z : Blt mg) (F : FunD K "_law_take" "_law_take" (defArgs s__law_take) (defBody s__law_take) (defScope s__law_take) [] [] f fd) (hm : mg "_law_take" = some (.ref f))  : Ok P w K mg base "_law_take" s__law_take 1 2 P__law_take sp__law_take :=
  Ok.mk' m__law_take hm F c__law_take rfl (fun cdv A outer s H EX G E hr gk tk => b__law_take Z  hr gk tk) q__law_take
theorem o__law_pick {P : Program} {w : World} {K : PySem.W.Frag} {mg : Str → Option Value} {base : Heap} {f : Addr} {fd : FuncData} (Z : Blt mg) (F : FunD K "_law_pick" "_law_pick" (defArgs s__law_pick) (defBody s__law_pick) (defScope s__law_pick) [] [] f fd) (hm : mg "_law_pick" = some (.ref f)) (O__law_take : Ok P w K mg base "_law_take" s__law_take 1 2 P__law_take sp__law_take) : Ok P w K mg base "_law_pick" s__law_pick 2 2 P__law_pick sp__law_pick :=
  Ok.mk' m__law_pick hm F c__law_pick rfl (fun cdv A outer s H EX G E hr gk tk => b__law_pick Z O__law_take hr gk tk) q__law_pick
theorem o__law_same {P : Program} {w : World} {K : PySem.W.Frag} {mg : Str → Option Value} {base : Heap} {f : Addr} {fd : FuncData} (Z : Blt mg) (F : FunD K "_law_same" "_law_same" (defArgs s__law_same) (defBody s__law_same) (defScope s__law_same) [] [] f fd) (hm : mg "_law_same" = some (.ref f)) : ∀ d, Ok P w K mg base "_law_same" s__law_same (1 + d) 2 P__law_same (sp__law_same d)
  | 0 => (ok_none (n := 2) (ps := P__law_same) hm F).up (by omega) (m__law_same 0) (fun _ _ _ _ z => z)
  | d + 1 => Ok.mk' (k := 1 + d) (m__law_same (d + 1)) hm F c__law_same rfl (fun cdv A outer s H EX G E hr gk tk => b__law_same (d := d) (j := 1 + d) Z (o__law_same Z F hm d) (hr.mono (by omega)) gk tk) (q__law_same d)
theorem o__law_lesser {P : Program} {w : World} {K : PySem.W.Frag} {mg : Str → Option Value} {base : Heap} {f : Addr} {fd : FuncData} (Z : Blt mg) (F : FunD K "_law_lesser" "_law_lesser" (defArgs s__law_lesser) (defBody s__law_lesser) (defScope s__law_lesser) [] [] f fd) (hm : mg "_law_lesser" = some (.ref f))  : Ok P w K mg base "_law_lesser" s__law_lesser 1 2 P__law_lesser sp__law_lesser :=
  Ok.mk' m__law_lesser hm F c__law_lesser rfl (fun cdv A outer s H EX G E hr gk tk => b__law_lesser Z  hr gk tk) q__law_lesser
theorem o__law_greater {P : Program} {w : World} {K : PySem.W.Frag} {mg : Str → Option Value} {base : Heap} {f : Addr} {fd : FuncData} (Z : Blt mg) (F : FunD K "_law_greater" "_law_greater" (defArgs s__law_greater) (defBody s__law_greater) (defScope s__law_greater) [] [] f fd) (hm : mg "_law_greater" = some (.ref f))  : Ok P w K mg base "_law_greater" s__law_greater 1 2 P__law_greater sp__law_greater :=
  Ok.mk' m__law_greater hm F c__law_greater rfl (fun cdv A outer s H EX G E hr gk tk => b__law_greater Z  hr gk tk) q__law_greater
theorem o__law_apart {P : Program} {w : World} {K : PySem.W.Frag} {mg : Str → Option Value} {base : Heap} {f : Addr} {fd : FuncData} (Z : Blt mg) (F : FunD K "_law_apart" "_law_apart" (defArgs s__law_apart) (defBody s__law_apart) (defScope s__law_apart) [] [] f fd) (hm : mg "_law_apart" = some (.ref f))  : Ok P w K mg base "_law_apart" s__law_apart 1 2 P__law_apart sp__law_apart :=
  Ok.mk' m__law_apart hm F c__law_apart rfl (fun cdv A outer s H EX G E hr gk tk => b__law_apart Z  hr gk tk) q__law_apart
theorem o_law {P : Program} {w : World} {K : PySem.W.Frag} {mg : Str → Option Value} {base : Heap} {f : Addr} {fd : FuncData} (Z : Blt mg) (F : FunD K "law" "law" (defArgs s_law) (defBody s_law) (defScope s_law) [] [] f fd) (hm : mg "law" = some (.ref f)) (O__law_open : Ok P w K mg base "_law_open" s__law_open 1 1 P__law_open sp__law_open) (O__law_take : Ok P w K mg base "_law_take" s__law_take 1 2 P__law_take sp__law_take) (O__law_pick : Ok P w K mg base "_law_pick" s__law_pick 2 2 P__law_pick sp__law_pick) (O__law_greater : Ok P w K mg base "_law_greater" s__law_greater 1 2 P__law_greater sp__law_greater) (O__law_lesser : Ok P w K mg base "_law_lesser" s__law_lesser 1 2 P__law_lesser sp__law_lesser) (O__law_same : Ok P w K mg base "_law_same" s__law_same 5 2 P__law_same (sp__law_same 4)) (O_greater : Ok P w K mg base "greater" s_greater 1 2 P_greater sp_greater) (O_lesser : Ok P w K mg base "lesser" s_lesser 1 2 P_lesser sp_lesser) (O__law_apart : Ok P w K mg base "_law_apart" s__law_apart 1 2 P__law_apart sp__law_apart) (O_apart : Ok P w K mg base "apart" s_apart 1 2 P_apart sp_apart) (O_within : Ok P w K mg base "within" s_within 1 2 P_within sp_within) : Ok P w K mg base "law" s_law 6 1 P_law sp_law :=
  Ok.mk' m_law hm F c_law rfl (fun cdv A outer s H EX G E hr gk tk => b_law Z O__law_open O__law_take O__law_pick O__law_greater O__law_lesser O__law_same O_greater O_lesser O__law_apart O_apart O_within hr gk tk) q_law
end Ab

namespace Ab
open PySem PySem.Spec PyProof.Rows L2 RZ
def d_lesser : He.DefD := ⟨("lesser", none), "lesser", "lesser", defArgs s_lesser, defBody s_lesser, defScope s_lesser, [], []⟩
def d_greater : He.DefD := ⟨("greater", none), "greater", "greater", defArgs s_greater, defBody s_greater, defScope s_greater, [], []⟩
def d_within : He.DefD := ⟨("within", none), "within", "within", defArgs s_within, defBody s_within, defScope s_within, [], []⟩
def d_apart : He.DefD := ⟨("apart", none), "apart", "apart", defArgs s_apart, defBody s_apart, defScope s_apart, [], []⟩
def d__law_open : He.DefD := ⟨("_law_open", none), "_law_open", "_law_open", defArgs s__law_open, defBody s__law_open, defScope s__law_open, [], []⟩
def d__law_take : He.DefD := ⟨("_law_take", none), "_law_take", "_law_take", defArgs s__law_take, defBody s__law_take, defScope s__law_take, [], []⟩
def d__law_pick : He.DefD := ⟨("_law_pick", none), "_law_pick", "_law_pick", defArgs s__law_pick, defBody s__law_pick, defScope s__law_pick, [], []⟩
def d__law_same : He.DefD := ⟨("_law_same", none), "_law_same", "_law_same", defArgs s__law_same, defBody s__law_same, defScope s__law_same, [], []⟩
def d__law_lesser : He.DefD := ⟨("_law_lesser", none), "_law_lesser", "_law_lesser", defArgs s__law_lesser, defBody s__law_lesser, defScope s__law_lesser, [], []⟩
def d__law_greater : He.DefD := ⟨("_law_greater", none), "_law_greater", "_law_greater", defArgs s__law_greater, defBody s__law_greater, defScope s__law_greater, [], []⟩
def d__law_apart : He.DefD := ⟨("_law_apart", none), "_law_apart", "_law_apart", defArgs s__law_apart, defBody s__law_apart, defScope s__law_apart, [], []⟩
def d_law : He.DefD := ⟨("law", none), "law", "law", defArgs s_law, defBody s_law, defScope s_law, [], []⟩
def hFn : List He.DefD := [d_lesser, d_greater, d_within, d_apart, d__law_open, d__law_take, d__law_pick, d__law_same, d__law_lesser, d__law_greater, d__law_apart, d_law]
def hFa : List He.Fa := [.glo "lesser", .glo "greater", .glo "within", .glo "apart", .glo "_law_open", .glo "_law_take", .glo "_law_pick", .glo "_law_same", .glo "_law_lesser", .glo "_law_greater", .glo "_law_apart", .glo "law", .free "abs", .free "all", .free "bool", .free "int", .free "isinstance", .free "len", .free "list", .free "max", .free "min", .free "range", .free "str", .free "sum", .free "tuple", .free "zip"]
def hNm0 : List Str := ["__name__", "lesser", "greater", "within", "apart", "_law_open", "_law_take", "_law_pick", "_law_same", "_law_lesser", "_law_greater", "_law_apart"]
def hNms : List Str := hNm0
abbrev hR : PySem.W.OpenRow := PySem.W.OpenLaw.row PySem.Challenge.rw_hidelater_k04_rows_of_numbers_beside_one
abbrev hHk : PySem.W.Hook := hookK hFa hFn
def hOb (s : PySem.W.SharedT) : He.AlD := obsK hFa hFn (HandSHeadRun.getT s)
theorem hOb_eq (s : PySem.W.SharedT) : hOb s = hHk.obs s.abs := obsK_eq (HandSHeadRun.getT_eq s)
theorem hRun (w : World) : HandSHeadRun.RunEq hR (PySem.W.view hR.prog [13]) hHk hOb 3000 hNms w := by
  intro os
  kernel_rfl
theorem hFacts {P : Program} {w : World} {K : PySem.W.Frag} {h : Heap} {mg : Str → Option Value} {f : Addr} (X : K.In h) (G : h.Ns mainGlobals mg) (hfa : mg ("law" : Str) = some (.ref f)) (c : He.SaysD hFa hFn K) :
    ∃ fd : FuncData, (∀ (s : Shared) (v : Value), BindsTo s fd ⟨[v], []⟩ [("_law_script", v)]) ∧ ∀ base : Heap, FnOk P w K mg base (L2.CX P w) 6 f fd P_law (cSp K 1 sp_law) := by
  obtain ⟨fd_lesser, F_lesser⟩ := c.def_ 0 (d := d_lesser) rfl
  have g_lesser := He.glo_ok X G (c.fact 0 (f := .glo "lesser") rfl)
  obtain ⟨fd_greater, F_greater⟩ := c.def_ 1 (d := d_greater) rfl
  have g_greater := He.glo_ok X G (c.fact 1 (f := .glo "greater") rfl)
  obtain ⟨fd_within, F_within⟩ := c.def_ 2 (d := d_within) rfl
  have g_within := He.glo_ok X G (c.fact 2 (f := .glo "within") rfl)
  obtain ⟨fd_apart, F_apart⟩ := c.def_ 3 (d := d_apart) rfl
  have g_apart := He.glo_ok X G (c.fact 3 (f := .glo "apart") rfl)
  obtain ⟨fd__law_open, F__law_open⟩ := c.def_ 4 (d := d__law_open) rfl
  have g__law_open := He.glo_ok X G (c.fact 4 (f := .glo "_law_open") rfl)
  obtain ⟨fd__law_take, F__law_take⟩ := c.def_ 5 (d := d__law_take) rfl
  have g__law_take := He.glo_ok X G (c.fact 5 (f := .glo "_law_take") rfl)
  obtain ⟨fd__law_pick, F__law_pick⟩ := c.def_ 6 (d := d__law_pick) rfl
  have g__law_pick := He.glo_ok X G (c.fact 6 (f := .glo "_law_pick") rfl)
  obtain ⟨fd__law_same, F__law_same⟩ := c.def_ 7 (d := d__law_same) rfl
  have g__law_same := He.glo_ok X G (c.fact 7 (f := .glo "_law_same") rfl)
  obtain ⟨fd__law_lesser, F__law_lesser⟩ := c.def_ 8 (d := d__law_lesser) rfl
  have g__law_lesser := He.glo_ok X G (c.fact 8 (f := .glo "_law_lesser") rfl)
  obtain ⟨fd__law_greater, F__law_greater⟩ := c.def_ 9 (d := d__law_greater) rfl
  have g__law_greater := He.glo_ok X G (c.fact 9 (f := .glo "_law_greater") rfl)
  obtain ⟨fd__law_apart, F__law_apart⟩ := c.def_ 10 (d := d__law_apart) rfl
  have g__law_apart := He.glo_ok X G (c.fact 10 (f := .glo "_law_apart") rfl)
  obtain ⟨fd_law, F_law⟩ := c.def_ 11 (d := d_law) rfl
  have g_law := He.glo_ok X G (c.fact 11 (f := .glo "law") rfl)
  have Z : Blt mg := ⟨He.free_ok X G (c.fact 12 (f := .free "abs") rfl), He.free_ok X G (c.fact 13 (f := .free "all") rfl), He.free_ok X G (c.fact 14 (f := .free "bool") rfl), He.free_ok X G (c.fact 15 (f := .free "int") rfl), He.free_ok X G (c.fact 16 (f := .free "isinstance") rfl), He.free_ok X G (c.fact 17 (f := .free "len") rfl), He.free_ok X G (c.fact 18 (f := .free "list") rfl), He.free_ok X G (c.fact 19 (f := .free "max") rfl), He.free_ok X G (c.fact 20 (f := .free "min") rfl), He.free_ok X G (c.fact 21 (f := .free "range") rfl), He.free_ok X G (c.fact 22 (f := .free "str") rfl), He.free_ok X G (c.fact 23 (f := .free "sum") rfl), He.free_ok X G (c.fact 24 (f := .free "tuple") rfl), He.free_ok X G (c.fact 25 (f := .free "zip") rfl)⟩
  have e := hfa.symm.trans g_law
  cases e
  have b := FunD.bindsA (ps := P_law) F_law fun _ _ _ _ _ _ us hl => match us, hl with | [_], _ => rfl
  refine ⟨fd_law, fun s v => b s [v] rfl, fun base => ?_⟩
  have O__law_open := o__law_open (P := P) (w := w) (base := base) Z F__law_open g__law_open 
  have O__law_take := o__law_take (P := P) (w := w) (base := base) Z F__law_take g__law_take 
  have O__law_pick := o__law_pick (P := P) (w := w) (base := base) Z F__law_pick g__law_pick O__law_take
  have O__law_greater := o__law_greater (P := P) (w := w) (base := base) Z F__law_greater g__law_greater 
  have O__law_lesser := o__law_lesser (P := P) (w := w) (base := base) Z F__law_lesser g__law_lesser 
  have O__law_same := o__law_same (P := P) (w := w) (base := base) Z F__law_same g__law_same 4
  have O_greater := o_greater (P := P) (w := w) (base := base) Z F_greater g_greater 
  have O_lesser := o_lesser (P := P) (w := w) (base := base) Z F_lesser g_lesser 
  have O__law_apart := o__law_apart (P := P) (w := w) (base := base) Z F__law_apart g__law_apart 
  have O_apart := o_apart (P := P) (w := w) (base := base) Z F_apart g_apart 
  have O_within := o_within (P := P) (w := w) (base := base) Z F_within g_within 
  have O_law := o_law (P := P) (w := w) (base := base) Z F_law g_law O__law_open O__law_take O__law_pick O__law_greater O__law_lesser O__law_same O_greater O_lesser O__law_apart O_apart O_within
  obtain ⟨f2, fd2, hm2, FD2, F2⟩ := O_law.ex
  have e2 := hm2.symm.trans g_law
  cases e2
  have e3 : fd2 = fd_law := FunD.one FD2 F_law
  rw [← e3]
  exact F2
end Ab
open PySem PySem.W PySem.Calls PyProof.Rows
theorem PySem.Challenge.cw_hidelater_k04_rows_of_numbers_beside_one_holds : PySem.Challenge.rw_hidelater_k04_rows_of_numbers_beside_one.Holds := by
  w_on; o_law
  refine HandSHeadRun.head_any (r := OpenLaw.row PySem.Challenge.rw_hidelater_k04_rows_of_numbers_beside_one) (q := view (OpenLaw.row PySem.Challenge.rw_hidelater_k04_rows_of_numbers_beside_one).prog [13]) (H := Ab.hHk) (ob := Ab.hOb) (M := 3000) (loose := Ab.hNms) (d := HandSHeadRun.topDef (OpenLaw.row PySem.Challenge.rw_hidelater_k04_rows_of_numbers_beside_one).prog 13) (kwd := []) Ab.hOb_eq
    (by kernel_rfl) (fun s => by kernel_rfl) Ab.hRun (by kernel_rfl) (by kernel_rfl) (by kernel_rfl) (by rfl) (by first | assumption | decide +kernel) (by decide +kernel) ⟨rfl, rfl, rfl, rfl, rfl, by decide +kernel⟩ ?hw ?hc
  case hw => w_witness2
  case hc =>
    refine Ab.walk_end (l := PySem.Challenge.rw_hidelater_k04_rows_of_numbers_beside_one) (m := 63) (j := 6) (y := "_law_script") rfl (by decide) (by kernel_rfl) ⟨rfl, by decide, by decide⟩ ?F
    intro w mg fa h Y G hmg0
    obtain ⟨K, KX, c, no⟩ := Y
    have hmg : mg ("law" : PySem.Str) = some (.ref fa) := by
      have e : (HandSHeadRun.topDef (OpenLaw.row PySem.Challenge.rw_hidelater_k04_rows_of_numbers_beside_one).prog 13).name = ("law" : PySem.Str) := by kernel_rfl
      rw [← e]
      exact hmg0
    obtain ⟨fd, hb, hF⟩ := Ab.hFacts (P := (PySem.Challenge.rw_hidelater_k04_rows_of_numbers_beside_one).prog) (w := w) KX G hmg c
    exact ⟨K, fd, _, KX, hb, fun H a ns hl hO hS => Ab.law_sp (sp := Ab.sp_law) Ab.law_says no H a ns hl hO hS, hF⟩

