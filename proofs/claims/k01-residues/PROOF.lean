import PyProof.Rows.All
import Wide.All
import OpenK.AllK
import Wide.FinOn
import HandS.Base
import HandS.Call
import HandS.List
import HandS.Text
import HandS.StrMore
import HandS.Exc
import HandS.ExcOwn
import HandS.Words
import HandS.WordsExc
import HandS.Defaults
import HandS.OwnEq
import HandS.IsInst
import HandS.TupAny
import HandS.Comp
import HandS.Iter
import HandS.Zip
import HandS.Style
import HandS.Gcd
import HandS.TupLe
import KE.KCallOwn
import HandS.RaiseMore
import HandS.TryMany
import HandS.TryOnly
import HandS.Walk
import HandS.HeadHook2
import KE.KStateDown
import HandS.Head0
import HandS.Head1
import HandS.Head2
import HandS.Head3
import HandS.HeadEnd
import PySem.Challenge.RW_similarforms_k01_residues
set_option Elab.async false
set_option linter.all false
set_option maxRecDepth 100000
set_option maxHeartbeats 0
namespace Z
open PySem L2

/-- plain data. lst true, obj: owned (nobody else names it); lst false: frozen -/
inductive D where
  | non | bl (b : Bool) | int (i : Int) | str (x : Str)
  | tup (l : List D) | lst (o : Bool) (l : List D) | ins (c : Nat) (l : List D) | obj (c : Nat) (l : List D)
  | scr (l : List Int)
deriving Inhabited

mutual
def D.beq : D → D → Bool
  | .non, .non => true
  | .bl a, .bl b => a == b
  | .int a, .int b => decide (a = b)
  | .str a, .str b => decide (a = b)
  | .tup a, .tup b => D.beqs a b
  | .lst o a, .lst p b => o == p && D.beqs a b
  | .ins c a, .ins d b => decide (c = d) && D.beqs a b
  | .obj c a, .obj d b => decide (c = d) && D.beqs a b
  | .scr a, .scr b => decide (a = b)
  | _, _ => false
def D.beqs : List D → List D → Bool
  | [], [] => true
  | a :: r, b :: t => D.beq a b && D.beqs r t
  | _, _ => false
end
mutual
theorem D.beq_ok : ∀ (a b : D), D.beq a b = true ↔ a = b := by
  intro a b
  cases a <;> cases b <;> simp [D.beq, D.beqs_ok]
theorem D.beqs_ok : ∀ (a b : List D), D.beqs a b = true ↔ a = b := by
  intro a b
  cases a with
  | nil => cases b <;> simp [D.beqs]
  | cons x r => cases b with
    | nil => simp [D.beqs]
    | cons y t => simp [D.beqs, D.beq_ok x y, D.beqs_ok r t]
end
theorem D.beq_self (a : D) : D.beq a a = true := (D.beq_ok a a).mpr rfl

/-- is the outermost node frozen? -/
def isF : D → Bool
  | .lst true _ => false
  | .obj _ _ => false
  | _ => true
mutual
/-- frozen -/
def frz : D → D
  | .lst true l => .lst false (frzs l)
  | .lst false l => .lst false l
  | .non => .non | .bl b => .bl b | .int i => .int i | .str x => .str x
  | .tup l => .tup l | .ins c l => .ins c l | .obj c l => .obj c l | .scr l => .scr l
def frzs : List D → List D
  | [] => []
  | d :: r => frz d :: frzs r
end
theorem frz_of_isF {d : D} (h : isF d = true) : frz d = d := by
  cases d with
  | lst o l => cases o with
    | true => cases h
    | false => simp [frz]
  | _ => simp [frz]
theorem frzs_map : ∀ l : List D, frzs l = l.map frz
  | [] => by simp [frzs]
  | d :: r => by simp [frzs, frzs_map r]

/-- the static part of a text's heap -/
structure Tab where
  K : PySem.W.Frag
  cad : Nat → Addr
  fl : Nat → List Str
  cs : List Nat

mutual
/-- frozen data in the frozen part F -/
def frep (T : Tab) (F : Hp) : D → V → Prop
  | .non, v => v = .non
  | .bl b, v => v = .bl b
  | .int i, v => v = .int i
  | .str x, v => v = .str x
  | .tup l, v => ∃ a vs, v = .ref a ∧ SqT T.K F a vs ∧ freps T F l vs
  | .lst o l, v => o = false ∧ ∃ a vs, v = .ref a ∧ F a = some (.lst vs) ∧ freps T F l vs
  | .scr l, v => ∃ a, v = .ref a ∧ SqL T.K F a (l.map V.int) ∧ ((∃ o u, F a = some (.frz o u)) ∨ ∃ o, T.K.lookup a = some o)
  | .ins c l, v => ∃ a dx vs, v = .ref a ∧ F a = some (.ins (T.cad c) dx ((T.fl c).zip vs)) ∧ (c ∈ T.cs ∧ vs.length = (T.fl c).length) ∧ freps T F l vs
  | .obj _ _, _ => False
def freps (T : Tab) (F : Hp) : List D → List V → Prop
  | [], [] => True
  | d :: r, v :: vs => frep T F d v ∧ freps T F r vs
  | _, _ => False
end
mutual
/-- data in the heap H, frozen parts in F, owned parts at the addresses A -/
def rep (T : Tab) (F H : Hp) : D → V → List Addr → Prop
  | .lst true l, v, A => ∃ a vs B, v = .ref a ∧ A = a :: B ∧ H a = some (.lst vs) ∧ reps T F H l vs B
  | .obj _ _, _, _ => False
  | .lst false l, v, A => A = [] ∧ frep T F (.lst false l) v
  | .non, v, A => A = [] ∧ frep T F .non v
  | .bl b, v, A => A = [] ∧ frep T F (.bl b) v
  | .int i, v, A => A = [] ∧ frep T F (.int i) v
  | .str x, v, A => A = [] ∧ frep T F (.str x) v
  | .tup l, v, A => A = [] ∧ frep T F (.tup l) v
  | .ins c l, v, A => A = [] ∧ frep T F (.ins c l) v
  | .scr l, v, A => A = [] ∧ frep T F (.scr l) v
def reps (T : Tab) (F H : Hp) : List D → List V → List Addr → Prop
  | [], [], A => A = []
  | d :: r, v :: vs, A => ∃ B C, A = B ++ C ∧ rep T F H d v B ∧ reps T F H r vs C
  | _, _, _ => False
end
theorem rep_isF {T : Tab} {F H : Hp} {d : D} {v : V} {A : List Addr} (h : isF d = true) : rep T F H d v A ↔ A = [] ∧ frep T F d v := by
  cases d with
  | lst o l => cases o with
    | true => cases h
    | false => simp [rep]
  | obj => cases h
  | _ => simp [rep]

/-- what a slot, an argument may be: an object that is being made, too -/
def repS (T : Tab) (F H : Hp) (d : D) (v : V) (A : List Addr) : Prop := match d with
  | .obj c l => ∃ a dx vs, v = .ref a ∧ A = [a] ∧ H a = some (.ins (T.cad c) dx ((T.fl c).zip vs)) ∧ (c ∈ T.cs ∧ vs.length ≤ (T.fl c).length) ∧ freps T F l vs
  | d => rep T F H d v A
def isO : D → Bool
  | .obj _ _ => true
  | _ => false
theorem rep_isO {T : Tab} {F H : Hp} {d : D} {v : V} {A : List Addr} (r : rep T F H d v A) : isO d = false := by
  cases d <;> first | rfl | (simp only [rep] at r)
theorem repS_of {T : Tab} {F H : Hp} {d : D} {v : V} {A : List Addr} (h : isO d = false) : repS T F H d v A ↔ rep T F H d v A := by
  cases d <;> first | exact Iff.rfl | cases h
theorem rep.S {T : Tab} {F H : Hp} {d : D} {v : V} {A : List Addr} (r : rep T F H d v A) : repS T F H d v A := (repS_of (rep_isO r)).mpr r
abbrev Env := List (Option D)
def repE (T : Tab) (F H : Hp) : Env → St → List Addr → Prop
  | [], [], A => A = []
  | some d :: r, some v :: vs, A => ∃ B C, A = B ++ C ∧ repS T F H d v B ∧ repE T F H r vs C
  | none :: r, _ :: vs, A => repE T F H r vs A
  | _, _, _ => False

theorem Rd.mono {F F' : Hp} {a : Addr} {u : HO} (h : ∀ a o, F a = some o → F' a = some o) (r : Rd F a u) : Rd F' a u := by
  rcases r with r | ⟨o, r⟩
  · exact .inl (h _ _ r)
  · exact .inr ⟨o, h _ _ r⟩
theorem SqL.mono' {K : PySem.W.Frag} {F F' : Hp} {a : Addr} {xs : List V} (h : ∀ a o, F a = some o → F' a = some o) (r : SqL K F a xs) : SqL K F' a xs := by
  rcases r with r | r
  · exact .inl (Rd.mono h r)
  · exact .inr r
theorem SqT.mono' {K : PySem.W.Frag} {F F' : Hp} {a : Addr} {xs : List V} (h : ∀ a o, F a = some o → F' a = some o) (r : SqT K F a xs) : SqT K F' a xs := by
  rcases r with r | r
  · exact .inl (Rd.mono h r)
  · exact .inr r
mutual
theorem frep_mono {T : Tab} {F F' : Hp} (h : ∀ a o, F a = some o → F' a = some o) : ∀ (d : D) (v : V), frep T F d v → frep T F' d v := by
  intro d v r
  cases d with
  | tup l =>
    simp only [frep] at r ⊢
    obtain ⟨a, vs, e, q, r⟩ := r
    exact ⟨a, vs, e, SqT.mono' h q, freps_mono h l vs r⟩
  | lst o l =>
    simp only [frep] at r ⊢
    obtain ⟨e0, a, vs, e, q, r⟩ := r
    exact ⟨e0, a, vs, e, h _ _ q, freps_mono h l vs r⟩
  | scr l =>
    simp only [frep] at r ⊢
    obtain ⟨a, e, q, n⟩ := r
    exact ⟨a, e, SqL.mono' h q, n.imp (fun ⟨o, u, n⟩ => ⟨o, u, h _ _ n⟩) id⟩
  | ins c l =>
    simp only [frep] at r ⊢
    obtain ⟨a, dx, vs, e, q, z, r⟩ := r
    exact ⟨a, dx, vs, e, h _ _ q, z, freps_mono h l vs r⟩
  | obj c l => simp only [frep] at r
  | _ => simpa only [frep] using r
theorem freps_mono {T : Tab} {F F' : Hp} (h : ∀ a o, F a = some o → F' a = some o) : ∀ (l : List D) (vs : List V), freps T F l vs → freps T F' l vs := by
  intro l vs r
  cases l with
  | nil => cases vs <;> simpa only [freps] using r
  | cons d l => cases vs with
    | nil => simp only [freps] at r
    | cons v vs =>
      simp only [freps] at r ⊢
      exact ⟨frep_mono h d v r.1, freps_mono h l vs r.2⟩
end
theorem freps_length {T : Tab} {F : Hp} : ∀ {l : List D} {vs : List V}, freps T F l vs → l.length = vs.length
  | [], [], _ => rfl
  | [], _ :: _, h => by simp [freps] at h
  | _ :: _, [], h => by simp [freps] at h
  | _ :: _, _ :: _, h => by
    simp only [freps] at h
    simp [freps_length h.2]
theorem reps_length {T : Tab} {F H : Hp} : ∀ {l : List D} {vs : List V} {A : List Addr}, reps T F H l vs A → l.length = vs.length
  | [], [], _, _ => rfl
  | [], _ :: _, _, h => by simp [reps] at h
  | _ :: _, [], _, h => by simp [reps] at h
  | _ :: _, _ :: _, _, h => by
    simp only [reps] at h
    obtain ⟨_, _, _, _, h⟩ := h
    simp [reps_length h]
mutual
theorem rep_mono {T : Tab} {F F' H H' : Hp} (h : ∀ a o, F a = some o → F' a = some o) : ∀ (d : D) (v : V) (A : List Addr), (∀ a ∈ A, H' a = H a) → rep T F H d v A → rep T F' H' d v A := by
  intro d v A k r
  cases d with
  | lst o l => cases o with
    | true =>
      simp only [rep] at r ⊢
      obtain ⟨a, vs, B, e, eA, q, r⟩ := r
      refine ⟨a, vs, B, e, eA, ?_, reps_mono h l vs B (fun b hb => k b ?_) r⟩
      · rw [k a (by rw [eA]; exact List.mem_cons_self)]; exact q
      · rw [eA]; exact List.mem_cons_of_mem _ hb
    | false =>
      simp only [rep] at r ⊢
      exact ⟨r.1, frep_mono h _ _ r.2⟩
  | obj c l => simp only [rep] at r
  | _ =>
    simp only [rep] at r ⊢
    exact ⟨r.1, frep_mono h _ _ r.2⟩
theorem reps_mono {T : Tab} {F F' H H' : Hp} (h : ∀ a o, F a = some o → F' a = some o) : ∀ (l : List D) (vs : List V) (A : List Addr), (∀ a ∈ A, H' a = H a) → reps T F H l vs A → reps T F' H' l vs A := by
  intro l vs A k r
  cases l with
  | nil => cases vs <;> simpa only [reps] using r
  | cons d l => cases vs with
    | nil => simp only [reps] at r
    | cons v vs =>
      simp only [reps] at r ⊢
      obtain ⟨B, C, e, r1, r2⟩ := r
      exact ⟨B, C, e, rep_mono h d v B (fun a ha => k a (by rw [e]; exact List.mem_append_left _ ha)) r1, reps_mono h l vs C (fun a ha => k a (by rw [e]; exact List.mem_append_right _ ha)) r2⟩
end
theorem repS_mono {T : Tab} {F F' H H' : Hp} (h : ∀ a o, F a = some o → F' a = some o) (d : D) (v : V) (A : List Addr) (k : ∀ a ∈ A, H' a = H a) (r : repS T F H d v A) : repS T F' H' d v A := by
  cases d with
  | obj c l =>
    obtain ⟨a, dx, vs, e, eA, q, z, r⟩ := r
    exact ⟨a, dx, vs, e, eA, by rw [k a (by rw [eA]; exact List.mem_cons_self)]; exact q, z, freps_mono h l vs r⟩
  | _ => exact rep_mono h _ v A k r
theorem repE_mono {T : Tab} {F F' H H' : Hp} (h : ∀ a o, F a = some o → F' a = some o) : ∀ (env : Env) (σ : St) (A : List Addr), (∀ a ∈ A, H' a = H a) → repE T F H env σ A → repE T F' H' env σ A := by
  intro env
  induction env with
  | nil => intro σ A k r; cases σ <;> simpa only [repE] using r
  | cons d r ih =>
    intro σ A k q
    cases σ with
    | nil => cases d <;> simp only [repE] at q
    | cons v vs =>
      cases d with
      | none =>
        simp only [repE] at q ⊢
        exact ih vs A k q
      | some d => cases v with
        | none => simp only [repE] at q
        | some v =>
          simp only [repE] at q ⊢
          obtain ⟨B, C, e, r1, r2⟩ := q
          exact ⟨B, C, e, repS_mono h d v B (fun a ha => k a (by rw [e]; exact List.mem_append_left _ ha)) r1, ih vs C (fun a ha => k a (by rw [e]; exact List.mem_append_right _ ha)) r2⟩
theorem repE_length {T : Tab} {F H : Hp} : ∀ {env : Env} {σ : St} {A : List Addr}, repE T F H env σ A → env.length = σ.length
  | [], [], _, _ => rfl
  | [], _ :: _, _, h => by simp [repE] at h
  | some _ :: _, [], _, h => by simp [repE] at h
  | none :: _, [], _, h => by simp [repE] at h
  | some _ :: _, none :: _, _, h => by simp [repE] at h
  | some _ :: _, some _ :: _, _, h => by
    simp only [repE] at h
    obtain ⟨_, _, _, _, h⟩ := h
    simp [repE_length h]
  | none :: _, _ :: _, _, h => by
    simp only [repE] at h
    simp [repE_length h]

/-- F: the frozen part; A: the owned addresses -/
structure Stt (F H : Hp) (A : List Addr) : Prop where
  sub : ∀ a o, F a = some o → H a = some o
  dj : ∀ a ∈ A, F a = none
  al : ∀ a ∈ A, ∃ o, H a = some o
  nd : A.Nodup
/-- a step from what is owned at A to what is owned at A' -/
structure Stp (F H : Hp) (A : List Addr) (F' H' : Hp) (A' : List Addr) : Prop where
  st : Stt F' H' A'
  mono : ∀ a o, F a = some o → F' a = some o
  keep : ∀ a o, a ∉ A → H a = some o → H' a = some o
  foot : ∀ a ∈ A', a ∈ A ∨ H a = none
  froz : ∀ a o, F' a = some o → F a = some o ∨ a ∈ A ∨ H a = none
theorem Stp.refl {F H : Hp} {A : List Addr} (s : Stt F H A) : Stp F H A F H A := ⟨s, fun _ _ h => h, fun _ _ _ h => h, fun _ h => .inl h, fun _ _ h => .inl h⟩
/-- what is not named lives on: B beside A -/
theorem Stp.beside {F H F' H' : Hp} {A A' B : List Addr} (p : Stp F H A F' H' A') (s : Stt F H (A ++ B)) : Stp F H (A ++ B) F' H' (A' ++ B) := by
  have nd := List.nodup_append.mp s.nd
  refine ⟨⟨p.st.sub, fun a ha => ?_, fun a ha => ?_, ?_⟩, p.mono, fun a o ha => p.keep a o fun z => ha (List.mem_append_left _ z), fun a ha => ?_, fun a o h => ?_⟩
  · rcases List.mem_append.mp ha with ha | ha
    · exact p.st.dj a ha
    · obtain ⟨o, ho⟩ := s.al a (List.mem_append_right _ ha)
      have hF := s.dj a (List.mem_append_right _ ha)
      cases e : F' a with
      | none => rfl
      | some u =>
        rcases p.froz a u e with z | z | z
        · rw [hF] at z; cases z
        · exact absurd rfl (nd.2.2 a z a ha)
        · rw [ho] at z; cases z
  · rcases List.mem_append.mp ha with ha | ha
    · exact p.st.al a ha
    · obtain ⟨o, ho⟩ := s.al a (List.mem_append_right _ ha)
      exact ⟨o, p.keep a o (fun z => absurd rfl (nd.2.2 a z a ha)) ho⟩
  · refine List.nodup_append.mpr ⟨p.st.nd, nd.2.1, fun a ha b hb => ?_⟩
    rintro rfl
    rcases p.foot a ha with z | z
    · exact absurd rfl (nd.2.2 a z a hb)
    · obtain ⟨o, ho⟩ := s.al a (List.mem_append_right _ hb)
      rw [ho] at z; cases z
  · rcases List.mem_append.mp ha with ha | ha
    · rcases p.foot a ha with z | z
      · exact .inl (List.mem_append_left _ z)
      · exact .inr z
    · exact .inl (List.mem_append_right _ ha)
  · rcases p.froz a o h with z | z | z
    · exact .inl z
    · exact .inr (.inl (List.mem_append_left _ z))
    · exact .inr (.inr z)
theorem Stp.keepB {F H F' H' : Hp} {A A' B : List Addr} (p : Stp F H A F' H' A') (s : Stt F H (A ++ B)) : ∀ a ∈ B, H' a = H a := fun a ha => by
  obtain ⟨o, ho⟩ := s.al a (List.mem_append_right _ ha)
  rw [ho]
  exact p.keep a o (fun z => absurd rfl ((List.nodup_append.mp s.nd).2.2 a z a ha)) ho
theorem Stp.trans {F H F1 H1 F2 H2 : Hp} {A A1 A2 : List Addr} (p : Stp F H A F1 H1 A1) (q : Stp F1 H1 A1 F2 H2 A2) : Stp F H A F2 H2 A2 := by
  refine ⟨q.st, fun a o h => q.mono a o (p.mono a o h), fun a o ha h => ?_, fun a ha => ?_, fun a o h => ?_⟩
  · refine q.keep a o (fun z => ?_) (p.keep a o ha h)
    rcases p.foot a z with y | y
    · exact ha y
    · rw [h] at y; cases y
  · rcases q.foot a ha with z | z
    · exact p.foot a z
    · by_cases hA : a ∈ A
      · exact .inl hA
      · refine .inr ?_
        cases e : H a with
        | none => rfl
        | some o => rw [p.keep a o hA e] at z; cases z
  · rcases q.froz a o h with z | z | z
    · exact p.froz a o z
    · exact .inr (p.foot a z)
    · refine .inr ?_
      by_cases hA : a ∈ A
      · exact .inl hA
      · refine .inr ?_
        cases e : H a with
        | none => rfl
        | some o => rw [p.keep a o hA e] at z; cases z
/-- the addresses may be arranged otherwise, some forgotten -/
theorem Stt.perm {F H : Hp} {A B : List Addr} (s : Stt F H A) (h : ∀ a ∈ B, a ∈ A) (nd : B.Nodup) : Stt F H B := ⟨s.sub, fun a ha => s.dj a (h a ha), fun a ha => s.al a (h a ha), nd⟩
theorem Stt.left {F H : Hp} {A B : List Addr} (s : Stt F H (A ++ B)) : Stt F H A := s.perm (fun _ h => List.mem_append_left _ h) (List.nodup_append.mp s.nd).1
theorem Stt.right {F H : Hp} {A B : List Addr} (s : Stt F H (A ++ B)) : Stt F H B := s.perm (fun _ h => List.mem_append_right _ h) (List.nodup_append.mp s.nd).2.1
theorem Stt.swap {F H : Hp} {A B : List Addr} (s : Stt F H (A ++ B)) : Stt F H (B ++ A) := s.perm (fun a h => List.mem_append.mpr (List.mem_append.mp h).symm) (List.nodup_append.mpr ⟨(List.nodup_append.mp s.nd).2.1, (List.nodup_append.mp s.nd).1, fun a ha b hb e => (List.nodup_append.mp s.nd).2.2 b hb a ha e.symm⟩)
theorem Stp.less {F H F' H' : Hp} {A A' B : List Addr} (p : Stp F H A F' H' A') (h : ∀ a ∈ B, a ∈ A') (nd : B.Nodup) : Stp F H A F' H' B := ⟨p.st.perm h nd, p.mono, p.keep, fun a ha => p.foot a (h a ha), p.froz⟩
theorem Stp.more {F H F' H' : Hp} {A A' B : List Addr} (p : Stp F H A F' H' A') (h : ∀ a ∈ A, a ∈ B) : Stp F H B F' H' A' :=
  ⟨p.st, p.mono, fun a o ha => p.keep a o fun z => ha (h a z), fun a ha => (p.foot a ha).imp (h a) id, fun a o e => (p.froz a o e).imp id fun z => z.imp (h a) id⟩

def frzH (F H : Hp) (B : List Addr) : Hp := fun a => if a ∈ B then H a else F a
theorem frzH_mono {F H : Hp} {B : List Addr} (dj : ∀ a ∈ B, F a = none) : ∀ a o, F a = some o → frzH F H B a = some o := fun a o h => by
  unfold frzH
  rw [if_neg fun z => by rw [dj a z] at h; cases h]
  exact h
theorem frzH_in {F H : Hp} {B : List Addr} {a : Addr} (h : a ∈ B) : frzH F H B a = H a := if_pos h
mutual
theorem frz_rep {T : Tab} {F H G : Hp} (mo : ∀ a o, F a = some o → G a = some o) : ∀ (d : D) (v : V) (B : List Addr), (∀ a ∈ B, G a = H a) → rep T F H d v B → frep T G (frz d) v := by
  intro d v B k r
  cases d with
  | lst o l => cases o with
    | true =>
      simp only [rep] at r
      obtain ⟨a, vs, C, e, eA, q, r⟩ := r
      simp only [frz, frep]
      refine ⟨trivial, a, vs, e, ?_, frzs_reps mo l vs C (fun b hb => k b ?_) r⟩
      · rw [k a (by rw [eA]; exact List.mem_cons_self)]; exact q
      · rw [eA]; exact List.mem_cons_of_mem _ hb
    | false =>
      simp only [rep] at r
      simp only [frz]
      exact frep_mono mo _ _ r.2
  | obj c l => simp only [rep] at r
  | _ =>
    simp only [rep] at r
    simp only [frz]
    exact frep_mono mo _ _ r.2
theorem frzs_reps {T : Tab} {F H G : Hp} (mo : ∀ a o, F a = some o → G a = some o) : ∀ (l : List D) (vs : List V) (B : List Addr), (∀ a ∈ B, G a = H a) → reps T F H l vs B → freps T G (frzs l) vs := by
  intro l vs B k r
  cases l with
  | nil => cases vs <;> simp only [reps] at r <;> simp only [frzs, freps]
  | cons d l => cases vs with
    | nil => simp only [reps] at r
    | cons v vs =>
      simp only [reps] at r
      obtain ⟨B1, B2, e, r1, r2⟩ := r
      simp only [frzs, freps]
      exact ⟨frz_rep mo d v B1 (fun a ha => k a (by rw [e]; exact List.mem_append_left _ ha)) r1, frzs_reps mo l vs B2 (fun a ha => k a (by rw [e]; exact List.mem_append_right _ ha)) r2⟩
end
theorem isF_frz {d : D} (h : isO d = false) : isF (frz d) = true := by
  cases d with
  | lst o l => cases o <;> simp [frz, isF]
  | obj c l => cases h
  | _ => simp [frz, isF]
/-- B is frozen -/
theorem Stt.frozen {F H : Hp} {A B : List Addr} (s : Stt F H (A ++ B)) : Stp F H (A ++ B) (frzH F H B) H A := by
  have nd := List.nodup_append.mp s.nd
  refine ⟨⟨fun a o h => ?_, fun a ha => ?_, fun a ha => s.al a (List.mem_append_left _ ha), nd.1⟩, frzH_mono fun a ha => s.dj a (List.mem_append_right _ ha), fun _ _ _ h => h, fun a ha => .inl (List.mem_append_left _ ha), fun a o h => ?_⟩
  · unfold frzH at h
    split at h
    · exact h
    · exact s.sub a o h
  · unfold frzH
    rw [if_neg fun z => nd.2.2 a ha a z rfl]
    exact s.dj a (List.mem_append_left _ ha)
  · unfold frzH at h
    split at h
    · rename_i z
      exact .inr (.inl (List.mem_append_right _ z))
    · exact .inl h
theorem repE_slot {T : Tab} {F H : Hp} : ∀ {env : Env} {σ : St} {A : List Addr} {i : Nat}, repE T F H env σ A → i < env.length → ∃ A1 B A2, A = A1 ++ (B ++ A2) ∧
    (∀ d, (env[i]?).getD none = some d → ∃ v, σ[i]? = some (some v) ∧ repS T F H d v B) ∧
    (∀ F' H', (∀ a o, F a = some o → F' a = some o) → (∀ a ∈ A1, H' a = H a) → (∀ a ∈ A2, H' a = H a) →
      (∀ d' v' B', repS T F' H' d' v' B' → repE T F' H' (env.set i (some d')) (σ.set i (some v')) (A1 ++ (B' ++ A2))) ∧
      (∀ ov, repE T F' H' (env.set i none) (σ.set i ov) (A1 ++ A2)))
  | [], _, _, _, _, h => absurd h (Nat.not_lt_zero _)
  | some d :: r, [], _, _, q, _ => by simp only [repE] at q
  | none :: r, [], _, _, q, _ => by simp only [repE] at q
  | some d :: r, none :: vs, _, _, q, _ => by simp only [repE] at q
  | some d :: r, some v :: vs, A, 0, q, _ => by
    simp only [repE] at q
    obtain ⟨B, C, e, r1, r2⟩ := q
    refine ⟨[], B, C, by simpa using e, fun d' hd => ?_, fun F' H' mo _ k2 => ⟨fun d' v' B' r' => ?_, fun ov => ?_⟩⟩
    · simp at hd
      subst hd
      exact ⟨v, rfl, r1⟩
    · simp only [List.set_cons_zero, repE, List.nil_append]
      exact ⟨B', C, rfl, r', repE_mono mo r vs C k2 r2⟩
    · simp only [List.set_cons_zero, repE, List.nil_append]
      exact repE_mono mo r vs C k2 r2
  | none :: r, v :: vs, A, 0, q, _ => by
    simp only [repE] at q
    refine ⟨[], [], A, by simp, fun d' hd => ?_, fun F' H' mo _ k2 => ⟨fun d' v' B' r' => ?_, fun ov => ?_⟩⟩
    · simp at hd
    · simp only [List.set_cons_zero, repE, List.nil_append]
      exact ⟨B', A, rfl, r', repE_mono mo r vs A k2 q⟩
    · simp only [List.set_cons_zero, repE, List.nil_append]
      exact repE_mono mo r vs A k2 q
  | some d :: r, some v :: vs, A, i + 1, q, h => by
    simp only [repE] at q
    obtain ⟨B, C, e, r1, r2⟩ := q
    obtain ⟨A1, B1, A2, e1, g, up⟩ := repE_slot (i := i) r2 (by simpa using h)
    refine ⟨B ++ A1, B1, A2, by rw [e, e1, List.append_assoc], fun d' hd => g d' (by simpa using hd), fun F' H' mo k1 k2 => ?_⟩
    obtain ⟨u1, u2⟩ := up F' H' mo (fun a ha => k1 a (List.mem_append_right _ ha)) k2
    have r1' := repS_mono mo d v B (fun a ha => k1 a (List.mem_append_left _ ha)) r1
    refine ⟨fun d' v' B' r' => ?_, fun ov => ?_⟩
    · simp only [List.set_cons_succ, repE]
      exact ⟨B, A1 ++ (B' ++ A2), by rw [List.append_assoc], r1', u1 d' v' B' r'⟩
    · simp only [List.set_cons_succ, repE]
      exact ⟨B, A1 ++ A2, by rw [List.append_assoc], r1', u2 ov⟩
  | none :: r, v :: vs, A, i + 1, q, h => by
    simp only [repE] at q
    obtain ⟨A1, B1, A2, e1, g, up⟩ := repE_slot (i := i) q (by simpa using h)
    refine ⟨A1, B1, A2, e1, fun d' hd => g d' (by simpa using hd), fun F' H' mo k1 k2 => ?_⟩
    obtain ⟨u1, u2⟩ := up F' H' mo k1 k2
    refine ⟨fun d' v' B' r' => ?_, fun ov => ?_⟩
    · simp only [List.set_cons_succ, repE]
      exact u1 d' v' B' r'
    · simp only [List.set_cons_succ, repE]
      exact u2 ov
theorem set_same {α : Type} : ∀ {l : List α} {i : Nat} {x : α}, l[i]? = some x → l.set i x = l
  | [], _, _, h => by simp at h
  | y :: r, 0, x, h => by simp at h; simp [h]
  | y :: r, i + 1, x, h => by simp only [List.set_cons_succ]; rw [set_same (by simpa using h)]
theorem freps_get {T : Tab} {F : Hp} : ∀ {l : List D} {vs : List V} {i : Nat} {d : D}, freps T F l vs → l[i]? = some d → ∃ v, vs[i]? = some v ∧ frep T F d v
  | [], _, _, _, _, h => by simp at h
  | _ :: _, [], _, _, q, _ => by simp only [freps] at q
  | x :: l, v :: vs, 0, d, q, h => by
    simp only [freps] at q
    simp at h
    subst h
    exact ⟨v, rfl, q.1⟩
  | x :: l, v :: vs, i + 1, d, q, h => by
    simp only [freps] at q
    exact freps_get (i := i) q.2 (by simpa using h)
end Z

namespace Z
open PySem L2

/-- a raised error: its class, its own field -/
structure Exn where
  c : Nat
  f : Option D
/-- the result of an operation; of an expression; of a statement; of a call (io: what the arguments handed over are worth behind it) -/
inductive Rs (α : Type) where
  | ok (a : α) | exn (x : Exn) | stuck
inductive Res (α : Type) where
  | ok (a : α) (e : Env) | exn (x : Exn) (e : Env) | stuck
inductive RS where
  | nxt (e : Env) | brk (e : Env) | cnt (e : Env) | ret (d : D) (e : Env) | exn (x : Exn) (e : Env) | stuck
inductive CR where
  | ok (d : D) (io : List D) | exn (x : Exn) | stuck
@[reducible] def Res.bind {α β : Type} (r : Res α) (f : α → Env → Res β) : Res β := match r with
  | .ok a e => f a e
  | .exn x e => .exn x e
  | .stuck => .stuck
@[reducible] def Rs.bind {α β : Type} (r : Rs α) (f : α → Rs β) : Rs β := match r with
  | .ok a => f a
  | .exn x => .exn x
  | .stuck => .stuck
@[reducible] def Rs.lift {α : Type} (r : Rs α) (e : Env) : Res α := match r with
  | .ok a => .ok a e
  | .exn x => .exn x e
  | .stuck => .stuck
@[reducible] def Res.bindS {α : Type} (r : Res α) (f : α → Env → RS) : RS := match r with
  | .ok a e => f a e
  | .exn x e => .exn x e
  | .stuck => .stuck

inductive Blt where
  | len | abs | min | max | sum | all | any | int | str | list | tuple | gcd | sorted
  deriving DecidableEq
inductive Ty where
  | int | bool | str | list | tuple | cls (c : Nat)
  deriving DecidableEq
inductive Smt where
  | zfill | join | partition | startswith | strip | split | lower
  deriving DecidableEq
inductive Tg where
  | nam (i : Nat) | tup (is : List Nat)
  deriving DecidableEq

inductive CE where
  | nil | cons (e es : CE)
  | con (d : Const) | glo (g : Nat) | var (i : Nat) | io (i : Nat)
  | tup (es : CE) | lst (es : CE)
  | neg (e : CE) | bin (o : Operator) (a b : CE)
  | not (e : CE) | ands (es : CE) | ors (es : CE)
  | cmp (o : CmpOp) (a b : CE) | chn (o p : CmpOp) (a b c : CE)
  | ite (c a b : CE)
  | idx (a j : CE) | pth (i : Nat) (j k : CE) | slc (a lo hi : CE) | rev (a : CE)
  | cal (f : Nat) (es : CE) | new (c : Nat) (es : CE) | mth (m : Nat) (a es : CE) | app (a es : CE)
  | att (a : CE) (f : Nat)
  | blt (b : Blt) (es : CE) | smt (m : Smt) (a es : CE) | pop (i : Nat) | pop0 (i : Nat)
  | isi (a : CE) (ts : List Ty)
  | lcp (tg : Tg) (it c e : CE)
  | rng (es : CE) | zip (a b : CE)
  | fmt (es : CE)
inductive CS where
  | skip | seq (s t : CS)
  | exp (e : CE) | asg (i : Nat) (e : CE) | asgT (is : List Nat) (e : CE) | par (i j : Nat) (a b : CE)
  | sat (f : Nat) (e : CE)
  | sub (i : Nat) (j e : CE) | sub2 (i : Nat) (j k e : CE) | swp (i : Nat) (j k : CE)
  | aug (i : Nat) (o : Operator) (e : CE)
  | apd (i : Nat) (e : CE)
  | ite (c : CE) (s t : CS) | whl (c : CE) (s : CS) | for (tg : Tg) (it : CE) (s : CS)
  | ret (e : CE) | rai (c : Nat) (e : CE)
  | try (s : CS) (h : CS)
  | hnil | hret (cs : List Nat) (d : Const) (h : CS) | hinc (cs : List Nat) (i : Nat) (k : Int) (h : CS) | hfld (cs : List Nat) (i f : Nat) (h : CS)
  | brk | cnt

/-- the names and tables of a text -/
structure Nm where
  /-- a class's field names, in the order of their stores -/
  fl : Nat → List Nat
  /-- is the first error class one of the second? -/
  sub : Nat → Nat → Bool
  /-- module constants -/
  gl : Nat → Option D
  /-- the field of an error class whose objects keep their argument -/
  xf : Nat → Option Nat
  /-- has a class a method? -/
  has : Nat → Nat → Bool
/-- a method's number: class, method -/
@[reducible] def mfid (c m : Nat) : Nat := if m < 1000 then 1000 * (c + 1) + m else 999
abbrev mInit : Nat := 0
abbrev mEq : Nat := 1
abbrev mAdd : Nat := 2
abbrev mSub : Nat := 3
abbrev mMul : Nat := 4
abbrev mNeg : Nat := 5
abbrev mFdiv : Nat := 6
abbrev mMod : Nat := 7
abbrev mCall : Nat := 8
abbrev mStr : Nat := 9
abbrev mLen : Nat := 10
abbrev Calls := Nat → List D → CR

def conD : Const → Option D
  | .none => some .non
  | .bool b => some (.bl b)
  | .int i => some (.int i)
  | .str x => some (.str x)
  | _ => none

/-- a call without handed-over arguments -/
@[reducible] def CR.rs : CR → Rs D
  | .ok d [] => .ok (frz d)
  | .ok _ (_ :: _) => .stuck
  | .exn x => .exn x
  | .stuck => .stuck
def mulOk (i j : Int) : Bool := decide (i.natAbs < 2 ^ 64) || decide (j.natAbs < 2 ^ 64) || decide (i.natAbs.log2 + j.natAbs.log2 < 100000000)
def divOk (i j : Int) : Bool := decide (j ≠ 0) && !Builtin.divisionGoesByPylong i j
def lim : Nat := 16777216
def opM : Operator → Option Nat
  | .Add => some mAdd | .Sub => some mSub | .Mult => some mMul | .FloorDiv => some mFdiv | .Mod => some mMod
  | _ => none
def intD (o : Operator) (i j : Int) : Rs D := match o with
  | .Add => .ok (.int (i + j))
  | .Sub => .ok (.int (i - j))
  | .Mult => if mulOk i j then .ok (.int (i * j)) else .stuck
  | .FloorDiv => if divOk i j then .ok (.int (i.fdiv j)) else .stuck
  | .Mod => if j = 0 then .stuck else .ok (.int (i.fmod j))
  | .Pow => if 0 ≤ j ∧ j ≤ 1000000 ∧ i.natAbs < 2 ^ 64 then .ok (.int (i ^ j.toNat)) else .stuck
  | _ => .stuck
def binD (C : Calls) (o : Operator) (x y : D) : Rs D := match x, y with
  | .int i, .int j => intD o i j
  | .str a, .str b => if o = .Add ∧ a.length + b.length ≤ lim then .ok (.str (a ++ b)) else .stuck
  | .tup a, .tup b => if o = .Add ∧ a.length + b.length ≤ lim then .ok (.tup (a ++ b)) else .stuck
  | .lst _ a, .lst _ b => if o = .Add ∧ a.length + b.length ≤ lim then .ok (.lst true (a ++ b)) else .stuck
  | .lst _ a, .int k => if o = .Mult ∧ a.all isF = true ∧ k < lim ∧ -lim < k ∧ a.length * k.toNat ≤ lim then .ok (.lst true (List.replicate k.toNat a).flatten) else .stuck
  | .ins c l, .ins c' l' => (match opM o with
    | some m => if c' = c then (C (mfid c m) [.ins c l, .ins c' l']).rs else (match C (mfid c' m) [.ins c' l', .ins c' l'] with
      | .stuck => .stuck
      | _ => (C (mfid c m) [.ins c l, .ins c' l']).rs)
    | none => .stuck)
  | _, _ => .stuck
def b2i (b : Bool) : Int := if b then 1 else 0
def eqL (f : D → D → Rs Bool) : List D → List D → Rs Bool
  | [], [] => .ok true
  | [], _ :: _ => .ok false
  | _ :: _, [] => .ok false
  | x :: xs, y :: ys => (match f x y with
    | .ok true => eqL f xs ys
    | .ok false => if D.beq x y then .stuck else .ok false
    | _ => .stuck)
def eqN (C : Calls) : Nat → D → D → Rs Bool
  | 0, _, _ => .stuck
  | n + 1, x, y => (match x, y with
    | .non, .non => .ok true
    | .bl a, .bl b => .ok (a == b)
    | .int a, .int b => .ok (decide (a = b))
    | .str a, .str b => .ok (decide (a = b))
    | .non, .bl _ => .ok false | .bl _, .non => .ok false | .non, .int _ => .ok false | .int _, .non => .ok false | .non, .str _ => .ok false | .str _, .non => .ok false
    | .int _, .str _ => .ok false | .str _, .int _ => .ok false | .bl _, .str _ => .ok false | .str _, .bl _ => .ok false
    | .tup a, .tup b => eqL (eqN C n) a b
    | .lst _ a, .lst _ b => if a.length = b.length then eqL (eqN C n) a b else .ok false
    | .ins c l, .ins c' l' => (match C (mfid c mEq) [.ins c l, .ins c' l'] with
      | .ok (.bl b) [] => .ok b
      | _ => .stuck)
    | _, _ => .stuck)
def eqD (C : Calls) : D → D → Rs Bool
  | .ins c l, y => (match C (mfid c mEq) [.ins c l, y] with
    | .ok (.bl b) [] => .ok b
    | _ => .stuck)
  | x, y => eqN C 8 x y
def neD (C : Calls) (x y : D) : Rs Bool := match x, y with
  | .ins c l, .ins c' m => if c' = c then (match C (mfid c mEq) [.ins c l, .ins c' m] with
    | .ok (.bl b) [] => .ok (!b)
    | _ => .stuck) else .stuck
  | .ins _ _, _ => .stuck
  | x, y => (eqN C 8 x y).bind fun b => .ok (!b)
def flatD : D → Bool
  | .non => true | .bl _ => true | .int _ => true | .str _ => true
  | _ => false
def inD (x : D) : List D → Bool
  | [] => false
  | y :: r => (match x, y with
    | .int i, .int j => decide (i = j)
    | .str a, .str b => decide (a = b)
    | _, _ => false) || inD x r
/-- ints alone, texts alone -/
def kin : D → List D → Bool
  | .int _, l => l.all fun d => match d with | .int _ => true | _ => false
  | .str _, l => l.all fun d => match d with | .str _ => true | _ => false
  | _, _ => false
def inR (x y : D) : Rs Bool := match y with
  | .tup l => if kin x l then .ok (inD x l) else .stuck
  | .lst _ l => if kin x l then .ok (inD x l) else .stuck
  | .str b => (match x with
    | .str a => .ok (!(Builtin.Str.occurrences b a 0 b.length 1).isEmpty)
    | _ => .stuck)
  | _ => .stuck
def isNon : D → Bool
  | .non => true
  | _ => false
def isR (x y : D) : Rs Bool := match y with
  | .non => .ok (isNon x)
  | .bl b => (match x with
    | .bl a => .ok (decide (a = b))
    | _ => .stuck)
  | _ => .stuck
def cmpB (C : Calls) (o : CmpOp) (x y : D) : Rs Bool := match o with
  | .Eq => eqD C x y
  | .NotEq => neD C x y
  | .Lt => (match x, y with | .int i, .int j => .ok (decide (i < j)) | _, _ => .stuck)
  | .LtE => (match x, y with | .int i, .int j => .ok (decide (i ≤ j)) | _, _ => .stuck)
  | .Gt => (match x, y with | .int i, .int j => .ok (decide (j < i)) | _, _ => .stuck)
  | .GtE => (match x, y with | .int i, .int j => .ok (decide (j ≤ i)) | _, _ => .stuck)
  | .Is => isR x y
  | .IsNot => (isR x y).bind fun b => .ok (!b)
  | .In => inR x y
  | .NotIn => (inR x y).bind fun b => .ok (!b)
/-- an item, to be kept: (the item, what becomes of the list) -/
def item (x : D) (k : Int) : Option D := match x with
  | .tup l => (ixN l.length k).bind fun j => l[j]?
  | .lst _ l => (ixN l.length k).bind fun j => l[j]?
  | .str z => if lim < z.length then none else (ixN z.cps.toList.length k).bind fun j => z.cps.toList[j]?.map fun c => .str ⟨#[c]⟩
  | .scr l => (ixN l.length k).bind fun j => l[j]?.map .int
  | _ => none
def cut {α : Type} (l : List α) (lo hi : Option Int) : List α := (l.drop (HT.sIx l.length 0 lo)).take (HT.sIx l.length l.length hi - HT.sIx l.length 0 lo)
def big (o : Option Int) : Bool := match o with
  | some i => decide (-(2 ^ 62) ≤ i ∧ i < 2 ^ 62)
  | none => true
def slice (x : D) (lo hi : Option Int) : Rs D := match x with
  | .tup l => .ok (.tup (cut l lo hi))
  | .lst _ l => if l.all isF then .ok (.lst true (cut l lo hi)) else .stuck
  | .str z => if z.length ≤ lim then .ok (.str (cutS z lo hi)) else .stuck
  | _ => .stuck
def rever (x : D) : Rs D := match x with
  | .lst _ l => if l.all isF then .ok (.lst true l.reverse) else .stuck
  | _ => .stuck
def intsOf : List D → Option (List Int)
  | [] => some []
  | .int i :: r => (intsOf r).map (i :: ·)
  | _ :: _ => none
def blsOf : List D → Option (List Bool)
  | [] => some []
  | .bl i :: r => (blsOf r).map (i :: ·)
  | _ :: _ => none
def strsOf : List D → Option (List Str)
  | [] => some []
  | .str i :: r => (strsOf r).map (i :: ·)
  | _ :: _ => none
def strD (C : Calls) (x : D) : Rs D := match x with
  | .int i => if i.natAbs.log2 < 1920 then .ok (.str (toString i)) else .stuck
  | .str a => .ok (.str a)
  | .ins c l => (match C (mfid c mStr) [.ins c l] with
    | .ok (.str a) [] => .ok (.str a)
    | .exn x => .exn x
    | _ => .stuck)
  | _ => .stuck
def insSort : List Int → List Int
  | [] => []
  | i :: r => ins1 i (insSort r)
where ins1 (i : Int) : List Int → List Int
  | [] => [i]
  | j :: r => if i ≤ j then i :: j :: r else j :: ins1 i r
def lenD (C : Calls) (d : D) : Rs D := match d with
  | .str z => if z.length ≤ lim then .ok (.int z.length) else .stuck
  | .tup l => .ok (.int l.length)
  | .lst _ l => .ok (.int l.length)
  | .scr l => .ok (.int l.length)
  | .ins c l => (match C (mfid c mLen) [.ins c l] with
    | .ok (.int i) [] => if 0 ≤ i ∧ i < 2 ^ 62 then .ok (.int i) else .stuck
    | .exn x => .exn x
    | _ => .stuck)
  | _ => .stuck
def absD (d : D) : Rs D := match d with
  | .int i => .ok (.int (if i < 0 then -i else i))
  | _ => .stuck
def sumD (d : D) : Rs D := match d with
  | .lst _ l => (match intsOf l with | some ns => .ok (.int ns.sum) | none => .stuck)
  | _ => .stuck
def allD (d : D) : Rs D := match d with
  | .lst _ l => (match blsOf l with | some ns => .ok (.bl (ns.all id)) | none => .stuck)
  | _ => .stuck
def anyD (d : D) : Rs D := match d with
  | .lst _ l => (match blsOf l with | some ns => .ok (.bl (ns.any id)) | none => .stuck)
  | _ => .stuck
def toInt (d : D) : Rs D := match d with
  | .int i => .ok (.int i)
  | .bl b => .ok (.int (b2i b))
  | .str z => (match PySem.intText? z with
    | some i => if z.length ≤ 640 then .ok (.int i) else .stuck
    | none => .stuck)
  | _ => .stuck
def listD (d : D) : Rs D := match d with
  | .tup l => .ok (.lst true l)
  | .lst _ l => if l.all isF then .ok (.lst true l) else .stuck
  | _ => .stuck
def tupD (d : D) : Rs D := match d with
  | .tup l => .ok (.tup l)
  | .lst _ l => .ok (.tup (frzs l))
  | _ => .stuck
def sortD (d : D) : Rs D := match d with
  | .lst _ l => (match intsOf l with | some ns => if ns.length < 64 then .ok (.lst true ((insSort ns).map .int)) else .stuck | none => .stuck)
  | _ => .stuck
def blt1 (C : Calls) (b : Blt) (d : D) : Rs D := match b with
  | .len => lenD C d | .abs => absD d | .sum => sumD d | .all => allD d | .any => anyD d | .int => toInt d | .str => strD C d | .list => listD d | .tuple => tupD d | .sorted => sortD d
  | _ => .stuck
def blt2 (b : Blt) (d e : D) : Rs D := match d, e with
  | .int i, .int j => (match b with
    | .min => .ok (.int (if j < i then j else i))
    | .max => .ok (.int (if j > i then j else i))
    | .gcd => .ok (.int ((Nat.gcd i.natAbs j.natAbs : Nat) : Int))
    | _ => .stuck)
  | _, _ => .stuck
def bltD (C : Calls) (b : Blt) (ds : List D) : Rs D := match ds with
  | [d] => blt1 C b d
  | [d, e] => blt2 b d e
  | _ => .stuck
def smt0 (m : Smt) (z : Str) : Rs D := match m with
  | .strip => if z.length ≤ lim then .ok (.str (Txt.strip z)) else .stuck
  | _ => .stuck
def smt1 (m : Smt) (z : Str) (d : D) : Rs D := match d with
  | .int n => (match m with
    | .zfill => if PadOk n then .ok (.str (Txt.zfill z n)) else .stuck
    | _ => .stuck)
  | .lst _ l => (match m with
    | .join => (match strsOf l with
      | some xs => if (xs.map (·.length)).sum + xs.length * z.length ≤ lim then .ok (.str (Txt.join z xs)) else .stuck
      | none => .stuck)
    | _ => .stuck)
  | .str b => (match m with
    | .partition => if (b.length == 0) = false ∧ z.length ≤ lim then .ok (.tup [.str (Txt.partition z b).1, .str (Txt.partition z b).2.1, .str (Txt.partition z b).2.2]) else .stuck
    | .startswith => .ok (.bl (Txt.startswith z b))
    | .split => if (b.length == 0) = false ∧ z.length + 2 ≤ lim then .ok (.lst true ((Txt.split z b).map .str)) else .stuck
    | _ => .stuck)
  | _ => .stuck
def smtD (m : Smt) (x : D) (ds : List D) : Rs D := match x with
  | .str z => (match ds with
    | [] => smt0 m z
    | [d] => smt1 m z d
    | _ => .stuck)
  | _ => .stuck
def tyD (d : D) (t : Ty) : Bool := match d with
  | .int _ => (match t with | .int => true | _ => false)
  | .bl _ => (match t with | .int => true | .bool => true | _ => false)
  | .str _ => (match t with | .str => true | _ => false)
  | .lst _ _ => (match t with | .list => true | _ => false)
  | .tup _ => (match t with | .tuple => true | _ => false)
  | .ins c _ => (match t with | .cls c' => decide (c = c') | _ => false)
  | _ => false
def isiD (ts : List Ty) (d : D) : Rs D := match d with
  | .scr _ => .stuck
  | .obj _ _ => .stuck
  | d => .ok (.bl (ts.any (tyD d)))
def rngL (lo hi c : Int) : Option (List D) :=
  if c = 1 then (if big (some lo) && big (some hi) then some ((List.range (hi - lo).toNat).map fun (k : Nat) => .int (lo + k)) else none)
  else if c ≠ 0 ∧ c.natAbs < 1073741824 ∧ Builtin.Range.small lo hi c = true ∧ 0 ≤ Builtin.Range.rangeSize lo hi c then some ((List.range (Builtin.Range.rangeSize lo hi c).toNat).map fun (k : Nat) => .int (lo + k * c))
  else none
def setAll : List Nat → List D → Env → Option Env
  | [], [], e => some e
  | i :: r, d :: t, e => setAll r t (e.set i (some d))
  | _, _, _ => none
def Tg.put (t : Tg) (d : D) (e : Env) : Option Env := match t with
  | .nam i => some (e.set i (some d))
  | .tup is => (match d with
    | .tup l => setAll is l e
    | _ => none)
def Tg.own : Tg → List Nat
  | .nam i => [i]
  | .tup is => is
def blank : List Nat → Env → Env
  | [], e => e
  | i :: r, e => blank r (e.set i none)
/-- the slots as they stood in the elder map -/
def back (old : Env) : List Nat → Env → Env
  | [], e => e
  | i :: r, e => back old r (e.set i ((old[i]?).getD none))
def zipD : List D → List D → List D
  | x :: xs, y :: ys => .tup [x, y] :: zipD xs ys
  | _, _ => []
/-- what is walked -/
def itemsOf (d : D) : Option (List D) := match d with
  | .tup l => some l
  | .lst _ l => some l
  | .str z => some (z.cps.toList.map fun c => .str ⟨#[c]⟩)
  | _ => none
def rd (e : Env) (i : Nat) : Option D := (e[i]?).getD none
/-- the slots that are handed over -/
def iosOf : CE → List Nat
  | .cons (.io i) es => i :: iosOf es
  | .cons _ es => iosOf es
  | _ => []
def backIo : List Nat → List D → Env → Option Env
  | [], [], e => some e
  | i :: r, d :: t, e => backIo r t (e.set i (some d))
  | _, _, _ => none
def callR (C : Calls) (f : Nat) (ios : List Nat) (ds : List D) (e : Env) : Res D := match C f ds with
  | .ok d io => (match backIo ios io e with
    | some e' => .ok d e'
    | none => .stuck)
  | .exn x => .exn x e
  | .stuck => .stuck
def newR (N : Nm) (C : Calls) (c : Nat) (ds : List D) : Rs D := match C (mfid c mInit) (.obj c [] :: ds) with
  | .ok .non [.obj c' l] => if c' = c ∧ l.length = (N.fl c).length then .ok (.ins c l) else .stuck
  | .exn x => .exn x
  | _ => .stuck
def field (N : Nm) (d : D) (f : Nat) : Rs D := match d with
  | .ins c l => (match (N.fl c).idxOf? f with
    | some j => (match l[j]? with
      | some d => .ok d
      | none => .stuck)
    | none => .stuck)
  | _ => .stuck
def catS : List Str → Str
  | [] => ⟨#[]⟩
  | a :: r => a ++ catS r
/-- a comprehension's turns -/
def loopC (put : D → Env → Option Env) (c : Env → Res Bool) (e : Env → Res D) : List D → Env → List D → Res (List D)
  | [], env, acc => .ok acc env
  | d :: r, env, acc => (match put d env with
    | some e1 => (match c e1 with
      | .ok true e2 => (match e e2 with
        | .ok y e3 => loopC put c e r e3 (acc ++ [y])
        | .exn x e3 => .exn x e3
        | .stuck => .stuck)
      | .ok false e2 => loopC put c e r e2 acc
      | .exn x e2 => .exn x e2
      | .stuck => .stuck)
    | none => .stuck)
@[reducible] def Res.mapE {α : Type} (r : Res α) (f : Env → Env) : Res α := match r with
  | .ok a e => .ok a (f e)
  | .exn x e => .exn x (f e)
  | .stuck => .stuck
@[reducible] def tst (r : Res D) : Res Bool := match r with
  | .ok (.bl b) e => .ok b e
  | .ok _ _ => .stuck
  | .exn x e => .exn x e
  | .stuck => .stuck
def bnd : D → Option (Option Int)
  | .non => some none
  | .int i => some (some i)
  | _ => none
def sliceD (x l h : D) : Rs D := match bnd l, bnd h with
  | some l, some h => slice x l h
  | _, _ => .stuck
def rngOf : List D → Option (List D)
  | [.int n] => rngL 0 n 1
  | [.int a, .int b] => rngL a b 1
  | [.int a, .int b, .int c] => if c = 1 then none else rngL a b c
  | _ => none
def seqOf (d : D) : Option (List D) := match d with
  | .tup l => some l
  | .lst _ l => some l
  | _ => none
def zipOf (x y : D) : Option (List D) := match seqOf (frz x), seqOf (frz y) with
  | some l, some m => some (zipD l m)
  | _, _ => none
def lcpRun (tg : Tg) (c : Env → Res Bool) (el : Env → Res D) (l : List D) (e : Env) : Res D :=
  ((loopC tg.put c el l (blank tg.own e) []).mapE (back e tg.own)).bind fun l e => .ok (.lst true l) e
def isStr : D → Bool
  | .str _ => true
  | _ => false
def isLst : Option D → Bool
  | some (.lst _ _) => true
  | _ => false
def negD (C : Calls) (d : D) : Rs D := match d with
  | .int i => .ok (.int (-i))
  | .ins c l => (C (mfid c mNeg) [.ins c l]).rs
  | _ => .stuck
def notD (d : D) : Rs D := match d with
  | .bl b => .ok (.bl (!b))
  | _ => .stuck
def idxD (x k : D) : Rs D := match k with
  | .int k => (match item x k with
    | some y => if isF y then .ok y else .stuck
    | none => .stuck)
  | _ => .stuck
def idxV (x : Option D) (k : D) : Rs D := match x with
  | some x => if isO x then .stuck else idxD x k
  | none => .stuck
def pthV (x : Option D) (a b : D) : Rs D := match x, a with
  | some x, .int a => if isO x then .stuck else (match item x a with
    | some y => idxD y b
    | none => .stuck)
  | _, _ => .stuck
def hasM (N : Nm) (x : D) (m : Nat) : Bool := match x with
  | .ins c _ => N.has c m
  | _ => false
def mthR (C : Calls) (m : Nat) (ios : List Nat) (x : D) (ds : List D) (e : Env) : Res D := match x with
  | .ins c l => callR C (mfid c m) ios (.ins c l :: ds) e
  | _ => .stuck
mutual
/-- an expression's value, to be kept -/
def evE (N : Nm) (C : Calls) : CE → Env → Res D
  | .con c, env => (match conD c with | some d => .ok d env | none => .stuck)
  | .glo g, env => (match N.gl g with | some d => .ok d env | none => .stuck)
  | .var i, env => (match rd env i with
    | some d => if isF d then .ok d env else (match d with
      | .obj _ _ => .stuck
      | d => .ok (frz d) (env.set i (some (frz d))))
    | none => .stuck)
  | .tup es, env => (evK N C es env).bind fun ds e => .ok (.tup (frzs ds)) e
  | .lst es, env => (evK N C es env).bind fun ds e => .ok (.lst true ds) e
  | .neg a, env => (evE N C a env).bind fun d e => (negD C d).lift e
  | .bin o a b, env => (evE N C a env).bind fun x e => (evE N C b e).bind fun y e => (binD C o x y).lift e
  | .not a, env => (evE N C a env).bind fun d e => (notD d).lift e
  | .ands es, env => evA N C es env
  | .ors es, env => evO N C es env
  | .cmp o a b, env => (evE N C a env).bind fun x e => (evE N C b e).bind fun y e => ((cmpB C o (frz x) (frz y)).bind fun b => .ok (D.bl b)).lift e
  | .chn o p a b c, env => (evE N C a env).bind fun x e => (evE N C b e).bind fun y e => (match cmpB C o (frz x) (frz y) with
    | .ok true => (evE N C c e).bind fun z e => ((cmpB C p (frz y) (frz z)).bind fun b => .ok (D.bl b)).lift e
    | .ok false => .ok (.bl false) e
    | .exn x => .exn x e
    | .stuck => .stuck)
  | .ite c a b, env => (evE N C c env).bind fun d e => (match d with | .bl true => evE N C a e | .bl false => evE N C b e | _ => .stuck)
  | .idx (.var i) j, env => if (rd env i).isSome then (evE N C j env).bind fun k e => (idxV (rd e i) k).lift e else .stuck
  | .idx a j, env => (evE N C a env).bind fun x e => (evE N C j e).bind fun k e => (idxD x k).lift e
  | .pth i j k, env => (evE N C j env).bind fun a e => (evE N C k e).bind fun b e => (pthV (rd e i) a b).lift e
  | .slc a lo hi, env => (evE N C a env).bind fun x e => (evE N C lo e).bind fun l e => if (bnd l).isSome then (evE N C hi e).bind fun h e => (sliceD x l h).lift e else .stuck
  | .rev a, env => (evE N C a env).bind fun x e => (rever x).lift e
  | .cal f es, env => (evL N C es env).bind fun ds e => callR C f (iosOf es) ds e
  | .new c es, env => (evK N C es env).bind fun ds e => (newR N C c (frzs ds)).lift e
  | .mth m a es, env => (evE N C a env).bind fun x e => if hasM N x m then (evL N C es e).bind fun ds e => mthR C m (iosOf es) x ds e else .stuck
  | .app a es, env => (evE N C a env).bind fun x e => if hasM N x mCall then (evL N C es e).bind fun ds e => mthR C mCall (iosOf es) x ds e else .stuck
  | .att a f, env => (evE N C a env).bind fun x e => (field N x f).lift e
  | .blt .len (.cons (.var i) .nil), env => (match rd env i with
    | some d => if isO d then .stuck else (lenD C (frz d)).lift env
    | none => .stuck)
  | .blt b es, env => (evK N C es env).bind fun ds e => (bltD C b ds).lift e
  | .smt m a es, env => (evE N C a env).bind fun x e => if isStr x then (evK N C es e).bind fun ds e => (smtD m x ds).lift e else .stuck
  | .pop i, env => (match rd env i with
    | some (.lst true l) => (match l.getLast? with
      | some y => .ok y (env.set i (some (.lst true l.dropLast)))
      | none => .stuck)
    | _ => .stuck)
  | .pop0 i, env => (match rd env i with
    | some (.lst true (y :: l)) => .ok y (env.set i (some (.lst true l)))
    | _ => .stuck)
  | .isi a ts, env => (evE N C a env).bind fun x e => (isiD ts x).lift e
  | .lcp tg (.rng es) c a, env => (evK N C es env).bind fun ds e => (match rngOf ds with
    | some l => lcpRun tg (fun e => tst (evE N C c e)) (evE N C a) l e
    | none => .stuck)
  | .lcp tg (.zip x y) c a, env => (evE N C x env).bind fun x e => (evE N C y e).bind fun y e => (match zipOf x y with
    | some l => lcpRun tg (fun e => tst (evE N C c e)) (evE N C a) l e
    | none => .stuck)
  | .lcp tg it c a, env => (evE N C it env).bind fun x e => (match itemsOf (frz x) with
    | some l => lcpRun tg (fun e => tst (evE N C c e)) (evE N C a) l e
    | none => .stuck)
  | .fmt es, env => (evK N C es env).bind fun ds e => (match strsOf ds with
    | some xs => if (catS xs).length ≤ lim then .ok (.str (catS xs)) e else .stuck
    | none => .stuck)
  | _, _ => .stuck
termination_by structural c => c
/-- a and b and .. -/
def evA (N : Nm) (C : Calls) : CE → Env → Res D
  | .cons a .nil, env => evE N C a env
  | .cons a es, env => (evE N C a env).bind fun d e => (match d with | .bl true => evA N C es e | .bl false => .ok (.bl false) e | _ => .stuck)
  | _, _ => .stuck
termination_by structural c => c
def evO (N : Nm) (C : Calls) : CE → Env → Res D
  | .cons a .nil, env => evE N C a env
  | .cons a es, env => (evE N C a env).bind fun d e => (match d with | .bl false => evO N C es e | .bl true => .ok (.bl true) e | _ => .stuck)
  | _, _ => .stuck
termination_by structural c => c
/-- arguments, items of a tuple: frozen (but those handed over) -/
def evL (N : Nm) (C : Calls) : CE → Env → Res (List D)
  | .nil, env => .ok [] env
  | .cons (.io i) es, env => (match rd env i with
    | some d => if isO d then .stuck else (evL N C es (env.set i none)).bind fun ds e => .ok (d :: ds) e
    | none => .stuck)
  | .cons a es, env => (evE N C a env).bind fun d e => (evL N C es e).bind fun ds e => .ok (frz d :: ds) e
  | _, _ => .stuck
termination_by structural c => c
/-- items of a list: as they are -/
def evK (N : Nm) (C : Calls) : CE → Env → Res (List D)
  | .nil, env => .ok [] env
  | .cons a es, env => (evE N C a env).bind fun d e => (evK N C es e).bind fun ds e => .ok (d :: ds) e
  | _, _ => .stuck
termination_by structural c => c
end

def fuel : Nat := 1000000000000
def loopW (c : Env → Res Bool) (b : Env → RS) : Nat → Env → RS
  | 0, _ => .stuck
  | n + 1, env => (match c env with
    | .ok true e => (match b e with
      | .nxt e => loopW c b n e
      | .cnt e => loopW c b n e
      | .brk e => .nxt e
      | r => r)
    | .ok false e => .nxt e
    | .exn x e => .exn x e
    | .stuck => .stuck)
def loopF (put : D → Env → Option Env) (b : Env → RS) : List D → Env → RS
  | [], env => .nxt env
  | d :: r, env => (match put d env with
    | some e => (match b e with
      | .nxt e => loopF put b r e
      | .cnt e => loopF put b r e
      | .brk e => .nxt e
      | r => r)
    | none => .stuck)
/-- what is walked -/
def evI (N : Nm) (C : Calls) (it : CE) (env : Env) : Res (List D) := match it with
  | .rng es => (evK N C es env).bind fun ds e => (match rngOf ds with
    | some l => .ok l e
    | none => .stuck)
  | .zip x y => (evE N C x env).bind fun x e => (evE N C y e).bind fun y e => (match zipOf x y with
    | some l => .ok l e
    | none => .stuck)
  | it => (evE N C it env).bind fun x e => (match itemsOf (frz x) with
    | some l => .ok l e
    | none => .stuck)
def evT (N : Nm) (C : Calls) (c : CE) (env : Env) : Res Bool := tst (evE N C c env)
/-- a value to be put into a list: a name's list may be handed on -/
def evM (N : Nm) (C : Calls) : CE → Env → Res D
  | .io i, env => (match rd env i with
    | some d => if isO d then .stuck else .ok d (env.set i none)
    | none => .stuck)
  | e, env => evE N C e env
def evRet (N : Nm) (C : Calls) : CE → Env → Res D
  | .nil, env => .ok .non env
  | .var i, env => (match rd env i with
    | some d => (match d with
      | .obj _ _ => .stuck
      | d => if isF d then .ok d env else .ok d (env.set i none))
    | none => .stuck)
  | e, env => evE N C e env
def hand (N : Nm) : CS → Exn → Env → RS
  | .hret cs d h, x, e => if cs.any (N.sub x.c) then (match conD d with | some d => .ret d e | none => .stuck) else hand N h x e
  | .hinc cs i k h, x, e => if cs.any (N.sub x.c) then (match rd e i with | some (.int j) => .nxt (e.set i (some (.int (j + k)))) | _ => .stuck) else hand N h x e
  | .hfld cs i f h, x, e => if cs.any (N.sub x.c) then (match x.f with | some d => if N.xf x.c = some f then .ret d (e.set i none) else .stuck | none => .stuck) else hand N h x e
  | .hnil, x, e => .exn x e
  | _, _, _ => .stuck
def exec (N : Nm) (C : Calls) : CS → Env → RS
  | .skip, env => .nxt env
  | .seq s t, env => (match exec N C s env with
    | .nxt e => exec N C t e
    | r => r)
  | .exp e, env => (evE N C e env).bindS fun _ e => .nxt e
  | .asg i e, env => (evE N C e env).bindS fun d e => .nxt (e.set i (some d))
  | .asgT is e, env => (evE N C e env).bindS fun d e => (match (Tg.tup is).put d e with | some e => .nxt e | none => .stuck)
  | .par i j a b, env => (evE N C a env).bindS fun x e => (evE N C b e).bindS fun y e => .nxt ((e.set i (some x)).set j (some y))
  | .sat f a, env => (evE N C a env).bindS fun d e => (match rd e 0 with
    | some (.obj c l) => if (N.fl c)[l.length]? = some f then .nxt (e.set 0 (some (.obj c (l ++ [frz d])))) else .stuck
    | _ => .stuck)
  | .sub i j a, env => (evE N C a env).bindS fun d e => (evE N C j e).bindS fun k e => (match rd e i, k with
    | some (.lst true l), .int k => (match ixN l.length k with
      | some n => .nxt (e.set i (some (.lst true (l.set n d))))
      | none => .stuck)
    | _, _ => .stuck)
  | .swp i j k, env => (evE N C j env).bindS fun a e => (evE N C k e).bindS fun b e => (match rd e i, a, b with
    | some (.lst true l), .int a, .int b => (match ixN l.length a, ixN l.length b with
      | some m, some n => (match l[m]?, l[n]? with
        | some x, some y => .nxt (e.set i (some (.lst true ((l.set m y).set n x))))
        | _, _ => .stuck)
      | _, _ => .stuck)
    | _, _, _ => .stuck)
  | .aug i o a, env => (match rd env i with
    | some (.int x) => (evE N C a env).bindS fun d e => (match o, d with
      | .Add, .int y => .nxt (e.set i (some (.int (x + y))))
      | .Sub, .int y => .nxt (e.set i (some (.int (x - y))))
      | _, _ => .stuck)
    | _ => .stuck)
  | .apd i a, env => if isLst (rd env i) = false then .stuck else (evM N C a env).bindS fun d e => (match rd e i with
    | some (.lst true l) => if l.length < lim then .nxt (e.set i (some (.lst true (l ++ [d])))) else .stuck
    | _ => .stuck)
  | .ite c s t, env => (evT N C c env).bindS fun b e => if b then exec N C s e else exec N C t e
  | .whl c s, env => loopW (evT N C c) (fun e => exec N C s e) fuel env
  | .for tg it s, env => (evI N C it env).bindS fun ds e => loopF tg.put (fun e => exec N C s e) ds e
  | .ret a, env => (evRet N C a env).bindS fun d e => .ret d e
  | .rai c a, env => (evE N C a env).bindS fun d e => .exn ⟨c, (N.xf c).map fun _ => frz d⟩ e
  | .try s h, env => (match exec N C s env with
    | .exn x e => hand N h x e
    | r => r)
  | .brk, env => .brk env
  | .cnt, env => .cnt env
  | _, _ => .stuck
termination_by structural c => c
/-- a def: its parameters' number, its names' number, its defaults, the parameters that are handed over, its body -/
structure Fd where
  np : Nat
  nv : Nat
  dfl : List D := []
  io : List Nat := []
  body : CS
def finals (io : List Nat) (d : D) (e : Env) : CR := match io.mapM (rd e) with
  | some l => .ok d l
  | none => .stuck
def runF (N : Nm) (C : Calls) (fd : Fd) (ds : List D) : CR :=
  match exec N C fd.body ((ds ++ fd.dfl.drop (fd.dfl.length + ds.length - fd.np)).map some ++ List.replicate (fd.nv - fd.np) none) with
  | .nxt e => finals fd.io .non e
  | .ret d e => finals fd.io d e
  | .exn x _ => .exn x
  | _ => .stuck
def callN (N : Nm) (P : Nat → Option Fd) : Nat → Calls
  | 0 => fun _ _ => .stuck
  | n + 1 => fun f ds => match P f with
    | some fd => if ds.length ≤ fd.np ∧ fd.np ≤ ds.length + fd.dfl.length ∧ fd.np ≤ fd.nv then runF N (callN N P n) fd ds else .stuck
    | none => .stuck
example (N : Nm) (C : Calls) (env : Env) : evE N C (.con (.int 3)) env = .ok (.int 3) env := rfl
example (N : Nm) (C : Calls) (env : Env) : exec N C (.seq (.ret (.con (.int 3))) .skip) env = .ret (.int 3) env := rfl
end Z

namespace Z
open PySem PySem.Spec PyProof.Rows L2

/-- the names of a text by their numbers -/
structure Ns where
  fn : Nat → Str
  cl : Nat → Str
  fl : Nat → Str
  mt : Nat → Str
  gl : Nat → Str
/-- all that stands still through a law -/
structure Wd where
  T : Tab
  n : Ns
  N : Nm
  P : Nat → Option Fd
  fad : Nat → Addr
  fda : Nat → FuncData
  fps : Nat → List Str
  fdv : Nat → List V
  prog : Program
  w : World
  mg : Str → Option Value
  base : Heap
  /-- the error classes -/
  xs : List Nat
  /-- the built-in functions that are called -/
  bs : List Blt

/-- a raised error's object -/
def xrep (W : Wd) (F : Hp) (x : Exn) (cls : Value) (dd : Option Addr) : Prop :=
  x.c ∈ W.xs ∧ cls = .ref (W.T.cad x.c) ∧ (match x.f with
  | none => dd = none
  | some d => ∃ a v f, dd = some a ∧ W.N.xf x.c = some f ∧ F a = some (.xd [(W.n.fl f, v)]) ∧ frep W.T F d v)

section
variable (W : Wd) (Wx : WX) (σ : L2.St) {α β : Type}
/-- what is wanted behind an evaluation -/
def Aft (rp : Hp → Hp → α → β → List Addr → Prop) (F H : Hp) (A : List Addr) (r : Res α) (Q : β → Hp → Prop) : Prop := match r with
  | .ok d env => ∀ v F' H' A' B, Stp F H A F' H' (A' ++ B) → repE W.T F' H' env σ A' → rp F' H' d v B → Q v H'
  | .exn x env => ∀ cls dd F' H' A', Stp F H A F' H' A' → repE W.T F' H' env σ A' → xrep W F' x cls dd → Wx cls dd σ H'
  | .stuck => False
end
abbrev rV (W : Wd) : Hp → Hp → D → V → List Addr → Prop := fun F H d v B => rep W.T F H d v B
abbrev rL (W : Wd) : Hp → Hp → List D → List V → List Addr → Prop := fun F H d v B => reps W.T F H d v B
abbrev rB : Hp → Hp → Bool → Bool → List Addr → Prop := fun _ _ b c _ => b = c
section
variable (W : Wd) (C : Calls) (Wx : WX)
/-- a reading by an evaluation -/
def tG {α β : Type} (rp : Hp → Hp → α → β → List Addr → Prop) (ev : Env → Res α) : L2.St → Hp → (β → Hp → Prop) → Prop := fun σ H Q =>
  ∃ F A env, Stt F H A ∧ repE W.T F H env σ A ∧ Aft W Wx σ rp F H A (ev env) Q
abbrev tE (ce : CE) : TE := tG W Wx (rV W) (evE W.N C ce)
/-- the arguments that are handed over are the slots' values -/
def ioRel : CE → List V → L2.St → Prop
  | .cons (.io i) es, v :: vs, σ => σ[i]? = some (some v) ∧ ioRel es vs σ
  | .cons _ es, _ :: vs, σ => ioRel es vs σ
  | _, _, _ => True
abbrev rA (W : Wd) (ce : CE) (σ : L2.St) : Hp → Hp → List D → List V → List Addr → Prop := fun F H d v B => reps W.T F H d v B ∧ ioRel ce v σ
abbrev tL (ce : CE) : TA := fun σ H Q => tG W Wx (rA W ce σ) (evL W.N C ce) σ H Q
abbrev tK (ce : CE) : TA := tG W Wx (rL W) (evK W.N C ce)
abbrev tT (ce : CE) : TT := tG W Wx rB (evT W.N C ce)
end
section
variable {W : Wd} {C : Calls} {Wx : WX} {σ : L2.St} {F H : Hp} {A : List Addr} {α β γ δ : Type}
variable {rp : Hp → Hp → α → β → List Addr → Prop} {rq : Hp → Hp → γ → δ → List Addr → Prop}
/-- the first part of a longer evaluation -/
theorem aft_bind {r : Res α} {f : α → Env → Res γ} {Q : δ → Hp → Prop} (h : Aft W Wx σ rq F H A (r.bind f) Q) :
    Aft W Wx σ rp F H A r (fun v H1 => ∃ d env F1 A1 B1, Stp F H A F1 H1 (A1 ++ B1) ∧ repE W.T F1 H1 env σ A1 ∧ rp F1 H1 d v B1 ∧ Aft W Wx σ rq F H A (f d env) Q) := by
  cases r with
  | ok d env =>
    intro v F' H' A' B p r1 r2
    exact ⟨d, env, F', A', B, p, r1, r2, h⟩
  | exn x env => exact h
  | stuck => exact h
theorem aft_mono {r : Res α} {Q Q' : β → Hp → Prop} (h : Aft W Wx σ rp F H A r Q) (hq : ∀ v H', Q v H' → Q' v H') : Aft W Wx σ rp F H A r Q' := by
  cases r with
  | ok d env => exact fun v F' H' A' B p r1 r2 => hq _ _ (h v F' H' A' B p r1 r2)
  | exn x env => exact h
  | stuck => exact h
theorem tG_mono {ev : Env → Res α} {Q Q' : β → Hp → Prop} (h : tG W Wx rp ev σ H Q) (hq : ∀ v H', Q v H' → Q' v H') : tG W Wx rp ev σ H Q' :=
  let ⟨F, A, env, st, re, h⟩ := h
  ⟨F, A, env, st, re, aft_mono h hq⟩
/-- an evaluation behind a step, B1 standing beside -/
theorem aft_step {r : Res α} {F1 H1 : Hp} {A1 B1 : List Addr} {Q : β → Hp → Prop} (p : Stp F H A F1 H1 (A1 ++ B1))
    (h : match r with
      | .ok d env => ∀ v F' H' A' B, Stp F H A F' H' ((A' ++ B) ++ B1) → Stp F1 H1 A1 F' H' (A' ++ B) → (∀ a ∈ B1, H' a = H1 a) → repE W.T F' H' env σ A' → rp F' H' d v B → Q v H'
      | .exn x env => ∀ cls dd F' H' A', Stp F H A F' H' (A' ++ B1) → repE W.T F' H' env σ A' → xrep W F' x cls dd → Wx cls dd σ H'
      | .stuck => False) : Aft W Wx σ rp F1 H1 A1 r Q := by
  cases r with
  | ok d env =>
    intro v F' H' A' B q r1 r2
    exact h v F' H' A' B (p.trans (q.beside p.st)) q (q.keepB p.st) r1 r2
  | exn x env =>
    intro cls dd F' H' A' q r1 x1
    exact h cls dd F' H' A' (p.trans (q.beside p.st)) r1 x1
  | stuck => exact h
theorem Stp.dropB {F1 H1 : Hp} {A1 B1 : List Addr} (p : Stp F H A F1 H1 (A1 ++ B1)) : Stp F H A F1 H1 A1 := p.less (fun _ h => List.mem_append_left _ h) (List.nodup_append.mp p.st.nd).1
/-- the second part: what the first gave stands beside it -/
theorem aft_more {r : Res α} {f : α → Env → Res γ} {F1 H1 : Hp} {A1 B1 : List Addr} {Q : δ → Hp → Prop} (p : Stp F H A F1 H1 (A1 ++ B1)) (h : Aft W Wx σ rq F H A (r.bind f) Q) :
    Aft W Wx σ rp F1 H1 A1 r (fun v H2 => ∃ d env F2 A2 B2, Stp F H A F2 H2 ((A2 ++ B2) ++ B1) ∧ (∀ a o, F1 a = some o → F2 a = some o) ∧ (∀ a ∈ B1, H2 a = H1 a) ∧ repE W.T F2 H2 env σ A2 ∧ rp F2 H2 d v B2 ∧ Aft W Wx σ rq F H A (f d env) Q) := by
  refine aft_step p ?_
  cases r with
  | ok d env => exact fun v F' H' A' B q q1 k r1 r2 => ⟨d, env, F', A', B, q, q1.mono, k, r1, r2, h⟩
  | exn x env => exact fun cls dd F' H' A' q r1 x1 => h cls dd F' H' A' q.dropB r1 x1
  | stuck => exact h
/-- one value -/
def One (W : Wd) (Wx : WX) (σ : L2.St) (rp : Hp → Hp → α → β → List Addr → Prop) (rq : Hp → Hp → γ → δ → List Addr → Prop) (F H : Hp) (A : List Addr) (f : α → Env → Res γ) (Q : δ → Hp → Prop) (x : β) (H1 : Hp) : Prop :=
  ∃ d env F1 A1 B1, Stp F H A F1 H1 (A1 ++ B1) ∧ repE W.T F1 H1 env σ A1 ∧ rp F1 H1 d x B1 ∧ Aft W Wx σ rq F H A (f d env) Q
theorem one {ev : Env → Res α} {f : α → Env → Res γ} {Q : δ → Hp → Prop} (h : tG W Wx rq (fun env => (ev env).bind f) σ H Q) :
    tG W Wx rp ev σ H fun x H1 => ∃ F A, One W Wx σ rp rq F H A f Q x H1 := by
  obtain ⟨F, A, env, s, r, h⟩ := h
  refine ⟨F, A, env, s, r, ?_⟩
  have q := aft_bind (rp := rp) h
  revert q
  cases ev env with
  | ok d env => exact fun q v F' H' A' B p r1 r2 => ⟨F, A, q v F' H' A' B p r1 r2⟩
  | exn x env => exact id
  | stuck => exact id
/-- two values, one behind the other -/
def Two (W : Wd) (Wx : WX) (σ : L2.St) (rq : Hp → Hp → γ → δ → List Addr → Prop) (F H : Hp) (A : List Addr) (f : D → D → Env → Res γ) (Q : δ → Hp → Prop) (x y : V) (H2 : Hp) : Prop :=
  ∃ d1 d2 env F2 A2 B1 B2, Stp F H A F2 H2 ((A2 ++ B2) ++ B1) ∧ repE W.T F2 H2 env σ A2 ∧ rep W.T F2 H2 d1 x B1 ∧ rep W.T F2 H2 d2 y B2 ∧ Aft W Wx σ rq F H A (f d1 d2 env) Q
theorem two {ev ev' : Env → Res D} {f : D → D → Env → Res γ} {Q : δ → Hp → Prop} (h : tG W Wx rq (fun env => (ev env).bind fun x e => (ev' e).bind fun y e => f x y e) σ H Q) :
    tG W Wx (rV W) ev σ H fun x H1 => tG W Wx (rV W) ev' σ H1 fun y H2 => ∃ F A, Two W Wx σ rq F H A f Q x y H2 := by
  obtain ⟨F, A, env, s, r, h⟩ := h
  refine ⟨F, A, env, s, r, ?_⟩
  have q := aft_bind (rp := rV W) h
  revert q
  cases ev env with
  | exn x env => exact id
  | stuck => exact id
  | ok d env =>
    intro q v F1 H1 A1 B1 p r1 r2
    obtain ⟨d1, env1, F1, A1, B1, p, r1, r2, q⟩ := q v F1 H1 A1 B1 p r1 r2
    refine ⟨F1, A1, env1, p.st.left, r1, ?_⟩
    have z := aft_more (rp := rV W) p q
    revert z
    cases ev' env1 with
    | exn x env => exact id
    | stuck => exact id
    | ok e env2 =>
      intro z v2 F2 H2 A2 B2 p2 r3 r4
      obtain ⟨d2, env2, F2, A2, B2, p2, mo, k, r3, r4, z⟩ := z v2 F2 H2 A2 B2 p2 r3 r4
      exact ⟨F, A, d1, d2, env2, F2, A2, B1, B2, p2, r3, rep_mono mo d1 v B1 k r2, r4, z⟩
end

theorem Stp.newF {F H F1 H1 : Hp} {A A1 : List Addr} {q : Addr} {o : HO} (p : Stp F H A F1 H1 A1) (hq : H1 q = none) : Stp F H A (upd F1 q o) (upd H1 q o) A1 := by
  have hA : H q = none ∨ q ∈ A := by
    by_cases z : q ∈ A
    · exact .inr z
    · refine .inl ?_
      cases e : H q with
      | none => rfl
      | some u => rw [p.keep q u z e] at hq; cases hq
  have hF : F1 q = none := by
    cases e : F1 q with
    | none => rfl
    | some u => rw [p.st.sub q u e] at hq; cases hq
  refine ⟨⟨fun a u h => ?_, fun a ha => ?_, fun a ha => ?_, p.st.nd⟩, fun a u h => ?_, fun a u ha h => ?_, p.foot, fun a u h => ?_⟩
  · by_cases z : a = q
    · subst z; rw [upd_same] at h ⊢; exact h
    · rw [upd_ne z] at h ⊢; exact p.st.sub a u h
  · obtain ⟨u, hu⟩ := p.st.al a ha
    rw [upd_ne (ne_of_none hu hq)]
    exact p.st.dj a ha
  · obtain ⟨u, hu⟩ := p.st.al a ha
    exact ⟨u, by rw [upd_ne (ne_of_none hu hq)]; exact hu⟩
  · have := p.mono a u h
    rw [upd_ne (ne_of_none this hF)]; exact this
  · have := p.keep a u ha h
    rw [upd_ne (ne_of_none this hq)]; exact this
  · by_cases z : a = q
    · subst z; exact .inr hA.symm
    · rw [upd_ne z] at h; exact p.froz a u h
theorem Stp.newO {F H F1 H1 : Hp} {A A1 : List Addr} {q : Addr} {o : HO} (p : Stp F H A F1 H1 A1) (hq : H1 q = none) : Stp F H A F1 (upd H1 q o) (q :: A1) := by
  have hA : q ∈ A ∨ H q = none := by
    by_cases z : q ∈ A
    · exact .inl z
    · refine .inr ?_
      cases e : H q with
      | none => rfl
      | some u => rw [p.keep q u z e] at hq; cases hq
  have hF : F1 q = none := by
    cases e : F1 q with
    | none => rfl
    | some u => rw [p.st.sub q u e] at hq; cases hq
  refine ⟨⟨fun a u h => ?_, fun a ha => ?_, fun a ha => ?_, List.nodup_cons.mpr ⟨fun z => ?_, p.st.nd⟩⟩, p.mono, fun a u ha h => ?_, fun a ha => ?_, p.froz⟩
  · have := p.st.sub a u h
    rw [upd_ne (ne_of_none this hq)]; exact this
  · rcases List.mem_cons.mp ha with rfl | ha
    · exact hF
    · exact p.st.dj a ha
  · rcases List.mem_cons.mp ha with rfl | ha
    · exact ⟨o, upd_same⟩
    · obtain ⟨u, hu⟩ := p.st.al a ha
      exact ⟨u, by rw [upd_ne (ne_of_none hu hq)]; exact hu⟩
  · obtain ⟨u, hu⟩ := p.st.al q z
    rw [hq] at hu; cases hu
  · have := p.keep a u ha h
    rw [upd_ne (ne_of_none this hq)]; exact this
  · rcases List.mem_cons.mp ha with rfl | ha
    · exact hA
    · exact p.foot a ha
/-- an object at q, owned, is written -/
theorem Stp.wrt {F H F1 H1 : Hp} {A A1 : List Addr} {q : Addr} {o : HO} (p : Stp F H A F1 H1 A1) (hq : q ∈ A1) : Stp F H A F1 (upd H1 q o) A1 := by
  refine ⟨⟨fun a u h => ?_, p.st.dj, fun a ha => ?_, p.st.nd⟩, p.mono, fun a u ha h => ?_, p.foot, p.froz⟩
  · have z : a ≠ q := fun z => by subst z; rw [p.st.dj a hq] at h; cases h
    rw [upd_ne z]; exact p.st.sub a u h
  · by_cases z : a = q
    · subst z; exact ⟨o, upd_same⟩
    · obtain ⟨u, hu⟩ := p.st.al a ha
      exact ⟨u, by rw [upd_ne z]; exact hu⟩
  · have k := p.keep a u ha h
    have z : a ≠ q := fun z => by
      subst z
      rcases p.foot a hq with y | y
      · exact ha y
      · rw [h] at y; cases y
    rw [upd_ne z]; exact k
/-- what is owned may be taken in another order, in part -/
theorem Stp.sel {F H F1 H1 : Hp} {A A1 B : List Addr} (p : Stp F H A F1 H1 A1) (h : B.Sublist A1) : Stp F H A F1 H1 B := p.less (fun a ha => h.subset ha) (h.nodup p.st.nd)
/-- some of it frozen -/
theorem Stp.frozen {F H F1 H1 : Hp} {A A1 B : List Addr} (p : Stp F H A F1 H1 (A1 ++ B)) : Stp F H A (frzH F1 H1 B) H1 A1 := p.trans p.st.frozen
theorem frzH_old {F1 H1 : Hp} {A1 B : List Addr} (s : Stt F1 H1 (A1 ++ B)) : ∀ a o, F1 a = some o → frzH F1 H1 B a = some o := frzH_mono fun a ha => s.dj a (List.mem_append_right _ ha)
/-- a value at hand is frozen -/
theorem frz_here {T : Tab} {F1 H1 : Hp} {A1 B : List Addr} {d : D} {v : V} (s : Stt F1 H1 (A1 ++ B)) (r : rep T F1 H1 d v B) : frep T (frzH F1 H1 B) (frz d) v :=
  frz_rep (frzH_old s) d v B (fun a ha => frzH_in ha) r
theorem frzs_here {T : Tab} {F1 H1 : Hp} {A1 B : List Addr} {d : List D} {v : List V} (s : Stt F1 H1 (A1 ++ B)) (r : reps T F1 H1 d v B) : freps T (frzH F1 H1 B) (frzs d) v :=
  frzs_reps (frzH_old s) d v B (fun a ha => frzH_in ha) r
theorem rep_of_frep {T : Tab} {F H : Hp} {d : D} {v : V} (r : frep T F d v) : rep T F H d v [] := by
  cases d with
  | lst o l => cases o with
    | true => simp only [frep] at r; cases r.1
    | false => simp only [rep]; exact ⟨trivial, r⟩
  | obj c l => simp only [frep] at r
  | _ => simp only [rep]; exact ⟨trivial, r⟩
theorem reps_of_freps {T : Tab} {F H : Hp} : ∀ {l : List D} {vs : List V}, freps T F l vs → reps T F H l vs []
  | [], [], _ => by simp [reps]
  | [], _ :: _, h => by simp [freps] at h
  | _ :: _, [], h => by simp [freps] at h
  | d :: l, v :: vs, h => by
    simp only [freps] at h
    simp only [reps]
    exact ⟨[], [], rfl, rep_of_frep h.1, reps_of_freps h.2⟩
theorem reps_app {T : Tab} {F H : Hp} : ∀ {l m : List D} {vs ws : List V} {A B : List Addr}, reps T F H l vs A → reps T F H m ws B → reps T F H (l ++ m) (vs ++ ws) (A ++ B)
  | [], m, [], ws, A, B, h, h2 => by simp only [reps] at h; subst h; simpa using h2
  | [], _, _ :: _, _, _, _, h, _ => by simp [reps] at h
  | _ :: _, _, [], _, _, _, h, _ => by simp [reps] at h
  | d :: l, m, v :: vs, ws, A, B, h, h2 => by
    simp only [reps] at h
    obtain ⟨A1, A2, e, r1, r2⟩ := h
    simp only [List.cons_append, reps]
    exact ⟨A1, A2 ++ B, by rw [e, List.append_assoc], r1, reps_app r2 h2⟩
theorem freps_app {T : Tab} {F : Hp} : ∀ {l m : List D} {vs ws : List V}, freps T F l vs → freps T F m ws → freps T F (l ++ m) (vs ++ ws)
  | [], m, [], ws, h, h2 => by simpa using h2
  | [], _, _ :: _, _, h, _ => by simp [freps] at h
  | _ :: _, _, [], _, h, _ => by simp [freps] at h
  | d :: l, m, v :: vs, ws, h, h2 => by
    simp only [freps] at h
    simp only [List.cons_append, freps]
    exact ⟨h.1, freps_app h.2 h2⟩
theorem reps_isF {T : Tab} {F H : Hp} : ∀ {l : List D} {vs : List V} {A : List Addr}, l.all isF = true → reps T F H l vs A → A = [] ∧ freps T F l vs
  | [], [], _, _, h => by simp only [reps] at h; exact ⟨h, by simp [freps]⟩
  | [], _ :: _, _, _, h => by simp [reps] at h
  | _ :: _, [], _, _, h => by simp [reps] at h
  | d :: l, v :: vs, A, k, h => by
    simp only [List.all_cons, Bool.and_eq_true] at k
    simp only [reps] at h
    obtain ⟨A1, A2, e, r1, r2⟩ := h
    obtain ⟨e1, f1⟩ := (rep_isF k.1).mp r1
    obtain ⟨e2, f2⟩ := reps_isF k.2 r2
    subst e1 e2
    exact ⟨by simpa using e, by simp only [freps]; exact ⟨f1, f2⟩⟩
/-- a list at hand, its items -/
theorem rep_lst {T : Tab} {F H : Hp} {o : Bool} {l : List D} {v : V} {B : List Addr} (sub : ∀ a o, F a = some o → H a = some o) (r : rep T F H (.lst o l) v B) : ∃ a vs B', v = .ref a ∧ H a = some (.lst vs) ∧ B'.Sublist B ∧ reps T F H l vs B' := by
  cases o with
  | true =>
    simp only [rep] at r
    obtain ⟨a, vs, B', e, eA, q, r⟩ := r
    exact ⟨a, vs, B', e, q, by rw [eA]; exact List.sublist_cons_self _ _, r⟩
  | false =>
    simp only [rep, frep] at r
    obtain ⟨e0, _, a, vs, e, q, r⟩ := r
    exact ⟨a, vs, [], e, sub _ _ q, List.nil_sublist _, reps_of_freps r⟩
end Z

namespace Z
open PySem PySem.Spec L2

/-- a context below which core expressions are run: the law's tables, room for k levels -/
structure Gd (W : Wd) (k : Nat) (X : Cx) : Prop where
  prog : X.prog = W.prog
  w : X.w = W.w
  K : X.K = W.T.K
  mg : X.mg = W.mg
  base : X.base = W.base
  calm : X.calm = true
  nd : X.N.Nodup
  room : Room (k + 10) X.A
section
variable {W : Wd} {k : Nat} {X : Cx} {C : Calls} {Wx : WX} {σ : L2.St} {F H F2 H2 : Hp} {A A2 B1 B2 : List Addr} {Q : VK} {d : D} {env : Env} {x y : V}
/-- the value d is at hand as v, where nothing new is made -/
theorem fin_here (h : Aft W Wx σ (rV W) F H A (.ok d env) Q) {v : V} {B : List Addr} (p : Stp F H A F2 H2 (A2 ++ B)) (r : repE W.T F2 H2 env σ A2) (rv : frep W.T F2 d v) : Q v H2 :=
  h v F2 H2 A2 [] (by simpa using p.dropB) r (rep_of_frep rv)
/-- a new frozen object -/
theorem fin_newF (h : Aft W Wx σ (rV W) F H A (.ok d env) Q) {B : List Addr} {o : HO} {q : Addr} (p : Stp F H A F2 H2 (A2 ++ B)) (r : repE W.T F2 H2 env σ A2) (hq : H2 q = none) (rv : ∀ F3, (∀ a u, F2 a = some u → F3 a = some u) → F3 q = some o → frep W.T F3 d (.ref q)) : Q (.ref q) (upd H2 q o) := by
  have p3 := p.dropB.newF (o := o) hq
  have mo : ∀ a u, F2 a = some u → upd F2 q o a = some u := fun a u z => by
    have := p.st.sub a u z
    rw [upd_ne (ne_of_none this hq)]; exact z
  refine h (.ref q) (upd F2 q o) (upd H2 q o) A2 [] (by simpa using p3) (repE_mono mo env σ A2 (fun a ha => ?_) r) (rep_of_frep (rv _ mo upd_same))
  obtain ⟨u, hu⟩ := p.st.al a (List.mem_append_left _ ha)
  exact upd_ne (ne_of_none hu hq)
theorem Stp.fr (p : Stp F H A F2 H2 (A2 ++ B2)) {q : Addr} {o : HO} (hq : H2 q = none) : ∀ a ∈ A2 ++ B2, upd H2 q o a = H2 a := fun a ha => by
  obtain ⟨u, hu⟩ := p.st.al a ha
  exact upd_ne (ne_of_none hu hq)
theorem perm_sub {α : Type} {A B : List α} (h : A.Perm B) (nd : A.Nodup) : (∀ a ∈ B, a ∈ A) ∧ B.Nodup := ⟨fun a ha => h.symm.subset ha, h.nodup nd⟩
theorem Stp.perm {F H F1 H1 : Hp} {A A1 B : List Addr} (p : Stp F H A F1 H1 A1) (h : A1.Perm B) : Stp F H A F1 H1 B := p.less (fun a ha => h.symm.subset ha) (h.nodup p.st.nd)
/-- a new owned list of the items l, whose owned parts are B -/
theorem fin_newL {l : List D} (h : Aft W Wx σ (rV W) F H A (.ok (.lst true l) env) Q) {B : List Addr} {vs : List V} {q : Addr} (p : Stp F H A F2 H2 (A2 ++ B)) (r : repE W.T F2 H2 env σ A2) (rv : reps W.T F2 H2 l vs B) (hq : H2 q = none) : Q (.ref q) (upd H2 q (.lst vs)) := by
  have p3 : Stp F H A F2 (upd H2 q (.lst vs)) (A2 ++ (q :: B)) := (p.newO (o := .lst vs) hq).perm (List.perm_middle.symm)
  have fr := p.fr (o := .lst vs) hq
  refine h (.ref q) F2 (upd H2 q (.lst vs)) A2 (q :: B) p3 (repE_mono (fun _ _ z => z) env σ A2 (fun a ha => fr a (List.mem_append_left _ ha)) r) ?_
  simp only [rep]
  exact ⟨q, vs, B, rfl, rfl, upd_same, reps_mono (fun _ _ z => z) l vs B (fun a ha => fr a (List.mem_append_right _ ha)) rv⟩
end
theorem CMul.int {i j : Int} (h : mulOk i j = true) : IntMulOk i j := by
  unfold mulOk at h
  simp only [Bool.or_eq_true, decide_eq_true_eq] at h
  rcases h with (h | h) | h
  · exact (show CMul i j from .inl (by omega)).ok
  · exact (show CMul i j from .inr (by omega)).ok
  · have b : ∀ x : Int, Builtin.Int.intBits x ≤ x.natAbs.log2 + 1 := fun x => by
      unfold Builtin.Int.intBits
      split <;> omega
    have h1 := b i
    have h2 := b j
    have e : bitsLine = 134217728 := by decide
    unfold IntMulOk
    intro z
    rw [Bool.and_eq_true] at z
    have z2 := z.2
    unfold Builtin.Int.intTooBig at z2
    have z3 := of_decide_eq_true z2
    rw [e] at z3
    omega
theorem rep_int {T : Tab} {F H : Hp} {i : Int} {v : V} {B : List Addr} (r : rep T F H (.int i) v B) : v = .int i := by
  simp only [rep, frep] at r
  exact r.2
theorem frep_int {T : Tab} {F : Hp} {i : Int} : frep T F (.int i) (.int i) := by simp only [frep]
theorem frep_bl {T : Tab} {F : Hp} {i : Bool} : frep T F (.bl i) (.bl i) := by simp only [frep]
theorem frep_str {T : Tab} {F : Hp} {i : Str} : frep T F (.str i) (.str i) := by simp only [frep]
section
variable {W : Wd} {k : Nat} {X : Cx} {C : Calls} {Wx : WX} {σ : L2.St} {F H F2 H2 : Hp} {A A2 B1 B2 : List Addr} {Q : VK} {env : Env} {x y : V}
variable {pins : List (Addr × Obj)} {s : Shared} {v u : Value}
theorem l_int {o : Operator} {i j : Int} (g : Gd W k X) (I : Inv X pins σ H2 s) (rx : RelV (.int i) v) (ry : RelV (.int j) u) {B : List Addr} (p : Stp F H A F2 H2 (A2 ++ B)) (r : repE W.T F2 H2 env σ A2) (h : Aft W Wx σ (rV W) F H A ((intD o i j).lift env) Q) :
    wpAny (model X.prog X.w) X.A (binaryOp o v u) (EP X pins σ Q) X.xe s := by
  obtain ⟨t, rfl⟩ := rx
  obtain ⟨t', rfl⟩ := ry
  have done : ∀ (z : Int) (tk : Tok) (n : Nat), Aft W Wx σ (rV W) F H A (.ok (.int z) env) Q → EP X pins σ Q (.int z tk) { s with toks := n } := fun z tk n h =>
    ⟨.int z, H2, I.tok _, ⟨_, rfl⟩, fin_here h p r frep_int⟩
  cases o with
  | Add => exact PyProof.Rows.add_int (done _ _ _ h)
  | Sub => exact PyProof.Rows.sub_int (done _ _ _ h)
  | Mult =>
    unfold intD at h
    simp only at h
    split at h
    · rename_i hm
      exact PySem.P.mul_int (done _ _ _ h) (CMul.int hm)
    · exact h.elim
  | FloorDiv =>
    unfold intD at h
    simp only at h
    split at h
    · rename_i hz
      unfold divOk at hz
      simp only [Bool.and_eq_true, decide_eq_true_eq, Bool.not_eq_true'] at hz
      exact PyProof.Rows.floordiv_int hz.1 (done _ _ _ h) (.inl hz.2)
    · exact h.elim
  | Mod =>
    unfold intD at h
    simp only at h
    split at h
    · exact h.elim
    · rename_i hz
      exact PyProof.Rows.mod_int hz (done _ _ _ h)
  | Pow =>
    unfold intD at h
    simp only at h
    split at h
    · rename_i hc
      refine op_pow pins s σ H2 (.int i) (.int j) _ _ Q I ⟨t, rfl⟩ ⟨t', rfl⟩ ⟨i, j, rfl, rfl, hc, ?_⟩
      exact fin_here h p r frep_int
    · exact h.elim
  | _ => exact h.elim
end

def repA (T : Tab) (F H : Hp) : List D → List V → List Addr → Prop
  | [], [], A => A = []
  | d :: r, v :: vs, A => ∃ B C, A = B ++ C ∧ repS T F H d v B ∧ repA T F H r vs C
  | _, _, _ => False
theorem repA_mono {T : Tab} {F F' H H' : Hp} (h : ∀ a o, F a = some o → F' a = some o) : ∀ (l : List D) (vs : List V) (A : List Addr), (∀ a ∈ A, H' a = H a) → repA T F H l vs A → repA T F' H' l vs A
  | [], [], _, _, r => r
  | [], _ :: _, _, _, r => r.elim
  | _ :: _, [], _, _, r => r.elim
  | d :: l, v :: vs, A, k, r => by
    obtain ⟨B, C, e, r1, r2⟩ := r
    exact ⟨B, C, e, repS_mono h d v B (fun a ha => k a (by rw [e]; exact List.mem_append_left _ ha)) r1, repA_mono h l vs C (fun a ha => k a (by rw [e]; exact List.mem_append_right _ ha)) r2⟩
theorem reps.A {T : Tab} {F H : Hp} : ∀ {l : List D} {vs : List V} {A : List Addr}, reps T F H l vs A → repA T F H l vs A
  | [], [], _, r => by
    simp only [reps] at r
    exact r
  | [], _ :: _, _, r => by simp [reps] at r
  | _ :: _, [], _, r => by simp [reps] at r
  | d :: l, v :: vs, A, r => by
    simp only [reps] at r
    obtain ⟨B, C, e, r1, r2⟩ := r
    exact ⟨B, C, e, r1.S, r2.A⟩
theorem repA_app {T : Tab} {F H : Hp} : ∀ {l m : List D} {vs ws : List V} {A B : List Addr}, repA T F H l vs A → repA T F H m ws B → repA T F H (l ++ m) (vs ++ ws) (A ++ B)
  | [], m, [], ws, A, B, h, h2 => by cases (show A = [] from h); simpa using h2
  | [], _, _ :: _, _, _, _, h, _ => h.elim
  | _ :: _, _, [], _, _, _, h, _ => h.elim
  | d :: l, m, v :: vs, ws, A, B, h, h2 => by
    obtain ⟨A1, A2, e, r1, r2⟩ := h
    exact ⟨A1, A2 ++ B, by rw [e, List.append_assoc], r1, repA_app r2 h2⟩
theorem repA_length {T : Tab} {F H : Hp} : ∀ {l : List D} {vs : List V} {A : List Addr}, repA T F H l vs A → l.length = vs.length
  | [], [], _, _ => rfl
  | [], _ :: _, _, h => h.elim
  | _ :: _, [], _, h => h.elim
  | _ :: _, _ :: _, _, ⟨_, _, _, _, h⟩ => by simp [repA_length h]
/-- a def's promise: it does what C says of it -/
def spOf (W : Wd) (C : Calls) (f : Nat) (fd : Fd) : Sp := fun vs H Q E => ∃ F A ds, vs.length = fd.np ∧ (W.fps f).length = fd.np ∧ Stt F H A ∧ repA W.T F H ds vs A ∧ (match C f ds with
  | .ok d io => ∀ v F' H' A' B, Stp F H A F' H' (A' ++ B) → repA W.T F' H' io (fd.io.map fun i => vs.getD i .non) A' → rep W.T F' H' d v B → Q v H'
  | .exn x => ∀ cls dd F' H', Stp F H A F' H' [] → xrep W F' x cls dd → E cls dd H'
  | .stuck => False)
/-- the defs keep their promises, by k levels -/
structure COk (W : Wd) (C : Calls) (k : Nat) : Prop where
  fn : ∀ f fd, W.P f = some fd → FnOk W.prog W.w W.T.K W.mg W.base (L2.CX W.prog W.w) k (W.fad f) (W.fda f) (W.fps f) (spOf W C f fd)
  no : ∀ f ds, C f ds ≠ .stuck → ∃ fd, W.P f = some fd ∧ ds.length ≤ fd.np ∧ fd.np ≤ ds.length + fd.dfl.length ∧ C f ds = C f (ds ++ fd.dfl.drop (fd.dfl.length + ds.length - fd.np))
/-- what is known of the defs as objects -/
structure DOk (W : Wd) : Prop where
  ps : ∀ f fd, W.P f = some fd → (W.fps f).length = fd.np
  dv : ∀ f fd, W.P f = some fd → ∀ F, freps W.T F fd.dfl (W.fdv f)
  bd : ∀ f fd m, W.P f = some fd → m ≤ fd.np → fd.np ≤ m + fd.dfl.length → ∃ us, Vals ((W.fdv f).drop (fd.dfl.length + m - fd.np)) us ∧ Binds W.T.K (W.fda f) (W.fps f) us
theorem freps_drop {T : Tab} {F : Hp} : ∀ {l : List D} {vs : List V} (n : Nat), freps T F l vs → freps T F (l.drop n) (vs.drop n)
  | _, _, 0, h => h
  | [], [], _ + 1, h => h
  | [], _ :: _, _ + 1, h => by simp [freps] at h
  | _ :: _, [], _ + 1, h => by simp [freps] at h
  | _ :: _, _ :: _, n + 1, h => by
    simp only [freps] at h
    exact freps_drop n h.2
section
variable {W : Wd} {k : Nat} {X : Cx} {C : Calls} {Wx : WX} {σ : L2.St} {F2 H2 : Hp} {B : List Addr} {Q : VK}
variable {pins : List (Addr × Obj)} {s : Shared}
/-- a call of a def, anywhere below the body X -/
theorem run_call {A : Around} {f : Nat} {ds : List D} {vs : List V} {us : List Value} (g : Gd W k X) (c : COk W C k) (dk : DOk W) (tk : Takes X Wx) (hr : Room k A) (hfr : A.frames = X.A.frames)
    (I : Inv X pins σ H2 s) (rv : Vals vs us) (st : Stt F2 H2 B) (r : repA W.T F2 H2 ds vs B)
    (h : match C f ds with
      | .ok d io => ∀ v F3 H3 B' R, Stp F2 H2 B F3 H3 (B' ++ R) → (∀ fd, W.P f = some fd → repA W.T F3 H3 io (fd.io.map fun i => (vs ++ (W.fdv f).drop (fd.dfl.length + ds.length - fd.np)).getD i .non) B') → rep W.T F3 H3 d v R → Q v H3
      | .exn x => ∀ cls dd F3 H3, Stp F2 H2 B F3 H3 [] → xrep W F3 x cls dd → Wx cls dd σ H3
      | .stuck => False) : wpAny (model X.prog X.w) A (call (.ref (W.fad f)) us) (EP X pins σ Q) X.xe s := by
  obtain ⟨fd, hP, l1, l2, e⟩ := c.no f ds (fun z => by rw [z] at h; exact h)
  have F := c.fn f fd hP
  rw [← g.prog, ← g.w, ← g.K, ← g.mg, ← g.base] at F
  obtain ⟨dus, hd, hb⟩ := dk.bd f fd ds.length hP l1 l2
  rw [← g.K] at hb
  have hv : vs.length = ds.length := (repA_length r).symm
  have hdl : (W.fdv f).length = fd.dfl.length := (freps_length (dk.dv f fd hP F2)).symm
  have hsp : spOf W C f fd (vs ++ (W.fdv f).drop (fd.dfl.length + ds.length - fd.np)) H2 Q (fun cls d H => Wx cls d σ H) := by
    refine ⟨F2, B, ds ++ fd.dfl.drop (fd.dfl.length + ds.length - fd.np), ?_, dk.ps f fd hP, st, ?_, ?_⟩
    · rw [List.length_append, List.length_drop, hdl, hv]; omega
    · have := repA_app r (reps_of_freps (H := H2) (freps_drop (fd.dfl.length + ds.length - fd.np) (dk.dv f fd hP F2))).A
      simpa using this
    · rw [← e]
      cases hc : C f ds with
      | ok d io =>
        rw [hc] at h
        exact fun v F' H' A' R p r1 r2 => h v F' H' A' R p (fun fd' e' => by rw [hP] at e'; cases e'; exact r1) r2
      | exn x =>
        rw [hc] at h
        exact h
      | stuck =>
        rw [hc] at h
        exact h
  have hl := F.len _ _ _ _ hsp
  have e0 : Env0 X.prog X.w X.K X.mg X.base A X.stack s H2 := by
    have e := I.env0
    exact ⟨by rw [hfr]; exact e.frames, e.mod, e.bs, e.bsz, e.funs, e.frf, e.hok, e.bare⟩
  have rv2 : Vals (vs ++ (W.fdv f).drop (fd.dfl.length + ds.length - fd.np)) (us ++ dus) := Vals.append rv hd
  refine wpAny_call (codeAny_mono (F.run A X.stack s H2 ⟨us, []⟩ (us ++ dus) _ Q (fun cls d H => Wx cls d σ H) hr e0 (hb s us I.kIn (by rw [← rv2.length]; exact hl)) rv2 hsp) fun r s' hq => ?_)
  cases r with
  | error e => exact tk _ _ (XE.of_call I (fun _ _ _ z => z) hq)
  | ok fl =>
    cases fl with
    | ret w => exact I.after hq
    | next => exact False.elim hq
    | brk => exact False.elim hq
    | cont => exact False.elim hq
end

/-- a class's facts: its number, how it stands -/
structure KOk (W : Wd) (c : Nat) : Prop where
  cls : Cls W.T.K (W.T.cad c)
  noa : ∀ f ∈ W.T.fl c, NoAttr W.T.K (W.T.cad c) f
  nd : (W.T.fl c).Nodup
  len : (W.T.fl c).length ≤ 900
  self : PySem.W.selfFirst W.T.K (W.T.cad c) = true
  obj : PySem.W.findIn W.T.K (.ref (W.T.cad c)) "__class__" = some (some (.builtin "object.__class__"))
  osp : PySem.W.specialIn W.T.K (.builtin "object.__class__") "__get__" = some (some (.builtin "getset_descriptor.__get__"))
  otk : PySem.W.takesIn W.T.K (.builtin "object.__class__") = some true
  omr : PySem.W.mroIn W.T.K (W.T.cad c) (.type "object") = some true
  rop : ∀ o m, opM o = some m → PySem.W.findIn W.T.K (.ref (W.T.cad c)) (dunderR o.info.2) = some none
  meth : ∀ m fd, W.P (mfid c m) = some fd → Meth W.T.K (W.T.cad c) (W.n.mt m) (W.fad (mfid c m)) ∧ W.n.mt m ∉ W.T.fl c
/-- all classes -/
structure ZOk (W : Wd) : Prop where
  ok : ∀ c ∈ W.T.cs, KOk W c
  /-- a method's class is one of these -/
  of : ∀ c m fd, W.P (mfid c m) = some fd → c ∈ W.T.cs
  inj : ∀ c ∈ W.T.cs, ∀ d ∈ W.T.cs, W.T.cad c = W.T.cad d → c = d
  sub : ∀ c ∈ W.T.cs, ∀ d ∈ W.T.cs, c ≠ d → PySem.W.subIn W.T.K (.ref (W.T.cad c)) (.ref (W.T.cad d)) = some false
  eq : W.n.mt mEq = "__eq__"
  add : W.n.mt mAdd = "__add__"
  sub_ : W.n.mt mSub = "__sub__"
  mul : W.n.mt mMul = "__mul__"
  neg : W.n.mt mNeg = "__neg__"
  fdiv : W.n.mt mFdiv = "__floordiv__"
  mod : W.n.mt mMod = "__mod__"
  call : W.n.mt mCall = "__call__"
  str : W.n.mt mStr = "__str__"
  lenm : W.n.mt mLen = "__len__"
  init : W.n.mt mInit = "__init__"
section
variable {W : Wd} {k : Nat} {X : Cx} {C : Calls} {Wx : WX} {σ : L2.St} {F H F2 H2 : Hp} {A A2 B : List Addr} {Q : VK} {env : Env}
variable {pins : List (Addr × Obj)} {s : Shared}
theorem freps_A {T : Tab} {F H : Hp} {l : List D} {vs : List V} (h : freps T F l vs) : repA T F H l vs [] := (reps_of_freps h).A
/-- a call whose arguments are frozen, its result frozen -/
theorem l_rs {A' : Around} {f : Nat} {ds : List D} {vs : List V} {us : List Value} (g : Gd W k X) (c : COk W C k) (dk : DOk W) (tk : Takes X Wx) (hr : Room k A') (hfr : A'.frames = X.A.frames)
    (I : Inv X pins σ H2 s) (rv : Vals vs us) (p : Stp F H A F2 H2 (A2 ++ B)) (r : repE W.T F2 H2 env σ A2) (ra : freps W.T F2 ds vs)
    (h : Aft W Wx σ (rV W) F H A ((C f ds).rs.lift env) Q) : wpAny (model X.prog X.w) A' (call (.ref (W.fad f)) us) (EP X pins σ Q) X.xe s := by
  have p1 := p.dropB
  have s0 : Stt F2 H2 [] := p1.st.perm (fun _ z => by cases z) List.nodup_nil
  refine run_call g c dk tk hr hfr I rv s0 (freps_A ra) ?_
  have beside : ∀ {F3 H3 : Hp} {A3 : List Addr}, Stp F2 H2 [] F3 H3 A3 → Stp F H A F3 H3 (A2 ++ A3) ∧ repE W.T F3 H3 env σ A2 := fun {F3 H3 A3} q => by
    have b : Stp F2 H2 A2 F3 H3 (A3 ++ A2) := q.beside (B := A2) (by simpa using p1.st)
    have kb := q.keepB (B := A2) (by simpa using p1.st)
    exact ⟨(p1.trans b).perm List.perm_append_comm, repE_mono q.mono env σ A2 kb r⟩
  cases hc : C f ds with
  | stuck => rw [hc] at h; exact h
  | exn x =>
    rw [hc] at h
    intro cls dd F3 H3 q x1
    obtain ⟨q1, r1⟩ := beside q
    exact h cls dd F3 H3 A2 (by simpa using q1) r1 x1
  | ok d io =>
    rw [hc] at h
    cases io with
    | cons _ _ => exact h.elim
    | nil =>
      intro v F3 H3 B' R q hio rd
      have q' : Stp F2 H2 [] F3 H3 R := q.less (fun _ z => List.mem_append_right _ z) (List.nodup_append.mp q.st.nd).2.1
      obtain ⟨q1, r1⟩ := beside q'
      exact h v _ H3 A2 [] (by simpa using q1.frozen) (repE_mono (frzH_old q1.st) env σ A2 (fun _ _ => rfl) r1) (rep_of_frep (frz_here q1.st rd))
theorem back_of {v : Value} {s' : Shared} (h : EP X pins σ Q v s') : PySem.W.CmpBack (EP X pins σ Q) v s' := by
  cases v <;> first
    | exact h
    | (obtain ⟨x, H', I, r, q⟩ := h
       cases x <;> simp [RelV] at r)
theorem fl_lookup {f : Str} {fs : List Str} {vs : List V} (h : f ∉ fs) : (fs.zip vs).lookup f = none := by
  induction fs generalizing vs with
  | nil => rfl
  | cons g r ih => cases vs with
    | nil => rfl
    | cons v t =>
      simp only [List.mem_cons, not_or] at h
      rw [List.zip_cons_cons, List.lookup_cons]
      rw [beq_eq_false_iff_ne.mpr h.1]
      exact ih h.2
theorem rep_ins {T : Tab} {F H : Hp} {c : Nat} {l : List D} {v : V} {B : List Addr} (r : rep T F H (.ins c l) v B) : ∃ a dx vs, v = .ref a ∧ F a = some (.ins (T.cad c) dx ((T.fl c).zip vs)) ∧ (c ∈ T.cs ∧ vs.length = (T.fl c).length) ∧ freps T F l vs := by
  simp only [rep, frep] at r
  exact r.2
end

section
variable {W : Wd} {k : Nat} {X : Cx} {C : Calls} {Wx : WX} {σ : L2.St} {F H F2 H2 : Hp} {A A2 B : List Addr} {Q : VK} {env : Env}
variable {pins : List (Addr × Obj)} {s : Shared} {x y : V} {v u : Value}
theorem ins_at (g : Gd W k X) (I : Inv X pins σ H s) {a dx Ca : Addr} {fs : List (Str × V)} (e : H a = some (.ins Ca dx fs)) : ∃ od, PySem.W.InstAt s.heap a (PySem.W.instObj Ca dx) Ca (some od) := by
  obtain ⟨mA, O, _⟩ := ins_get I.hok e
  obtain ⟨od, J, _⟩ := O.look
  exact ⟨od, J⟩
end
end Z
namespace PySem.W
open PySem PySem.Calls PyProof.Rows
section
variable {prog : Program} {w : World} {M : Model} {A : Around} {E : Value → Shared → Prop} {s : Shared} {K : Frag} {x y C C' L f f' : Addr} {h₀ : Heap} {m : Str → Option Value} {ox oy : Obj} {od od' : Option Obj} {nm T : String}
theorem zz_two {op : Operator} {Q : Value → Shared → Prop} (F : Fr h₀ L s.heap m) (X₀ : K.In h₀) (I : InstAt s.heap x ox C od) (I' : InstAt s.heap y oy C' od') (hne : C ≠ C') (hc : selfFirst K C = true) (hc' : selfFirst K C' = true)
    (hs : findIn K (.ref C) (PySem.dunder op.info.2) = some (some (.ref f))) (hf : isFn K (.ref f) = true) (hr : findIn K (.ref C) (dunderR op.info.2) = some none)
    (hs' : findIn K (.ref C') (PySem.dunder op.info.2) = some (some (.ref f'))) (hr' : findIn K (.ref C') (dunderR op.info.2) = some none) (hsub : subIn K (.ref C') (.ref C) = some false)
    (h : wpAny (model prog w) A (call (.ref f) [.ref x, .ref y]) (CmpBack Q) E s) : wpAny (model prog w) A (binaryOp op (.ref x) (.ref y)) Q E s := by
  have X := X₀.keeps F.keep
  obtain ⟨cd, rest, hcd, hm⟩ := ksp_first hc
  obtain ⟨cd', rest', hcd', hm'⟩ := ksp_first hc'
  rcases hi : op.info with ⟨sym, nm'⟩
  rw [hi] at hs hr hs' hr'
  dsimp only at hs hr hs' hr'
  have one := ksp_try X I hs hf h
  obtain ⟨hh, g, d, tt, os⟩ := s
  have L1 : Looks (model prog w) hh (typeOf (.ref x)) (.ref C) := I.type
  have L2 : Looks (model prog w) hh (typeOf (.ref y)) (.ref C') := I'.type
  have L3 : Looks (model prog w) hh (fillsNumberSlot (.ref C) nm') true := fills_K X hcd hm hs
  have L4 : Looks (model prog w) hh (fillsNumberSlot (.ref C') nm') true := fills_K X hcd' hm' hs'
  have L5 : Looks (model prog w) hh (isSubtype (.ref C') (.ref C)) false := looks_subIn X hsub
  have L6 : Looks (model prog w) hh (numberSlotInPython (.ref C) nm') true := ksp_inPy X hs hr (.inl rfl)
  have L7 : Looks (model prog w) hh (numberSlotInPython (.ref C') nm') true := ksp_inPy X hs' hr' (.inl rfl)
  have hne : (Value.ref C == Value.ref C') = false := Bool.eq_false_iff.mpr fun q => by
    have := beq_iff_eq.mp q
    injection this with this
    exact hne this
  simp only [binaryOp, hi]
  refine wpAny_holding (wpAny_bind ?_)
  unfold binaryOp1
  refine wpAny_bind (L1.at (wpAny_bind (L2.at (wpAny_bind (L3.at ?_)))))
  simp only [hne, Bool.false_eq_true, if_false]
  ksp_lk
  refine wpAny_mono one (fun r s' hr' => ?_) fun _ _ e => e
  obtain ⟨v, rfl, hq⟩ := hr'
  ksp_lk
  exact hq
end
end PySem.W
namespace Z
open PySem PySem.Spec L2
section
variable {W : Wd} {k : Nat} {X : Cx} {C : Calls} {Wx : WX} {σ : L2.St} {F H F2 H2 : Hp} {A A2 B : List Addr} {Q : VK} {env : Env}
variable {pins : List (Addr × Obj)} {s : Shared} {x y : V} {v u : Value}
theorem dunder_eq (o : Operator) (m : Nat) (z : ZOk W) (h : opM o = some m) : PySem.dunder o.info.2 = W.n.mt m := by
  cases o <;> simp only [opM, Option.some.injEq, reduceCtorEq] at h <;> subst h
  · rw [z.add]; decide +kernel
  · rw [z.sub_]; decide +kernel
  · rw [z.mul]; decide +kernel
  · rw [z.mod]; decide +kernel
  · rw [z.fdiv]; decide +kernel
theorem rep_lst2 {T : Tab} {F H : Hp} {o : Bool} {l : List D} {v : V} {B : List Addr} (sub : ∀ a o, F a = some o → H a = some o) (r : rep T F H (.lst o l) v B) : ∃ a vs B', v = .ref a ∧ H a = some (.lst vs) ∧ B'.Sublist B ∧ reps T F H l vs B' := rep_lst sub r
theorem subl_app {α : Type} {A B C D : List α} (h : A.Sublist B) (h2 : C.Sublist D) : (A ++ C).Sublist (B ++ D) := h.append h2
/-- the operators of two operands (own classes' aside) -/
theorem l_bin0 {o : Operator} {d1 d2 : D} (g : Gd W k X) (I : Inv X pins σ H2 s) (rx : RelV x v) (ry : RelV y u) {B1 B2 : List Addr} (p : Stp F H A F2 H2 ((A2 ++ B2) ++ B1)) (r : repE W.T F2 H2 env σ A2)
    (r1 : rep W.T F2 H2 d1 x B1) (r2 : rep W.T F2 H2 d2 y B2) (hn : ∀ c l, d1 ≠ .ins c l) (h : Aft W Wx σ (rV W) F H A ((binD C o d1 d2).lift env) Q) :
    wpAny (model X.prog X.w) X.A (binaryOp o v u) (EP X pins σ Q) X.xe s := by
  have pp : Stp F H A F2 H2 (A2 ++ (B2 ++ B1)) := by rw [← List.append_assoc]; exact p
  cases d1 with
  | int i => cases d2 with
    | int j =>
      cases rep_int r1
      cases rep_int r2
      exact l_int g I rx ry pp r h
    | _ => exact h.elim
  | str a => cases d2 with
    | str b =>
      simp only [rep, frep] at r1 r2
      cases r1.2
      cases r2.2
      unfold binD at h
      simp only at h
      split at h
      · rename_i hc
        obtain ⟨rfl, hz⟩ := hc
        refine op_add_str pins s σ H2 (.str a) (.str b) v u Q I rx ry ⟨a, b, rfl, rfl, by rw [sizeLine_eq]; exact hz, ?_⟩
        exact fin_here h pp r frep_str
      · exact h.elim
    | _ => exact h.elim
  | tup a => cases d2 with
    | tup b =>
      simp only [rep, frep] at r1 r2
      obtain ⟨e1, p1, vs, rfl, q1, f1⟩ := r1
      obtain ⟨e2, p2, ws, rfl, q2, f2⟩ := r2
      unfold binD at h
      simp only at h
      split at h
      · rename_i hc
        obtain ⟨rfl, hz⟩ := hc
        have l1 := freps_length f1
        have l2 := freps_length f2
        have fin : ∀ v', frep W.T F2 (.tup (a ++ b)) v' → Q v' H2 := fun v' f => fin_here h pp r f
        refine op_catA pins s σ H2 _ _ v u Q I rx ry ⟨p1, p2, vs, ws, rfl, rfl, by rw [g.K]; exact SqT.mono' p.st.sub q1, by rw [g.K]; exact SqT.mono' p.st.sub q2, by rw [sizeLine_eq, ← l1, ← l2]; exact hz, fun hx => fin _ ?_, fun hx hy => fin _ ?_, fun hx hy q hq => fin_newF h pp r hq fun F3 mo e => ?_⟩
        · subst hx
          have : a = [] := by simpa using l1
          subst this
          simp only [frep]
          exact ⟨p2, ws, rfl, q2, by simpa using f2⟩
        · subst hy
          have : b = [] := by simpa using l2
          subst this
          simp only [frep]
          exact ⟨p1, vs, rfl, q1, by simpa using f1⟩
        · simp only [frep]
          exact ⟨q, vs ++ ws, rfl, SqT.of e, freps_app (freps_mono mo _ _ f1) (freps_mono mo _ _ f2)⟩
      · exact h.elim
    | _ => exact h.elim
  | lst o1 a => cases d2 with
    | lst o2 b =>
      obtain ⟨p1, vs, C1, rfl, q1, s1, f1⟩ := rep_lst p.st.sub r1
      obtain ⟨p2, ws, C2, rfl, q2, s2, f2⟩ := rep_lst p.st.sub r2
      unfold binD at h
      simp only at h
      split at h
      · rename_i hc
        obtain ⟨rfl, hz⟩ := hc
        have l1 := reps_length f1
        have l2 := reps_length f2
        refine op_cat pins s σ H2 _ _ v u Q I rx ry ⟨p1, p2, vs, ws, rfl, rfl, q1, q2, by rw [sizeLine_eq, ← l1, ← l2]; exact hz, fun q hq => ?_⟩
        have p3 : Stp F H A F2 H2 (A2 ++ (C1 ++ C2)) := by
          refine (p.perm (B := A2 ++ (B1 ++ B2)) ?_).sel (subl_app (List.Sublist.refl _) (subl_app s1 s2))
          rw [List.append_assoc]
          exact List.Perm.append_left A2 List.perm_append_comm
        exact fin_newL h p3 r (reps_app f1 f2) hq
      · exact h.elim
    | int j =>
      obtain ⟨p1, vs, C1, rfl, q1, s1, f1⟩ := rep_lst p.st.sub r1
      cases rep_int r2
      unfold binD at h
      simp only at h
      split at h
      · rename_i hc
        obtain ⟨rfl, hf, hk, hk2, hz⟩ := hc
        obtain ⟨e1, f1⟩ := reps_isF hf f1
        have l1 := freps_length f1
        have hl : lim = 16777216 := rfl
        refine op_rep pins s σ H2 _ _ v u Q I rx ry ⟨p1, j, vs, rfl, rfl, q1, by rw [hl] at hk2; omega, by rw [hl] at hk; omega, by rw [sizeLine_eq, ← l1]; exact hz, fun q hq => ?_⟩
        refine fin_newL (B := []) h (by simpa using pp.dropB) r (reps_of_freps ?_) hq
        have rp : ∀ n : Nat, freps W.T F2 (List.replicate n a).flatten (List.replicate n vs).flatten := fun n => by
          induction n with
          | zero => simp [freps]
          | succ n ih => simpa only [List.replicate_succ, List.flatten_cons] using freps_app f1 ih
        exact rp _
      · exact h.elim
    | _ => exact h.elim
  | ins c l => exact absurd rfl (hn c l)
  | _ => cases d2 <;> exact h.elim
end

section
variable {W : Wd} {k : Nat} {X : Cx} {C : Calls} {Wx : WX} {σ : L2.St} {F H F2 H2 : Hp} {A A2 B : List Addr} {Q : VK} {env : Env}
variable {pins : List (Addr × Obj)} {s : Shared} {x y : V} {v u : Value}
/-- the operators of own classes -/
theorem l_binI {o : Operator} {c c' m : Nat} {l l' : List D} (g : Gd W k X) (ck : COk W C k) (dk : DOk W) (zk : ZOk W) (tk : Takes X Wx) (I : Inv X pins σ H2 s) (rx : RelV x v) (ry : RelV y u) (p : Stp F H A F2 H2 (A2 ++ B)) (r : repE W.T F2 H2 env σ A2)
    (f1 : frep W.T F2 (.ins c l) x) (f2 : frep W.T F2 (.ins c' l') y) (hm : opM o = some m) (hc2 : c' = c ∨ (W.P (mfid c' m)).isSome = true) (h : Aft W Wx σ (rV W) F H A ((C (mfid c m) [.ins c l, .ins c' l']).rs.lift env) Q) :
    wpAny (model X.prog X.w) X.A (binaryOp o v u) (EP X pins σ Q) X.xe s := by
  obtain ⟨fd, hP, _⟩ := ck.no (mfid c m) [.ins c l, .ins c' l'] (fun z => by rw [z] at h; exact h)
  have hcs := zk.of c m fd hP
  have kc := zk.ok c hcs
  obtain ⟨me, _⟩ := kc.meth m fd hP
  have fr2 : freps W.T F2 [.ins c l, .ins c' l'] [x, y] := by simp only [freps]; exact ⟨f1, f2, trivial⟩
  obtain ⟨a, dx, vs, rfl, q1, _, _⟩ : ∃ a dx vs, x = .ref a ∧ F2 a = some (.ins (W.T.cad c) dx ((W.T.fl c).zip vs)) ∧ (c ∈ W.T.cs ∧ vs.length = (W.T.fl c).length) ∧ freps W.T F2 l vs := by simpa only [frep] using f1
  obtain ⟨b, dy, ws, rfl, q2, _, _⟩ : ∃ a dx vs, y = .ref a ∧ F2 a = some (.ins (W.T.cad c') dx ((W.T.fl c').zip vs)) ∧ (c' ∈ W.T.cs ∧ vs.length = (W.T.fl c').length) ∧ freps W.T F2 l' vs := by simpa only [frep] using f2
  cases rx
  cases ry
  obtain ⟨od, I1⟩ := ins_at g I (p.st.sub _ _ q1)
  obtain ⟨od', I2⟩ := ins_at g I (p.st.sub _ _ q2)
  obtain ⟨mm, hF⟩ := I.fr
  have hK := I.ok.mod.kin
  rw [g.K] at hK
  have run : wpAny (model X.prog X.w) X.A (call (.ref (W.fad (mfid c m))) [.ref a, .ref b]) (PySem.W.CmpBack (EP X pins σ Q)) X.xe s :=
    wpAny_mono (l_rs g ck dk tk (g.room.mono (by omega)) rfl I (vs := [V.ref a, V.ref b]) (.cons rfl (.cons rfl .nil)) p r fr2 h) (fun _ _ z => back_of z) fun _ _ z => z
  have hd := dunder_eq o m zk hm
  have at1 := me.at_
  rw [← hd] at at1
  by_cases hcc : c' = c
  · subst hcc
    have := PySem.W.binop_K (op := o) (Q := EP X pins σ Q) hF hK I1 I2.type kc.self at1 me.fn run
    exact this
  · obtain ⟨fd', hP'⟩ := Option.isSome_iff_exists.mp (hc2.resolve_left hcc)
    have hcs' := zk.of c' m fd' hP'
    have kc' := zk.ok c' hcs'
    obtain ⟨me', _⟩ := kc'.meth m fd' hP'
    have at2 := me'.at_
    rw [← hd] at at2
    exact PySem.W.zz_two hF hK I1 I2 (fun z => hcc (zk.inj c hcs c' hcs' z).symm) kc.self kc'.self at1 me.fn (kc.rop o m hm) at2 (kc'.rop o m hm) (zk.sub c' hcs' c hcs hcc) run
end
end Z

namespace GQ
open PySem PySem.SeqAt
open AutoSeq1 (wpAny_loadPart')
open MeetsSeq MeetsSeq2 MeetsSeq3 SeqRoads2
section
variable {prog : Program} {w : World} {A : Around} {R : Result → Shared → Prop}
theorem tup_eq_zz (l b : Addr) (items items2 : Array Value) (n n2 : Nat) (dd dd2 : Option Addr) (sl sl2 : Array (Option Value)) (I : Nat → Shared → Prop)
    (turn : ∀ i (h1 : i < items.size) (h2 : i < items2.size) s, I i s → wpAny (model prog w) A.in1 (eqBool items[i] items2[i]) (fun r s' => if r = true then I (i + 1) s' else R (.ok (.ret (.bool false))) s') (fun e s' => R (.error e) s') s)
    (fin : ∀ i s, i = min items.size items2.size → I i s → R (.ok (.ret (.bool (items.size == items2.size)))) s) {s : Shared} (hl1 : s.heap.get? l = some { cls := .type "tuple", dict := dd, data := .seq items n, slots := sl }) (hb1 : s.heap.get? b = some { cls := .type "tuple", dict := dd2, data := .seq items2 n2, slots := sl2 }) (h : I 0 s) :
    wpAny (model prog w) A.in1 (Builtin.«tuple.__eq__» ⟨[.ref l, .ref b], []⟩) (FinOf prog w A R) (fun e s' => R (.error e) s') s := by
  have f2 := AutoSeq1.sub_tuple_tuple
  have hZ : (items.toList.zip items2.toList).length = min items.size items2.size := by simp
  have h0 := h
  obtain ⟨hp, g, d, tk, os⟩ := s
  wp_walk using wpAny_loadPart' hl1, wpAny_loadPart' hb1, wpAny_forIn_list _ (fun rest b s' => b.1 = none ∧ ∃ i, rest = (items.toList.zip items2.toList).drop i ∧ i ≤ min items.size items2.size ∧ I i s') _
  case turn =>
    rintro ⟨y, x⟩ rest b s' ⟨hb', i, hz, hi, hI⟩
    have hlt : i < (items.toList.zip items2.toList).length := by
      rcases Nat.lt_or_ge i (items.toList.zip items2.toList).length with h' | h'
      · exact h'
      · rw [List.drop_of_length_le h'] at hz; cases hz
    have hm : i < min items.size items2.size := hZ ▸ hlt
    have h1 : i < items.size := by omega
    have h2 : i < items2.size := by omega
    rw [List.drop_eq_getElem_cons hlt] at hz
    injection hz with hyx hrest
    have hy : y = items[i] := by have := congrArg Prod.fst hyx; simpa using this
    have hx : x = items2[i] := by have := congrArg Prod.snd hyx; simpa using this
    subst hy hx
    refine wpAny_bind (wpAny_mono (turn i h1 h2 s' hI) (fun r s2 q2 => ?_) fun _ _ x => x)
    cases r with
    | true =>
      rw [if_pos rfl] at q2
      wp_walk
      exact ⟨rfl, i + 1, hrest, hm, q2⟩
    | false =>
      rw [if_neg (by simp)] at q2
      wp_walk
      exact q2
  case fin =>
    rintro ⟨b1, b2⟩ s' ⟨hb', i, hz, hi, hI⟩
    simp only at hb'
    subst hb'
    have hge : min items.size items2.size ≤ i := by
      rcases Nat.lt_or_ge i (items.toList.zip items2.toList).length with h' | h'
      · rw [List.drop_eq_getElem_cons h'] at hz; cases hz
      · exact hZ ▸ h'
    have hR := fin i s' (by omega) hI
    wp_walk
    exact hR
  case h =>
    exact ⟨rfl, 0, rfl, Nat.zero_le _, h0⟩
theorem eq_loop_zz (l b : Addr) (N : Nat) (I : Nat → Shared → Prop)
    (hl : ∀ i s, I i s → ∃ (items items2 : Array Value) (n n2 : Nat), s.heap.get? l = some { cls := .type "list", data := .seq items n } ∧ s.heap.get? b = some { cls := .type "list", data := .seq items2 n2 } ∧ items.size = N ∧ items2.size = N ∧
      ∀ (h1 : i < items.size) (h2 : i < items2.size), wpAny (model prog w) A.in1 (eqBool items[i] items2[i]) (fun r s' => if r = true then I (i + 1) s' else
        R (.ok (.ret (.bool false))) s' ∧ ∃ (items items2 : Array Value) (n n2 : Nat), s'.heap.get? l = some { cls := .type "list", data := .seq items n } ∧ s'.heap.get? b = some { cls := .type "list", data := .seq items2 n2 } ∧ items.size = N ∧ items2.size = N) (fun e s' => R (.error e) s') s)
    (fin : ∀ s, I N s → R (.ok (.ret (.bool true))) s) (k : Nat) :
    ∀ i : Nat, N - i = k → i ≤ N → ∀ s, I i s →
      wpAny (model prog w) A.in1 (Builtin.«list.__eq__.loop» ⟨[.ref l, .ref b, rawInt i, rawInt 2], []⟩) (FinOf prog w A R) (fun e s' => R (.error e) s') s := by
  induction k with
  | zero =>
    intro i hk hi s h
    obtain ⟨items, items2, n, n2, hl1, hb1, hs1, hs2, _⟩ := hl _ _ h
    have hi' : i = N := by omega
    have hR := fin s (hi' ▸ h)
    obtain ⟨hp, g, d, tk, os⟩ := s
    wp_walk using wpAny_loadPart' hl1, wpAny_loadPart' hb1
    have hi1 : items[((i : Nat) : Int).toNat]? = none := by simp; omega
    have hi2 : items2[((i : Nat) : Int).toNat]? = none := by simp; omega
    rw [hi1, hi2]
    wp_walk using wpAny_loadPart' hl1, wpAny_loadPart' hb1
    show R (.ok (.ret (.bool (items.size == items2.size)))) _
    rw [hs1, hs2]
    simpa using hR
  | succ k ih =>
    intro i hk hi s h
    obtain ⟨items, items2, n, n2, hl1, hb1, hs1, hs2, turn⟩ := hl _ _ h
    have hlt : i < items.size := by omega
    have hlt2 : i < items2.size := by omega
    have ht := turn hlt hlt2
    obtain ⟨hp, g, d, tk, os⟩ := s
    wp_walk using wpAny_loadPart' hl1, wpAny_loadPart' hb1
    have hi1 : items[((i : Nat) : Int).toNat]? = some items[i] := by simp [hlt]
    have hi2 : items2[((i : Nat) : Int).toNat]? = some items2[i] := by simp [hlt2]
    have hc : ((i : Int) + 1) = ((i + 1 : Nat) : Int) := by omega
    rw [hi1, hi2]
    refine wpAny_bind (wpAny_mono ht (fun r s2 h2 => ?_) fun _ _ x => x)
    cases r with
    | true =>
      rw [if_pos rfl] at h2
      have hrec := ih (i + 1) (by omega) (by omega) s2 h2
      obtain ⟨hp2, g2, d2, tk2, os2⟩ := s2
      wp_walk
      rw [hc]
      exact ⟨plainId_quiet plain_eq_loop _, codeAny_builtin entry_eq_loop (by
        rw [Around.under_plainId plain_eq_loop _]
        exact hrec)⟩
    | false =>
      rw [if_neg (by simp)] at h2
      obtain ⟨h2, it3, it4, n3, n4, hl3, hb3, hs3, hs4⟩ := h2
      obtain ⟨hp2, g2, d2, tk2, os2⟩ := s2
      have e3 : it3[((i : Nat) : Int).toNat]? = some it3[i] := by simp
      have e4 : it4[((i : Nat) : Int).toNat]? = some it4[i] := by simp
      wp_walk using wpAny_loadPart' hl3, wpAny_loadPart' hb3
      rw [e3, e4]
      wp_walk
      exact h2
theorem list_eq_zz (l b : Addr) (items items2 : Array Value) (n n2 : Nat) (I : Nat → Shared → Prop)
    (hl : items.size = items2.size → ∀ i s, I i s → ∃ (it it2 : Array Value) (n n2 : Nat), s.heap.get? l = some { cls := .type "list", data := .seq it n } ∧ s.heap.get? b = some { cls := .type "list", data := .seq it2 n2 } ∧ it.size = items.size ∧ it2.size = items.size ∧
      ∀ (h1 : i < it.size) (h2 : i < it2.size), wpAny (model prog w) A.in1 (eqBool it[i] it2[i]) (fun r s' => if r = true then I (i + 1) s' else
        R (.ok (.ret (.bool false))) s' ∧ ∃ (it it2 : Array Value) (n n2 : Nat), s'.heap.get? l = some { cls := .type "list", data := .seq it n } ∧ s'.heap.get? b = some { cls := .type "list", data := .seq it2 n2 } ∧ it.size = items.size ∧ it2.size = items.size) (fun e s' => R (.error e) s') s)
    (fin : items.size = items2.size → ∀ s, I items.size s → R (.ok (.ret (.bool true))) s) {s : Shared}
    (hl1 : s.heap.get? l = some { cls := .type "list", data := .seq items n }) (hb1 : s.heap.get? b = some { cls := .type "list", data := .seq items2 n2 }) (h : I 0 s) (off : items.size ≠ items2.size → R (.ok (.ret (.bool false))) s) :
    wpAny (model prog w) A.in1 (Builtin.«list.__eq__» ⟨[.ref l, .ref b], []⟩) (FinOf prog w A R) (fun e s' => R (.error e) s') s := by
  by_cases hsz : items.size = items2.size
  · have hrec := eq_loop_zz (A := A) (R := R) l b items.size I (hl hsz) (fin hsz) _ 0 rfl (Nat.zero_le _) s h
    obtain ⟨hp, g, d, tk, os⟩ := s
    have f3 := AutoSeq1.sub_list_list
    have hne : ¬ (items.size != items2.size) = true := by simp [hsz]
    wp_walk using wpAny_loadPart' hl1, wpAny_loadPart' hb1
    exact ⟨plainId_quiet plain_eq_loop _, codeAny_builtin entry_eq_loop (by
      rw [Around.under_plainId plain_eq_loop _]
      exact hrec)⟩
  · have hR := off hsz
    obtain ⟨hp, g, d, tk, os⟩ := s
    have f3 := AutoSeq1.sub_list_list
    have hne : (items.size != items2.size) = true := by simp [hsz]
    wp_walk using wpAny_loadPart' hl1, wpAny_loadPart' hb1
    exact hR
theorem tup_ne_zz (l b : Addr) (items items2 : Array Value) (n n2 : Nat) (dd dd2 : Option Addr) (sl sl2 : Array (Option Value)) (I : Nat → Shared → Prop)
    (turn : ∀ i (h1 : i < items.size) (h2 : i < items2.size) s, I i s → wpAny (model prog w) A.in1 (eqBool items[i] items2[i]) (fun r s' => if r = true then I (i + 1) s' else R (.ok (.ret (.bool true))) s') (fun e s' => R (.error e) s') s)
    (fin : ∀ i s, i = min items.size items2.size → I i s → R (.ok (.ret (.bool (items.size != items2.size)))) s) {s : Shared} (hl1 : s.heap.get? l = some { cls := .type "tuple", dict := dd, data := .seq items n, slots := sl }) (hb1 : s.heap.get? b = some { cls := .type "tuple", dict := dd2, data := .seq items2 n2, slots := sl2 }) (h : I 0 s) :
    wpAny (model prog w) A.in1 (Builtin.«tuple.__ne__» ⟨[.ref l, .ref b], []⟩) (FinOf prog w A R) (fun e s' => R (.error e) s') s := by
  have f2 := AutoSeq1.sub_tuple_tuple
  have hZ : (items.toList.zip items2.toList).length = min items.size items2.size := by simp
  have h0 := h
  obtain ⟨hp, g, d, tk, os⟩ := s
  wp_walk using wpAny_loadPart' hl1, wpAny_loadPart' hb1, wpAny_forIn_list _ (fun rest b s' => b.1 = none ∧ ∃ i, rest = (items.toList.zip items2.toList).drop i ∧ i ≤ min items.size items2.size ∧ I i s') _
  case turn =>
    rintro ⟨y, x⟩ rest b s' ⟨hb', i, hz, hi, hI⟩
    have hlt : i < (items.toList.zip items2.toList).length := by
      rcases Nat.lt_or_ge i (items.toList.zip items2.toList).length with h' | h'
      · exact h'
      · rw [List.drop_of_length_le h'] at hz; cases hz
    have hm : i < min items.size items2.size := hZ ▸ hlt
    have h1 : i < items.size := by omega
    have h2 : i < items2.size := by omega
    rw [List.drop_eq_getElem_cons hlt] at hz
    injection hz with hyx hrest
    have hy : y = items[i] := by have := congrArg Prod.fst hyx; simpa using this
    have hx : x = items2[i] := by have := congrArg Prod.snd hyx; simpa using this
    subst hy hx
    refine wpAny_bind (wpAny_mono (turn i h1 h2 s' hI) (fun r s2 q2 => ?_) fun _ _ x => x)
    cases r with
    | true =>
      rw [if_pos rfl] at q2
      wp_walk
      exact ⟨rfl, i + 1, hrest, hm, q2⟩
    | false =>
      rw [if_neg (by simp)] at q2
      wp_walk
      exact q2
  case fin =>
    rintro ⟨b1, b2⟩ s' ⟨hb', i, hz, hi, hI⟩
    simp only at hb'
    subst hb'
    have hge : min items.size items2.size ≤ i := by
      rcases Nat.lt_or_ge i (items.toList.zip items2.toList).length with h' | h'
      · rw [List.drop_eq_getElem_cons h'] at hz; cases hz
      · exact hZ ▸ h'
    have hR := fin i s' (by omega) hI
    wp_walk
    exact hR
  case h =>
    exact ⟨rfl, 0, rfl, Nat.zero_le _, h0⟩
theorem ne_loop_zz (l b : Addr) (N : Nat) (I : Nat → Shared → Prop)
    (hl : ∀ i s, I i s → ∃ (items items2 : Array Value) (n n2 : Nat), s.heap.get? l = some { cls := .type "list", data := .seq items n } ∧ s.heap.get? b = some { cls := .type "list", data := .seq items2 n2 } ∧ items.size = N ∧ items2.size = N ∧
      ∀ (h1 : i < items.size) (h2 : i < items2.size), wpAny (model prog w) A.in1 (eqBool items[i] items2[i]) (fun r s' => if r = true then I (i + 1) s' else
        R (.ok (.ret (.bool true))) s' ∧ ∃ (items items2 : Array Value) (n n2 : Nat), s'.heap.get? l = some { cls := .type "list", data := .seq items n } ∧ s'.heap.get? b = some { cls := .type "list", data := .seq items2 n2 } ∧ items.size = N ∧ items2.size = N) (fun e s' => R (.error e) s') s)
    (fin : ∀ s, I N s → R (.ok (.ret (.bool false))) s) (k : Nat) :
    ∀ i : Nat, N - i = k → i ≤ N → ∀ s, I i s →
      wpAny (model prog w) A.in1 (Builtin.«list.__eq__.loop» ⟨[.ref l, .ref b, rawInt i, rawInt 3], []⟩) (FinOf prog w A R) (fun e s' => R (.error e) s') s := by
  induction k with
  | zero =>
    intro i hk hi s h
    obtain ⟨items, items2, n, n2, hl1, hb1, hs1, hs2, _⟩ := hl _ _ h
    have hi' : i = N := by omega
    have hR := fin s (hi' ▸ h)
    obtain ⟨hp, g, d, tk, os⟩ := s
    wp_walk using wpAny_loadPart' hl1, wpAny_loadPart' hb1
    have hi1 : items[((i : Nat) : Int).toNat]? = none := by simp; omega
    have hi2 : items2[((i : Nat) : Int).toNat]? = none := by simp; omega
    rw [hi1, hi2]
    wp_walk using wpAny_loadPart' hl1, wpAny_loadPart' hb1
    show R (.ok (.ret (.bool (items.size != items2.size)))) _
    rw [hs1, hs2]
    simpa using hR
  | succ k ih =>
    intro i hk hi s h
    obtain ⟨items, items2, n, n2, hl1, hb1, hs1, hs2, turn⟩ := hl _ _ h
    have hlt : i < items.size := by omega
    have hlt2 : i < items2.size := by omega
    have ht := turn hlt hlt2
    obtain ⟨hp, g, d, tk, os⟩ := s
    wp_walk using wpAny_loadPart' hl1, wpAny_loadPart' hb1
    have hi1 : items[((i : Nat) : Int).toNat]? = some items[i] := by simp [hlt]
    have hi2 : items2[((i : Nat) : Int).toNat]? = some items2[i] := by simp [hlt2]
    have hc : ((i : Int) + 1) = ((i + 1 : Nat) : Int) := by omega
    rw [hi1, hi2]
    refine wpAny_bind (wpAny_mono ht (fun r s2 h2 => ?_) fun _ _ x => x)
    cases r with
    | true =>
      rw [if_pos rfl] at h2
      have hrec := ih (i + 1) (by omega) (by omega) s2 h2
      obtain ⟨hp2, g2, d2, tk2, os2⟩ := s2
      wp_walk
      rw [hc]
      exact ⟨plainId_quiet plain_eq_loop _, codeAny_builtin entry_eq_loop (by
        rw [Around.under_plainId plain_eq_loop _]
        exact hrec)⟩
    | false =>
      rw [if_neg (by simp)] at h2
      obtain ⟨h2, it3, it4, n3, n4, hl3, hb3, hs3, hs4⟩ := h2
      obtain ⟨hp2, g2, d2, tk2, os2⟩ := s2
      have e3 : it3[((i : Nat) : Int).toNat]? = some it3[i] := by simp
      have e4 : it4[((i : Nat) : Int).toNat]? = some it4[i] := by simp
      wp_walk using wpAny_loadPart' hl3, wpAny_loadPart' hb3
      rw [e3, e4]
      wp_walk
      exact h2
theorem list_ne_zz (l b : Addr) (items items2 : Array Value) (n n2 : Nat) (I : Nat → Shared → Prop)
    (hl : items.size = items2.size → ∀ i s, I i s → ∃ (it it2 : Array Value) (n n2 : Nat), s.heap.get? l = some { cls := .type "list", data := .seq it n } ∧ s.heap.get? b = some { cls := .type "list", data := .seq it2 n2 } ∧ it.size = items.size ∧ it2.size = items.size ∧
      ∀ (h1 : i < it.size) (h2 : i < it2.size), wpAny (model prog w) A.in1 (eqBool it[i] it2[i]) (fun r s' => if r = true then I (i + 1) s' else
        R (.ok (.ret (.bool true))) s' ∧ ∃ (it it2 : Array Value) (n n2 : Nat), s'.heap.get? l = some { cls := .type "list", data := .seq it n } ∧ s'.heap.get? b = some { cls := .type "list", data := .seq it2 n2 } ∧ it.size = items.size ∧ it2.size = items.size) (fun e s' => R (.error e) s') s)
    (fin : items.size = items2.size → ∀ s, I items.size s → R (.ok (.ret (.bool false))) s) {s : Shared}
    (hl1 : s.heap.get? l = some { cls := .type "list", data := .seq items n }) (hb1 : s.heap.get? b = some { cls := .type "list", data := .seq items2 n2 }) (h : I 0 s) (off : items.size ≠ items2.size → R (.ok (.ret (.bool true))) s) :
    wpAny (model prog w) A.in1 (Builtin.«list.__ne__» ⟨[.ref l, .ref b], []⟩) (FinOf prog w A R) (fun e s' => R (.error e) s') s := by
  by_cases hsz : items.size = items2.size
  · have hrec := ne_loop_zz (A := A) (R := R) l b items.size I (hl hsz) (fin hsz) _ 0 rfl (Nat.zero_le _) s h
    obtain ⟨hp, g, d, tk, os⟩ := s
    have f3 := AutoSeq1.sub_list_list
    have hne : ¬ (items.size != items2.size) = true := by simp [hsz]
    wp_walk using wpAny_loadPart' hl1, wpAny_loadPart' hb1
    exact ⟨plainId_quiet plain_eq_loop _, codeAny_builtin entry_eq_loop (by
      rw [Around.under_plainId plain_eq_loop _]
      exact hrec)⟩
  · have hR := off hsz
    obtain ⟨hp, g, d, tk, os⟩ := s
    have f3 := AutoSeq1.sub_list_list
    have hne : (items.size != items2.size) = true := by simp [hsz]
    wp_walk using wpAny_loadPart' hl1, wpAny_loadPart' hb1
    exact hR
end
end GQ

namespace Z
open PySem PySem.Spec L2
section
variable {W : Wd} {k : Nat} {X : Cx} {σ : L2.St} {F H : Hp} {pins : List (Addr × Obj)} {s : Shared}
theorem obj_tup (g : Gd W k X) (I : Inv X pins σ H s) (sub : ∀ a o, F a = some o → H a = some o) {a : Addr} {vs : List V} (h : SqT W.T.K F a vs) : ∃ o, s.heap.get? a = some o ∧ o.cls = .type "tuple" := by
  obtain ⟨its, _, ⟨o, e, c, _⟩, _⟩ := I.tuple (show SqT X.K H a vs by rw [g.K]; exact SqT.mono' sub h)
  exact ⟨o, e, c⟩
theorem obj_lst (I : Inv X pins σ H s) (sub : ∀ a o, F a = some o → H a = some o) {a : Addr} {vs : List V} (h : F a = some (.lst vs)) : ∃ o, s.heap.get? a = some o ∧ o.cls = .type "list" := by
  obtain ⟨_, its, n, _, _, e⟩ := I.lstM (sub _ _ h)
  exact ⟨_, e, rfl⟩
/-- the script is no object of the law's own -/
theorem scr_ne (g : Gd W k X) (I : Inv X pins σ H s) (sub : ∀ a o, F a = some o → H a = some o) {a : Addr} {u : HO} (h : (∃ o u, F a = some (.frz o u)) ∨ ∃ o, W.T.K.lookup a = some o) (q : F a = some u) (n : ∀ o v, u ≠ .frz o v) : False := by
  rcases h with ⟨o, v, e⟩ | ⟨o, e⟩
  · rw [q] at e
    cases e
    exact n _ _ rfl
  · rw [← g.K] at e
    have := (I.bs a o (I.ok.mod.kin a o e)).2
    rw [sub _ _ q] at this
    cases this
theorem obj_scr (g : Gd W k X) (I : Inv X pins σ H s) (sub : ∀ a o, F a = some o → H a = some o) {a : Addr} {vs : List V} (h : SqL W.T.K F a vs) : ∃ o, s.heap.get? a = some o ∧ o.cls = .type "list" := by
  obtain ⟨its, _, ⟨o, n, e, c, _⟩, _⟩ := I.list (show SqL X.K H a vs by rw [g.K]; exact SqL.mono' sub h)
  exact ⟨o, e, c⟩
theorem obj_ins (I : Inv X pins σ H s) (sub : ∀ a o, F a = some o → H a = some o) {a C dx : Addr} {fs : List (Str × V)} (h : F a = some (.ins C dx fs)) : ∃ o, s.heap.get? a = some o ∧ o.cls = .ref C := by
  obtain ⟨mA, O, _⟩ := ins_get I.hok (sub _ _ h)
  exact ⟨_, O.obj, rfl⟩
theorem zip_inj {α β : Type} : ∀ {fs : List α} {vs ws : List β}, vs.length = fs.length → ws.length = fs.length → fs.zip vs = fs.zip ws → vs = ws
  | [], [], [], _, _, _ => rfl
  | f :: fs, v :: vs, w :: ws, h1, h2, e => by
    simp only [List.zip_cons_cons, List.cons.injEq, Prod.mk.injEq, true_and] at e
    rw [e.1, zip_inj (by simpa using h1) (by simpa using h2) e.2]
theorem ints_inj : ∀ {l m : List Int}, l.map V.int = m.map V.int → l = m
  | [], [], _ => rfl
  | [], _ :: _, h => by simp at h
  | _ :: _, [], h => by simp at h
  | a :: l, b :: m, h => by
    simp only [List.map_cons, List.cons.injEq, V.int.injEq] at h
    rw [h.1, ints_inj h.2]
mutual
theorem frep_inj (g : Gd W k X) (zk : ZOk W) (I : Inv X pins σ H s) (sub : ∀ a o, F a = some o → H a = some o) : ∀ (d e : D) (v : V), frep W.T F d v → frep W.T F e v → d = e := by
  intro d e v h1 h2
  cases d with
  | non =>
    simp only [frep] at h1
    subst h1
    cases e <;> simp [frep] at h2 <;> rfl
  | bl b =>
    simp only [frep] at h1
    subst h1
    cases e <;> simp [frep] at h2
    rw [h2]
  | int b =>
    simp only [frep] at h1
    subst h1
    cases e <;> simp [frep] at h2
    rw [h2]
  | str b =>
    simp only [frep] at h1
    subst h1
    cases e <;> simp [frep] at h2
    rw [h2]
  | obj c l => simp only [frep] at h1
  | tup l =>
    simp only [frep] at h1
    obtain ⟨a, vs, rfl, q, r⟩ := h1
    obtain ⟨o, eo, co⟩ := obj_tup g I sub q
    cases e with
    | tup m =>
      simp only [frep] at h2
      obtain ⟨a', ws, ea, q', r'⟩ := h2
      cases ea
      have := I.tuple_inj (show SqT X.K H a vs by rw [g.K]; exact SqT.mono' sub q) (show SqT X.K H a ws by rw [g.K]; exact SqT.mono' sub q')
      subst this
      rw [freps_inj g zk I sub l m vs r r']
    | lst o' m =>
      simp only [frep] at h2
      obtain ⟨_, a', ws, ea, q', r'⟩ := h2
      cases ea
      obtain ⟨o', eo', co'⟩ := obj_lst I sub q'
      rw [eo] at eo'; cases eo'
      exact absurd (co.symm.trans co') (by simp)
    | ins c m =>
      simp only [frep] at h2
      obtain ⟨a', dx, ws, ea, q', _⟩ := h2
      cases ea
      obtain ⟨o', eo', co'⟩ := obj_ins I sub q'
      rw [eo] at eo'; cases eo'
      exact absurd (co.symm.trans co') (by simp)
    | scr m =>
      simp only [frep] at h2
      obtain ⟨a', ea, q', _⟩ := h2
      cases ea
      obtain ⟨o', eo', co'⟩ := obj_scr g I sub q'
      rw [eo] at eo'; cases eo'
      exact absurd (co.symm.trans co') (by simp)
    | _ => simp [frep] at h2
  | lst o l =>
    simp only [frep] at h1
    obtain ⟨rfl, a, vs, rfl, q, r⟩ := h1
    obtain ⟨o, eo, co⟩ := obj_lst I sub q
    cases e with
    | tup m =>
      simp only [frep] at h2
      obtain ⟨a', ws, ea, q', r'⟩ := h2
      cases ea
      obtain ⟨o', eo', co'⟩ := obj_tup g I sub q'
      rw [eo] at eo'; cases eo'
      exact absurd (co.symm.trans co') (by simp)
    | lst o' m =>
      simp only [frep] at h2
      obtain ⟨rfl, a', ws, ea, q', r'⟩ := h2
      cases ea
      rw [q] at q'
      cases q'
      rw [freps_inj g zk I sub l m vs r r']
    | ins c m =>
      simp only [frep] at h2
      obtain ⟨a', dx, ws, ea, q', _⟩ := h2
      cases ea
      rw [q] at q'; cases q'
    | scr m =>
      simp only [frep] at h2
      obtain ⟨a', ea, q', z'⟩ := h2
      cases ea
      exact (scr_ne g I sub z' q (by simp)).elim
    | _ => simp [frep] at h2
  | ins c l =>
    simp only [frep] at h1
    obtain ⟨a, dx, vs, rfl, q, ⟨hc, hl⟩, r⟩ := h1
    obtain ⟨o, eo, co⟩ := obj_ins I sub q
    cases e with
    | tup m =>
      simp only [frep] at h2
      obtain ⟨a', ws, ea, q', r'⟩ := h2
      cases ea
      obtain ⟨o', eo', co'⟩ := obj_tup g I sub q'
      rw [eo] at eo'; cases eo'
      exact absurd (co.symm.trans co') (by simp)
    | lst o' m =>
      simp only [frep] at h2
      obtain ⟨rfl, a', ws, ea, q', r'⟩ := h2
      cases ea
      rw [q] at q'; cases q'
    | ins c' m =>
      simp only [frep] at h2
      obtain ⟨a', dx', ws, ea, q', ⟨hc', hl'⟩, r'⟩ := h2
      cases ea
      rw [q] at q'
      injection q' with q'
      injection q' with e1 e2 e3
      have ec := zk.inj c hc c' hc' e1
      subst ec
      have := zip_inj hl hl' e3
      subst this
      rw [freps_inj g zk I sub l m vs r r']
    | scr m =>
      simp only [frep] at h2
      obtain ⟨a', ea, q', z'⟩ := h2
      cases ea
      exact (scr_ne g I sub z' q (by simp)).elim
    | _ => simp [frep] at h2
  | scr l =>
    simp only [frep] at h1
    obtain ⟨a, rfl, q, z⟩ := h1
    cases e with
    | tup m =>
      simp only [frep] at h2
      obtain ⟨a', ws, ea, q', r'⟩ := h2
      cases ea
      obtain ⟨o, eo, co⟩ := obj_scr g I sub q
      obtain ⟨o', eo', co'⟩ := obj_tup g I sub q'
      rw [eo] at eo'; cases eo'
      exact absurd (co.symm.trans co') (by simp)
    | lst o' m =>
      simp only [frep] at h2
      obtain ⟨rfl, a', ws, ea, q', r'⟩ := h2
      cases ea
      exact (scr_ne g I sub z q' (by simp)).elim
    | ins c m =>
      simp only [frep] at h2
      obtain ⟨a', dx, ws, ea, q', _⟩ := h2
      cases ea
      exact (scr_ne g I sub z q' (by simp)).elim
    | scr m =>
      simp only [frep] at h2
      obtain ⟨a', ea, q', _⟩ := h2
      cases ea
      have := I.list_inj (show SqL X.K H a _ by rw [g.K]; exact SqL.mono' sub q) (show SqL X.K H a _ by rw [g.K]; exact SqL.mono' sub q')
      rw [ints_inj this]
    | _ => simp [frep] at h2
theorem freps_inj (g : Gd W k X) (zk : ZOk W) (I : Inv X pins σ H s) (sub : ∀ a o, F a = some o → H a = some o) : ∀ (l m : List D) (vs : List V), freps W.T F l vs → freps W.T F m vs → l = m := by
  intro l m vs h1 h2
  cases l with
  | nil => cases vs with
    | nil => cases m with
      | nil => rfl
      | cons _ _ => simp [freps] at h2
    | cons _ _ => simp [freps] at h1
  | cons d l => cases vs with
    | nil => simp [freps] at h1
    | cons v vs => cases m with
      | nil => simp [freps] at h2
      | cons e m =>
        simp only [freps] at h1 h2
        rw [frep_inj g zk I sub d e v h1.1 h2.1, freps_inj g zk I sub l m vs h1.2 h2.2]
end
end

abbrev atA (X : Cx) (A : Around) : Cx := { X with A := A }
theorem ok_at {X : Cx} {A : Around} (ok : X.Ok) (hf : A.frames = X.A.frames) (hh : A.handled = none) : (atA X A).Ok :=
  ⟨ok.mod, ok.kind, ok.glob, ok.blt, ok.above, ok.inj, ok.has, ok.cab, fun _ => hh, by show A.frames = _; rw [hf]; exact ok.frames, ok.stk, ok.exf, ok.bs, ok.bsz, ok.noex, ok.exfs, ok.funs, ok.frf⟩
theorem inv_at {X : Cx} {A : Around} {pins : List (Addr × Obj)} {σ : L2.St} {H : Hp} {s : Shared} (I : Inv X pins σ H s) (hf : A.frames = X.A.frames) (hh : A.handled = none) : Inv (atA X A) pins σ H s :=
  ⟨ok_at I.ok hf hh, I.os, I.bare, I.base, I.loc, I.cell, I.free, I.freeC, I.pin, I.hok, I.len⟩
theorem inv_back {X : Cx} {A : Around} {pins : List (Addr × Obj)} {σ : L2.St} {H : Hp} {s : Shared} (ok : X.Ok) (I : Inv (atA X A) pins σ H s) : Inv X pins σ H s :=
  ⟨ok, I.os, I.bare, I.base, I.loc, I.cell, I.free, I.freeC, I.pin, I.hok, I.len⟩
def cop (ne : Bool) : CmpOp := if ne then .NotEq else .Eq
/-- an answer b is at hand -/
def Ans (X : Cx) (pins : List (Addr × Obj)) (σ : L2.St) (F H : Hp) (b : Bool) (s' : Shared) : Prop := ∃ F' H', Inv X pins σ H' s' ∧ Stp F H [] F' H' []
section
variable {W : Wd} {k : Nat} {X : Cx} {C : Calls} {Wx : WX}
theorem Stp.frepm {T : Tab} {F H F' H' : Hp} {A A' : List Addr} (p : Stp F H A F' H' A') {d : D} {v : V} (r : frep T F d v) : frep T F' d v := frep_mono p.mono d v r
/-- == of an own class with anything that has no say -/
theorem rc_ins (g : Gd W k X) (ck : COk W C k) (dk : DOk W) (zk : ZOk W) (tk : Takes X Wx) {A : Around} (hr : Room (k + 1) A) (hf : A.frames = X.A.frames) {pins : List (Addr × Obj)} {s : Shared} {σ : L2.St} {F H : Hp} {c : Nat} {l : List D} {e : D} {x y : V} {u v tb : Value} {b : Bool}
    (st : Stt F H []) (I : Inv X pins σ H s) (rx : RelV x u) (ry : RelV y v) (f1 : frep W.T F (.ins c l) x) (f2 : frep W.T F e y) (hc : C (mfid c mEq) [.ins c l, e] = .ok (.bl b) [])
    (ht : PySem.W.Looks (model X.prog X.w) s.heap (typeOf v) tb) (hn : PySem.W.notFirst W.T.K (W.T.cad c) tb = true) :
    wpAny (model X.prog X.w) A (richCompare .Eq u v) (fun r s' => r = .bool b ∧ Ans X pins σ F H b s') X.xe s := by
  obtain ⟨fd, hP, _⟩ := ck.no (mfid c mEq) [.ins c l, e] (fun z => by rw [hc] at z; cases z)
  have kc := zk.ok c (zk.of c mEq fd hP)
  obtain ⟨me, _⟩ := kc.meth mEq fd hP
  have fr2 : freps W.T F [.ins c l, e] [x, y] := by simp only [freps]; exact ⟨f1, f2, trivial⟩
  obtain ⟨a, dx, vs, rfl, q1, _, _⟩ : ∃ a dx vs, x = .ref a ∧ F a = some (.ins (W.T.cad c) dx ((W.T.fl c).zip vs)) ∧ (c ∈ W.T.cs ∧ vs.length = (W.T.fl c).length) ∧ freps W.T F l vs := by simpa only [frep] using f1
  cases rx
  obtain ⟨od, I1⟩ := ins_at g I (st.sub _ _ q1)
  obtain ⟨mm, hF⟩ := I.fr
  have hK := I.ok.mod.kin
  rw [g.K] at hK
  have at1 := me.at_
  rw [zk.eq] at at1
  refine PySem.W.cmp_K (op := .Eq) (tb := tb) (hr.mono (by omega : 1 ≤ k + 1)).units0 hF hK I1 ht hn at1 me.fn ?_
  have run := run_call (Q := fun v H' => v = .bl b ∧ ∃ F', Stp F H [] F' H' []) g ck dk tk (hr.mono (by omega)) hf I (vs := [V.ref a, y]) (.cons rfl (.cons ry .nil)) st (freps_A fr2) (by
    rw [hc]
    intro v F3 H3 B' R p r1 r2
    simp only [rep, frep] at r2
    exact ⟨r2.2, F3, p.less (fun _ z => by cases z) List.nodup_nil⟩)
  refine wpAny_mono run (fun r s' z => ?_) fun _ _ z => z
  obtain ⟨v', H', I', rv, rfl, F', p⟩ := z
  cases rv
  exact ⟨rfl, F', H', I', p⟩
theorem rc_scal (ne : Bool) {A : Around} (hh : A.handled = none) (hf : A.frames = X.A.frames) {pins : List (Addr × Obj)} {s : Shared} {σ : L2.St} {F H : Hp} {x y : V} {u v : Value} {b : Bool}
    (st : Stt F H []) (I : Inv X pins σ H s) (rx : RelV x u) (ry : RelV y v) (hs : scal x y = true) (e : decide (x = y) = b) :
    wpAny (model X.prog X.w) A (richCompare (cop ne) u v) (fun r s' => r = .bool (ne != b) ∧ Ans X pins σ F H b s') X.xe s := by
  have I' := inv_at I hf hh
  cases ne with
  | false =>
    refine wpAny_mono (op_eq (X := atA X A) pins s σ H x y u v (fun v H' => v = .bl b ∧ H' = H) I' rx ry ⟨hs, by rw [e], rfl⟩) (fun r s' z => ?_) fun _ _ z => z
    obtain ⟨v', H', I2, rv, rfl, rfl⟩ := z
    cases rv
    exact ⟨by simp, F, H', inv_back I.ok I2, Stp.refl st⟩
  | true =>
    refine wpAny_mono (op_ne (X := atA X A) pins s σ H x y u v (fun v H' => v = .bl (!b) ∧ H' = H) I' rx ry ⟨hs, by rw [e], rfl⟩) (fun r s' z => ?_) fun _ _ z => z
    obtain ⟨v', H', I2, rv, rfl, rfl⟩ := z
    cases rv
    exact ⟨by simp, F, H', inv_back I.ok I2, Stp.refl st⟩
/-- what is shown of a fuel -/
def RcZ (W : Wd) (X : Cx) (C : Calls) (m n : Nat) (ne : Bool) : Prop := ∀ (d1 d2 : D) (b : Bool), eqN C n d1 d2 = .ok b → (ne = true → ∀ c l, d1 ≠ .ins c l) →
  ∀ (A : Around) (pins : List (Addr × Obj)) (s : Shared) (σ : L2.St) (F H : Hp) (x y : V) (u v : Value), Room (m + n) A → A.frames = X.A.frames → Stt F H [] → Inv X pins σ H s → RelV x u → RelV y v → frep W.T F d1 x → frep W.T F d2 y →
    wpAny (model X.prog X.w) A (richCompare (cop ne) u v) (fun r s' => r = .bool (ne != b) ∧ Ans X pins σ F H b s') X.xe s
/-- .. inside a list or a tuple: one object is equal to itself -/
theorem eqb_of (g : Gd W k X) (zk : ZOk W) {m n : Nat} (h : RcZ W X C m n false) {d1 d2 : D} {b : Bool} (hd : eqN C n d1 d2 = .ok b) (hb : b = false → D.beq d1 d2 = false)
    {A : Around} {pins : List (Addr × Obj)} {s : Shared} {σ : L2.St} {F H : Hp} {x y : V} {u v : Value} (hr : Room (m + n) A) (hf : A.frames = X.A.frames) (st : Stt F H []) (I : Inv X pins σ H s) (rx : RelV x u) (ry : RelV y v) (f1 : frep W.T F d1 x) (f2 : frep W.T F d2 y) :
    wpAny (model X.prog X.w) A (eqBool u v) (fun r s' => r = b ∧ Ans X pins σ F H b s') X.xe s := by
  by_cases hab : ∃ a, x = .ref a ∧ y = .ref a
  · obtain ⟨a, rfl, rfl⟩ := hab
    have e := frep_inj g zk I st.sub d1 d2 _ f1 f2
    subst e
    have : b = true := by
      cases b with
      | true => rfl
      | false => rw [D.beq_self] at hb; cases hb rfl
    subst this
    cases rx
    cases ry
    exact SeqAt.EqAt.same (A := A) (s := s) (.ref a) X.prog X.w X.xe _ ⟨rfl, F, H, I, Stp.refl st⟩
  · have main := h d1 d2 b hd (fun z => by cases z) A pins s σ F H x y u v hr hf st I rx ry f1 f2
    have flat : ∀ {x y : V} {u v : Value}, RelV x u → RelV y v → flatV x = true → flatV y = true → eqV x y = b → wpAny (model X.prog X.w) A (eqBool u v) (fun r s' => r = b ∧ Ans X pins σ F H b s') X.xe s := fun {x y u v} rx ry fx fy e => by
      have q := eqAt_V (A := A) (s := s) rx ry fx fy
      rw [e] at q
      exact q X.prog X.w X.xe _ ⟨rfl, F, H, I, Stp.refl st⟩
    cases n with
    | zero => cases hd
    | succ n =>
      cases d1 <;> cases d2 <;> (try (simp only [eqN, reduceCtorEq] at hd; done))
      all_goals try
        (simp only [frep] at f1 f2; subst f1; subst f2; refine flat rx ry rfl rfl ?_; simp only [eqN, Rs.ok.injEq] at hd; rw [← hd]; rfl)
      all_goals
        have r1 : ∃ a, x = .ref a := by
          simp only [frep] at f1
          first
            | (obtain ⟨a, _, e, _⟩ := f1; exact ⟨a, e⟩)
            | (obtain ⟨_, a, _, e, _⟩ := f1; exact ⟨a, e⟩)
            | (obtain ⟨a, _, _, e, _⟩ := f1; exact ⟨a, e⟩)
        have r2 : ∃ a, y = .ref a := by
          simp only [frep] at f2
          first
            | (obtain ⟨a, _, e, _⟩ := f2; exact ⟨a, e⟩)
            | (obtain ⟨_, a, _, e, _⟩ := f2; exact ⟨a, e⟩)
            | (obtain ⟨a, _, _, e, _⟩ := f2; exact ⟨a, e⟩)
        obtain ⟨a, rfl⟩ := r1
        obtain ⟨a', rfl⟩ := r2
        cases rx
        cases ry
        refine GQ.eqBool_refG (fun z => hab ⟨a, rfl, by rw [z]⟩) (wpAny_mono main (fun r s' z => ?_) fun _ _ z => z)
        obtain ⟨e, z⟩ := z
        exact ⟨b, by rw [e]; cases b <;> rfl, rfl, z⟩
theorem eqL_at {f : D → D → Rs Bool} {b : Bool} : ∀ {l m : List D} (i : Nat), eqL f l m = .ok b → (∀ j, j < i → ∃ x y, l[j]? = some x ∧ m[j]? = some y ∧ f x y = .ok true) → eqL f (l.drop i) (m.drop i) = .ok b
  | _, _, 0, h, _ => h
  | [], [], i + 1, h, _ => by simpa using h
  | [], y :: m, i + 1, h, k => by obtain ⟨x, y, e, _⟩ := k 0 (by omega); simp at e
  | x :: l, [], i + 1, h, k => by obtain ⟨x, y, _, e, _⟩ := k 0 (by omega); simp at e
  | x :: l, y :: m, i + 1, h, k => by
    obtain ⟨x', y', e1, e2, e3⟩ := k 0 (by omega)
    simp at e1 e2
    subst e1 e2
    simp only [eqL, e3] at h
    simp only [List.drop_succ_cons]
    exact eqL_at i h fun j hj => by
      obtain ⟨x, y, a, b, c⟩ := k (j + 1) (by omega)
      exact ⟨x, y, by simpa using a, by simpa using b, c⟩
theorem vals_at {xs : List V} {us : List Value} (r : Vals xs us) {i : Nat} (h : i < us.toArray.size) : ∃ x, xs[i]? = some x ∧ RelV x us.toArray[i] := by
  have h' : i < us.length := by simpa using h
  have k1 : i < xs.length := by rw [r.length]; exact h'
  obtain ⟨u, hu, ru⟩ := r.get (List.getElem?_eq_getElem k1)
  rw [List.getElem?_eq_getElem h'] at hu
  refine ⟨xs[i], List.getElem?_eq_getElem k1, ?_⟩
  have : us.toArray[i] = u := by simpa using Option.some.inj hu
  rw [this]; exact ru
theorem freps_at {T : Tab} {F : Hp} {l : List D} {vs : List V} (h : freps T F l vs) {i : Nat} {v : V} (e : vs[i]? = some v) : ∃ d, l[i]? = some d ∧ frep T F d v := by
  have hl := freps_length h
  have hi : i < vs.length := (List.getElem?_eq_some_iff.mp e).1
  obtain ⟨w, e2, r⟩ := freps_get h (List.getElem?_eq_getElem (by rw [hl]; exact hi) : l[i]? = some l[i])
  rw [e] at e2; cases e2
  exact ⟨_, List.getElem?_eq_getElem _, r⟩
theorem eqL_turn {f : D → D → Rs Bool} {b : Bool} {l m : List D} {i : Nat} {d e : D} (h : eqL f (l.drop i) (m.drop i) = .ok b) (h1 : l[i]? = some d) (h2 : m[i]? = some e) :
    (f d e = .ok true ∧ eqL f (l.drop (i + 1)) (m.drop (i + 1)) = .ok b) ∨ (f d e = .ok false ∧ D.beq d e = false ∧ b = false) := by
  obtain ⟨k1, e1⟩ := List.getElem?_eq_some_iff.mp h1
  obtain ⟨k2, e2⟩ := List.getElem?_eq_some_iff.mp h2
  rw [List.drop_eq_getElem_cons k1, List.drop_eq_getElem_cons k2, e1, e2] at h
  unfold eqL at h
  split at h
  · rename_i q; exact .inl ⟨q, h⟩
  · rename_i q
    split at h
    · cases h
    · rename_i z
      cases h
      exact .inr ⟨q, by simpa using z, rfl⟩
  · cases h
theorem eqL_end {f : D → D → Rs Bool} {b : Bool} {l m : List D} {i : Nat} (h : eqL f (l.drop i) (m.drop i) = .ok b) (hi : i = min l.length m.length) : b = decide (l.length = m.length) := by
  rcases Nat.lt_trichotomy l.length m.length with z | z | z
  · have e1 : l.drop i = [] := List.drop_eq_nil_of_le (by omega)
    have k2 : i < m.length := by omega
    rw [e1, List.drop_eq_getElem_cons k2] at h
    cases h
    exact (decide_eq_false (by omega)).symm
  · have e1 : l.drop i = [] := List.drop_eq_nil_of_le (by omega)
    have e2 : m.drop i = [] := List.drop_eq_nil_of_le (by omega)
    rw [e1, e2] at h
    cases h
    exact (decide_eq_true z).symm
  · have e1 : m.drop i = [] := List.drop_eq_nil_of_le (by omega)
    have k2 : i < l.length := by omega
    rw [e1, List.drop_eq_getElem_cons k2] at h
    cases h
    exact (decide_eq_false (by omega)).symm
theorem rc_all (g : Gd W k X) (ck : COk W C k) (dk : DOk W) (zk : ZOk W) (tk : Takes X Wx) : ∀ n ne, RcZ W X C (k + 1) n ne := by
  intro n
  induction n with
  | zero => intro ne d1 d2 b h; cases h
  | succ n ih =>
    intro ne d1 d2 b h hi A pins s σ F H x y u v hr hf st I rx ry f1 f2
    have hr' : Room (k + 1 + n) A.in1 := Room.in1 (by rw [show k + 1 + n + 1 = k + 1 + (n + 1) by omega]; exact hr)
    have hf' : A.in1.frames = X.A.frames := hf
    have scl : ∀ {x y : V}, RelV x u → RelV y v → scal x y = true → decide (x = y) = b → wpAny (model X.prog X.w) A (richCompare (cop ne) u v) (fun r s' => r = .bool (ne != b) ∧ Ans X pins σ F H b s') X.xe s := fun {x y} rx ry hs e =>
      rc_scal ne hr.hd hf st I rx ry hs e
    -- two at one place
    have turn : ∀ {l m : List D} {vs ws : List V} {us us' : List Value} {i : Nat} {s' : Shared}, freps W.T F l vs → freps W.T F m ws → Vals vs us → Vals ws us' → (∃ F1 H1, Inv X pins σ H1 s' ∧ Stp F H [] F1 H1 []) → eqL (eqN C n) (l.drop i) (m.drop i) = .ok b → ∀ (h1 : i < us.toArray.size) (h2 : i < us'.toArray.size),
        wpAny (model X.prog X.w) A.in1 (eqBool us.toArray[i] us'.toArray[i]) (fun r s2 => (if r = true then eqL (eqN C n) (l.drop (i + 1)) (m.drop (i + 1)) = .ok b else b = false) ∧ ∃ F1 H1, Inv X pins σ H1 s2 ∧ Stp F H [] F1 H1 []) X.xe s' := by
      intro l m vs ws us us' i s' r1 r2 v1 v2 ⟨F1, H1, I1, p1⟩ he h1 h2
      obtain ⟨x1, e1, q1⟩ := vals_at v1 h1
      obtain ⟨x2, e2, q2⟩ := vals_at v2 h2
      obtain ⟨d, ed, fd⟩ := freps_at r1 e1
      obtain ⟨e, ee, fe⟩ := freps_at r2 e2
      rcases eqL_turn he ed ee with ⟨z, z2⟩ | ⟨z, z2, z3⟩
      · refine wpAny_mono (eqb_of g zk (ih false) z (fun q => by cases q) hr' hf' p1.st I1 q1 q2 (p1.frepm fd) (p1.frepm fe)) (fun r s2 w => ?_) fun _ _ w => w
        obtain ⟨rfl, F2, H2, I2, p2⟩ := w
        exact ⟨by rw [if_pos rfl]; exact z2, F2, H2, I2, p1.trans p2⟩
      · refine wpAny_mono (eqb_of g zk (ih false) z (fun _ => z2) hr' hf' p1.st I1 q1 q2 (p1.frepm fd) (p1.frepm fe)) (fun r s2 w => ?_) fun _ _ w => w
        obtain ⟨rfl, F2, H2, I2, p2⟩ := w
        exact ⟨by rw [if_neg (by simp)]; exact z3, F2, H2, I2, p1.trans p2⟩
    cases d1 <;> cases d2 <;> (try (simp only [eqN, reduceCtorEq] at h; done))
    all_goals try
      (simp only [frep] at f1 f2; subst f1; subst f2; refine scl rx ry rfl ?_; simp only [eqN, Rs.ok.injEq] at h; rw [← h]; first | exact dec_bl | (simp; done) | rfl)
    case tup.tup l m =>
      simp only [frep] at f1 f2
      simp only [eqN] at h
      obtain ⟨a, vs, rfl, q1, r1⟩ := f1
      obtain ⟨a', ws, rfl, q2, r2⟩ := f2
      cases rx
      cases ry
      obtain ⟨its, v1, t1, _⟩ := I.tuple (show SqT X.K H a vs by rw [g.K]; exact SqT.mono' st.sub q1)
      obtain ⟨its2, v2, t2, _⟩ := I.tuple (show SqT X.K H a' ws by rw [g.K]; exact SqT.mono' st.sub q2)
      have l1 := freps_length r1
      have l2 := freps_length r2
      have z1 := v1.length
      have z2 := v2.length
      obtain ⟨⟨cls, dd, data, sl⟩, ho, hc, nn, hd⟩ := id t1
      obtain ⟨⟨cls2, dd2, data2, sl2⟩, ho2, hc2, nn2, hd2⟩ := id t2
      simp only at hc hd hc2 hd2
      subst hc hd hc2 hd2
      have start : ∃ F1 H1, Inv X pins σ H1 s ∧ Stp F H [] F1 H1 [] := ⟨F, H, I, Stp.refl st⟩
      cases ne with
      | false =>
        refine wpAny_richCompare_same_room (op := .Eq) ⟨_, ho, rfl⟩ ⟨_, ho2, rfl⟩ PySem.F.slot_tuple_eq (GQ.call_here PySem.F.slot_tuple_eq ⟨_, ho, rfl⟩ PySem.F.entry_tuple_eq (PySem.F.args_tuple_eq_2 _ _) ?_) hr.units0
        refine GQ.tup_eq_zz (R := PySem.wants (fun v s' => v ≠ .notImplemented ∧ (v = .bool (false != b) ∧ Ans X pins σ F H b s')) X.xe) a a' its.toArray its2.toArray nn nn2 dd dd2 sl sl2 (fun i s' => eqL (eqN C n) (l.drop i) (m.drop i) = .ok b ∧ ∃ F1 H1, Inv X pins σ H1 s' ∧ Stp F H [] F1 H1 [])
          (fun i h1 h2 s' ⟨he, hI⟩ => wpAny_mono (turn r1 r2 v1 v2 hI he h1 h2) (fun r s2 w => ?_) fun _ _ w => w) (fun i s' ei ⟨he, hI⟩ => ?_) ho ho2 ⟨h, start⟩
        · cases r with
          | true => exact ⟨by simpa using w.1, w.2⟩
          | false =>
            have : b = false := by simpa using w.1
            subst this
            exact ⟨(fun z => nomatch z), rfl, w.2⟩
        · have eb := eqL_end he (by rw [l1, l2, z1, z2]; simpa using ei)
          refine ⟨(fun z => nomatch z), ?_, hI⟩
          rw [eb]
          simp [l1, l2, z1, z2]
          rw [Bool.eq_iff_iff]
          simp
      | true =>
        refine wpAny_richCompare_same_room (op := .NotEq) ⟨_, ho, rfl⟩ ⟨_, ho2, rfl⟩ PySem.F.slot_tuple_ne (GQ.call_here PySem.F.slot_tuple_ne ⟨_, ho, rfl⟩ PySem.F.entry_tuple_ne (PySem.F.args_tuple_ne_2 _ _) ?_) hr.units0
        refine GQ.tup_ne_zz (R := PySem.wants (fun v s' => v ≠ .notImplemented ∧ (v = .bool (true != b) ∧ Ans X pins σ F H b s')) X.xe) a a' its.toArray its2.toArray nn nn2 dd dd2 sl sl2 (fun i s' => eqL (eqN C n) (l.drop i) (m.drop i) = .ok b ∧ ∃ F1 H1, Inv X pins σ H1 s' ∧ Stp F H [] F1 H1 [])
          (fun i h1 h2 s' ⟨he, hI⟩ => wpAny_mono (turn r1 r2 v1 v2 hI he h1 h2) (fun r s2 w => ?_) fun _ _ w => w) (fun i s' ei ⟨he, hI⟩ => ?_) ho ho2 ⟨h, start⟩
        · cases r with
          | true => exact ⟨by simpa using w.1, w.2⟩
          | false =>
            have : b = false := by simpa using w.1
            subst this
            exact ⟨(fun z => nomatch z), rfl, w.2⟩
        · have eb := eqL_end he (by rw [l1, l2, z1, z2]; simpa using ei)
          refine ⟨(fun z => nomatch z), ?_, hI⟩
          rw [eb]
          simp [l1, l2, z1, z2, bne, Bool.beq_eq_decide_eq]
    case lst.lst o l o' m =>
      simp only [frep] at f1 f2
      simp only [eqN] at h
      obtain ⟨rfl, a, vs, rfl, q1, r1⟩ := f1
      obtain ⟨rfl, a', ws, rfl, q2, r2⟩ := f2
      cases rx
      cases ry
      obtain ⟨_, its, nn, v1, _, ho⟩ := I.lstM (st.sub _ _ q1)
      obtain ⟨_, its2, nn2, v2, _, ho2⟩ := I.lstM (st.sub _ _ q2)
      have l1 := freps_length r1
      have l2 := freps_length r2
      have z1 := v1.length
      have z2 := v2.length
      have start : ∃ F1 H1, Inv X pins σ H1 s ∧ Stp F H [] F1 H1 [] := ⟨F, H, I, Stp.refl st⟩
      have off : its.toArray.size ≠ its2.toArray.size → b = false := fun z => by
        rw [if_neg (by rw [l1, l2, z1, z2]; simpa using z)] at h
        cases h; rfl
      have on : its.toArray.size = its2.toArray.size → eqL (eqN C n) l m = .ok b := fun z => by
        rw [if_pos (by rw [l1, l2, z1, z2]; simpa using z)] at h
        exact h
      have look : ∀ (s' : Shared), (∃ F1 H1, Inv X pins σ H1 s' ∧ Stp F H [] F1 H1 []) → ∃ (it it2 : List Value) (n n2 : Nat), Vals vs it ∧ Vals ws it2 ∧ s'.heap.get? a = some { cls := .type "list", data := .seq it.toArray n } ∧ s'.heap.get? a' = some { cls := .type "list", data := .seq it2.toArray n2 } := fun s' ⟨F1, H1, I1, p1⟩ => by
        obtain ⟨_, it, n1, w1, _, e1⟩ := I1.lstM (p1.st.sub _ _ (p1.mono _ _ q1))
        obtain ⟨_, it2, n2, w2, _, e2⟩ := I1.lstM (p1.st.sub _ _ (p1.mono _ _ q2))
        exact ⟨it, it2, n1, n2, w1, w2, e1, e2⟩
      cases ne with
      | false =>
        refine wpAny_richCompare_same_room (op := .Eq) ⟨_, ho, rfl⟩ ⟨_, ho2, rfl⟩ PySem.F.slot_list_eq (GQ.call_here PySem.F.slot_list_eq ⟨_, ho, rfl⟩ PySem.F.entry_list_eq (PySem.F.args_list_eq_2 _ _) ?_) hr.units0
        refine GQ.list_eq_zz (R := PySem.wants (fun v s' => v ≠ .notImplemented ∧ (v = .bool (false != b) ∧ Ans X pins σ F H b s')) X.xe) a a' its.toArray its2.toArray nn nn2 (fun i s' => (its.toArray.size = its2.toArray.size → eqL (eqN C n) (l.drop i) (m.drop i) = .ok b) ∧ ∃ F1 H1, Inv X pins σ H1 s' ∧ Stp F H [] F1 H1 [])
          (fun hz i s' ⟨he, hI⟩ => ?_) (fun hz s' ⟨he, hI⟩ => ?_) ho ho2 ⟨on, start⟩ (fun z => ⟨(fun z => nomatch z), by rw [off z]; rfl, start⟩)
        · obtain ⟨it, it2, n1, n2, w1, w2, e1, e2⟩ := look s' hI
          have y1 := w1.length
          have y2 := w2.length
          have hz' : its.length = its2.length := by simpa using hz
          refine ⟨it.toArray, it2.toArray, n1, n2, e1, e2, by simp; omega, by simp; omega, fun h1 h2 => wpAny_mono (turn r1 r2 w1 w2 hI (he hz) h1 h2) (fun r s2 w => ?_) fun _ _ w => w⟩
          cases r with
          | true => exact ⟨fun _ => by simpa using w.1, w.2⟩
          | false =>
            have : b = false := by simpa using w.1
            subst this
            obtain ⟨it, it2, n1, n2, w1, w2, e1, e2⟩ := look s2 w.2
            have y1 := w1.length
            have y2 := w2.length
            exact ⟨⟨(fun z => nomatch z), rfl, w.2⟩, it.toArray, it2.toArray, n1, n2, e1, e2, by simp; omega, by simp; omega⟩
        · have hz' : its.length = its2.length := by simpa using hz
          have eb := eqL_end (he hz) (by rw [l1, l2, z1, z2]; simp; omega)
          refine ⟨(fun z => nomatch z), ?_, hI⟩
          rw [eb]
          have : l.length = m.length := by omega
          simp [this]
      | true =>
        refine wpAny_richCompare_same_room (op := .NotEq) ⟨_, ho, rfl⟩ ⟨_, ho2, rfl⟩ PySem.F.slot_list_ne (GQ.call_here PySem.F.slot_list_ne ⟨_, ho, rfl⟩ PySem.F.entry_list_ne (PySem.F.args_list_ne_2 _ _) ?_) hr.units0
        refine GQ.list_ne_zz (R := PySem.wants (fun v s' => v ≠ .notImplemented ∧ (v = .bool (true != b) ∧ Ans X pins σ F H b s')) X.xe) a a' its.toArray its2.toArray nn nn2 (fun i s' => (its.toArray.size = its2.toArray.size → eqL (eqN C n) (l.drop i) (m.drop i) = .ok b) ∧ ∃ F1 H1, Inv X pins σ H1 s' ∧ Stp F H [] F1 H1 [])
          (fun hz i s' ⟨he, hI⟩ => ?_) (fun hz s' ⟨he, hI⟩ => ?_) ho ho2 ⟨on, start⟩ (fun z => ⟨(fun z => nomatch z), by rw [off z]; rfl, start⟩)
        · obtain ⟨it, it2, n1, n2, w1, w2, e1, e2⟩ := look s' hI
          have y1 := w1.length
          have y2 := w2.length
          have hz' : its.length = its2.length := by simpa using hz
          refine ⟨it.toArray, it2.toArray, n1, n2, e1, e2, by simp; omega, by simp; omega, fun h1 h2 => wpAny_mono (turn r1 r2 w1 w2 hI (he hz) h1 h2) (fun r s2 w => ?_) fun _ _ w => w⟩
          cases r with
          | true => exact ⟨fun _ => by simpa using w.1, w.2⟩
          | false =>
            have : b = false := by simpa using w.1
            subst this
            obtain ⟨it, it2, n1, n2, w1, w2, e1, e2⟩ := look s2 w.2
            have y1 := w1.length
            have y2 := w2.length
            exact ⟨⟨(fun z => nomatch z), rfl, w.2⟩, it.toArray, it2.toArray, n1, n2, e1, e2, by simp; omega, by simp; omega⟩
        · have hz' : its.length = its2.length := by simpa using hz
          have eb := eqL_end (he hz) (by rw [l1, l2, z1, z2]; simp; omega)
          refine ⟨(fun z => nomatch z), ?_, hI⟩
          rw [eb]
          have : l.length = m.length := by omega
          simp [this]
    case ins.ins c l c' m =>
      cases ne with
      | true => exact absurd rfl (hi rfl c l)
      | false =>
        simp only [eqN] at h
        split at h
        · rename_i b' hC
          cases h
          obtain ⟨a', dy, ws, e2, q2, ⟨hc', _⟩, _⟩ : ∃ a dx vs, y = .ref a ∧ F a = some (.ins (W.T.cad c') dx ((W.T.fl c').zip vs)) ∧ (c' ∈ W.T.cs ∧ vs.length = (W.T.fl c').length) ∧ freps W.T F m vs := by simpa only [frep] using f2
          subst e2
          have hy := ry
          cases ry
          obtain ⟨od, I2⟩ := ins_at g I (st.sub _ _ q2)
          have hcc : c ∈ W.T.cs := by
            simp only [frep] at f1
            obtain ⟨_, _, _, _, _, ⟨z, _⟩, _⟩ := f1
            exact z
          refine wpAny_mono (rc_ins g ck dk zk tk (hr.mono (by omega)) hf st I rx hy f1 f2 hC I2.type ?_) (fun r s' z => ?_) fun _ _ z => z
          · unfold PySem.W.notFirst
            by_cases hh : c' = c
            · subst hh; simp
            · rw [zk.sub c' hc' c hcc hh]; simp
          · exact ⟨by rw [z.1]; simp, z.2⟩
        · cases h
end

theorem zns_of {K : PySem.W.Frag} {h : Heap} {N : Addr} {mg : Str → Option Value} {n : Str} {v : Value} (X : K.In h) (G : h.Ns N mg) (e : PySem.W.nsIn K N n = some (some v)) : mg n = some v := by
  obtain ⟨o, es, ep, ho, hd, _, hf⟩ := G
  unfold PySem.W.nsIn at e
  split at e
  · rename_i c d es' n' sl q
    have := X _ _ q
    rw [ho] at this
    cases this
    cases hd
    split at e
    · rename_i en he
      cases e
      rw [← hf]
      unfold nsFind findBy
      rw [← Array.find?_toList, he]
      rfl
    · split at e <;> cases e
  · cases e
/-- a class over object with an own == and no != -/
def neIn (K : PySem.W.Frag) (C f : Addr) : Bool := match K.lookup C with
  | some ⟨.type "type", _, .cls cd, sl⟩ => (match cd.mro, sl.toList with
    | [.ref C', .type "object"], [_, _, _, _, some (.builtin _), _] => C' == C && !cd.hasDel && PySem.W.nsOkIn K cd.ns && PySem.W.nsIn K cd.ns "__eq__" == some (some (.ref f)) && PySem.W.nsIn K cd.ns "__ne__" == some none &&
      (match K.lookup f with
      | some ⟨.type "function", _, _, _⟩ => true
      | _ => false)
    | _, _ => false)
  | _ => false
theorem neIn_ok {K : PySem.W.Frag} {C f : Addr} (q : neIn K C f = true) {h : Heap} (X : K.In h) {x : Addr} {o : Obj} (hx : h.get? x = some o) (hc : o.cls = .ref C) : h.OwnEqNoNe x C f "object" [.type "object"] := by
  unfold neIn at q
  split at q
  · rename_i dd cd sl ho
    split at q
    · rename_i C' k0 k1 k2 k3 n k5 hm hs
      simp only [Bool.and_eq_true, beq_iff_eq, Bool.not_eq_true'] at q
      obtain ⟨⟨⟨⟨⟨rfl, hdel⟩, hok⟩, heq⟩, hne⟩, hf⟩ := q
      split at hf
      · rename_i fd fx fs hfo
        obtain ⟨nm, bs, mro, ns, qn, hd, sn, sub, ab, col, del⟩ := cd
        dsimp only at hm hdel hok heq hne
        subst hm hdel
        have hsl : sl = #[k0, k1, k2, k3, some (.builtin n), k5] := by
          obtain ⟨l⟩ := sl
          simp only at hs
          rw [hs]
        subst hsl
        refine ⟨o, _, nm, qn, ns, bs, hd, sn, sub, ab, col, dd, k0, k1, k2, k3, k5, n, h.nsMap ns, _, hx, hc, X _ _ ho, .of_isNs (PySem.W.isNs_of_in X hok), ?_, X _ _ hfo, rfl, PySem.F.cmp_object.mro, PySem.F.cmp_object.eq.lookup, PySem.W.nsMap_none_of_in X hok hne⟩
        exact zns_of X (.of_isNs (PySem.W.isNs_of_in X hok)) heq
      · cases hf
    · cases q
  · cases q

/-- the built-in types that stand beside own classes -/
def bts : List String := ["NoneType", "bool", "int", "str", "tuple", "list"]
structure EOk (W : Wd) : Prop where
  ne : ∀ c ∈ W.T.cs, (W.P (mfid c mEq)).isSome = true → neIn W.T.K (W.T.cad c) (W.fad (mfid c mEq)) = true
  bt : ∀ c ∈ W.T.cs, ∀ T ∈ bts, PySem.W.subIn W.T.K (.type T) (.ref (W.T.cad c)) = some false
section
variable {W : Wd} {k : Nat} {X : Cx} {C : Calls} {Wx : WX}
theorem typ_of (g : Gd W k X) {pins : List (Addr × Obj)} {s : Shared} {σ : L2.St} {F H : Hp} {d : D} {y : V} {v : Value} (sub : ∀ a o, F a = some o → H a = some o) (I : Inv X pins σ H s) (ry : RelV y v) (f : frep W.T F d y) :
    (∃ T ∈ bts, PySem.W.Looks (model X.prog X.w) s.heap (typeOf v) (.type T)) ∨ ∃ c ∈ W.T.cs, PySem.W.Looks (model X.prog X.w) s.heap (typeOf v) (.ref (W.T.cad c)) := by
  have ob : ∀ {a : Addr} {o : Obj}, s.heap.get? a = some o → PySem.W.Looks (model X.prog X.w) s.heap (typeOf (.ref a)) o.cls := fun {a o} e => by
    intro A Q E s' k h
    exact wpAny_typeOf_ref (k a o e) h
  cases d with
  | non =>
    simp only [frep] at f; subst f; cases ry
    exact .inl ⟨"NoneType", by decide, PySem.W.Looks.of_pure rfl⟩
  | bl b =>
    simp only [frep] at f; subst f; cases ry
    exact .inl ⟨"bool", by decide, PySem.W.Looks.of_pure rfl⟩
  | int b =>
    simp only [frep] at f; subst f; obtain ⟨t, rfl⟩ := ry
    exact .inl ⟨"int", by decide, PySem.W.Looks.of_pure rfl⟩
  | str b =>
    simp only [frep] at f; subst f; obtain ⟨t, rfl⟩ := ry
    exact .inl ⟨"str", by decide, PySem.W.Looks.of_pure rfl⟩
  | tup l =>
    simp only [frep] at f
    obtain ⟨a, vs, rfl, q, _⟩ := f
    obtain ⟨o, e, co⟩ := obj_tup g I sub q
    cases ry
    exact .inl ⟨"tuple", by decide, by rw [← co]; exact ob e⟩
  | lst o l =>
    simp only [frep] at f
    obtain ⟨_, a, vs, rfl, q, _⟩ := f
    obtain ⟨o, e, co⟩ := obj_lst I sub q
    cases ry
    exact .inl ⟨"list", by decide, by rw [← co]; exact ob e⟩
  | scr l =>
    simp only [frep] at f
    obtain ⟨a, rfl, q, _⟩ := f
    obtain ⟨o, e, co⟩ := obj_scr g I sub q
    cases ry
    exact .inl ⟨"list", by decide, by rw [← co]; exact ob e⟩
  | ins c l =>
    simp only [frep] at f
    obtain ⟨a, dx, vs, rfl, q, ⟨hc, _⟩, _⟩ := f
    obtain ⟨o, e, co⟩ := obj_ins I sub q
    cases ry
    exact .inr ⟨c, hc, by rw [← co]; exact ob e⟩
  | obj c l => simp only [frep] at f
/-- == and != of any data -/
theorem cmp_eq (g : Gd W k X) (ck : COk W C k) (dk : DOk W) (zk : ZOk W) (ek : EOk W) (tk : Takes X Wx) (ne : Bool) {d1 d2 : D} {b : Bool} (h : (if ne then neD C d1 d2 else eqD C d1 d2) = .ok b) {pins : List (Addr × Obj)} {s : Shared} {σ : L2.St} {F H : Hp} {x y : V} {u v : Value}
    (st : Stt F H []) (I : Inv X pins σ H s) (rx : RelV x u) (ry : RelV y v) (f1 : frep W.T F d1 x) (f2 : frep W.T F d2 y) :
    wpAny (model X.prog X.w) X.A (compareOp (cop ne) u v) (fun r s' => r = .bool b ∧ ∃ b', Ans X pins σ F H b' s') X.xe s := by
  have hroom : Room (k + 1 + 8) X.A := g.room.mono (by omega)
  have gen : ∀ b', eqN C 8 d1 d2 = .ok b' → (ne = true → ∀ c l, d1 ≠ .ins c l) → wpAny (model X.prog X.w) X.A (richCompare (cop ne) u v) (fun r s' => r = .bool (ne != b') ∧ Ans X pins σ F H b' s') X.xe s := fun b' e hi =>
    rc_all g ck dk zk tk 8 ne d1 d2 b' e hi X.A pins s σ F H x y u v hroom rfl st I rx ry f1 f2
  cases ne with
  | false =>
    show wpAny (model X.prog X.w) X.A (richCompare (cop false) u v) _ _ _
    have fin : eqN C 8 d1 d2 = .ok b → wpAny (model X.prog X.w) X.A (richCompare (cop false) u v) (fun r s' => r = .bool b ∧ ∃ b', Ans X pins σ F H b' s') X.xe s := fun e =>
      wpAny_mono (gen b e fun z => by cases z) (fun r s' z => ⟨by rw [z.1]; simp, b, z.2⟩) fun _ _ z => z
    rw [if_neg (by simp)] at h
    cases d1 with
    | ins c l =>
      simp only [eqD] at h
      split at h
      · rename_i b' hC
        cases h
        have hcc : c ∈ W.T.cs := by
          simp only [frep] at f1
          obtain ⟨_, _, _, _, _, ⟨z, _⟩, _⟩ := f1
          exact z
        have run : ∀ tb, PySem.W.Looks (model X.prog X.w) s.heap (typeOf v) tb → PySem.W.notFirst W.T.K (W.T.cad c) tb = true → wpAny (model X.prog X.w) X.A (richCompare .Eq u v) (fun r s' => r = .bool b ∧ ∃ b', Ans X pins σ F H b' s') X.xe s := fun tb ht hn =>
          wpAny_mono (rc_ins g ck dk zk tk (g.room.mono (by omega)) rfl st I rx ry f1 f2 hC ht hn) (fun r s' z => ⟨z.1, b, z.2⟩) fun _ _ z => z
        rcases typ_of g st.sub I ry f2 with ⟨T, hT, ht⟩ | ⟨c', hc', ht⟩
        · refine run _ ht ?_
          unfold PySem.W.notFirst
          rw [ek.bt c hcc T hT]; simp
        · refine run _ ht ?_
          unfold PySem.W.notFirst
          by_cases hh : c' = c
          · subst hh; simp
          · rw [zk.sub c' hc' c hcc hh]; simp
      · cases h
    | _ => exact fin (by simpa only [eqD] using h)
  | true =>
    show wpAny (model X.prog X.w) X.A (richCompare (cop true) u v) _ _ _
    rw [if_pos rfl] at h
    have fin : (eqN C 8 d1 d2).bind (fun b => .ok (!b)) = .ok b → (∀ c l, d1 ≠ .ins c l) → wpAny (model X.prog X.w) X.A (richCompare (cop true) u v) (fun r s' => r = .bool b ∧ ∃ b', Ans X pins σ F H b' s') X.xe s := fun h hi => by
      cases e : eqN C 8 d1 d2 with
      | exn x => rw [e] at h; cases h
      | stuck => rw [e] at h; cases h
      | ok b' =>
        rw [e] at h
        have hb : (!b') = b := by
          have : (Rs.ok (!b') : Rs Bool) = .ok b := h
          injection this
        exact wpAny_mono (gen b' e fun _ => hi) (fun r s' z => ⟨by rw [z.1, ← hb]; simp, b', z.2⟩) fun _ _ z => z
    cases d1 with
    | ins c l => cases d2 with
      | ins c' m =>
        simp only [neD] at h
        split at h
        · rename_i hcc
          subst hcc
          split at h
          · rename_i b2 hC
            cases h
            obtain ⟨fd, hP, _⟩ := ck.no (mfid c' mEq) [.ins c' l, .ins c' m] (fun z => by rw [hC] at z; cases z)
            have hc := zk.of c' mEq fd hP
            have hne := ek.ne c' hc (by rw [hP]; rfl)
            have fr2 : freps W.T F [.ins c' l, .ins c' m] [x, y] := by simp only [freps]; exact ⟨f1, f2, trivial⟩
            obtain ⟨a, dx, vs, rfl, q1, _, _⟩ : ∃ a dx vs, x = .ref a ∧ F a = some (.ins (W.T.cad c') dx ((W.T.fl c').zip vs)) ∧ (c' ∈ W.T.cs ∧ vs.length = (W.T.fl c').length) ∧ freps W.T F l vs := by simpa only [frep] using f1
            obtain ⟨a', dy, ws, rfl, q2, _, _⟩ : ∃ a dx vs, y = .ref a ∧ F a = some (.ins (W.T.cad c') dx ((W.T.fl c').zip vs)) ∧ (c' ∈ W.T.cs ∧ vs.length = (W.T.fl c').length) ∧ freps W.T F m vs := by simpa only [frep] using f2
            cases rx
            cases ry
            obtain ⟨o, eo, co⟩ := obj_ins I st.sub q1
            obtain ⟨o2, eo2, co2⟩ := obj_ins I st.sub q2
            have hK := I.kIn
            rw [g.K] at hK
            have OE := neIn_ok hne hK eo co
            have hr1 : Room (k + 9) X.A := g.room.mono (by omega)
            have hrr : Room k X.A.in1 := Room.in1 (hr1.mono (by omega))
            have hun : X.A.units + 1 < cLine := hu_of hr1
            obtain ⟨hp, gg, dd, tk', os⟩ := s
            refine richCompare_ne_ownEq PySem.F.cmp_object OE eo2 co2 hun ?_
            have run := run_call (Q := fun v H' => v = .bl b2 ∧ ∃ F', Stp F H [] F' H' []) g ck dk tk hrr rfl I (vs := [V.ref a, V.ref a']) (.cons rfl (.cons rfl .nil)) st (freps_A fr2) (by
              rw [hC]
              intro v F3 H3 B' R p r1 r2
              simp only [rep, frep] at r2
              exact ⟨r2.2, F3, p.less (fun _ z => by cases z) List.nodup_nil⟩)
            refine wpAny_mono run (fun r s' z => ?_) fun _ _ z => z
            obtain ⟨v', H', I', rv, rfl, F', p⟩ := z
            cases rv
            exact ⟨b2, rfl, rfl, b2, F', H', I', p⟩
          · cases h
        · cases h
      | _ => cases h
    | _ => exact fin (by simpa only [neD] using h) (fun c l z => by cases z)
end
end Z

namespace Z
open PySem PySem.Spec L2
/-- all that the layer leans on at a level -/
structure Ok (W : Wd) (C : Calls) (k : Nat) : Prop where
  c : COk W C k
  d : DOk W
  z : ZOk W
  e : EOk W
section
variable {W : Wd} {k : Nat} {X : Cx} {C : Calls} {Wx : WX} {σ : L2.St} {F H F2 H2 : Hp} {A A2 B : List Addr} {Q : VK} {env : Env}
variable {pins : List (Addr × Obj)} {s : Shared} {x y : V} {v u : Value}
theorem rep_scal_ref {T : Tab} {F : Hp} {d : D} {a : Addr} (f : frep T F d (.ref a)) : (∃ l, d = .tup l) ∨ (∃ o l, d = .lst o l) ∨ (∃ c l, d = .ins c l) ∨ (∃ l, d = .scr l) := by
  cases d <;> simp [frep] at f <;> simp
theorem inV_in {T : Tab} {F : Hp} {d : D} {x : V} : ∀ {l : List D} {vs : List V}, kin d l = true → frep T F d x → freps T F l vs → flatV x = true ∧ vs.all flatV = true ∧ inV x vs = inD d l
  | [], [], hk, f, _ => by
    cases d with
    | int i => simp only [frep] at f; subst f; exact ⟨rfl, rfl, rfl⟩
    | str i => simp only [frep] at f; subst f; exact ⟨rfl, rfl, rfl⟩
    | _ => exact absurd hk (by simp [kin])
  | [], _ :: _, _, _, h => by simp [freps] at h
  | _ :: _, [], _, _, h => by simp [freps] at h
  | e :: l, w :: vs, hk, f, h => by
    simp only [freps] at h
    cases d with
    | int i =>
      simp only [kin, List.all_cons, Bool.and_eq_true] at hk
      obtain ⟨h1, h2, h3⟩ := inV_in (d := .int i) (l := l) hk.2 f h.2
      cases e with
      | int j =>
        have h0 := h.1
        simp only [frep] at f h0
        subst f; subst h0
        refine ⟨rfl, by rw [List.all_cons, h2]; rfl, ?_⟩
        have e1 : inV (.int i) (.int j :: vs) = ((j == i) || inV (.int i) vs) := rfl
        have e2 : inD (.int i) (.int j :: l) = (decide (i = j) || inD (.int i) l) := rfl
        rw [e1, e2, h3]
        congr 1
        by_cases z : i = j
        · subst z; simp
        · rw [decide_eq_false z]; exact beq_eq_false_iff_ne.mpr fun q => z q.symm
      | _ => exact absurd hk.1 (by simp)
    | str i =>
      simp only [kin, List.all_cons, Bool.and_eq_true] at hk
      obtain ⟨h1, h2, h3⟩ := inV_in (d := .str i) (l := l) hk.2 f h.2
      cases e with
      | str j =>
        have h0 := h.1
        simp only [frep] at f h0
        subst f; subst h0
        refine ⟨rfl, by rw [List.all_cons, h2]; rfl, ?_⟩
        have e1 : inV (.str i) (.str j :: vs) = ((j == i) || inV (.str i) vs) := rfl
        have e2 : inD (.str i) (.str j :: l) = (decide (i = j) || inD (.str i) l) := rfl
        rw [e1, e2, h3]
        congr 1
        by_cases z : i = j
        · subst z; simp
        · rw [decide_eq_false z]; exact beq_eq_false_iff_ne.mpr fun q => z q.symm
      | _ => exact absurd hk.1 (by simp)
    | _ => exact absurd hk (by simp [kin])
theorem eqL_nox {f : D → D → Rs Bool} : ∀ (l m : List D) (x : Exn), eqL f l m ≠ .exn x
  | [], [], _ => by simp [eqL]
  | [], _ :: _, _ => by simp [eqL]
  | _ :: _, [], _ => by simp [eqL]
  | a :: l, b :: m, x => by
    unfold eqL
    split
    · exact eqL_nox l m x
    · split <;> simp
    · simp
theorem eqN_nox {C : Calls} : ∀ (n : Nat) (d e : D) (x : Exn), eqN C n d e ≠ .exn x
  | 0, _, _, _ => by simp [eqN]
  | n + 1, d, e, x => by
    unfold eqN
    split <;> first
      | simp; done
      | exact eqL_nox _ _ _
      | (split <;> first | exact eqL_nox _ _ _ | simp)
theorem eqD_nox {C : Calls} (d e : D) (x : Exn) : eqD C d e ≠ .exn x := by
  unfold eqD
  split
  · split <;> simp
  · exact eqN_nox _ _ _ _
theorem neD_nox {C : Calls} (d e : D) (x : Exn) : neD C d e ≠ .exn x := by
  unfold neD
  split
  · split
    · split <;> simp
    · simp
  · simp
  · cases h : eqN C 8 d e with
    | exn z => exact absurd h (eqN_nox _ _ _ _)
    | ok b => simp
    | stuck => simp
/-- comparisons -/
theorem l_cmp {o : CmpOp} {d1 d2 : D} (g : Gd W k X) (ok : Ok W C k) (tk : Takes X Wx) (I : Inv X pins σ H2 s) (rx : RelV x v) (ry : RelV y u) (p : Stp F H A F2 H2 A2) (r : repE W.T F2 H2 env σ A2)
    (f1 : frep W.T F2 d1 x) (f2 : frep W.T F2 d2 y) (h : Aft W Wx σ (rV W) F H A (((cmpB C o d1 d2).bind fun b => .ok (D.bl b)).lift env) Q) :
    wpAny (model X.prog X.w) X.A (compareOp o v u) (EP X pins σ Q) X.xe s := by
  have here : ∀ b, Aft W Wx σ (rV W) F H A (.ok (.bl b) env) Q → Q (.bl b) H2 := fun b h => fin_here (B := []) h (by simpa using p) r frep_bl
  have eqn : ∀ ne b, (if ne then neD C d1 d2 else eqD C d1 d2) = .ok b → Aft W Wx σ (rV W) F H A (.ok (.bl b) env) Q → wpAny (model X.prog X.w) X.A (compareOp (cop ne) v u) (EP X pins σ Q) X.xe s := fun ne b e h => by
    have s0 : Stt F2 H2 [] := p.st.perm (fun _ z => by cases z) List.nodup_nil
    refine wpAny_mono (cmp_eq g ok.c ok.d ok.z ok.e tk ne e s0 I rx ry f1 f2) (fun w s' z => ?_) fun _ _ z => z
    obtain ⟨rfl, b', F', H', I', q⟩ := z
    have bb : Stp F2 H2 A2 F' H' ([] ++ A2) := q.beside (B := A2) (by simpa using p.st)
    have kb := q.keepB (B := A2) (by simpa using p.st)
    exact ⟨.bl b, H', I', rfl, h _ F' H' A2 [] (by simpa using p.trans bb) (repE_mono q.mono env σ A2 kb r) (rep_of_frep frep_bl)⟩
  have itwo : ∀ (g' : Int → Int → Bool), (∀ i j, d1 = .int i → d2 = .int j → Aft W Wx σ (rV W) F H A (.ok (.bl (g' i j)) env) Q) → (∃ i j, d1 = .int i ∧ d2 = .int j) → OpR X (compareOp o) (rI0 fun i j => .bl (g' i j)) → wpAny (model X.prog X.w) X.A (compareOp o v u) (EP X pins σ Q) X.xe s := fun g' h ⟨i, j, e1, e2⟩ op => by
    subst e1 e2
    have e1 : x = .int i := by simpa only [frep] using f1
    have e2 : y = .int j := by simpa only [frep] using f2
    subst e1 e2
    exact op pins s σ H2 _ _ v u Q I rx ry ⟨i, j, rfl, rfl, here _ (h i j rfl rfl)⟩
  have two : (∃ i j, d1 = .int i ∧ d2 = .int j) ∨ ¬ (∃ i j, d1 = .int i ∧ d2 = .int j) := Classical.em _
  have isn : ∀ n : Bool, Aft W Wx σ (rV W) F H A (((if n then (isR d1 d2).bind fun b => .ok (!b) else isR d1 d2).bind fun b => .ok (D.bl b)).lift env) Q → wpAny (model X.prog X.w) X.A (compareOp (if n then .IsNot else .Is) v u) (EP X pins σ Q) X.xe s := fun n h => by
    cases d2 with
    | non =>
      have e2 : y = .non := by simpa only [frep] using f2
      subst e2
      have hx : isNon d1 = decide (x = .non) := by
        cases d1 with
        | non => simp only [frep] at f1; subst f1; simp [isNon]
        | bl b => simp only [frep] at f1; subst f1; simp [isNon]
        | int b => simp only [frep] at f1; subst f1; simp [isNon]
        | str b => simp only [frep] at f1; subst f1; simp [isNon]
        | tup b => simp only [frep] at f1; obtain ⟨a, _, rfl, _⟩ := f1; simp [isNon]
        | lst o b => simp only [frep] at f1; obtain ⟨_, a, _, rfl, _⟩ := f1; simp [isNon]
        | scr b => simp only [frep] at f1; obtain ⟨a, rfl, _⟩ := f1; simp [isNon]
        | ins c b => simp only [frep] at f1; obtain ⟨a, _, _, rfl, _⟩ := f1; simp [isNon]
        | obj c b => simp only [frep] at f1
      cases n with
      | false =>
        simp only [isR, Bool.false_eq_true, if_false] at h ⊢
        exact op_isN pins s σ H2 _ _ v u Q I rx ry ⟨rfl, by rw [← hx]; exact here _ h⟩
      | true =>
        simp only [isR, if_true] at h ⊢
        exact op_notN pins s σ H2 _ _ v u Q I rx ry ⟨rfl, by rw [← hx]; exact here _ h⟩
    | bl b =>
      have e2 : y = .bl b := by simpa only [frep] using f2
      subst e2
      cases d1 with
      | bl a =>
        have e1 : x = .bl a := by simpa only [frep] using f1
        subst e1
        cases n with
        | false => exact op_is_bl pins s σ H2 _ _ v u Q I rx ry ⟨a, b, rfl, rfl, here _ h⟩
        | true => exact op_isnot_bl pins s σ H2 _ _ v u Q I rx ry ⟨a, b, rfl, rfl, here _ h⟩
      | _ => cases n <;> exact h.elim
    | _ => cases n <;> exact h.elim
  have seqn : ∀ (n : Bool) (l : List D) (p : Addr) (vs : List V), kin d1 l = true → y = .ref p → (SqL X.K H2 p vs ∨ SqT X.K H2 p vs) → freps W.T F2 l vs → Aft W Wx σ (rV W) F H A (.ok (.bl (if n then !inD d1 l else inD d1 l)) env) Q → wpAny (model X.prog X.w) X.A (compareOp (if n then .NotIn else .In) v u) (EP X pins σ Q) X.xe s := fun n l p vs hk e hq fl h => by
    subst e
    obtain ⟨h1, h2, h3⟩ := inV_in hk f1 fl
    cases n with
    | false => exact op_in_seq pins s σ H2 _ _ v u Q I rx ry ⟨p, vs, rfl, hq, h1, h2, by rw [h3]; exact here _ h⟩
    | true => exact op_notIn_seq pins s σ H2 _ _ v u Q I rx ry ⟨p, vs, rfl, hq, h1, h2, by rw [h3]; exact here _ h⟩
  have inn : ∀ n : Bool, Aft W Wx σ (rV W) F H A (((if n then (inR d1 d2).bind fun b => .ok (!b) else inR d1 d2).bind fun b => .ok (D.bl b)).lift env) Q → wpAny (model X.prog X.w) X.A (compareOp (if n then .NotIn else .In) v u) (EP X pins σ Q) X.xe s := fun n h => by
    cases d2 with
    | tup l =>
      simp only [frep] at f2
      obtain ⟨p2, vs, e, q, fl⟩ := f2
      cases hk : kin d1 l with
      | false => cases n <;> (simp only [inR, hk] at h; exact h.elim)
      | true => exact seqn n l p2 vs hk e (.inr (by rw [g.K]; exact SqT.mono' p.st.sub q)) fl (by cases n <;> simpa [inR, hk] using h)
    | lst o l =>
      simp only [frep] at f2
      obtain ⟨_, p2, vs, e, q, fl⟩ := f2
      cases hk : kin d1 l with
      | false => cases n <;> (simp only [inR, hk] at h; exact h.elim)
      | true => exact seqn n l p2 vs hk e (.inl (.of (p.st.sub _ _ q))) fl (by cases n <;> simpa [inR, hk] using h)
    | str b =>
      have e2 : y = .str b := by simpa only [frep] using f2
      subst e2
      cases d1 with
      | str a =>
        have e1 : x = .str a := by simpa only [frep] using f1
        subst e1
        cases n with
        | false => exact op_in_str pins s σ H2 _ _ v u Q I rx ry ⟨a, b, rfl, rfl, here _ h⟩
        | true => exact op_notIn_str pins s σ H2 _ _ v u Q I rx ry ⟨a, b, rfl, rfl, here _ h⟩
      | _ => cases n <;> exact h.elim
    | _ => cases n <;> exact h.elim
  cases o with
  | Eq =>
    cases e : eqD C d1 d2 with
    | ok b => simp only [cmpB, e] at h; exact eqn false b (by simpa using e) h
    | exn x => exact absurd e (eqD_nox _ _ _)
    | stuck => simp only [cmpB, e] at h; exact h.elim
  | NotEq =>
    cases e : neD C d1 d2 with
    | ok b => simp only [cmpB, e] at h; exact eqn true b (by simpa using e) h
    | exn x => exact absurd e (neD_nox _ _ _)
    | stuck => simp only [cmpB, e] at h; exact h.elim
  | Lt =>
    rcases two with ⟨i, j, rfl, rfl⟩ | z
    · exact itwo _ (fun _ _ e1 e2 => by cases e1; cases e2; exact h) ⟨i, j, rfl, rfl⟩ op_lt
    · cases d1 <;> cases d2 <;> first | exact h.elim | exact absurd ⟨_, _, rfl, rfl⟩ z
  | LtE =>
    rcases two with ⟨i, j, rfl, rfl⟩ | z
    · exact itwo _ (fun _ _ e1 e2 => by cases e1; cases e2; exact h) ⟨i, j, rfl, rfl⟩ op_le
    · cases d1 <;> cases d2 <;> first | exact h.elim | exact absurd ⟨_, _, rfl, rfl⟩ z
  | Gt =>
    rcases two with ⟨i, j, rfl, rfl⟩ | z
    · exact itwo _ (fun _ _ e1 e2 => by cases e1; cases e2; exact h) ⟨i, j, rfl, rfl⟩ op_gt
    · cases d1 <;> cases d2 <;> first | exact h.elim | exact absurd ⟨_, _, rfl, rfl⟩ z
  | GtE =>
    rcases two with ⟨i, j, rfl, rfl⟩ | z
    · exact itwo _ (fun _ _ e1 e2 => by cases e1; cases e2; exact h) ⟨i, j, rfl, rfl⟩ op_ge
    · cases d1 <;> cases d2 <;> first | exact h.elim | exact absurd ⟨_, _, rfl, rfl⟩ z
  | Is => exact isn false (by simpa [cmpB] using h)
  | IsNot => exact isn true (by simpa [cmpB] using h)
  | In => exact inn false (by simpa [cmpB] using h)
  | NotIn => exact inn true (by simpa [cmpB] using h)
end
end Z

namespace Z
open PySem PySem.Spec PyProof.Rows L2
section
variable {W : Wd} {k : Nat} {X : Cx} {C : Calls} {Wx : WX} {a b c : Expr} {ca cb cc : CE} {pos : Pos}

theorem z_var {i : Nat} {x : Str} (hN : X.N[i]? = some x) (hv : Vis X.env.scope x) (hd : (x == ("__debug__" : Str)) = false) (hcd : (x == ("__classdict__" : Str)) = false) : PE X (.Name x pos) (tE W C Wx (.var i)) := by
  refine ⟨fun pins s σ H Q I h => ?_⟩
  obtain ⟨F, A, env, st, re, h⟩ := h
  refine (pe_var hN hv hd hcd).run pins s σ H Q I ?_
  have hl := repE_length re
  rw [evE] at h
  cases hr : rd env i with
  | none => simp only [hr] at h; exact h.elim
  | some d =>
    simp only [hr] at h
    have hi : i < env.length := by
      unfold rd at hr
      cases e : env[i]? with
      | none => rw [e] at hr; cases hr
      | some _ => exact (List.getElem?_eq_some_iff.mp e).1
    obtain ⟨A1, B, A2, eA, gv, up⟩ := repE_slot re hi
    obtain ⟨v, hv, rv⟩ := gv d hr
    refine ⟨v, hv, ?_⟩
    by_cases hf : isF d = true
    · rw [if_pos hf] at h
      have rv' : rep W.T F H d v B := (repS_of (by cases d <;> first | rfl | cases hf)).mp rv
      obtain ⟨_, fv⟩ := (rep_isF hf).mp rv'
      exact fin_here (B := []) h (by simpa using Stp.refl st) re fv
    · rw [if_neg hf] at h
      have main : isO d = false → Aft W Wx σ (rV W) F H A (.ok (frz d) (env.set i (some (frz d)))) Q → Q v H := fun ho h => by
        have rv' : rep W.T F H d v B := (repS_of ho).mp rv
        have p0 : Stp F H A F H ((A1 ++ A2) ++ B) := (Stp.refl st).perm (by
          rw [eA, List.append_assoc]
          exact List.Perm.append_left A1 List.perm_append_comm)
        have p1 := p0.frozen
        have fv := frz_here p0.st rv'
        obtain ⟨u1, _⟩ := up (frzH F H B) H (frzH_old p0.st) (fun _ _ => rfl) (fun _ _ => rfl)
        have re' := u1 (frz d) v [] (rep_of_frep fv).S
        rw [set_same hv] at re'
        exact fin_here (B := []) h (by simpa using p1) (by simpa using re') fv
      cases d with
      | obj c l => exact h.elim
      | _ => exact main rfl h
theorem z_con {d : Const} {j : Nat} : PE X (.Constant d j pos) (tE W C Wx (.con d)) := by
  refine ⟨fun pins s σ H Q I h => ?_⟩
  obtain ⟨F, A, env, st, re, h⟩ := h
  rw [evE] at h
  have fin : ∀ z v, frep W.T F z v → Aft W Wx σ (rV W) F H A (.ok z env) Q → Q v H := fun z v f h => fin_here (B := []) h (by simpa using Stp.refl st) re f
  cases d with
  | none => exact pe_non.run pins s σ H Q I (fin _ _ (by simp only [frep]) h)
  | bool b => exact pe_bl.run pins s σ H Q I (fin _ _ frep_bl h)
  | int b => exact pe_int.run pins s σ H Q I (fin _ _ frep_int h)
  | str b => exact pe_str.run pins s σ H Q I (fin _ _ frep_str h)
  | _ => exact h.elim
theorem z_glo {gi : Nat} {x : Str} {u : Value} {v : V} (hg : Gl X x) (hm : X.mg x = some u) (r : RelV v u) (hf : ∀ d, W.N.gl gi = some d → ∀ F, frep W.T F d v) (hd : (x == ("__debug__" : Str)) = false) : PE X (.Name x pos) (tE W C Wx (.glo gi)) := by
  refine ⟨fun pins s σ H Q I h => ?_⟩
  obtain ⟨F, A, env, st, re, h⟩ := h
  rw [evE] at h
  cases e : W.N.gl gi with
  | none => simp only [e] at h; exact h.elim
  | some d =>
    simp only [e] at h
    exact (pe_glob hg hm r hd).run pins s σ H Q I (fin_here (B := []) h (by simpa using Stp.refl st) re (hf d e F))

theorem oneU {σ : L2.St} {H : Hp} {Q : VK} (f : D → Rs D) (h : tG W Wx (rV W) (fun env => (evE W.N C ca env).bind fun d e => (f d).lift e) σ H Q) :
    tE W C Wx ca σ H fun x H1 => ∃ F A d env F1 A1 B1, Stp F H A F1 H1 (A1 ++ B1) ∧ repE W.T F1 H1 env σ A1 ∧ rep W.T F1 H1 d x B1 ∧ Aft W Wx σ (rV W) F H A ((f d).lift env) Q := one h
theorem z_neg (g : Gd W k X) (ok : Ok W C k) (tk : Takes X Wx) (ha : PE X a (tE W C Wx ca)) : PE X (.UnaryOp .USub a pos) (tE W C Wx (.neg ca)) := by
  refine ⟨fun pins s σ H Q I h => ?_⟩
  refine UnaryOp_ (thn (ha.run pins s σ H _ I (oneU (ca := ca) (negD C) h)) fun v s1 ⟨x, H1, I1, rx, F, A, d, env, F1, A1, B1, p, re, rv, h⟩ => ?_)
  cases d with
  | int i =>
    cases rep_int rv
    exact un_neg pins s1 σ H1 _ v Q I1 rx ⟨i, rfl, fin_here h p re frep_int⟩
  | ins c l =>
    have fv : frep W.T F1 (.ins c l) x := ((rep_isF rfl).mp rv).2
    obtain ⟨fd, hP, _⟩ := ok.c.no (mfid c mNeg) [.ins c l] (fun z => by simp only [negD, z] at h; exact h)
    have kc := ok.z.ok c (ok.z.of c mNeg fd hP)
    obtain ⟨me, _⟩ := kc.meth mNeg fd hP
    obtain ⟨a, dx, vs, rfl, q1, _, _⟩ : ∃ a dx vs, x = .ref a ∧ F1 a = some (.ins (W.T.cad c) dx ((W.T.fl c).zip vs)) ∧ (c ∈ W.T.cs ∧ vs.length = (W.T.fl c).length) ∧ freps W.T F1 l vs := by simpa only [frep] using fv
    cases rx
    obtain ⟨od, J⟩ := ins_at g I1 (p.st.sub _ _ q1)
    obtain ⟨mm, hF⟩ := I1.fr
    have hK := I1.ok.mod.kin
    rw [g.K] at hK
    have at1 := me.at_
    rw [ok.z.neg] at at1
    exact PySem.W.ksp_neg hF hK J at1 me.fn (l_rs g ok.c ok.d tk (g.room.mono (by omega)) rfl I1 (vs := [V.ref a]) (.cons rfl .nil) p re (by simp only [freps]; exact ⟨fv, trivial⟩) h)
  | _ => exact h.elim
theorem l_bin {σ : L2.St} {F H F2 H2 : Hp} {A A2 B1 B2 : List Addr} {Q : VK} {env : Env} {pins : List (Addr × Obj)} {s : Shared} {x y : V} {v u : Value} {o : Operator} {d1 d2 : D} (g : Gd W k X) (ok : Ok W C k) (tk : Takes X Wx)
    (I : Inv X pins σ H2 s) (rx : RelV x v) (ry : RelV y u) (p : Stp F H A F2 H2 ((A2 ++ B2) ++ B1)) (r : repE W.T F2 H2 env σ A2)
    (r1 : rep W.T F2 H2 d1 x B1) (r2 : rep W.T F2 H2 d2 y B2) (h : Aft W Wx σ (rV W) F H A ((binD C o d1 d2).lift env) Q) :
    wpAny (model X.prog X.w) X.A (binaryOp o v u) (EP X pins σ Q) X.xe s := by
  have gen : (∀ c l, d1 ≠ .ins c l) → wpAny (model X.prog X.w) X.A (binaryOp o v u) (EP X pins σ Q) X.xe s := fun hn => l_bin0 g I rx ry p r r1 r2 hn h
  cases d1 with
  | ins c l => cases d2 with
    | ins c' l' =>
      have f1 : frep W.T F2 (.ins c l) x := ((rep_isF rfl).mp r1).2
      have f2 : frep W.T F2 (.ins c' l') y := ((rep_isF rfl).mp r2).2
      have pp : Stp F H A F2 H2 (A2 ++ (B2 ++ B1)) := by rw [← List.append_assoc]; exact p
      unfold binD at h
      simp only at h
      cases hm : opM o with
      | none => simp only [hm] at h; exact h.elim
      | some m =>
        simp only [hm] at h
        by_cases hc : c' = c
        · rw [if_pos hc] at h
          exact l_binI g ok.c ok.d ok.z tk I rx ry pp r f1 f2 hm (.inl hc) h
        · rw [if_neg hc] at h
          cases hs : C (mfid c' m) [.ins c' l', .ins c' l'] with
          | stuck => simp only [hs] at h; exact h.elim
          | ok dd io =>
            simp only [hs] at h
            obtain ⟨fd, hP, _⟩ := ok.c.no _ _ (fun z => by rw [z] at hs; cases hs)
            exact l_binI g ok.c ok.d ok.z tk I rx ry pp r f1 f2 hm (.inr (by rw [hP]; rfl)) h
          | exn xx =>
            simp only [hs] at h
            obtain ⟨fd, hP, _⟩ := ok.c.no _ _ (fun z => by rw [z] at hs; cases hs)
            exact l_binI g ok.c ok.d ok.z tk I rx ry pp r f1 f2 hm (.inr (by rw [hP]; rfl)) h
    | _ => exact h.elim
  | _ => exact gen (fun c l z => by cases z)
theorem z_bin {o : Operator} (g : Gd W k X) (ok : Ok W C k) (tk : Takes X Wx) (ha : PE X a (tE W C Wx ca)) (hb : PE X b (tE W C Wx cb)) : PE X (.BinOp a o b pos) (tE W C Wx (.bin o ca cb)) := by
  refine ⟨fun pins s σ H Q I h => ?_⟩
  refine wpAny_BinOp (binT ha hb I (R := fun x y H2 => ∃ F A, Two W Wx σ (rV W) F H A (fun x y e => (binD C o x y).lift e) Q x y H2) (two (by simpa only [tE, evE] using h)) fun v u s2 x y H2 I2 rx ry z => ?_)
  obtain ⟨F, A, d1, d2, env, F2, A2, B1, B2, p, re, r1, r2, h⟩ := z
  exact l_bin g ok tk I2 rx ry p re r1 r2 h
/-- a comparison, by values at hand -/
theorem l_cmpF {σ : L2.St} {F H F2 H2 : Hp} {A A2 B1 B2 : List Addr} {Q : VK} {env : Env} {pins : List (Addr × Obj)} {s : Shared} {x y : V} {v u : Value} {o : CmpOp} {d1 d2 : D} (g : Gd W k X) (ok : Ok W C k) (tk : Takes X Wx)
    (I : Inv X pins σ H2 s) (rx : RelV x v) (ry : RelV y u) (p : Stp F H A F2 H2 ((A2 ++ B2) ++ B1)) (r : repE W.T F2 H2 env σ A2)
    (r1 : rep W.T F2 H2 d1 x B1) (r2 : rep W.T F2 H2 d2 y B2) (h : Aft W Wx σ (rV W) F H A (((cmpB C o (frz d1) (frz d2)).bind fun b => .ok (D.bl b)).lift env) Q) :
    wpAny (model X.prog X.w) X.A (compareOp o v u) (EP X pins σ Q) X.xe s := by
  have p1 := p.frozen
  have f1 := frz_here p.st r1
  have r2' := rep_mono (H' := H2) (frzH_old p.st) d2 y B2 (fun _ _ => rfl) r2
  have p2 := p1.frozen
  have f2 := frz_here p1.st r2'
  exact l_cmp g ok tk I rx ry p2 (repE_mono (frzH_old p1.st) env σ A2 (fun _ _ => rfl) (repE_mono (frzH_old p.st) env σ A2 (fun _ _ => rfl) r)) (frep_mono (frzH_old p1.st) _ _ f1) f2 h
theorem z_pc {o : CmpOp} (g : Gd W k X) (ok : Ok W C k) (tk : Takes X Wx) (ha : PE X a (tE W C Wx ca)) (hb : PE X b (tE W C Wx cb)) : PC X o a b (tE W C Wx (.cmp o ca cb)) := by
  refine ⟨fun pins s σ H Q I h => ?_⟩
  refine binT ha hb I (R := fun x y H2 => ∃ F A, Two W Wx σ (rV W) F H A (fun x y e => ((cmpB C o (frz x) (frz y)).bind fun b => .ok (D.bl b)).lift e) Q x y H2) (two (by simpa only [tE, evE] using h)) fun v u s2 x y H2 I2 rx ry z => ?_
  obtain ⟨F, A, d1, d2, env, F2, A2, B1, B2, p, re, r1, r2, h⟩ := z
  exact l_cmpF g ok tk I2 rx ry p re r1 r2 h
theorem z_cmp {o : CmpOp} (g : Gd W k X) (ok : Ok W C k) (tk : Takes X Wx) (ha : PE X a (tE W C Wx ca)) (hb : PE X b (tE W C Wx cb)) (hm : behindInMarks o b = false) : PE X (.Compare a [o] [b] pos) (tE W C Wx (.cmp o ca cb)) := pe_cmp (z_pc g ok tk ha hb) hm

theorem tT_tB {σ : L2.St} {H : Hp} {Q : Bool → Hp → Prop} {ce : CE} (h : tT W C Wx ce σ H Q) : tB (tE W C Wx ce) σ H Q := by
  obtain ⟨F, A, env, st, re, h⟩ := h
  refine ⟨F, A, env, st, re, ?_⟩
  unfold evT at h
  cases e : evE W.N C ce env with
  | stuck => rw [e] at h; exact h.elim
  | exn x env' => rw [e] at h; exact h
  | ok d env' =>
    rw [e] at h
    cases d with
    | bl b =>
      intro v F' H' A' B p r rv
      simp only [rep, frep] at rv
      obtain ⟨rfl, rfl⟩ := rv
      exact ⟨b, rfl, h b F' H' A' [] p r rfl⟩
    | _ => exact h.elim
theorem z_val (ha : PE X a (tE W C Wx ca)) (he : ∀ whole, isTrue a X.env whole = (do let v ← whole; standAt a.pos; holding [v] (truthy v))) : PT X a (tT W C Wx ca) :=
  ⟨fun pins s σ H Q I h => (pt_val ha he).run pins s σ H Q I (tT_tB h)⟩
theorem z_cmpT {o : CmpOp} (g : Gd W k X) (ok : Ok W C k) (tk : Takes X Wx) (ha : PE X a (tE W C Wx ca)) (hb : PE X b (tE W C Wx cb)) (hm : behindInMarks o b = false) : PT X (.Compare a [o] [b] pos) (tT W C Wx (.cmp o ca cb)) :=
  ⟨fun pins s σ H Q I h => (pt_cmp (z_pc g ok tk ha hb) hm).run pins s σ H Q I (tT_tB h)⟩
/-- a test, then what leans on it -/
theorem one_t {σ : L2.St} {H : Hp} {α β : Type} {rq : Hp → Hp → α → β → List Addr → Prop} {Q : β → Hp → Prop} {f : Bool → Env → Res α} (h : tG W Wx rq (fun env => (evT W.N C ca env).bind f) σ H Q) :
    tT W C Wx ca σ H fun b H1 => tG W Wx rq (f b) σ H1 Q := by
  obtain ⟨F, A, env, st, re, h⟩ := h
  refine ⟨F, A, env, st, re, ?_⟩
  simp only at h
  cases e : evT W.N C ca env with
  | stuck => simp only [e] at h; exact h.elim
  | exn x env' => simp only [e] at h; exact h
  | ok b env' =>
    simp only [e] at h
    intro v F' H' A' B p r rv
    cases rv
    have p1 := p.dropB
    refine ⟨F', A', env', p1.st, r, ?_⟩
    have h : Aft W Wx σ rq F H A (f b env') Q := h
    have := aft_step (W := W) (Wx := Wx) (σ := σ) (rp := rq) (F := F) (H := H) (A := A) (r := f b env') (B1 := []) (Q := Q) (F1 := F') (H1 := H') (A1 := A') (by simpa using p1)
    apply this
    cases ef : f b env' with
    | stuck => rw [ef] at h; exact h.elim
    | ok d env2 =>
      rw [ef] at h
      intro v F2 H2 A2 B2 q _ _ r2 rv2
      exact h v F2 H2 A2 B2 (by simpa using q) r2 rv2
    | exn x env2 =>
      rw [ef] at h
      intro cls dd F2 H2 A2 q r2 x2
      exact h cls dd F2 H2 A2 (by simpa using q) r2 x2
theorem evT_not (env : Env) : evT W.N C (.not ca) env = (evT W.N C ca env).bind fun b e => .ok (!b) e := by
  unfold evT
  rw [evE]
  cases evE W.N C ca env with
  | ok d e => cases d <;> rfl
  | _ => rfl
theorem tG_ok {σ : L2.St} {H : Hp} {Q : Bool → Hp → Prop} {b : Bool} (h : tG W Wx rB (fun e => Res.ok b e) σ H Q) : Q b H := by
  obtain ⟨F, A, env, st, re, h⟩ := h
  exact h b F H A [] (by simpa using Stp.refl st) re rfl
theorem z_notT (ha : PT X a (tT W C Wx ca)) : PT X (.UnaryOp .Not a pos) (tT W C Wx (.not ca)) := by
  refine ⟨fun pins s σ H Q I h => ?_⟩
  refine (pt_not ha).run pins s σ H Q I ?_
  have h2 := one_t (W := W) (C := C) (Wx := Wx) (σ := σ) (H := H) (ca := ca) (rq := rB) (f := fun b e => .ok (!b) e) (Q := Q) (by
    obtain ⟨F, A, env, st, re, h⟩ := h
    refine ⟨F, A, env, st, re, ?_⟩
    show Aft W Wx σ rB F H A ((evT W.N C ca env).bind fun b e => .ok (!b) e) Q
    rw [← evT_not]; exact h)
  obtain ⟨F, A, env, st, re, h2⟩ := h2
  refine ⟨F, A, env, st, re, ?_⟩
  cases e : evT W.N C ca env with
  | stuck => rw [e] at h2; exact h2.elim
  | exn x e' => rw [e] at h2; exact h2
  | ok b e' =>
    rw [e] at h2
    intro v F' H' A' B p r rv
    exact tG_ok (h2 v F' H' A' B p r rv)
theorem z_not (ha : PE X a (tE W C Wx ca)) : PE X (.UnaryOp .Not a pos) (tE W C Wx (.not ca)) := by
  refine ⟨fun pins s σ H Q I h => ?_⟩
  refine UnaryOp_ (thn (ha.run pins s σ H _ I (oneU (ca := ca) notD h)) fun v s1 ⟨x, H1, I1, rx, F, A, d, env, F1, A1, B1, p, re, rv, h⟩ => ?_)
  cases d with
  | bl b =>
    simp only [rep, frep] at rv
    obtain ⟨rfl, rfl⟩ := rv
    cases rx
    exact not_of (wpAny_truthy_bool ⟨.bl (!b), H1, I1, rfl, fin_here h p re frep_bl⟩)
  | _ => exact h.elim
end
end Z

namespace Z
open PySem PySem.Spec PyProof.Rows L2
section
variable {W : Wd} {k : Nat} {X : Cx} {C : Calls} {Wx : WX} {a b c : Expr} {ca cb cc : CE} {pos : Pos}
theorem bindT {γ : Type} {f : D → Env → Res γ} {env : Env} (hf : ∀ d e, (∀ b, d ≠ .bl b) → f d e = .stuck) : (evE W.N C ca env).bind f = (evT W.N C ca env).bind fun b e => f (.bl b) e := by
  unfold evT
  cases evE W.N C ca env with
  | ok d e => cases d with
    | bl b => rfl
    | _ => exact hf _ _ (fun b z => by cases z)
  | _ => rfl
/-- a bool, then what leans on it -/
theorem oneB {σ : L2.St} {H : Hp} {α β : Type} {rq : Hp → Hp → α → β → List Addr → Prop} {Q : β → Hp → Prop} {f : D → Env → Res α} (hf : ∀ d e, (∀ b, d ≠ .bl b) → f d e = .stuck) (h : tG W Wx rq (fun env => (evE W.N C ca env).bind f) σ H Q) :
    tE W C Wx ca σ H fun x H1 => ∃ b, x = .bl b ∧ tG W Wx rq (f (.bl b)) σ H1 Q :=
  tT_tB (one_t (by
    obtain ⟨F, A, env, st, re, h⟩ := h
    exact ⟨F, A, env, st, re, by show Aft W Wx σ rq F H A ((evT W.N C ca env).bind fun b e => f (.bl b) e) Q; rw [← bindT hf]; exact h⟩))
theorem oneBT {σ : L2.St} {H : Hp} {α β : Type} {rq : Hp → Hp → α → β → List Addr → Prop} {Q : β → Hp → Prop} {f : D → Env → Res α} (hf : ∀ d e, (∀ b, d ≠ .bl b) → f d e = .stuck) (h : tG W Wx rq (fun env => (evE W.N C ca env).bind f) σ H Q) :
    tT W C Wx ca σ H fun b H1 => tG W Wx rq (f (.bl b)) σ H1 Q :=
  one_t (by
    obtain ⟨F, A, env, st, re, h⟩ := h
    exact ⟨F, A, env, st, re, by show Aft W Wx σ rq F H A ((evT W.N C ca env).bind fun b e => f (.bl b) e) Q; rw [← bindT hf]; exact h⟩)
theorem tG_v {σ : L2.St} {H : Hp} {Q : VK} {b : Bool} (h : tG W Wx (rV W) (fun e => Res.ok (.bl b) e) σ H Q) : Q (.bl b) H := by
  obtain ⟨F, A, env, st, re, h⟩ := h
  exact h (.bl b) F H A [] (by simpa using Stp.refl st) re (rep_of_frep frep_bl)
abbrev tA (W : Wd) (C : Calls) (Wx : WX) (ce : CE) : TE := tG W Wx (rV W) (evA W.N C ce)
abbrev tO (W : Wd) (C : Calls) (Wx : WX) (ce : CE) : TE := tG W Wx (rV W) (evO W.N C ce)
abbrev tAT (W : Wd) (C : Calls) (Wx : WX) (ce : CE) : TT := tG W Wx rB (fun env => tst (evA W.N C ce env))
abbrev tOT (W : Wd) (C : Calls) (Wx : WX) (ce : CE) : TT := tG W Wx rB (fun env => tst (evO W.N C ce env))
def contA (C : Calls) (N : Nm) (ce : CE) (d : D) (e : Env) : Res D := match d with | .bl true => evA N C ce e | .bl false => .ok (.bl false) e | _ => .stuck
def contO (C : Calls) (N : Nm) (ce : CE) (d : D) (e : Env) : Res D := match d with | .bl false => evO N C ce e | .bl true => .ok (.bl true) e | _ => .stuck
theorem evA_cc {a b r : CE} {env : Env} : evA W.N C (.cons a (.cons b r)) env = (evE W.N C a env).bind (contA C W.N (.cons b r)) := rfl
theorem evO_cc {a b r : CE} {env : Env} : evO W.N C (.cons a (.cons b r)) env = (evE W.N C a env).bind (contO C W.N (.cons b r)) := rfl
theorem contA_b {N : Nm} {ce : CE} : ∀ d e, (∀ b, d ≠ .bl b) → contA C N ce d e = .stuck := fun d e h => by
  cases d <;> first | rfl | exact absurd rfl (h _)
theorem contO_b {N : Nm} {ce : CE} : ∀ d e, (∀ b, d ≠ .bl b) → contO C N ce d e = .stuck := fun d e h => by
  cases d <;> first | rfl | exact absurd rfl (h _)
theorem z_and1 (ha : PE X a (tE W C Wx ca)) : PE X (.BoolOp .And [a] pos) (tA W C Wx (.cons ca .nil)) := pe_one ha
theorem z_or1 (ha : PE X a (tE W C Wx ca)) : PE X (.BoolOp .Or [a] pos) (tO W C Wx (.cons ca .nil)) := pe_one ha
theorem z_and {r : List Expr} {cr : CE} (ha : PE X a (tE W C Wx ca)) (hb : PE X (.BoolOp .And (b :: r) pos) (tA W C Wx (.cons cb cr))) : PE X (.BoolOp .And (a :: b :: r) pos) (tA W C Wx (.cons ca (.cons cb cr))) := by
  refine ⟨fun pins s σ H Q I h => (pe_and ha hb).run pins s σ H Q I ?_⟩
  obtain ⟨F, A, env, st, re, h⟩ := h
  have h2 := oneB (W := W) (C := C) (Wx := Wx) (σ := σ) (H := H) (Q := Q) (ca := ca) (rq := rV W) (contA_b (N := W.N) (ce := .cons cb cr)) ⟨F, A, env, st, re, h⟩
  obtain ⟨F, A, env, st, re, h2⟩ := h2
  refine ⟨F, A, env, st, re, ?_⟩
  revert h2
  cases evE W.N C ca env with
  | stuck => exact id
  | exn x e => exact id
  | ok d e =>
    intro h2 v F' H' A' B p r rv
    obtain ⟨b, e1, h3⟩ := h2 v F' H' A' B p r rv
    refine ⟨b, e1, ?_⟩
    cases b with
    | true => exact h3
    | false => exact tG_v h3
theorem z_or {r : List Expr} {cr : CE} (ha : PE X a (tE W C Wx ca)) (hb : PE X (.BoolOp .Or (b :: r) pos) (tO W C Wx (.cons cb cr))) : PE X (.BoolOp .Or (a :: b :: r) pos) (tO W C Wx (.cons ca (.cons cb cr))) := by
  refine ⟨fun pins s σ H Q I h => (pe_or ha hb).run pins s σ H Q I ?_⟩
  obtain ⟨F, A, env, st, re, h⟩ := h
  have h2 := oneB (W := W) (C := C) (Wx := Wx) (σ := σ) (H := H) (Q := Q) (ca := ca) (rq := rV W) (contO_b (N := W.N) (ce := .cons cb cr)) ⟨F, A, env, st, re, h⟩
  obtain ⟨F, A, env, st, re, h2⟩ := h2
  refine ⟨F, A, env, st, re, ?_⟩
  revert h2
  cases evE W.N C ca env with
  | stuck => exact id
  | exn x e => exact id
  | ok d e =>
    intro h2 v F' H' A' B p r rv
    obtain ⟨b, e1, h3⟩ := h2 v F' H' A' B p r rv
    refine ⟨b, e1, ?_⟩
    cases b with
    | true => exact tG_v h3
    | false => exact h3
theorem tst_bind {r : Res D} {f : D → Env → Res D} : tst (r.bind f) = r.bind fun d e => tst (f d e) := by
  cases r <;> rfl
theorem z_and1T (ha : PT X a (tT W C Wx ca)) : PW X (.BoolOp .And [a] pos) (tAT W C Wx (.cons ca .nil)) := pw_and1 ha
theorem z_or1T (ha : PT X a (tT W C Wx ca)) : PW X (.BoolOp .Or [a] pos) (tOT W C Wx (.cons ca .nil)) := pw_or1 ha
theorem z_andT {r : List Expr} {cr : CE} (ha : PT X a (tT W C Wx ca)) (hb : PW X (.BoolOp .And (b :: r) pos) (tAT W C Wx (.cons cb cr))) : PW X (.BoolOp .And (a :: b :: r) pos) (tAT W C Wx (.cons ca (.cons cb cr))) := by
  refine ⟨fun wh pins s σ H Q I h => (pw_and ha hb).run wh pins s σ H Q I ?_⟩
  obtain ⟨F, A, env, st, re, h⟩ := h
  have h2 := oneBT (W := W) (C := C) (Wx := Wx) (σ := σ) (H := H) (Q := Q) (ca := ca) (rq := rB) (f := fun d e => tst (contA C W.N (.cons cb cr) d e)) (fun d e hd => by rw [contA_b d e hd]) ⟨F, A, env, st, re, by
    show Aft W Wx σ rB F H A ((evE W.N C ca env).bind fun d e => tst (contA C W.N (.cons cb cr) d e)) Q
    rw [← tst_bind]; exact h⟩
  obtain ⟨F, A, env, st, re, h2⟩ := h2
  refine ⟨F, A, env, st, re, ?_⟩
  revert h2
  cases evT W.N C ca env with
  | stuck => exact id
  | exn x e => exact id
  | ok d e =>
    intro h2 v F' H' A' B p r rv
    have h3 := h2 v F' H' A' B p r rv
    cases v with
    | true => exact h3
    | false => exact tG_ok h3
theorem z_orT {r : List Expr} {cr : CE} (ha : PT X a (tT W C Wx ca)) (hb : PW X (.BoolOp .Or (b :: r) pos) (tOT W C Wx (.cons cb cr))) : PW X (.BoolOp .Or (a :: b :: r) pos) (tOT W C Wx (.cons ca (.cons cb cr))) := by
  refine ⟨fun wh pins s σ H Q I h => (pw_or ha hb).run wh pins s σ H Q I ?_⟩
  obtain ⟨F, A, env, st, re, h⟩ := h
  have h2 := oneBT (W := W) (C := C) (Wx := Wx) (σ := σ) (H := H) (Q := Q) (ca := ca) (rq := rB) (f := fun d e => tst (contO C W.N (.cons cb cr) d e)) (fun d e hd => by rw [contO_b d e hd]) ⟨F, A, env, st, re, by
    show Aft W Wx σ rB F H A ((evE W.N C ca env).bind fun d e => tst (contO C W.N (.cons cb cr) d e)) Q
    rw [← tst_bind]; exact h⟩
  obtain ⟨F, A, env, st, re, h2⟩ := h2
  refine ⟨F, A, env, st, re, ?_⟩
  revert h2
  cases evT W.N C ca env with
  | stuck => exact id
  | exn x e => exact id
  | ok d e =>
    intro h2 v F' H' A' B p r rv
    have h3 := h2 v F' H' A' B p r rv
    cases v with
    | true => exact tG_ok h3
    | false => exact h3
def contI (C : Calls) (N : Nm) (ca cb : CE) (d : D) (e : Env) : Res D := match d with | .bl true => evE N C ca e | .bl false => evE N C cb e | _ => .stuck
theorem contI_b {N : Nm} : ∀ d e, (∀ b, d ≠ .bl b) → contI C N ca cb d e = .stuck := fun d e h => by
  cases d <;> first | rfl | exact absurd rfl (h _)
theorem z_ite (hc : PT X c (tT W C Wx cc)) (ha : PE X a (tE W C Wx ca)) (hb : PE X b (tE W C Wx cb)) : PE X (.IfExp c a b pos) (tE W C Wx (.ite cc ca cb)) := by
  refine ⟨fun pins s σ H Q I h => (pe_ifExp hc ha hb).run pins s σ H Q I ?_⟩
  obtain ⟨F, A, env, st, re, h⟩ := h
  have h2 := oneBT (W := W) (C := C) (Wx := Wx) (σ := σ) (H := H) (Q := Q) (ca := cc) (rq := rV W) (contI_b (N := W.N) (ca := ca) (cb := cb)) ⟨F, A, env, st, re, h⟩
  obtain ⟨F, A, env, st, re, h2⟩ := h2
  refine ⟨F, A, env, st, re, ?_⟩
  revert h2
  cases evT W.N C cc env with
  | stuck => exact id
  | exn x e => exact id
  | ok d e =>
    intro h2 v F' H' A' B p r rv
    have h3 := h2 v F' H' A' B p r rv
    cases v with
    | true => exact h3
    | false => exact h3

def contC (C : Calls) (N : Nm) (o p : CmpOp) (cc : CE) (x y : D) (e : Env) : Res D := match cmpB C o (frz x) (frz y) with
    | .ok true => (evE N C cc e).bind fun z e => ((cmpB C p (frz y) (frz z)).bind fun b => .ok (D.bl b)).lift e
    | .ok false => .ok (.bl false) e
    | .exn x => .exn x e
    | .stuck => .stuck
/-- what stands between the two comparisons -/
theorem l_chn {o o' : CmpOp} (g : Gd W k X) (ok : Ok W C k) (tk : Takes X Wx) {σ : L2.St} {H2 : Hp} {pins : List (Addr × Obj)} {s : Shared} {x y : V} {v u : Value} {Q : VK}
    (I : Inv X pins σ H2 s) (rx : RelV x v) (ry : RelV y u) (h : ∃ F H A, Two W Wx σ (rV W) F H A (contC C W.N o o' cc) Q x y H2) :
    wpAny (model X.prog X.w) X.A (compareOp o v u) (EP X pins σ fun z H3 => ∃ q, z = .bl q ∧ if q = true then tE W C Wx cc σ H3 (fun z H4 => ∀ (s4 : Shared) (w : Value), Inv X pins σ H4 s4 → RelV z w → wpAny (model X.prog X.w) X.A (compareOp o' u w) (EP X pins σ Q) X.xe s4) else Q (.bl false) H3) X.xe s := by
  obtain ⟨F, H, A, d1, d2, env, F2, A2, B1, B2, p, re, r1, r2, h⟩ := h
  have p1 := p.frozen
  have f1 := frz_here p.st r1
  have r2' := rep_mono (H' := H2) (frzH_old p.st) d2 y B2 (fun _ _ => rfl) r2
  have p2 := p1.frozen
  have f2 := frz_here p1.st r2'
  have re2 := repE_mono (frzH_old p1.st) env σ A2 (fun _ _ => rfl) (repE_mono (frzH_old p.st) env σ A2 (fun _ _ => rfl) re)
  refine l_cmp (F := frzH (frzH F2 H2 B1) H2 B2) (H := H2) (A := A2) (d1 := frz d1) (d2 := frz d2) (env := env) g ok tk I rx ry (Stp.refl p2.st) re2 (frep_mono (frzH_old p1.st) _ _ f1) f2 ?_
  unfold contC at h
  cases e : cmpB C o (frz d1) (frz d2) with
  | stuck => simp only [e] at h; exact h.elim
  | exn xx =>
    simp only [e] at h
    intro cls dd F' H' A' q r1 x1
    exact h cls dd F' H' A' (p2.trans q) r1 x1
  | ok b =>
    simp only [e] at h
    intro v' F' H' A' B q r rv
    simp only [rep, frep] at rv
    obtain ⟨rfl, rfl⟩ := rv
    have q' : Stp (frzH (frzH F2 H2 B1) H2 B2) H2 A2 F' H' A' := by simpa using q
    refine ⟨b, rfl, ?_⟩
    cases b with
    | false =>
      simp only at h
      exact h (.bl false) F' H' A' [] (by simpa using p2.trans q') r (rep_of_frep frep_bl)
    | true =>
      simp only at h
      have p3 : Stp F H A F' H' (A' ++ []) := by simpa using p2.trans q'
      have f2' := frep_mono q'.mono _ _ f2
      refine ⟨F', A', env, q'.st, r, ?_⟩
      have z := aft_more (W := W) (Wx := Wx) (σ := σ) (rp := rV W) p3 h
      revert z
      cases evE W.N C cc env with
      | exn x env => exact id
      | stuck => exact id
      | ok e env2 =>
        intro z v2 F4 H4 A4 B4 p4 r4 rv4 s4 w I4 rw4
        obtain ⟨d4, env4, F5, A5, B5, p5, mo, _, r5, rv5, h5⟩ := z v2 F4 H4 A4 B4 p4 r4 rv4
        have p5' : Stp F H A F5 H4 (A5 ++ B5) := by simpa using p5
        have f5 := frz_here p5'.st rv5
        exact l_cmp g ok tk I4 ry rw4 p5'.frozen (repE_mono (frzH_old p5'.st) env4 σ A5 (fun _ _ => rfl) r5) (frep_mono (frzH_old p5'.st) _ _ (frep_mono mo _ _ f2')) f5 h5
theorem z_chn {o o' : CmpOp} (g : Gd W k X) (ok : Ok W C k) (tk : Takes X Wx) (ha : PE X a (tE W C Wx ca)) (hb : PE X b (tE W C Wx cb)) (hc : PE X c (tE W C Wx cc)) (hm : lastMarks [o, o'] [b, c] = false) :
    PE X (.Compare a [o, o'] [b, c] pos) (tE W C Wx (.chn o o' ca cb cc)) := by
  refine ⟨fun pins s σ H Q I h => ?_⟩
  obtain ⟨F, A, env, st, re, h⟩ := h
  have h2 := two (W := W) (Wx := Wx) (σ := σ) (H := H) (rq := rV W) (ev := evE W.N C ca) (ev' := evE W.N C cb) (f := contC C W.N o o' cc) (Q := Q) ⟨F, A, env, st, re, h⟩
  refine Compare_chain (thn (ha.run pins s σ H _ I h2) fun v s1 ⟨x, H1, I1, r1, q1⟩ => chain_link (thn (hb.run pins s1 σ H1 _ I1 q1) fun u s2 ⟨y, H2, I2, r2, F, A, q2⟩ =>
    thn (l_chn g ok tk I2 r1 r2 ⟨F, H, A, q2⟩) fun d s3 ⟨z, H3, I3, r3, b, e, q3⟩ => ?_)) hm
  subst e
  cases r3
  refine wpAny_truthy_bool ?_
  cases b with
  | false => exact ite_ff ⟨.bl false, H3, I3, rfl, q3⟩
  | true => exact ite_tt (chain_last (thn (hc.run pins s3 σ H3 _ I3 q3) fun w' s4 ⟨z', H4, I4, r4, q4⟩ => q4 s4 w' I4 r4))
theorem z_chnT {o o' : CmpOp} (g : Gd W k X) (ok : Ok W C k) (tk : Takes X Wx) (ha : PE X a (tE W C Wx ca)) (hb : PE X b (tE W C Wx cb)) (hc : PE X c (tE W C Wx cc)) (hm : lastMarks [o, o'] [b, c] = false) :
    PT X (.Compare a [o, o'] [b, c] pos) (tT W C Wx (.chn o o' ca cb cc)) := by
  refine ⟨fun pins s σ H Q I h => ?_⟩
  obtain ⟨F, A, env, st, re, h⟩ := tT_tB h
  have h2 := two (W := W) (Wx := Wx) (σ := σ) (H := H) (rq := rV W) (ev := evE W.N C ca) (ev' := evE W.N C cb) (f := contC C W.N o o' cc) ⟨F, A, env, st, re, h⟩
  refine isTrue_chain (thn (ha.run pins s σ H _ I h2) fun v s1 ⟨x, H1, I1, r1, q1⟩ => test_link (thn (hb.run pins s1 σ H1 _ I1 q1) fun u s2 ⟨y, H2, I2, r2, F, A, q2⟩ =>
    thn (l_chn g ok tk I2 r1 r2 ⟨F, H, A, q2⟩) fun d s3 ⟨z, H3, I3, r3, b, e, q3⟩ => ?_)) hm
  subst e
  cases r3
  refine wpAny_truthy_bool ?_
  cases b with
  | false =>
    obtain ⟨b', e', q'⟩ := q3
    cases e'
    exact ite_ff ⟨H3, I3, q'⟩
  | true =>
    refine ite_tt (test_last (thn (hc.run pins s3 σ H3 _ I3 q3) fun w' s4 ⟨z', H4, I4, r4, q4⟩ => thn (q4 s4 w' I4 r4) fun d' s5 ⟨z2, H5, I5, r5, k2, e2, q5⟩ => ?_))
    subst e2
    cases r5
    exact wpAny_truthy_bool ⟨H5, I5, q5⟩

variable {es : List Expr} {ce : CE}
/-- what follows a value, the value frozen -/
theorem aft_cons {σ : L2.St} {F H F1 H1 : Hp} {A A1 B1 : List Addr} {env : Env} {Q : List V → Hp → Prop} {d : D} {v : V} {i0 : CE} (hi : ∀ vs, ioRel (.cons i0 ce) (v :: vs) σ ↔ ioRel ce vs σ) (p : Stp F H A F1 H1 (A1 ++ B1)) (r : repE W.T F1 H1 env σ A1) (rv : rep W.T F1 H1 d v B1)
    (h : Aft W Wx σ (rA W (.cons i0 ce) σ) F H A ((evL W.N C ce env).bind fun ds e => .ok (frz d :: ds) e) Q) :
    tL W C Wx ce σ H1 fun vs H2 => Q (v :: vs) H2 := by
  have p1 := p.frozen
  have fv := frz_here p.st rv
  have r1 := repE_mono (frzH_old p.st) env σ A1 (fun _ _ => rfl) r
  refine ⟨frzH F1 H1 B1, A1, env, p1.st, r1, ?_⟩
  have z := aft_more (W := W) (Wx := Wx) (σ := σ) (rp := rA W ce σ) (B1 := []) (by simpa using p1) h
  revert z
  cases evL W.N C ce env with
  | exn x env => exact id
  | stuck => exact id
  | ok ds env2 =>
    intro z vs F2 H2 A2 B2 p2 r2 rv2
    obtain ⟨ds, env2, F3, A3, B3, p3, mo, _, r3, ⟨rv3, io⟩, h3⟩ := z vs F2 H2 A2 B2 p2 r2 rv2
    refine h3 (v :: vs) F3 H2 A3 B3 (by simpa using p3) r3 ⟨?_, (hi vs).mpr io⟩
    simp only [reps]
    exact ⟨[], B3, rfl, rep_of_frep (frep_mono mo _ _ fv), rv3⟩
theorem z_nilL : PA X [] (tL W C Wx .nil) := by
  refine ⟨fun pos pins s σ H Q I h => pa_nil.run pos pins s σ H Q I ?_⟩
  obtain ⟨F, A, env, st, re, h⟩ := h
  exact h [] F H A [] (by simpa using Stp.refl st) re ⟨by simp [reps], trivial⟩
theorem z_consL (hn : ∀ i, ca ≠ .io i) (ha : PE X a (tE W C Wx ca)) (hr : PA X es (tL W C Wx ce)) (hs : starEach (a :: es) X.env = (false, eval a X.env) :: starEach es X.env) : PA X (a :: es) (tL W C Wx (.cons ca ce)) := by
  refine ⟨fun pos pins s σ H Q I h => (pa_cons ha hr hs).run pos pins s σ H Q I ?_⟩
  obtain ⟨F, A, env, st, re, h⟩ := h
  have e : evL W.N C (.cons ca ce) env = (evE W.N C ca env).bind fun d e => (evL W.N C ce e).bind fun ds e => .ok (frz d :: ds) e := by
    cases ca <;> first | rfl | exact absurd rfl (hn _)
  rw [e] at h
  refine ⟨F, A, env, st, re, ?_⟩
  have z := aft_bind (W := W) (Wx := Wx) (rp := rV W) h
  revert z
  cases evE W.N C ca env with
  | exn x env => exact id
  | stuck => exact id
  | ok d env1 =>
    intro z v F1 H1 A1 B1 p1 r1 rv1
    obtain ⟨d, env1, F1, A1, B1, p, r, rv, h⟩ := z v F1 H1 A1 B1 p1 r1 rv1
    exact aft_cons (fun vs => by cases ca <;> first | exact Iff.rfl | exact absurd rfl (hn _)) p r rv h
theorem z_ioL {i : Nat} {x : Str} (hN : X.N[i]? = some x) (hv : Vis X.env.scope x) (hd : (x == ("__debug__" : Str)) = false) (hcd : (x == ("__classdict__" : Str)) = false) (hr : PA X es (tL W C Wx ce)) : PA X (.Name x pos :: es) (tL W C Wx (.cons (.io i) ce)) := by
  refine ⟨fun pos' pins s σ H Q I h => (pa_cons (pe_var hN hv hd hcd) hr rfl).run pos' pins s σ H Q I ?_⟩
  obtain ⟨F, A, env, st, re, h⟩ := h
  have e : evL W.N C (.cons (.io i) ce) env = (match rd env i with
    | some d => if isO d then .stuck else (evL W.N C ce (env.set i none)).bind fun ds e => .ok (d :: ds) e
    | none => .stuck) := rfl
  rw [e] at h
  cases hr : rd env i with
  | none => simp only [hr] at h; exact h.elim
  | some d =>
    simp only [hr] at h
    cases ho : isO d with
    | true => rw [ho, if_pos rfl] at h; exact h.elim
    | false =>
      rw [ho, if_neg (by simp)] at h
      have hi : i < env.length := by
        unfold rd at hr
        cases e : env[i]? with
        | none => rw [e] at hr; cases hr
        | some _ => exact (List.getElem?_eq_some_iff.mp e).1
      obtain ⟨A1, B, A2, eA, gv, up⟩ := repE_slot re hi
      obtain ⟨v, hv, rv⟩ := gv d hr
      have rv' : rep W.T F H d v B := (repS_of ho).mp rv
      refine ⟨v, hv, ?_⟩
      have p0 : Stp F H A F H ((A1 ++ A2) ++ B) := (Stp.refl st).perm (by
        rw [eA, List.append_assoc]
        exact List.Perm.append_left A1 List.perm_append_comm)
      obtain ⟨_, u2⟩ := up F H (fun _ _ h => h) (fun _ _ => rfl) (fun _ _ => rfl)
      have re' := u2 (some v)
      rw [set_same hv] at re'
      refine ⟨F, A1 ++ A2, env.set i none, p0.dropB.st, re', ?_⟩
      have z := aft_more (W := W) (Wx := Wx) (σ := σ) (rp := rA W ce σ) p0 h
      revert z
      cases evL W.N C ce (env.set i none) with
      | exn x env => exact id
      | stuck => exact id
      | ok ds env2 =>
        intro z vs F2 H2 A3 B3 p2 r2 rv2
        obtain ⟨ds, env2, F3, A3, B3, p3, mo, kp, r3, ⟨rv3, io⟩, h3⟩ := z vs F2 H2 A3 B3 p2 r2 rv2
        refine h3 (v :: vs) F3 H2 A3 (B ++ B3) (p3.perm (by rw [List.append_assoc]; exact List.Perm.append_left A3 List.perm_append_comm)) r3 ⟨?_, hv, io⟩
        simp only [reps]
        exact ⟨B, B3, rfl, rep_mono mo d v B kp rv', rv3⟩
theorem z_nilK : PA X [] (tK W C Wx .nil) := by
  refine ⟨fun pos pins s σ H Q I h => pa_nil.run pos pins s σ H Q I ?_⟩
  obtain ⟨F, A, env, st, re, h⟩ := h
  exact h [] F H A [] (by simpa using Stp.refl st) re (by simp [reps])
theorem z_consK (ha : PE X a (tE W C Wx ca)) (hr : PA X es (tK W C Wx ce)) (hs : starEach (a :: es) X.env = (false, eval a X.env) :: starEach es X.env) : PA X (a :: es) (tK W C Wx (.cons ca ce)) := by
  refine ⟨fun pos pins s σ H Q I h => (pa_cons ha hr hs).run pos pins s σ H Q I ?_⟩
  obtain ⟨F, A, env, st, re, h⟩ := h
  have e : evK W.N C (.cons ca ce) env = (evE W.N C ca env).bind fun d e => (evK W.N C ce e).bind fun ds e => .ok (d :: ds) e := rfl
  rw [e] at h
  refine ⟨F, A, env, st, re, ?_⟩
  have z := aft_bind (W := W) (Wx := Wx) (rp := rV W) h
  revert z
  cases evE W.N C ca env with
  | exn x env => exact id
  | stuck => exact id
  | ok d env1 =>
    intro z v F1 H1 A1 B1 p1 r1 rv1
    obtain ⟨d, env1, F1, A1, B1, p, r, rv, h⟩ := z v F1 H1 A1 B1 p1 r1 rv1
    refine ⟨F1, A1, env1, p.dropB.st, r, ?_⟩
    have z := aft_more (W := W) (Wx := Wx) (σ := σ) (rp := rL W) p h
    revert z
    cases evK W.N C ce env1 with
    | exn x env => exact id
    | stuck => exact id
    | ok ds env2 =>
      intro z vs F2 H2 A2 B2 p2 r2 rv2
      obtain ⟨ds, env2, F3, A3, B3, p3, mo, kp, r3, rv3, h3⟩ := z vs F2 H2 A2 B2 p2 r2 rv2
      refine h3 (v :: vs) F3 H2 A3 (B1 ++ B3) (p3.perm (by rw [List.append_assoc]; exact List.Perm.append_left A3 List.perm_append_comm)) r3 ?_
      simp only [reps]
      exact ⟨B1, B3, rfl, rep_mono mo d v B1 kp rv, rv3⟩

def cLen : CE → Nat
  | .cons _ es => cLen es + 1
  | _ => 0
theorem evK_len : ∀ {ce : CE} {env env' : Env} {ds : List D}, evK W.N C ce env = .ok ds env' → ds.length = cLen ce
  | .nil, env, env', ds, h => by cases h; rfl
  | .cons a es, env, env', ds, h => by
    rw [show evK W.N C (.cons a es) env = (evE W.N C a env).bind fun d e => (evK W.N C es e).bind fun ds e => .ok (d :: ds) e from rfl] at h
    cases e : evE W.N C a env with
    | exn x e2 => rw [e] at h; cases h
    | stuck => rw [e] at h; cases h
    | ok d e1 =>
      rw [e] at h
      cases e2 : evK W.N C es e1 with
      | ok l e3 =>
        simp only [Res.bind, e2] at h
        cases h
        simp [cLen, evK_len e2]
      | exn x e3 => simp only [Res.bind, e2] at h; cases h
      | stuck => simp only [Res.bind, e2] at h; cases h
  | .con _, env, env', ds, h | .glo _, env, env', ds, h | .var _, env, env', ds, h | .io _, env, env', ds, h | .tup _, env, env', ds, h | .lst _, env, env', ds, h | .neg _, env, env', ds, h | .bin _ _ _, env, env', ds, h
  | .not _, env, env', ds, h | .ands _, env, env', ds, h | .ors _, env, env', ds, h | .cmp _ _ _, env, env', ds, h | .chn _ _ _ _ _, env, env', ds, h | .ite _ _ _, env, env', ds, h | .idx _ _, env, env', ds, h
  | .pth _ _ _, env, env', ds, h | .slc _ _ _, env, env', ds, h | .rev _, env, env', ds, h | .cal _ _, env, env', ds, h | .new _ _, env, env', ds, h | .mth _ _ _, env, env', ds, h | .app _ _, env, env', ds, h | .att _ _, env, env', ds, h
  | .blt _ _, env, env', ds, h | .smt _ _ _, env, env', ds, h | .pop _, env, env', ds, h | .pop0 _, env, env', ds, h | .isi _ _, env, env', ds, h | .lcp _ _ _ _, env, env', ds, h | .rng _, env, env', ds, h | .zip _ _, env, env', ds, h | .fmt _, env, env', ds, h => by
    exact absurd h (by intro z; cases z)
/-- several values, what they are worth -/
theorem oneK {γ δ : Type} {rq : Hp → Hp → γ → δ → List Addr → Prop} {σ : L2.St} {H : Hp} {Q : δ → Hp → Prop} {f : List D → Env → Res γ} (h : tG W Wx rq (fun env => (evK W.N C ce env).bind f) σ H Q) :
    tK W C Wx ce σ H fun vs H1 => ∃ F A ds env F1 A1 B1, ds.length = cLen ce ∧ Stp F H A F1 H1 (A1 ++ B1) ∧ repE W.T F1 H1 env σ A1 ∧ reps W.T F1 H1 ds vs B1 ∧ Aft W Wx σ rq F H A (f ds env) Q := by
  obtain ⟨F, A, env, st, re, h⟩ := h
  refine ⟨F, A, env, st, re, ?_⟩
  simp only at h
  cases e : evK W.N C ce env with
  | stuck => rw [e] at h; exact h.elim
  | exn x e' => rw [e] at h; exact h
  | ok ds e' =>
    rw [e] at h
    intro vs F' H' A' B p r rv
    exact ⟨F, A, ds, e', F', A', B, evK_len e, p, r, rv, h⟩
theorem z_tup {j : Nat} (ha : PA X es (tK W C Wx ce)) (hl : cLen ce ≤ 1000) : PE X (.Tuple es j pos) (tE W C Wx (.tup ce)) := by
  refine ⟨fun pins s σ H Q I h => (pe_tup ha).run pins s σ H Q I ?_⟩
  have h2 := oneK (W := W) (C := C) (Wx := Wx) (ce := ce) (σ := σ) (H := H) (Q := Q) (rq := rV W) (f := fun ds e => .ok (.tup (frzs ds)) e) h
  obtain ⟨F, A, env, st, re, h2⟩ := h2
  refine ⟨F, A, env, st, re, ?_⟩
  revert h2
  cases evK W.N C ce env with
  | stuck => exact id
  | exn x e => exact id
  | ok d e =>
    intro h2 vs F' H' A' B p r rv
    obtain ⟨F, A, ds, env, F1, A1, B1, hd, p, re, rv, h⟩ := h2 vs F' H' A' B p r rv
    refine ⟨by rw [← reps_length rv, hd, sizeLine_eq]; omega, fun q hq => ?_⟩
    refine fin_newF (B := []) h (by simpa using p.frozen) (repE_mono (frzH_old p.st) env σ A1 (fun _ _ => rfl) re) hq fun F3 mo e => ?_
    simp only [frep]
    exact ⟨q, vs, rfl, SqT.of e, freps_mono mo _ _ (frzs_here p.st rv)⟩
theorem z_lst (ha : PA X es (tK W C Wx ce)) (hl : cLen ce ≤ 1000) : PE X (.List es pos) (tE W C Wx (.lst ce)) := by
  refine ⟨fun pins s σ H Q I h => (pe_lst ha).run pins s σ H Q I ?_⟩
  have h2 := oneK (W := W) (C := C) (Wx := Wx) (ce := ce) (σ := σ) (H := H) (Q := Q) (rq := rV W) (f := fun ds e => .ok (.lst true ds) e) h
  obtain ⟨F, A, env, st, re, h2⟩ := h2
  refine ⟨F, A, env, st, re, ?_⟩
  revert h2
  cases evK W.N C ce env with
  | stuck => exact id
  | exn x e => exact id
  | ok d e =>
    intro h2 vs F' H' A' B p r rv
    obtain ⟨F, A, ds, env, F1, A1, B1, hd, p, re, rv, h⟩ := h2 vs F' H' A' B p r rv
    refine ⟨by rw [← reps_length rv, hd, sizeLine_eq]; omega, fun q hq => ?_⟩
    exact fin_newL h p re rv hq
end
end Z

namespace Z
open PySem PySem.Spec PyProof.Rows L2
/-- the module's names -/
structure GOk (W : Wd) : Prop where
  fn : ∀ f fd, W.P f = some fd → f < 1000 → W.mg (W.n.fn f) = some (.ref (W.fad f)) ∧ PySem.W.keepIn W.T.K (.ref (W.fad f)) = true ∧ (W.n.fn f == ("__debug__" : Str)) = false
  cl : ∀ c fd, W.P (mfid c mInit) = some fd → fd.io = [0] ∧ W.mg (W.n.cl c) = some (.ref (W.T.cad c)) ∧ Mk W.T.K (W.T.cad c) (W.fad (mfid c mInit)) ∧ (W.n.cl c == ("__debug__" : Str)) = false
  fl : ∀ c ∈ W.T.cs, W.T.fl c = (W.N.fl c).map W.n.fl
  has : ∀ c m, W.N.has c m = true → ∃ fd, W.P (mfid c m) = some fd
/-- no starred argument -/
def nos : List Expr → Bool
  | [] => true
  | .Starred _ _ :: _ => false
  | _ :: r => nos r
theorem starEach_nos {a : Expr} {es : List Expr} {env : PySem.Env} (h : nos (a :: es) = true) : starEach (a :: es) env = (false, eval a env) :: starEach es env := by
  cases a <;> first | rfl | (simp [nos] at h)
theorem nos_tl {a : Expr} {es : List Expr} (h : nos (a :: es) = true) : nos es = true := by
  cases a <;> first | exact h | (simp [nos] at h)
theorem starEach_any : ∀ {es : List Expr} {env : PySem.Env} {pos : Pos}, nos es = true → (backTo pos (starEach es env)).any (·.1) = false
  | [], _, _, _ => rfl
  | a :: es, env, pos, h => by
    rw [starEach_nos h]
    show (false || (backTo pos (starEach es env)).any (·.1)) = false
    rw [starEach_any (nos_tl h)]; rfl
theorem starEach_all : ∀ {es : List Expr} {env : PySem.Env} {pos : Pos}, nos es = true → (backTo pos (starEach es env)).all (fun x => !x.1) = true
  | [], _, _, _ => rfl
  | a :: es, env, pos, h => by
    rw [starEach_nos h]
    show (!false && (backTo pos (starEach es env)).all (fun x => !x.1)) = true
    rw [starEach_all (nos_tl h)]; rfl
/-- not a call of super without arguments -/
def nosup : Expr → Bool
  | .Call (.Name id _) [] [] _ => id != ("super" : Str)
  | _ => true
theorem attributeBase_nosup {o : Expr} {m : Str} {env : PySem.Env} {w : Sem Value} (h : nosup o = true) : attributeBase o m env w = w := by
  unfold attributeBase
  split
  · rename_i id p pos
    have : (id != ("super" : Str)) = true := h
    simp [this]
  · rfl
theorem meth_tree {o : Expr} {m : Str} {apos pos : Pos} {args : List Expr} {env : PySem.Env} (hb : nosup o = true) (hn : nos args = true) (hl : args.length < 30) (hp : (apos.endLine == pos.line) = true) :
    eval (.Call (.Attribute o m apos) args [] pos) env = (do
      let ov ← eval o env
      standAt apos.atName
      let (f, first) ← holding [ov] (getMethod ov m (do return (← importBound o env).getD true))
      callWith pos f first (backTo pos (starEach args env)) (backToKw pos (keywordEach [] env))) := by
  rw [arm_eval_Call, attributeBase_nosup hb]
  have hf : methodCallForm (args.length + ([] : List Keyword).length) (backTo pos (starEach args env)) (backToKw pos (keywordEach [] env)) = true := by
    unfold methodCallForm
    rw [starEach_all hn]
    show (true && true && decide (args.length + 0 + 0 < 30)) = true
    simpa using hl
  unfold methodCall
  rw [hf]
  unfold methodCallPos
  simp only [hp, Bool.not_true, Bool.false_or, if_true]
  rfl
section
variable {W : Wd} {k : Nat} {X : Cx} {C : Calls} {Wx : WX} {a : Expr} {ca ce : CE} {es : List Expr} {pos : Pos}
/-- the positions of the arguments that are handed over -/
def ioPos : CE → Nat → List Nat
  | .cons (.io _) es, n => n :: ioPos es (n + 1)
  | .cons _ es, n => ioPos es (n + 1)
  | _, _ => []
def ioVals : CE → List V → List V
  | .cons (.io _) es, v :: vs => v :: ioVals es vs
  | .cons _ es, _ :: vs => ioVals es vs
  | _, _ => []
def okIo (σ : L2.St) : List Nat → List V → Prop
  | [], [] => True
  | i :: r, v :: vs => σ[i]? = some (some v) ∧ okIo σ r vs
  | _, _ => False
theorem ioVals_ok {σ : L2.St} : ∀ {ce : CE} {vs : List V}, cLen ce = vs.length → ioRel ce vs σ → okIo σ (iosOf ce) (ioVals ce vs)
  | .nil, [], _, _ => trivial
  | .nil, _ :: _, h, _ => by cases h
  | .cons a es, [], h, _ => by cases h
  | .cons a es, v :: vs, h, r => by
    have h' : cLen es = vs.length := by simpa [cLen] using h
    cases a with
    | io i => exact ⟨r.1, ioVals_ok h' r.2⟩
    | _ => exact ioVals_ok (ce := es) h' r
  | .con _, vs, h, _ | .glo _, vs, h, _ | .var _, vs, h, _ | .io _, vs, h, _ | .tup _, vs, h, _ | .lst _, vs, h, _ | .neg _, vs, h, _ | .bin _ _ _, vs, h, _
  | .not _, vs, h, _ | .ands _, vs, h, _ | .ors _, vs, h, _ | .cmp _ _ _, vs, h, _ | .chn _ _ _ _ _, vs, h, _ | .ite _ _ _, vs, h, _ | .idx _ _, vs, h, _
  | .pth _ _ _, vs, h, _ | .slc _ _ _, vs, h, _ | .rev _, vs, h, _ | .cal _ _, vs, h, _ | .new _ _, vs, h, _ | .mth _ _ _, vs, h, _ | .app _ _, vs, h, _ | .att _ _, vs, h, _
  | .blt _ _, vs, h, _ | .smt _ _ _, vs, h, _ | .pop _, vs, h, _ | .pop0 _, vs, h, _ | .isi _ _, vs, h, _ | .lcp _ _ _ _, vs, h, _ | .rng _, vs, h, _ | .zip _ _, vs, h, _ | .fmt _, vs, h, _ => by
    cases vs with
    | nil => trivial
    | cons _ _ => cases h
theorem ioVals_pos (dv : List V) : ∀ {ce : CE} {vs : List V} (pre : List V), cLen ce = vs.length → (ioPos ce pre.length).map (fun i => (pre ++ (vs ++ dv)).getD i .non) = ioVals ce vs
  | .nil, [], _, _ => rfl
  | .nil, _ :: _, _, h => by cases h
  | .cons a es, [], _, h => by cases h
  | .cons a es, v :: vs, pre, h => by
    have h' : cLen es = vs.length := by simpa [cLen] using h
    have ih := ioVals_pos dv (ce := es) (vs := vs) (pre ++ [v]) h'
    rw [List.length_append, List.append_assoc] at ih
    have ih : (ioPos es (pre.length + 1)).map (fun i => (pre ++ ((v :: vs) ++ dv)).getD i .non) = ioVals es vs := ih
    have norm : ioPos (.cons a es) pre.length = ioPos es (pre.length + 1) → ioVals (.cons a es) (v :: vs) = ioVals es vs → (ioPos (.cons a es) pre.length).map (fun i => (pre ++ ((v :: vs) ++ dv)).getD i .non) = ioVals (.cons a es) (v :: vs) := fun e1 e2 => by
      rw [e1, e2]; exact ih
    cases a with
    | io i =>
      show (pre ++ ((v :: vs) ++ dv)).getD pre.length .non :: _ = v :: ioVals es vs
      rw [ih]
      congr 1
      simp
    | _ => exact norm rfl rfl
  | .con _, vs, _, h | .glo _, vs, _, h | .var _, vs, _, h | .io _, vs, _, h | .tup _, vs, _, h | .lst _, vs, _, h | .neg _, vs, _, h | .bin _ _ _, vs, _, h
  | .not _, vs, _, h | .ands _, vs, _, h | .ors _, vs, _, h | .cmp _ _ _, vs, _, h | .chn _ _ _ _ _, vs, _, h | .ite _ _ _, vs, _, h | .idx _ _, vs, _, h
  | .pth _ _ _, vs, _, h | .slc _ _ _, vs, _, h | .rev _, vs, _, h | .cal _ _, vs, _, h | .new _ _, vs, _, h | .mth _ _ _, vs, _, h | .app _ _, vs, _, h | .att _ _, vs, _, h
  | .blt _ _, vs, _, h | .smt _ _ _, vs, _, h | .pop _, vs, _, h | .pop0 _, vs, _, h | .isi _ _, vs, _, h | .lcp _ _ _ _, vs, _, h | .rng _, vs, _, h | .zip _ _, vs, _, h | .fmt _, vs, _, h => by
    cases vs with
    | nil => rfl
    | cons _ _ => cases h
/-- what was handed over comes back -/
theorem repE_backIo {T : Tab} {F H : Hp} {σ : L2.St} : ∀ {is : List Nat} {vs : List V} {ds : List D} {env env' : Env} {A B : List Addr}, okIo σ is vs → repA T F H ds vs B → repE T F H env σ A → backIo is ds env = some env' → (A ++ B).Nodup →
    ∃ A', repE T F H env' σ A' ∧ (∀ a ∈ A', a ∈ A ++ B) ∧ A'.Nodup
  | [], [], ds, env, env', A, B, _, ra, re, e, nd => by
    cases ds with
    | nil =>
      cases e
      exact ⟨A, re, fun a h => List.mem_append_left _ h, (List.nodup_append.mp nd).1⟩
    | cons _ _ => exact ra.elim
  | [], _ :: _, _, _, _, _, _, h, _, _, _, _ => h.elim
  | _ :: _, [], _, _, _, _, _, h, _, _, _, _ => h.elim
  | i :: is, v :: vs, [], env, env', A, B, ok, ra, re, e, nd => ra.elim
  | i :: is, v :: vs, d :: ds, env, env', A, B, ok, ra, re, e, nd => by
    obtain ⟨B1, B2, rfl, r1, r2⟩ := ra
    have hi : i < env.length := by
      rw [repE_length re]
      exact (List.getElem?_eq_some_iff.mp ok.1).1
    obtain ⟨A1, B0, A2, rfl, _, up⟩ := repE_slot re hi
    obtain ⟨u1, _⟩ := up F H (fun _ _ h => h) (fun _ _ => rfl) (fun _ _ => rfl)
    have re' := u1 d v B1 r1
    rw [set_same ok.1] at re'
    have sub : ((A1 ++ (B1 ++ A2)) ++ B2).Nodup ∧ ∀ a ∈ (A1 ++ (B1 ++ A2)) ++ B2, a ∈ (A1 ++ (B0 ++ A2)) ++ (B1 ++ B2) := by
      refine ⟨?_, fun a ha => ?_⟩
      · have hp : ((A1 ++ (B0 ++ A2)) ++ (B1 ++ B2)).Perm (B0 ++ ((A1 ++ (B1 ++ A2)) ++ B2)) := by
          rw [List.perm_iff_count]
          intro x
          simp only [List.count_append]
          omega
        exact (List.nodup_append.mp (hp.nodup nd)).2.1
      · simp only [List.mem_append] at ha ⊢
        rcases ha with (h | h | h) | h <;> simp [h]
    obtain ⟨A', q1, q2, q3⟩ := repE_backIo ok.2 r2 re' e sub.1
    exact ⟨A', q1, fun a ha => sub.2 a (q2 a ha), q3⟩
theorem evL_len : ∀ {ce : CE} {env env' : Env} {ds : List D}, evL W.N C ce env = .ok ds env' → ds.length = cLen ce
  | .nil, env, env', ds, h => by cases h; rfl
  | .cons a es, env, env', ds, h => by
    have gen : ∀ (e1 : Env) (d : D), ((evL W.N C es e1).bind fun ds e => .ok (d :: ds) e) = Res.ok ds env' → ds.length = cLen (.cons a es) := fun e1 d h => by
      cases e : evL W.N C es e1 with
      | ok l e2 =>
        rw [e] at h
        cases h
        simp [cLen, evL_len e]
      | exn x e2 => rw [e] at h; cases h
      | stuck => rw [e] at h; cases h
    have norm : ((evE W.N C a env).bind fun d e => (evL W.N C es e).bind fun ds e => .ok (frz d :: ds) e) = Res.ok ds env' → ds.length = cLen (.cons a es) := fun h => by
      cases e : evE W.N C a env with
      | ok d e1 => rw [e] at h; exact gen e1 _ h
      | exn x e2 => rw [e] at h; cases h
      | stuck => rw [e] at h; cases h
    cases a with
    | io i =>
      rw [show evL W.N C (.cons (.io i) es) env = (match rd env i with
        | some d => if isO d then .stuck else (evL W.N C es (env.set i none)).bind fun ds e => .ok (d :: ds) e
        | none => .stuck) from rfl] at h
      cases hr : rd env i with
      | none => simp only [hr] at h; cases h
      | some d =>
        simp only [hr] at h
        split at h
        · cases h
        · exact gen _ _ h
    | _ => exact norm h
  | .con _, env, env', ds, h | .glo _, env, env', ds, h | .var _, env, env', ds, h | .io _, env, env', ds, h | .tup _, env, env', ds, h | .lst _, env, env', ds, h | .neg _, env, env', ds, h | .bin _ _ _, env, env', ds, h
  | .not _, env, env', ds, h | .ands _, env, env', ds, h | .ors _, env, env', ds, h | .cmp _ _ _, env, env', ds, h | .chn _ _ _ _ _, env, env', ds, h | .ite _ _ _, env, env', ds, h | .idx _ _, env, env', ds, h
  | .pth _ _ _, env, env', ds, h | .slc _ _ _, env, env', ds, h | .rev _, env, env', ds, h | .cal _ _, env, env', ds, h | .new _ _, env, env', ds, h | .mth _ _ _, env, env', ds, h | .app _ _, env, env', ds, h | .att _ _, env, env', ds, h
  | .blt _ _, env, env', ds, h | .smt _ _ _, env, env', ds, h | .pop _, env, env', ds, h | .pop0 _, env, env', ds, h | .isi _ _, env, env', ds, h | .lcp _ _ _ _, env, env', ds, h | .rng _, env, env', ds, h | .zip _ _, env, env', ds, h | .fmt _, env, env', ds, h => by
    exact absurd h (by intro z; cases z)
/-- the arguments, what they are worth -/
theorem oneL {σ : L2.St} {H : Hp} {Q : VK} {f : List D → Env → Res D} {F F0 H0 : Hp} {A A0 B0 : List Addr} {env : Env} (p0 : Stp F0 H0 A0 F H (A ++ B0)) (re : repE W.T F H env σ A) (h : Aft W Wx σ (rV W) F0 H0 A0 ((evL W.N C ce env).bind f) Q) :
    tL W C Wx ce σ H fun vs H1 => ∃ ds env F1 A1 B1, cLen ce = vs.length ∧ Stp F0 H0 A0 F1 H1 ((A1 ++ B1) ++ B0) ∧ (∀ a o, F a = some o → F1 a = some o) ∧ (∀ a ∈ B0, H1 a = H a) ∧ repE W.T F1 H1 env σ A1 ∧ reps W.T F1 H1 ds vs B1 ∧ ioRel ce vs σ ∧ Aft W Wx σ (rV W) F0 H0 A0 (f ds env) Q := by
  refine ⟨F, A, env, p0.dropB.st, re, ?_⟩
  cases e : evL W.N C ce env with
  | exn x env =>
    rw [e] at h
    intro cls dd F' H' A' q r1 x1
    exact h cls dd F' H' A' (p0.dropB.trans q) r1 x1
  | stuck => rw [e] at h; exact h
  | ok ds env1 =>
    rw [e] at h
    intro v F1 H1 A1 B1 q r1 rv1
    have q2 := q.beside p0.st
    exact ⟨ds, env1, F1, A1, B1, by rw [← evL_len e, reps_length rv1.1], p0.trans q2, q.mono, q.keepB p0.st, r1, rv1.1, rv1.2, h⟩
/-- the callee is ready, the arguments are run -/
theorem z_args {σ : L2.St} {H : Hp} {pins : List (Addr × Obj)} {s : Shared} {f : Value} {first : List Value} {R : List V → Hp → Prop} {Q : Value → Shared → Prop} (hk : PySem.W.keepIn X.K f = true) (hn : nos es = true) (h0 : es = [] → ce = .nil) (ha : PA X es (tL W C Wx ce)) (I : Inv X pins σ H s) (h : tL W C Wx ce σ H R)
    (hf : ∀ vs us H1 s1, Inv X pins σ H1 s1 → Vals vs us → R vs H1 → wpAny (model X.prog X.w) X.A (call f (first ++ us)) Q X.xe s1) :
    wpAny (model X.prog X.w) X.A (callWith pos f first (backTo pos (starEach es X.env)) (backToKw pos (keywordEach [] X.env))) Q X.xe s := by
  cases es with
  | nil =>
    cases h0 rfl
    obtain ⟨F, A, env, st, re, h⟩ := h
    exact PySem.W.callWith_K0 I.kIn hk (hf [] [] H s I .nil (h [] F H A [] (by simpa using Stp.refl st) re ⟨by simp [reps], trivial⟩))
  | cons e es =>
    exact PySem.W.callWith_K (h₀ := X.base) I.ok.mod.kin hk (thn (ha.run pos pins s σ H _ I h) fun us s1 ⟨vs, H1, I1, r, q⟩ => ⟨I1.kIn, hf vs us H1 s1 I1 r q⟩) (starEach_nos hn) (starEach_any (nos_tl hn))
theorem vals_app : ∀ {xs ys : List V} {us ws : List Value}, Vals xs us → Vals ys ws → Vals (xs ++ ys) (us ++ ws)
  | _, _, _, _, .nil, h => h
  | _, _, _, _, .cons r t, h => .cons r (vals_app t h)
/-- a def is called, its arguments at hand: pre ahead of those that are written -/
theorem l_call (g : Gd W k X) (ok : Ok W C k) (tk : Takes X Wx) {σ : L2.St} {F H F1 H1 : Hp} {A A1 B1 : List Addr} {env : Env} {Q : VK} {pins : List (Addr × Obj)} {s : Shared} {f : Nat} {pd ds : List D} {pv vs : List V} {pu us : List Value} {fd : Fd} (hP : W.P f = some fd) (hio : fd.io = ioPos ce pv.length)
    (I : Inv X pins σ H1 s) (rp : Vals pv pu) (rv : Vals vs us) (p : Stp F H A F1 H1 (A1 ++ B1)) (re : repE W.T F1 H1 env σ A1) (r1 : freps W.T F1 pd pv) (r2 : reps W.T F1 H1 ds vs B1) (hl : cLen ce = vs.length) (io : ioRel ce vs σ)
    (h : Aft W Wx σ (rV W) F H A (callR C f (iosOf ce) (pd ++ ds) env) Q) : wpAny (model X.prog X.w) X.A (call (.ref (W.fad f)) (pu ++ us)) (EP X pins σ Q) X.xe s := by
  have st : Stt F1 H1 (B1 ++ A1) := p.st.swap
  have ra : repA W.T F1 H1 (pd ++ ds) (pv ++ vs) B1 := by
    have := repA_app (freps_A (H := H1) r1) r2.A
    simpa using this
  refine run_call g ok.c ok.d tk (g.room.mono (by omega)) rfl I (vals_app rp rv) st.left ra ?_
  have beside : ∀ {F3 H3 : Hp} {A3 : List Addr}, Stp F1 H1 B1 F3 H3 A3 → Stp F H A F3 H3 (A3 ++ A1) ∧ repE W.T F3 H3 env σ A1 := fun {F3 H3 A3} q => by
    have b : Stp F1 H1 (B1 ++ A1) F3 H3 (A3 ++ A1) := q.beside st
    have kb := q.keepB st
    exact ⟨(p.perm List.perm_append_comm).trans b, repE_mono q.mono env σ A1 kb re⟩
  unfold callR at h
  cases hc : C f (pd ++ ds) with
  | stuck => rw [hc] at h; exact h
  | exn x =>
    rw [hc] at h
    intro cls dd F3 H3 q x1
    obtain ⟨q1, re1⟩ := beside q
    exact h cls dd F3 H3 A1 (by simpa using q1) re1 x1
  | ok d iov =>
    rw [hc] at h
    simp only at h
    intro v F3 H3 B' R q hio' rd
    obtain ⟨q1, re1⟩ := beside q
    have hv := hio' fd hP
    rw [hio, List.append_assoc, ioVals_pos _ pv hl] at hv
    cases hb : backIo (iosOf ce) iov env with
    | none => rw [hb] at h; exact h.elim
    | some env2 =>
      rw [hb] at h
      have q2 : Stp F H A F3 H3 (R ++ (A1 ++ B')) := q1.perm (by
        rw [List.perm_iff_count]
        intro x
        simp only [List.count_append]
        omega)
      obtain ⟨A', re2, sub, nd⟩ := repE_backIo (ioVals_ok hl io) hv re1 hb (List.nodup_append.mp q2.st.nd).2.1
      have hn := List.nodup_append.mp q2.st.nd
      refine h v F3 H3 A' R (q2.less (fun a ha => ?_) (List.nodup_append.mpr ⟨nd, hn.1, fun a ha b hb => ?_⟩)) re2 rd
      · rcases List.mem_append.mp ha with z | z
        · exact List.mem_append_right _ (sub a z)
        · exact List.mem_append_left _ z
      · exact fun e => hn.2.2 b hb a (sub a ha) e.symm
theorem z_cal {f : Nat} {fd : Fd} {p : Pos} (g : Gd W k X) (ok : Ok W C k) (gk : GOk W) (tk : Takes X Wx) (hP : W.P f = some fd) (hf : f < 1000) (hio : fd.io = ioPos ce 0) (hg : Gl X (W.n.fn f)) (hn : nos es = true) (h0 : es = [] → ce = .nil) (ha : PA X es (tL W C Wx ce)) :
    PE X (.Call (.Name (W.n.fn f) p) es [] pos) (tE W C Wx (.cal f ce)) := by
  refine ⟨fun pins s σ H Q I h => ?_⟩
  obtain ⟨hm, hk, hd⟩ := gk.fn f fd hP hf
  rw [← g.mg] at hm
  rw [← g.K] at hk
  obtain ⟨F, A, env, st, re, h⟩ := h
  have h2 := oneL (W := W) (C := C) (Wx := Wx) (ce := ce) (B0 := []) (f := fun ds e => callR C f (iosOf ce) ds e) (by simpa using Stp.refl st) re h
  refine wpAny_Call_Name_kw (ld_glob I hg hm ?_ hd)
  refine z_args hk hn h0 ha I h2 fun vs us H1 s1 I1 rv ⟨ds, env1, F1, A1, B1, hl2, p, _, _, re1, r2, io, h3⟩ => ?_
  exact l_call (ce := ce) (pd := []) (pv := []) (pu := []) g ok tk hP hio I1 .nil rv (by simpa using p) re1 (by simp [freps]) r2 hl2 io h3
theorem z_mth {m : Nat} {ms : Str} {o : Expr} {apos : Pos} (g : Gd W k X) (ok : Ok W C k) (gk : GOk W) (tk : Takes X Wx) (hms : ms = W.n.mt m) (hio : ∀ c fd, W.P (mfid c m) = some fd → fd.io = ioPos ce 1) (ho : PE X o (tE W C Wx ca)) (hb : nosup o = true) (hn : nos es = true) (hl : es.length < 30) (hp : (apos.endLine == pos.line) = true) (h0 : es = [] → ce = .nil) (ha : PA X es (tL W C Wx ce)) :
    PE X (.Call (.Attribute o ms apos) es [] pos) (tE W C Wx (.mth m ca ce)) := by
  subst hms
  refine ⟨fun pins s σ H Q I h => ?_⟩
  obtain ⟨F, A, env, st, re, h⟩ := h
  have z := aft_bind (W := W) (Wx := Wx) (σ := σ) (rp := rV W) (r := evE W.N C ca env) (f := fun x e => if hasM W.N x m then (evL W.N C ce e).bind fun ds e => mthR C m (iosOf ce) x ds e else .stuck) h
  refine PySem.W.methodCall_KW (pl := (do return (← importBound o X.env).getD true)) (thn (ho.run pins s σ H _ I ⟨F, A, env, st, re, z⟩) fun u s1 ⟨x, H1, I1, rx, d, env1, F1, A1, B1, p, re1, rv, h⟩ => ?_) (meth_tree hb hn hl hp)
  by_cases hm : hasM W.N d m = true
  · rw [if_pos hm] at h
    have h2 := oneL (W := W) (C := C) (Wx := Wx) (ce := ce) (f := fun ds e => mthR C m (iosOf ce) d ds e) p re1 h
    cases d with
    | ins c l =>
      obtain ⟨e0, fv⟩ := (rep_isF rfl).mp rv
      subst e0
      obtain ⟨a, dx, vs0, rfl, q1, ⟨hc, _⟩, _⟩ : ∃ a dx vs, x = .ref a ∧ F1 a = some (.ins (W.T.cad c) dx ((W.T.fl c).zip vs)) ∧ (c ∈ W.T.cs ∧ vs.length = (W.T.fl c).length) ∧ freps W.T F1 l vs := by simpa only [frep] using fv
      have kc := ok.z.ok c hc
      have cl := kc.cls
      rw [← g.K] at cl
      cases rx
      obtain ⟨fd, hP⟩ := gk.has c m hm
      obtain ⟨me, hnf⟩ := kc.meth m fd hP
      rw [← g.K] at me
      refine getmeth_ok I1 (p.st.sub _ _ q1) cl me (fl_lookup hnf) ?_
      refine z_args (first := [.ref a]) me.kp hn h0 ha I1 h2 fun vs us H2 s2 I2 rv2 ⟨ds, env2, F2, A2, B2, hl2, p2, mo, _, re2, r2, io, h3⟩ => ?_
      exact l_call (ce := ce) (pd := [.ins c l]) (pv := [.ref a]) (pu := [.ref a]) g ok tk hP (hio c fd hP) I2 (.cons rfl .nil) rv2 (by simpa using p2) re2 (by simp only [freps]; exact ⟨frep_mono mo _ _ fv, trivial⟩) r2 hl2 io h3
    | _ => cases hm
  · rw [if_neg hm] at h
    exact h.elim

theorem Stp.junk {F H F1 H1 : Hp} {A A1 : List Addr} {q : Addr} {o : HO} (p : Stp F H A F1 H1 A1) (hq : H1 q = none) : Stp F H A F1 (upd H1 q o) A1 := by
  have p2 := (p.newO (o := o) hq)
  exact p2.less (fun a ha => List.mem_cons_of_mem _ ha) p.st.nd
theorem l_new (g : Gd W k X) (ok : Ok W C k) (gk : GOk W) (tk : Takes X Wx) {σ : L2.St} {F H F1 H1 : Hp} {A A1 B1 : List Addr} {env : Env} {Q : VK} {pins : List (Addr × Obj)} {s : Shared} {c : Nat} {ds : List D} {vs : List V} {us : List Value} 
    (I : Inv X pins σ H1 s) (rv : Vals vs us) (p : Stp F H A F1 H1 (A1 ++ B1)) (re : repE W.T F1 H1 env σ A1) (r2 : freps W.T F1 ds vs) (hc : c ∈ W.T.cs)
    (h : Aft W Wx σ (rV W) F H A ((newR W.N C c ds).lift env) Q) : wpAny (model X.prog X.w) X.A (call (.ref (W.T.cad c)) us) (EP X pins σ Q) X.xe s := by
  obtain ⟨fd, hP, l1, l2, e⟩ := ok.c.no (mfid c mInit) (.obj c [] :: ds) (fun z => by unfold newR at h; rw [z] at h; exact h)
  obtain ⟨hio, hm, M, _⟩ := gk.cl c fd hP
  have F0 := ok.c.fn (mfid c mInit) fd hP
  rw [← g.prog, ← g.w, ← g.K, ← g.mg, ← g.base] at F0
  obtain ⟨dus, hd, hb⟩ := ok.d.bd (mfid c mInit) fd (ds.length + 1) hP l1 l2
  rw [← g.K] at hb M
  have hv : vs.length = ds.length := (freps_length r2).symm
  have hdl : (W.fdv (mfid c mInit)).length = fd.dfl.length := (freps_length (ok.d.dv _ fd hP F1)).symm
  have q2 : H1 s.heap.objs.size = none := I.hok.fresh (Nat.le_refl _)
  have q1 : H1 (s.heap.objs.size + 1) = none := I.hok.fresh (Nat.le_succ _)
  have I2 := Inv.made (C := W.T.cad c) I
  have p1 := p.dropB
  have pj := p1.junk (o := .own (s.heap.objs.size + 1)) q2
  have q3 : upd H1 s.heap.objs.size (.own (s.heap.objs.size + 1)) (s.heap.objs.size + 1) = none := by rw [upd_ne (Nat.succ_ne_self _)]; exact q1
  have pn := pj.newO (o := .ins (W.T.cad c) s.heap.objs.size []) q3
  have re2 : repE W.T F1 (upd (upd H1 s.heap.objs.size (.own (s.heap.objs.size + 1))) (s.heap.objs.size + 1) (.ins (W.T.cad c) s.heap.objs.size [])) env σ A1 := by
    refine repE_mono (fun _ _ z => z) env σ A1 (fun a ha => ?_) re
    obtain ⟨o, ho⟩ := p1.st.al a ha
    rw [upd_ne (ne_of_none ho q1), upd_ne (ne_of_none ho q2)]
  have rs : repA W.T F1 (upd (upd H1 s.heap.objs.size (.own (s.heap.objs.size + 1))) (s.heap.objs.size + 1) (.ins (W.T.cad c) s.heap.objs.size [])) (.obj c [] :: ds ++ fd.dfl.drop (fd.dfl.length + (ds.length + 1) - fd.np)) (V.ref (s.heap.objs.size + 1) :: (vs ++ (W.fdv (mfid c mInit)).drop (fd.dfl.length + (ds.length + 1) - fd.np))) [s.heap.objs.size + 1] := by
    refine ⟨[s.heap.objs.size + 1], [], rfl, ⟨_, s.heap.objs.size, [], rfl, rfl, ?_, ⟨hc, Nat.zero_le _⟩, by simp [freps]⟩, ?_⟩
    · rw [upd_same, List.zip_nil_right]
    · have := repA_app (H := upd (upd H1 s.heap.objs.size (.own (s.heap.objs.size + 1))) (s.heap.objs.size + 1) (.ins (W.T.cad c) s.heap.objs.size [])) (freps_A r2) (freps_A (freps_drop (fd.dfl.length + (ds.length + 1) - fd.np) (ok.d.dv _ fd hP F1)))
      simpa using this
  have hsp : spOf W C (mfid c mInit) fd (V.ref (s.heap.objs.size + 1) :: (vs ++ (W.fdv (mfid c mInit)).drop (fd.dfl.length + (ds.length + 1) - fd.np))) (upd (upd H1 s.heap.objs.size (.own (s.heap.objs.size + 1))) (s.heap.objs.size + 1) (.ins (W.T.cad c) s.heap.objs.size [])) (fun v H2 => v = .non ∧ Q (.ref (s.heap.objs.size + 1)) H2) (fun cls d H => Wx cls d σ H) := by
    refine ⟨F1, [s.heap.objs.size + 1], .obj c [] :: ds ++ fd.dfl.drop (fd.dfl.length + (ds.length + 1) - fd.np), ?_, ok.d.ps _ fd hP, ?_, rs, ?_⟩
    · rw [List.length_cons, List.length_append, List.length_drop, hdl, hv]
      have l1' : ds.length + 1 ≤ fd.np := l1
      have l2' : fd.np ≤ ds.length + 1 + fd.dfl.length := l2
      omega
    · exact pn.st.left (A := [_]) (B := A1)
    · have e' : C (mfid c mInit) (.obj c [] :: ds) = C (mfid c mInit) (.obj c [] :: ds ++ fd.dfl.drop (fd.dfl.length + (ds.length + 1) - fd.np)) := by simpa using e
      rw [← e']
      unfold newR at h
      have beside : ∀ {F3 H3 : Hp} {A3 : List Addr}, Stp F1 (upd (upd H1 s.heap.objs.size (.own (s.heap.objs.size + 1))) (s.heap.objs.size + 1) (.ins (W.T.cad c) s.heap.objs.size [])) [s.heap.objs.size + 1] F3 H3 A3 → Stp F H A F3 H3 (A3 ++ A1) ∧ repE W.T F3 H3 env σ A1 := fun {F3 H3 A3} q => by
        have b := q.beside (B := A1) pn.st
        have kb := q.keepB (B := A1) pn.st
        exact ⟨pn.trans b, repE_mono q.mono env σ A1 kb re2⟩
      cases hc2 : C (mfid c mInit) (.obj c [] :: ds) with
      | stuck => rw [hc2] at h; exact h
      | exn x =>
        rw [hc2] at h
        intro cls dd F3 H3 q x1
        obtain ⟨q1, re1⟩ := beside q
        exact h cls dd F3 H3 A1 (by simpa using q1) re1 x1
      | ok d io =>
        rw [hc2] at h
        intro v F3 H3 A3 R q hio2 rd
        rw [hio] at hio2
        obtain ⟨q1, re1⟩ := beside q
        -- the result's form
        have key : ∃ l, d = .non ∧ io = [.obj c l] ∧ l.length = (W.N.fl c).length ∧ Aft W Wx σ (rV W) F H A (.ok (.ins c l) env) Q := by
          split at h
          · rename_i c' l' hh
            cases hh
            split at h
            · rename_i hcc
              obtain ⟨rfl, hl⟩ := hcc
              exact ⟨l', rfl, rfl, hl, h⟩
            · exact h.elim
          · rename_i hh; cases hh
          · exact h.elim
        obtain ⟨l, rfl, rfl, hl, h⟩ := key
        simp only [rep, frep] at rd
        obtain ⟨rfl, rfl⟩ := rd
        refine ⟨rfl, ?_⟩
        obtain ⟨B2, C2, rfl, ro, rn⟩ := hio2
        cases rn
        obtain ⟨a, dx, ws, ea, rfl, ha, hz, fw⟩ := ro
        have ea : V.ref (s.heap.objs.size + 1) = .ref a := by simpa using ea
        cases ea
        have q4 : Stp F H A F3 H3 (A1 ++ [s.heap.objs.size + 1]) := by
          have : Stp F H A F3 H3 ([s.heap.objs.size + 1] ++ A1) := by simpa using q1
          exact this.perm List.perm_append_comm
        have q5 := q4.frozen
        have fl := gk.fl c hc
        refine h _ _ H3 A1 [] (by simpa using q5) (repE_mono (frzH_old q4.st) env σ A1 (fun _ _ => rfl) re1) (rep_of_frep ?_)
        simp only [frep]
        refine ⟨_, dx, ws, rfl, by rw [frzH_in (by simp)]; exact ha, ⟨hc, ?_⟩, freps_mono (frzH_old q4.st) _ _ fw⟩
        rw [← freps_length fw, hl, fl, List.length_map]
  have r2' : Vals (V.ref (s.heap.objs.size + 1) :: (vs ++ (W.fdv (mfid c mInit)).drop (fd.dfl.length + (ds.length + 1) - fd.np))) (Value.ref (s.heap.objs.size + 1) :: (us ++ dus)) := .cons rfl (rv.append hd)
  have hl : (Value.ref (s.heap.objs.size + 1) :: us ++ dus).length = (W.fps (mfid c mInit)).length := by
    have e := r2'.length
    rw [F0.len _ _ _ _ hsp] at e
    exact e.symm
  refine wpAny_call (make_map (f := W.fad (mfid c mInit)) I.kIn M.makes M.init (beq_iff_eq.mp M.fn) (codeAny_mono (F0.run _ X.stack _ _ ⟨Value.ref (s.heap.objs.size + 1) :: us, []⟩ (Value.ref (s.heap.objs.size + 1) :: (us ++ dus)) _ _ (fun cls d H => Wx cls d σ H) ((g.room.mono (by omega)).make (k := k) (W.T.cad c) us [])
    (I2.env0.make (W.T.cad c) us []) (hb _ (Value.ref (s.heap.objs.size + 1) :: us) I2.kIn hl) r2' hsp) fun r s' hq' => ?_))
  cases r with
  | error e => exact tk _ _ (XE.of_call I2 (fun _ _ _ z => z) hq')
  | ok fl =>
    cases fl with
    | ret u =>
      obtain ⟨v, H', I3, rv, ev, q3⟩ := I2.after hq'
      subst ev
      exact ⟨rv, ⟨V.ref (s.heap.objs.size + 1), H', I3, rfl, q3⟩⟩
    | next => exact False.elim hq'
    | brk => exact False.elim hq'
    | cont => exact False.elim hq'
theorem z_new {c : Nat} {fd : Fd} {p : Pos} (g : Gd W k X) (ok : Ok W C k) (gk : GOk W) (tk : Takes X Wx) (hP : W.P (mfid c mInit) = some fd) (hg : Gl X (W.n.cl c)) (hn : nos es = true) (h0 : es = [] → ce = .nil) (ha : PA X es (tK W C Wx ce)) :
    PE X (.Call (.Name (W.n.cl c) p) es [] pos) (tE W C Wx (.new c ce)) := by
  refine ⟨fun pins s σ H Q I h => ?_⟩
  obtain ⟨_, hm, M, hd⟩ := gk.cl c fd hP
  have hc := ok.z.of c _ fd hP
  rw [← g.mg] at hm
  rw [← g.K] at M
  have h2 := oneK (W := W) (C := C) (Wx := Wx) (ce := ce) (σ := σ) (H := H) (Q := Q) (rq := rV W) (f := fun ds e => (newR W.N C c (frzs ds)).lift e) h
  refine wpAny_Call_Name_kw (ld_glob I hg hm ?_ hd)
  have fin : ∀ vs us H1 s1, Inv X pins σ H1 s1 → Vals vs us → (∃ F A ds env F1 A1 B1, ds.length = cLen ce ∧ Stp F H A F1 H1 (A1 ++ B1) ∧ repE W.T F1 H1 env σ A1 ∧ reps W.T F1 H1 ds vs B1 ∧ Aft W Wx σ (rV W) F H A ((newR W.N C c (frzs ds)).lift env) Q) → wpAny (model X.prog X.w) X.A (call (.ref (W.T.cad c)) ([] ++ us)) (EP X pins σ Q) X.xe s1 := by
    intro vs us H1 s1 I1 rv ⟨F, A, ds, env1, F1, A1, B1, hl, p, re1, r2, h3⟩
    exact l_new g ok gk tk I1 rv (B1 := []) (by simpa using p.frozen) (repE_mono (frzH_old p.st) env1 σ A1 (fun _ _ => rfl) re1) (frzs_here p.st r2) hc h3
  cases es with
  | nil =>
    cases h0 rfl
    obtain ⟨F, A, env, st, re, h2⟩ := h2
    exact PySem.W.callWith_K0 I.kIn M.kp (fin [] [] H s I .nil (h2 [] F H A [] (by simpa using Stp.refl st) re (by simp [reps])))
  | cons e es =>
    exact PySem.W.callWith_K (h₀ := X.base) I.ok.mod.kin M.kp (thn (ha.run pos pins s σ H _ I h2) fun us s1 ⟨vs, H1, I1, r, q⟩ => ⟨I1.kIn, fin vs us H1 s1 I1 r q⟩) (starEach_nos hn) (starEach_any (nos_tl hn))
end
end Z

namespace Z
open PySem PySem.Spec PyProof.Rows L2
section
variable {W : Wd} {k : Nat} {X : Cx} {C : Calls} {Wx : WX} {a b c : Expr} {ca cb cc ce : CE} {es : List Expr} {pos : Pos}
theorem zip_lookup : ∀ {fs : List Str} {vs : List V} {j : Nat} {f : Str} {v : V}, fs.Nodup → fs[j]? = some f → vs[j]? = some v → (fs.zip vs).lookup f = some v
  | [], _, _, _, _, _, h, _ => by simp at h
  | _ :: _, [], _, _, _, _, _, h => by simp at h
  | g :: fs, w :: vs, 0, f, v, nd, h1, h2 => by
    simp at h1 h2
    subst h1 h2
    simp [List.zip_cons_cons, List.lookup_cons]
  | g :: fs, w :: vs, j + 1, f, v, nd, h1, h2 => by
    have nd' := List.nodup_cons.mp nd
    have h1' : fs[j]? = some f := by simpa using h1
    have hm : f ∈ fs := List.mem_of_getElem? h1'
    have hne : (f == g) = false := beq_eq_false_iff_ne.mpr fun e => nd'.1 (e ▸ hm)
    rw [List.zip_cons_cons, List.lookup_cons, hne]
    exact zip_lookup nd'.2 h1' (by simpa using h2)
theorem z_att {f : Nat} {fs : Str} (g : Gd W k X) (ok : Ok W C k) (gk : GOk W) (hf : fs = W.n.fl f) (hb : nosup a = true) (ha : PE X a (tE W C Wx ca)) : PE X (.Attribute a fs pos) (tE W C Wx (.att ca f)) := by
  subst hf
  refine ⟨fun pins s σ H Q I h => ?_⟩
  refine attr_of (attributeBase_nosup hb) (thn (ha.run pins s σ H _ I (oneU (ca := ca) (fun d => field W.N d f) h)) fun u s1 ⟨x, H1, I1, rx, F, A, d, env, F1, A1, B1, p, re, rv, h⟩ => ?_)
  cases d with
  | ins c l =>
    obtain ⟨_, fv⟩ := (rep_isF rfl).mp rv
    obtain ⟨ad, dx, vs, rfl, q1, ⟨hc, hz⟩, fr⟩ : ∃ a dx vs, x = .ref a ∧ F1 a = some (.ins (W.T.cad c) dx ((W.T.fl c).zip vs)) ∧ (c ∈ W.T.cs ∧ vs.length = (W.T.fl c).length) ∧ freps W.T F1 l vs := by simpa only [frep] using fv
    cases rx
    have kc := ok.z.ok c hc
    unfold field at h
    simp only at h
    cases hi : (W.N.fl c).idxOf? f with
    | none => simp only [hi] at h; exact h.elim
    | some j =>
      simp only [hi] at h
      cases hl : l[j]? with
      | none => simp only [hl] at h; exact h.elim
      | some d =>
        simp only [hl] at h
        obtain ⟨v, hv, fd⟩ := freps_get fr hl
        have hj : (W.N.fl c)[j]? = some f := by
          rw [List.idxOf?_eq_some_iff] at hi
          obtain ⟨hlt, h1, _⟩ := hi
          rw [List.getElem?_eq_getElem hlt]
          exact congrArg some (by simpa using h1)
        have hfl : (W.T.fl c)[j]? = some (W.n.fl f) := by rw [gk.fl c hc, List.getElem?_map, hj]; rfl
        have hlk := zip_lookup kc.nd hfl hv
        have cl := kc.cls
        have na := kc.noa _ (List.mem_of_getElem? hfl)
        rw [← g.K] at cl na
        exact getattr_ok I1 (p.st.sub _ _ q1) cl na hlk fun u' s2 I2 ru => ⟨v, H1, I2, ru, fin_here h p re fd⟩
  | _ => exact h.elim

theorem reps_get {T : Tab} {F H : Hp} : ∀ {l : List D} {vs : List V} {A : List Addr} {i : Nat} {d : D}, reps T F H l vs A → l[i]? = some d → ∃ v B, vs[i]? = some v ∧ rep T F H d v B
  | [], _, _, _, _, _, h => by simp at h
  | _ :: _, [], _, _, _, q, _ => by simp only [reps] at q
  | x :: l, v :: vs, A, 0, d, q, h => by
    simp only [reps] at q
    obtain ⟨B, C, _, r1, _⟩ := q
    simp at h
    subst h
    exact ⟨v, B, rfl, r1⟩
  | x :: l, v :: vs, A, i + 1, d, q, h => by
    simp only [reps] at q
    obtain ⟨B, C, _, _, r2⟩ := q
    exact reps_get (i := i) r2 (by simpa using h)
/-- an item, to be kept -/
theorem l_idx {σ : L2.St} {F H F2 H2 : Hp} {A A2 B2 B1 : List Addr} {env : Env} {Q : VK} {d1 d2 : D} {x y : V} (g : Gd W k X) (p : Stp F H A F2 H2 (A2 ++ B2)) (re : repE W.T F2 H2 env σ A2) (r1 : rep W.T F2 H2 d1 x B1) (r2 : frep W.T F2 d2 y)
    (h : Aft W Wx σ (rV W) F H A ((idxD d1 d2).lift env) Q) : rIx X.K x y H2 Q := by
  unfold idxD at h
  cases d2 with
  | int j =>
    simp only [frep] at r2
    subst r2
    simp only at h
    have seq : ∀ (l : List D) (vs : List V) (C : List Addr), reps W.T F2 H2 l vs C → item d1 j = (ixN l.length j).bind (fun n => l[n]?) → ∃ v, atI vs j = some v ∧ Q v H2 := fun l vs C rl e => by
      rw [e] at h
      have hlen := reps_length rl
      cases hi : ixN l.length j with
      | none => simp only [hi, Option.bind_none] at h; exact h.elim
      | some n =>
        simp only [hi, Option.bind_some] at h
        cases hl : l[n]? with
        | none => simp only [hl] at h; exact h.elim
        | some d =>
          simp only [hl] at h
          obtain ⟨v, B, hv, rv⟩ := reps_get rl hl
          by_cases hf : isF d = true
          · rw [if_pos hf] at h
            obtain ⟨_, fv⟩ := (rep_isF hf).mp rv
            refine ⟨v, ?_, fin_here h p re fv⟩
            unfold atI
            rw [← hlen, hi]
            exact hv
          · rw [if_neg hf] at h; exact h.elim
    cases d1 with
    | tup l =>
      simp only [rep, frep] at r1
      obtain ⟨_, ad, vs, rfl, q1, fl⟩ := r1
      obtain ⟨v, hv, q⟩ := seq l vs [] (reps_of_freps fl) rfl
      exact .inr (.inl ⟨ad, vs, j, v, rfl, rfl, by rw [g.K]; exact SqT.mono' p.st.sub q1, hv, q⟩)
    | lst o l =>
      obtain ⟨ad, vs, C1, rfl, q1, _, fl⟩ := rep_lst p.st.sub r1
      obtain ⟨v, hv, q⟩ := seq l vs C1 fl rfl
      exact .inl ⟨ad, vs, j, v, rfl, rfl, .of q1, hv, q⟩
    | str z =>
      simp only [rep, frep] at r1
      obtain ⟨_, rfl⟩ := r1
      unfold item at h
      simp only at h
      split at h
      · rename_i d hd
        by_cases hz : lim < z.length
        · rw [if_pos hz] at hd; cases hd
        · rw [if_neg hz] at hd
          cases hi : ixN z.cps.toList.length j with
          | none => rw [hi] at hd; cases hd
          | some n =>
            rw [hi, Option.bind_some] at hd
            cases hl : z.cps.toList[n]? with
            | none => rw [hl] at hd; cases hd
            | some cp =>
              rw [hl] at hd
              cases hd
              simp only [isF, if_true] at h
              refine .inr (.inr ⟨z, j, cp, rfl, rfl, by rw [sizeLine_eq]; unfold lim at hz; omega, ?_, fin_here h p re frep_str⟩)
              unfold atI
              rw [hi]
              exact hl
      · exact h.elim
    | scr l =>
      simp only [rep, frep] at r1
      obtain ⟨_, ad, rfl, q1, _⟩ := r1
      unfold item at h
      simp only at h
      split at h
      · rename_i d hd
        cases hi : ixN l.length j with
        | none => rw [hi] at hd; cases hd
        | some n =>
          rw [hi, Option.bind_some] at hd
          cases hl : l[n]? with
          | none => rw [hl] at hd; cases hd
          | some i =>
            rw [hl] at hd
            cases hd
            simp only [isF, if_true] at h
            refine .inl ⟨ad, l.map .int, j, .int i, rfl, rfl, by rw [g.K]; exact SqL.mono' p.st.sub q1, ?_, fin_here h p re frep_int⟩
            unfold atI
            rw [List.length_map, hi]
            show (l.map V.int)[n]? = _
            rw [List.getElem?_map, hl]; rfl
      · exact h.elim
    | _ => exact h.elim
  | _ => exact h.elim
theorem rep_int' {T : Tab} {F H : Hp} {d : D} {v : V} {B : List Addr} (r : rep T F H d v B) : isF d = false ∨ frep T F d v := by
  by_cases h : isF d = true
  · exact .inr ((rep_isF h).mp r).2
  · exact .inl (by simpa using h)
theorem idxD_F {x : D} {d2 : D} (h : isF d2 = false) : idxD x d2 = .stuck := by
  unfold idxD
  cases d2 <;> first | rfl | cases h
theorem z_idx (g : Gd W k X) (hn : ∀ i, ca ≠ .var i) (ha : PE X a (tE W C Wx ca)) (hb : PE X b (tE W C Wx cb)) (hs : PlainIx b) : PE X (.Subscript a b pos) (tE W C Wx (.idx ca cb)) := by
  refine ⟨fun pins s σ H Q I h => ?_⟩
  have e : ∀ env, evE W.N C (.idx ca cb) env = (evE W.N C ca env).bind fun x e => (evE W.N C cb e).bind fun k e => (idxD x k).lift e := fun env => by
    cases ca <;> first | rfl | exact absurd rfl (hn _)
  obtain ⟨F, A, env, st, re, h⟩ := h
  rw [e] at h
  have h2 := two (W := W) (Wx := Wx) (σ := σ) (H := H) (rq := rV W) (ev := evE W.N C ca) (ev' := evE W.N C cb) (f := fun x k e => (idxD x k).lift e) (Q := Q) ⟨F, A, env, st, re, h⟩
  refine Subscript_ (binT ha hb I (R := fun x y H2 => ∃ F A, Two W Wx σ (rV W) F H A (fun x k e => (idxD x k).lift e) Q x y H2) h2 fun v u s2 x y H2 I2 rx ry z => ?_)
  obtain ⟨F, A, d1, d2, env, F2, A2, B1, B2, p, re, r1, r2, h⟩ := z
  have h : Aft W Wx σ (rV W) F H A ((idxD d1 d2).lift env) Q := h
  rcases rep_int' r2 with hf | f2
  · rw [idxD_F hf] at h; exact h.elim
  · exact ix_seq a b pins s2 σ H2 x y v u Q I2 rx ry (l_idx g (by rw [List.append_assoc] at p; exact p) re r1 f2 h) (hs _ _)
theorem z_idxV {i : Nat} {x : Str} {px : Pos} (g : Gd W k X) (hN : X.N[i]? = some x) (hv : Vis X.env.scope x) (hd : (x == ("__debug__" : Str)) = false) (hcd : (x == ("__classdict__" : Str)) = false) (hb : PE X b (tE W C Wx cb)) (hs : PlainIx b) : PE X (.Subscript (.Name x px) b pos) (tE W C Wx (.idx (.var i) cb)) := by
  refine ⟨fun pins s σ H Q I h => ?_⟩
  obtain ⟨F, A, env, st, re, h⟩ := h
  rw [show evE W.N C (.idx (.var i) cb) env = if (rd env i).isSome then (evE W.N C cb env).bind fun k e => (idxV (rd e i) k).lift e else .stuck from rfl] at h
  by_cases hr : (rd env i).isSome = true
  · rw [if_pos hr] at h
    obtain ⟨d, hr⟩ := Option.isSome_iff_exists.mp hr
    have hi : i < env.length := by
      unfold rd at hr
      cases e : env[i]? with
      | none => rw [e] at hr; cases hr
      | some _ => exact (List.getElem?_eq_some_iff.mp e).1
    obtain ⟨_, _, _, _, gv, _⟩ := repE_slot re hi
    obtain ⟨v, hv', _⟩ := gv d hr
    have z := aft_bind (W := W) (Wx := Wx) (σ := σ) (rp := rV W) (r := evE W.N C cb env) (f := fun k e => (idxV (rd e i) k).lift e) h
    refine Subscript_ (binT (pe_var hN hv hd hcd) hb I (R := fun x y H2 => x = v ∧ ∃ F A d env F1 A1 B1, Stp F H A F1 H2 (A1 ++ B1) ∧ repE W.T F1 H2 env σ A1 ∧ rep W.T F1 H2 d y B1 ∧ Aft W Wx σ (rV W) F H A ((idxV (rd env i) d).lift env) Q) ⟨v, hv', ⟨F, A, env, st, re, ?_⟩⟩ fun u w s2 x y H2 I2 rx ry z => ?_)
    · revert z
      cases evE W.N C cb env with
      | stuck => exact id
      | exn x e => exact id
      | ok d e =>
        intro z v2 F' H' A' B p r rv
        exact ⟨rfl, F, A, z v2 F' H' A' B p r rv⟩
    · obtain ⟨rfl, F, A, d2, env2, F2, A2, B2, p, re2, r2, h⟩ := z
      unfold idxV at h
      cases hr2 : rd env2 i with
      | none => simp only [hr2] at h; exact h.elim
      | some d1 =>
        simp only [hr2] at h
        by_cases ho : isO d1 = true
        · rw [if_pos ho] at h; exact h.elim
        · rw [if_neg ho] at h
          have hi2 : i < env2.length := by
            unfold rd at hr2
            cases e : env2[i]? with
            | none => rw [e] at hr2; cases hr2
            | some _ => exact (List.getElem?_eq_some_iff.mp e).1
          obtain ⟨_, B, _, _, gv2, _⟩ := repE_slot re2 hi2
          obtain ⟨v2, hv2, rs⟩ := gv2 d1 hr2
          rw [hv'] at hv2
          cases hv2
          have r1 : rep W.T F2 H2 d1 x B := (repS_of (by simpa using ho)).mp rs
          rcases rep_int' r2 with hf | f2
          · rw [idxD_F hf] at h; exact h.elim
          · exact ix_seq (.Name _ px) b pins s2 σ H2 x y u w Q I2 rx ry (l_idx g p re2 r1 f2 h) (hs _ _)
  · rw [if_neg hr] at h; exact h.elim
/-- a value, what it is worth; B0 stands beside -/
theorem moreE {α β : Type} {rq : Hp → Hp → α → β → List Addr → Prop} {σ : L2.St} {H : Hp} {Q : β → Hp → Prop} {f : D → Env → Res α} {F F0 H0 : Hp} {A A0 B0 : List Addr} {env : Env} (p0 : Stp F0 H0 A0 F H (A ++ B0)) (re : repE W.T F H env σ A) (h : Aft W Wx σ rq F0 H0 A0 ((evE W.N C ce env).bind f) Q) :
    tE W C Wx ce σ H fun v H1 => ∃ d env F1 A1 B1, Stp F0 H0 A0 F1 H1 ((A1 ++ B1) ++ B0) ∧ (∀ a o, F a = some o → F1 a = some o) ∧ (∀ a ∈ B0, H1 a = H a) ∧ repE W.T F1 H1 env σ A1 ∧ rep W.T F1 H1 d v B1 ∧ Aft W Wx σ rq F0 H0 A0 (f d env) Q := by
  refine ⟨F, A, env, p0.dropB.st, re, ?_⟩
  cases e : evE W.N C ce env with
  | exn x env =>
    rw [e] at h
    intro cls dd F' H' A' q r1 x1
    exact h cls dd F' H' A' (p0.dropB.trans q) r1 x1
  | stuck => rw [e] at h; exact h
  | ok ds env1 =>
    rw [e] at h
    intro v F1 H1 A1 B1 q r1 rv1
    have q2 := q.beside p0.st
    exact ⟨ds, env1, F1, A1, B1, p0.trans q2, q.mono, q.keepB p0.st, r1, rv1, h⟩

def tPt (W : Wd) (C : Calls) (Wx : WX) (ce : CE) : TO := fun σ H Q => tE W C Wx ce σ H fun x H1 => ∃ o, (x = .non ∧ o = none ∨ ∃ i, x = .int i ∧ o = some i) ∧ Q o H1
theorem z_po1 (ha : PE X a (tE W C Wx ca)) : PO X (some a) (tPt W C Wx ca) := by
  refine ⟨fun pins s σ H Q I hw => ?_⟩
  rw [evalPart_some]
  refine thn (ha.run pins s σ H _ I hw) fun u s1 ⟨x, H1, I1, r1, o, ho, q⟩ => ?_
  rcases ho with ⟨rfl, rfl⟩ | ⟨i, rfl, rfl⟩
  · cases r1
    exact ⟨none, H1, I1, .none, q⟩
  · obtain ⟨t, rfl⟩ := r1
    exact ⟨some i, H1, I1, .int i t, q⟩
theorem z_po0 : PO X none (tPt W C Wx (.con .none)) := by
  refine ⟨fun pins s σ H Q I hw => ?_⟩
  rw [evalPart_none]
  obtain ⟨F, A, env, st, re, h⟩ := hw
  obtain ⟨o, ho, q⟩ := h .non F H A [] (by simpa using Stp.refl st) re (rep_of_frep (by simp only [frep]))
  rcases ho with ⟨_, rfl⟩ | ⟨i, e, _⟩
  · exact wpAny_pure ⟨none, H, I, .none, q⟩
  · cases e
theorem bnd_of {d : D} {o : Option Int} (h : bnd d = some o) : (d = .non ∧ o = none) ∨ ∃ i, d = .int i ∧ o = some i := by
  cases d with
  | non => cases h; exact .inl ⟨rfl, rfl⟩
  | int i => cases h; exact .inr ⟨i, rfl, rfl⟩
  | _ => cases h
theorem freps_take {T : Tab} {F : Hp} : ∀ {l : List D} {vs : List V} (n : Nat), freps T F l vs → freps T F (l.take n) (vs.take n)
  | _, _, 0, _ => by simp [freps]
  | [], [], _ + 1, h => h
  | [], _ :: _, _ + 1, h => by simp [freps] at h
  | _ :: _, [], _ + 1, h => by simp [freps] at h
  | _ :: _, _ :: _, n + 1, h => by
    simp only [freps] at h
    simp only [List.take_succ_cons, freps]
    exact ⟨h.1, freps_take n h.2⟩
theorem freps_cut {T : Tab} {F : Hp} {l : List D} {vs : List V} {lo hi : Option Int} (h : freps T F l vs) : freps T F (cut l lo hi) (cutV vs lo hi) := by
  unfold cut cutV
  rw [freps_length h]
  exact freps_take _ (freps_drop _ h)
theorem isF_cut {l : List D} {lo hi : Option Int} (h : l.all isF = true) : (cut l lo hi).all isF = true := by
  unfold cut
  rw [List.all_eq_true] at h ⊢
  exact fun x hx => h x (List.mem_of_mem_drop (List.mem_of_mem_take hx))
theorem freps_rev {T : Tab} {F : Hp} : ∀ {l : List D} {vs : List V}, freps T F l vs → freps T F l.reverse vs.reverse
  | [], [], h => h
  | [], _ :: _, h => by simp [freps] at h
  | _ :: _, [], h => by simp [freps] at h
  | _ :: _, _ :: _, h => by
    simp only [freps] at h
    simp only [List.reverse_cons]
    exact freps_app (freps_rev h.2) (by simp only [freps]; exact ⟨h.1, trivial⟩)
theorem l_slice {σ : L2.St} {F H F2 H2 : Hp} {A A2 B2 B1 : List Addr} {env : Env} {Q : VK} {d1 : D} {lo hi : Option Int} {x : V} (g : Gd W k X) (p : Stp F H A F2 H2 (A2 ++ B2)) (re : repE W.T F2 H2 env σ A2) (r1 : rep W.T F2 H2 d1 x B1)
    (h : Aft W Wx σ (rV W) F H A ((slice d1 lo hi).lift env) Q) : rSlL X.K x lo hi H2 Q ∨ rSlA X.K x lo hi H2 Q ∨ rSlS x lo hi H2 Q := by
  unfold slice at h
  cases d1 with
  | tup l =>
    simp only [rep, frep] at r1
    obtain ⟨_, ad, vs, rfl, q1, fl⟩ := r1
    refine .inr (.inl ⟨ad, vs, rfl, by rw [g.K]; exact SqT.mono' p.st.sub q1, fun hw => ?_, fun hw q hq => ?_⟩)
    · refine fin_here h p re ?_
      simp only [frep]
      have e : cut l lo hi = l := by
        unfold cut
        rw [freps_length fl, hw.1, hw.2, ← freps_length fl]
        simp
      rw [e]
      exact ⟨ad, vs, rfl, q1, fl⟩
    · refine fin_newF h p re hq fun F3 mo e => ?_
      simp only [frep]
      exact ⟨q, _, rfl, SqT.of e, freps_mono mo _ _ (freps_cut fl)⟩
  | lst o l =>
    obtain ⟨ad, vs, C1, rfl, q1, _, fl⟩ := rep_lst p.st.sub r1
    simp only at h
    split at h
    · rename_i hf
      obtain ⟨_, f1⟩ := reps_isF hf fl
      exact .inl ⟨ad, vs, rfl, .of q1, fun q hq => fin_newL (B := []) h (by simpa using p.dropB) re (reps_of_freps (freps_cut f1)) hq⟩
    · exact h.elim
  | str z =>
    simp only [rep, frep] at r1
    obtain ⟨_, rfl⟩ := r1
    simp only at h
    split at h
    · rename_i hz
      exact .inr (.inr ⟨z, rfl, by rw [sizeLine_eq]; exact hz, fin_here h p re frep_str⟩)
    · exact h.elim
  | _ => exact h.elim
theorem z_slc {lo hi : Option Expr} {cl ch : CE} {p2 : Pos} (g : Gd W k X) (ha : PE X a (tE W C Wx ca)) (hl : PO X lo (tPt W C Wx cl)) (hh : PO X hi (tPt W C Wx ch)) : PE X (.Subscript a (.Slice lo hi none p2) pos) (tE W C Wx (.slc ca cl ch)) := by
  have hr : SlR X (fun x lo hi H Q => rSlL X.K x lo hi H Q ∨ rSlA X.K x lo hi H Q ∨ rSlS x lo hi H Q) := sl_list.or (sl_tupA.or sl_str)
  refine ⟨fun pins s σ H Q I h => (pe_slice hr ha hl hh).run pins s σ H Q I ?_⟩
  obtain ⟨F, A, env, st, re, h⟩ := h
  have h1 := moreE (W := W) (C := C) (Wx := Wx) (σ := σ) (ce := ca) (B0 := []) (f := fun x e => (evE W.N C cl e).bind fun l e => if (bnd l).isSome then (evE W.N C ch e).bind fun h e => (sliceD x l h).lift e else .stuck) (by simpa using Stp.refl st) re h
  refine tG_mono h1 fun x H1 ⟨d1, env1, F1, A1, B1, p1, _, _, re1, r1, h⟩ => ?_
  have h2 := moreE (W := W) (C := C) (Wx := Wx) (σ := σ) (ce := cl) (f := fun l e => if (bnd l).isSome then (evE W.N C ch e).bind fun h e => (sliceD d1 l h).lift e else .stuck) (by simpa using p1) re1 h
  refine tG_mono h2 fun y H2 ⟨d2, env2, F2, A2, B2, p2, mo2, k2, re2, r2, h⟩ => ?_
  have r1' := rep_mono mo2 d1 x B1 k2 r1
  have part : ∀ {d : D} {y : V} {F H : Hp} {B : List Addr} {o : Option Int}, rep W.T F H d y B → bnd d = some o → (y = .non ∧ o = none ∨ ∃ i, y = .int i ∧ o = some i) := fun {d y F H B o} r e => by
    rcases bnd_of e with ⟨rfl, rfl⟩ | ⟨i, rfl, rfl⟩
    · simp only [rep, frep] at r
      exact .inl ⟨r.2, rfl⟩
    · simp only [rep, frep] at r
      exact .inr ⟨i, r.2, rfl⟩
  cases hb : bnd d2 with
  | none => simp only [hb] at h; exact h.elim
  | some o =>
    simp only [hb, Option.isSome_some, if_true] at h
    refine ⟨o, part r2 hb, ?_⟩
    have h3 := moreE (W := W) (C := C) (Wx := Wx) (σ := σ) (ce := ch) (f := fun h e => (sliceD d1 d2 h).lift e) (A := A2) (B0 := B2 ++ B1) (by rw [← List.append_assoc]; exact p2) re2 h
    refine tG_mono h3 fun z H3 ⟨d3, env3, F3, A3, B3, p3, mo3, k3, re3, r3, h⟩ => ?_
    have r1'' := rep_mono mo3 d1 x B1 (fun a ha => k3 a (List.mem_append_right _ ha)) r1'
    cases hb3 : bnd d3 with
    | none => simp only [sliceD, hb, hb3] at h; exact h.elim
    | some o3 =>
      simp only [sliceD, hb, hb3] at h
      exact ⟨o3, part r3 hb3, l_slice g (by rw [List.append_assoc] at p3; exact p3) re3 r1'' h⟩
theorem z_rev {j : Nat} {p1 p2 p3 : Pos} (ha : PE X a (tE W C Wx ca)) : PE X (.Subscript a (.Slice none none (some (.UnaryOp .USub (.Constant (.int 1) j p1) p2)) p3) pos) (tE W C Wx (.rev ca)) := by
  refine ⟨fun pins s σ H Q I h => (pe_revL ha).run pins s σ H Q I ?_⟩
  refine tG_mono (oneU (ca := ca) rever h) fun x H1 ⟨F, A, d, env, F1, A1, B1, p, re, rv, h⟩ => ?_
  cases d with
  | lst o l =>
    obtain ⟨ad, vs, C1, rfl, q1, _, fl⟩ := rep_lst p.st.sub rv
    unfold rever at h
    simp only at h
    split at h
    · rename_i hf
      obtain ⟨_, f1⟩ := reps_isF hf fl
      exact ⟨ad, vs, rfl, .of q1, fun q hq => fin_newL (B := []) h (by simpa using p.dropB) re (reps_of_freps (freps_rev f1)) hq⟩
    · exact h.elim
  | _ => exact h.elim
end
end Z

namespace Z
open PySem PySem.Spec PyProof.Rows L2
def bltN : Blt → Str
  | .len => "len" | .abs => "abs" | .min => "min" | .max => "max" | .sum => "sum" | .all => "all" | .any => "any" | .int => "int" | .str => "str" | .list => "list" | .tuple => "tuple" | .gcd => "gcd" | .sorted => "sorted"
def bltV : Blt → Value
  | .len => .builtin "len" | .abs => .builtin "abs" | .min => .builtin "min" | .max => .builtin "max" | .sum => .builtin "sum" | .all => .builtin "all" | .any => .builtin "any" | .int => .type "int" | .str => .type "str" | .list => .type "list" | .tuple => .type "tuple" | .gcd => .builtin "math.gcd" | .sorted => .builtin "sorted"
theorem bltN_blt : ∀ b, b ≠ .gcd → bootBuiltins (bltN b) = some (bltV b) := by
  intro b h
  cases b <;> first | exact absurd rfl h | kernel_rfl
theorem bltN_name : ∀ b, bltN b ≠ "__name__" ∧ (bltN b == ("__debug__" : Str)) = false := by
  intro b
  cases b <;> decide +kernel
section
variable {W : Wd} {k : Nat} {X : Cx} {C : Calls} {Wx : WX} {a b c : Expr} {ca cb cc ce : CE} {es : List Expr} {pos : Pos}
theorem reps_ints {T : Tab} {F H : Hp} : ∀ {l : List D} {ns : List Int} {vs : List V} {B : List Addr}, intsOf l = some ns → reps T F H l vs B → vs = ns.map V.int
  | [], ns, vs, B, h, r => by
    cases h
    cases vs with
    | nil => rfl
    | cons _ _ => simp [reps] at r
  | d :: l, ns, [], B, h, r => by simp [reps] at r
  | d :: l, ns, v :: vs, B, h, r => by
    cases d with
    | int i =>
      simp only [intsOf] at h
      cases e : intsOf l with
      | none => rw [e] at h; cases h
      | some ms =>
        rw [e] at h
        cases h
        simp only [reps, rep, frep] at r
        obtain ⟨_, _, _, ⟨_, rfl⟩, r2⟩ := r
        rw [List.map_cons, reps_ints e r2]
    | _ => cases h
theorem reps_bls {T : Tab} {F H : Hp} : ∀ {l : List D} {ns : List Bool} {vs : List V} {B : List Addr}, blsOf l = some ns → reps T F H l vs B → vs = ns.map V.bl
  | [], ns, vs, B, h, r => by
    cases h
    cases vs with
    | nil => rfl
    | cons _ _ => simp [reps] at r
  | d :: l, ns, [], B, h, r => by simp [reps] at r
  | d :: l, ns, v :: vs, B, h, r => by
    cases d with
    | bl i =>
      simp only [blsOf] at h
      cases e : blsOf l with
      | none => rw [e] at h; cases h
      | some ms =>
        rw [e] at h
        cases h
        simp only [reps, rep, frep] at r
        obtain ⟨_, _, _, ⟨_, rfl⟩, r2⟩ := r
        rw [List.map_cons, reps_bls e r2]
    | _ => cases h
theorem reps_strs {T : Tab} {F H : Hp} : ∀ {l : List D} {ns : List Str} {vs : List V} {B : List Addr}, strsOf l = some ns → reps T F H l vs B → vs = ns.map V.str
  | [], ns, vs, B, h, r => by
    cases h
    cases vs with
    | nil => rfl
    | cons _ _ => simp [reps] at r
  | d :: l, ns, [], B, h, r => by simp [reps] at r
  | d :: l, ns, v :: vs, B, h, r => by
    cases d with
    | str i =>
      simp only [strsOf] at h
      cases e : strsOf l with
      | none => rw [e] at h; cases h
      | some ms =>
        rw [e] at h
        cases h
        simp only [reps, rep, frep] at r
        obtain ⟨_, _, _, ⟨_, rfl⟩, r2⟩ := r
        rw [List.map_cons, reps_strs e r2]
    | _ => cases h
theorem reps_one {T : Tab} {F H : Hp} {d : D} {vs : List V} {B : List Addr} (r : reps T F H [d] vs B) : ∃ v, vs = [v] ∧ rep T F H d v B := by
  cases vs with
  | nil => simp [reps] at r
  | cons v t =>
    simp only [reps] at r
    obtain ⟨B1, C1, rfl, r1, r2⟩ := r
    cases t with
    | nil => simp only [reps] at r2; subst r2; exact ⟨v, rfl, by simpa using r1⟩
    | cons _ _ => simp [reps] at r2
theorem reps_two {T : Tab} {F H : Hp} {d e : D} {vs : List V} {B : List Addr} (r : reps T F H [d, e] vs B) : ∃ v w B1 B2, vs = [v, w] ∧ B = B1 ++ B2 ∧ rep T F H d v B1 ∧ rep T F H e w B2 := by
  cases vs with
  | nil => simp [reps] at r
  | cons v t =>
    simp only [reps] at r
    obtain ⟨B1, C1, rfl, r1, r2⟩ := r
    cases t with
    | nil => simp [reps] at r2
    | cons w t =>
      simp only [reps] at r2
      obtain ⟨B2, C2, rfl, r2, r3⟩ := r2
      cases t with
      | nil => simp only [reps] at r3; subst r3; exact ⟨v, w, B1, B2, rfl, by simp, r1, r2⟩
      | cons _ _ => simp [reps] at r3
theorem frzs_length (l : List D) : (frzs l).length = l.length := by rw [frzs_map, List.length_map]
variable {σ : L2.St} {F H F2 H2 : Hp} {A A2 B2 B1 : List Addr} {env : Env} {Q : VK} {pins : List (Addr × Obj)} {s : Shared} {v : Value} {x : V}
/-- len -/
theorem l_len {d : D} (g : Gd W k X) (ok : Ok W C k) (tk : Takes X Wx) (I : Inv X pins σ H2 s) (rx : RelV x v) (p : Stp F H A F2 H2 (A2 ++ B2)) (re : repE W.T F2 H2 env σ A2) (r1 : rep W.T F2 H2 d x B1)
    (h : Aft W Wx σ (rV W) F H A ((lenD C (frz d)).lift env) Q) : wpAny (model X.prog X.w) X.A (call (.builtin "len") [v]) (EP X pins σ Q) X.xe s := by
  have sv : Vals [x] [v] := .cons rx .nil
  cases d with
  | str z =>
    simp only [rep, frep] at r1
    obtain ⟨_, rfl⟩ := r1
    simp only [frz, lenD] at h
    split at h
    · rename_i hz
      exact call_len_str pins s σ H2 _ _ Q I sv ⟨z, rfl, by rw [sizeLine_eq]; exact hz, fin_here h p re frep_int⟩
    · exact h.elim
  | tup l =>
    simp only [rep, frep] at r1
    obtain ⟨_, ad, vs, rfl, q1, fl⟩ := r1
    simp only [frz, lenD] at h
    exact call_len_seq pins s σ H2 _ _ Q I sv ⟨ad, vs, rfl, .inr (by rw [g.K]; exact SqT.mono' p.st.sub q1), by rw [← freps_length fl]; exact fin_here h p re frep_int⟩
  | lst o l =>
    obtain ⟨ad, vs, C1, rfl, q1, _, fl⟩ := rep_lst p.st.sub r1
    have h : Aft W Wx σ (rV W) F H A (.ok (.int l.length) env) Q := by
      cases o with
      | true => simp only [frz, lenD, frzs_length] at h; exact h
      | false => simp only [frz, lenD] at h; exact h
    exact call_len_seq pins s σ H2 _ _ Q I sv ⟨ad, vs, rfl, .inl (.of q1), by rw [← reps_length fl]; exact fin_here h p re frep_int⟩
  | scr l =>
    simp only [rep, frep] at r1
    obtain ⟨_, ad, rfl, q1, _⟩ := r1
    simp only [frz, lenD] at h
    exact call_len_seq pins s σ H2 _ _ Q I sv ⟨ad, _, rfl, .inl (by rw [g.K]; exact SqL.mono' p.st.sub q1), by rw [List.length_map]; exact fin_here h p re frep_int⟩
  | ins c l =>
    simp only [frz, lenD] at h
    have fv : frep W.T F2 (.ins c l) x := ((rep_isF rfl).mp r1).2
    obtain ⟨fd, hP, _⟩ := ok.c.no (mfid c mLen) [.ins c l] (fun z => by rw [z] at h; exact h)
    have kc := ok.z.ok c (ok.z.of c mLen fd hP)
    obtain ⟨me, _⟩ := kc.meth mLen fd hP
    obtain ⟨a, dx, vs, rfl, q1, _, _⟩ : ∃ a dx vs, x = .ref a ∧ F2 a = some (.ins (W.T.cad c) dx ((W.T.fl c).zip vs)) ∧ (c ∈ W.T.cs ∧ vs.length = (W.T.fl c).length) ∧ freps W.T F2 l vs := by simpa only [frep] using fv
    cases rx
    obtain ⟨od, J⟩ := ins_at g I (p.st.sub _ _ q1)
    obtain ⟨mm, hF⟩ := I.fr
    have hK := I.ok.mod.kin
    rw [g.K] at hK
    have at1 := me.at_
    rw [ok.z.lenm] at at1
    refine PySem.W.len_K hF hK J at1 me.fn ?_
    have h2 : Aft W Wx σ (rV W) F H A ((C (mfid c mLen) [.ins c l]).rs.lift env) (fun v H' => (∃ i, v = .int i ∧ 0 ≤ i ∧ i < 2 ^ 62) ∧ Q v H') := by
      split at h
      · rename_i i hC
        rw [hC]
        split at h
        · rename_i hi
          simp only [CR.rs, frz]
          intro v F' H' A' B p r rv
          have e := rep_int rv
          exact ⟨⟨i, e, hi⟩, h v F' H' A' B p r rv⟩
        · exact h.elim
      · rename_i xx hC
        rw [hC]
        exact h
      · exact h.elim
    refine wpAny_mono (l_rs g ok.c ok.d tk (A' := X.A.in1) (Room.in1 (g.room.mono (by omega))) rfl I (vs := [V.ref a]) (.cons rfl .nil) p re (by simp only [freps]; exact ⟨fv, trivial⟩) h2) (fun r s' z => ?_) fun _ _ z => z
    obtain ⟨v', H', I', rv', ⟨i, rfl, hi0, hi1⟩, q⟩ := z
    obtain ⟨t, rfl⟩ := rv'
    exact ⟨⟨hi0, by omega⟩, ⟨.int i, H', I'.tok _, ⟨_, rfl⟩, q⟩⟩
  | _ => exact h.elim
theorem l_str {d : D} (g : Gd W k X) (ok : Ok W C k) (tk : Takes X Wx) (I : Inv X pins σ H2 s) (rx : RelV x v) (p : Stp F H A F2 H2 (A2 ++ B2)) (re : repE W.T F2 H2 env σ A2) (r1 : rep W.T F2 H2 d x B1)
    (h : Aft W Wx σ (rV W) F H A ((strD C d).lift env) Q) : wpAny (model X.prog X.w) X.A (call (.type "str") [v]) (EP X pins σ Q) X.xe s := by
  have sv : Vals [x] [v] := .cons rx .nil
  cases d with
  | int i =>
    cases rep_int r1
    simp only [strD] at h
    split at h
    · rename_i hz
      exact call_str_int pins s σ H2 _ _ Q I sv ⟨i, rfl, hz, fin_here h p re frep_str⟩
    · exact h.elim
  | ins c l =>
    simp only [strD] at h
    have fv : frep W.T F2 (.ins c l) x := ((rep_isF rfl).mp r1).2
    obtain ⟨fd, hP, _⟩ := ok.c.no (mfid c mStr) [.ins c l] (fun z => by rw [z] at h; exact h)
    have kc := ok.z.ok c (ok.z.of c mStr fd hP)
    obtain ⟨me, _⟩ := kc.meth mStr fd hP
    obtain ⟨a, dx, vs, rfl, q1, _, _⟩ : ∃ a dx vs, x = .ref a ∧ F2 a = some (.ins (W.T.cad c) dx ((W.T.fl c).zip vs)) ∧ (c ∈ W.T.cs ∧ vs.length = (W.T.fl c).length) ∧ freps W.T F2 l vs := by simpa only [frep] using fv
    cases rx
    obtain ⟨od, J⟩ := ins_at g I (p.st.sub _ _ q1)
    have hK := I.kIn
    rw [g.K] at hK
    have at1 := me.at_
    rw [ok.z.str] at at1
    have hr : Room k X.A.in1.in1 := Room.in1 (Room.in1 (g.room.mono (j := k + 2) (by omega)))
    refine PySem.W.kso_call hr.units0 hK J at1 me.fn ?_
    have h2 : Aft W Wx σ (rV W) F H A ((C (mfid c mStr) [.ins c l]).rs.lift env) (fun v H' => (∃ i, v = .str i) ∧ Q v H') := by
      split at h
      · rename_i i hC
        rw [hC]
        simp only [CR.rs, frz]
        intro v F' H' A' B p r rv
        have rv' := rv
        simp only [rep, frep] at rv'
        exact ⟨⟨i, rv'.2⟩, h v F' H' A' B p r rv⟩
      · rename_i xx hC
        rw [hC]
        exact h
      · exact h.elim
    refine wpAny_mono (l_rs g ok.c ok.d tk (A' := X.A.in1.in1) hr rfl I (vs := [V.ref a]) (.cons rfl .nil) p re (by simp only [freps]; exact ⟨fv, trivial⟩) h2) (fun r s' z => ?_) fun _ _ z => z
    obtain ⟨v', H', I', rv', ⟨i, rfl⟩, q⟩ := z
    obtain ⟨t, rfl⟩ := rv'
    exact ⟨.str i, H', I', ⟨t, rfl⟩, q⟩
  | str i =>
    simp only [rep, frep] at r1
    obtain ⟨_, rfl⟩ := r1
    exact SkE.call_str_str pins s σ H2 _ _ Q I sv ⟨i, rfl, fin_here h p re frep_str⟩
  | _ => exact h.elim
/-- a built-in function of one argument -/
theorem l_blt1 {b : Blt} {d : D} {B3 : List Addr} (g : Gd W k X) (ok : Ok W C k) (tk : Takes X Wx) (hb : b ≠ .sorted) (I : Inv X pins σ H2 s) (rx : RelV x v) (p : Stp F H A F2 H2 (A2 ++ B1)) (re : repE W.T F2 H2 env σ A2) (r1 : rep W.T F2 H2 d x B1)
    (h : Aft W Wx σ (rV W) F H A ((blt1 C b d).lift env) Q) : wpAny (model X.prog X.w) X.A (call (bltV b) [v]) (EP X pins σ Q) X.xe s := by
  have sv : Vals [x] [v] := .cons rx .nil
  cases b with
  | len =>
    refine l_len g ok tk I rx p re r1 ?_
    cases d with
    | lst o l => cases o with
      | true => simpa only [blt1, frz, lenD, frzs_length] using h
      | false => exact h
    | _ => exact h
  | str => exact l_str g ok tk I rx p re r1 h
  | abs => cases d with
    | int i =>
      cases rep_int r1
      exact call_abs pins s σ H2 _ _ Q I sv ⟨i, rfl, fin_here h p re frep_int⟩
    | _ => exact h.elim
  | sum => cases d with
    | lst o l =>
      obtain ⟨ad, vs, C1, rfl, q1, _, fl⟩ := rep_lst p.st.sub r1
      simp only [blt1, sumD] at h
      cases e : intsOf l with
      | none => simp only [e] at h; exact h.elim
      | some ns =>
        simp only [e] at h
        cases reps_ints e fl
        exact cr_sum g.calm pins s σ H2 _ _ Q I sv ⟨ad, ns, rfl, .of q1, fin_here h p re frep_int⟩
    | _ => exact h.elim
  | all => cases d with
    | lst o l =>
      obtain ⟨ad, vs, C1, rfl, q1, _, fl⟩ := rep_lst p.st.sub r1
      simp only [blt1, allD] at h
      cases e : blsOf l with
      | none => simp only [e] at h; exact h.elim
      | some ns =>
        simp only [e] at h
        cases reps_bls e fl
        exact cr_all g.calm pins s σ H2 _ _ Q I sv ⟨ad, ns, rfl, .of q1, fin_here h p re frep_bl⟩
    | _ => exact h.elim
  | any => cases d with
    | lst o l =>
      obtain ⟨ad, vs, C1, rfl, q1, _, fl⟩ := rep_lst p.st.sub r1
      simp only [blt1, anyD] at h
      cases e : blsOf l with
      | none => simp only [e] at h; exact h.elim
      | some ns =>
        simp only [e] at h
        cases reps_bls e fl
        exact cr_any g.calm pins s σ H2 _ _ Q I sv ⟨ad, ns, rfl, .of q1, fin_here h p re frep_bl⟩
    | _ => exact h.elim
  | int => cases d with
    | int i =>
      cases rep_int r1
      exact call_int1 pins s σ H2 _ _ Q I sv (.inl ⟨i, rfl, fin_here h p re frep_int⟩)
    | bl i =>
      simp only [rep, frep] at r1
      obtain ⟨_, rfl⟩ := r1
      exact call_int1 pins s σ H2 _ _ Q I sv (.inr ⟨i, rfl, fin_here h p re frep_int⟩)
    | str z =>
      simp only [rep, frep] at r1
      obtain ⟨_, rfl⟩ := r1
      simp only [blt1, toInt] at h
      cases e : PySem.intText? z with
      | none => simp only [e] at h; exact h.elim
      | some n =>
        simp only [e] at h
        split at h
        · rename_i hz
          exact call_int_str pins s σ H2 _ _ Q I sv ⟨z, n, rfl, e, hz, fin_here h p re frep_int⟩
        · exact h.elim
    | _ => exact h.elim
  | list => cases d with
    | tup l =>
      simp only [rep, frep] at r1
      obtain ⟨_, ad, vs, rfl, q1, fl⟩ := r1
      exact call_list_of pins s σ H2 _ _ Q I sv ⟨ad, vs, rfl, .inr (by rw [g.K]; exact SqT.mono' p.st.sub q1), fun q hq => fin_newL (B := []) h (by simpa using p.dropB) re (reps_of_freps fl) hq⟩
    | lst o l =>
      obtain ⟨ad, vs, C1, rfl, q1, _, fl⟩ := rep_lst p.st.sub r1
      simp only [blt1, listD] at h
      split at h
      · rename_i hf
        obtain ⟨_, f1⟩ := reps_isF hf fl
        exact call_list_of pins s σ H2 _ _ Q I sv ⟨ad, vs, rfl, .inl (.of q1), fun q hq => fin_newL (B := []) h (by simpa using p.dropB) re (reps_of_freps f1) hq⟩
      · exact h.elim
    | _ => exact h.elim
  | tuple => cases d with
    | tup l =>
      simp only [rep, frep] at r1
      obtain ⟨_, ad, vs, rfl, q1, fl⟩ := r1
      refine call_tuple_of pins s σ H2 _ _ Q I sv ⟨ad, vs, rfl, .inr ⟨by rw [g.K]; exact SqT.mono' p.st.sub q1, fin_here h p re ?_⟩⟩
      simp only [frep]
      exact ⟨ad, vs, rfl, q1, fl⟩
    | lst o l =>
      obtain ⟨ad, vs, C1, rfl, q1, sl, fl⟩ := rep_lst p.st.sub r1
      have pC : Stp F H A F2 H2 (A2 ++ C1) := p.sel ((List.Sublist.refl _).append sl)
      refine call_tuple_of pins s σ H2 _ _ Q I sv ⟨ad, vs, rfl, .inl ⟨.of q1, fun q hq => ?_⟩⟩
      refine fin_newF (B := []) h (by simpa using pC.frozen) (repE_mono (frzH_old pC.st) env σ A2 (fun _ _ => rfl) re) hq fun F3 mo e => ?_
      simp only [frep]
      exact ⟨q, vs, rfl, SqT.of e, freps_mono mo _ _ (frzs_here pC.st fl)⟩
    | _ => exact h.elim
  | sorted => exact absurd rfl hb
  | _ => exact h.elim
theorem l_blt2 {b : Blt} {d e : D} {x y : V} {v u : Value} {B3 : List Addr} (g : Gd W k X) (I : Inv X pins σ H2 s) (rx : RelV x v) (ry : RelV y u) (p : Stp F H A F2 H2 (A2 ++ B1)) (re : repE W.T F2 H2 env σ A2) (r1 : rep W.T F2 H2 d x B2) (r2 : rep W.T F2 H2 e y B3)
    (h : Aft W Wx σ (rV W) F H A ((blt2 b d e).lift env) Q) : wpAny (model X.prog X.w) X.A (call (bltV b) [v, u]) (EP X pins σ Q) X.xe s := by
  have sv : Vals [x, y] [v, u] := .cons rx (.cons ry .nil)
  cases d with
  | int i => cases e with
    | int j =>
      cases rep_int r1
      cases rep_int r2
      cases b with
      | min => exact call_min2 g.calm pins s σ H2 _ _ Q I sv ⟨i, j, rfl, fin_here h p re frep_int⟩
      | max => exact call_max2 g.calm pins s σ H2 _ _ Q I sv ⟨i, j, rfl, fin_here h p re frep_int⟩
      | gcd => exact cr_gcd pins s σ H2 _ _ Q I sv ⟨i, j, rfl, fin_here h p re frep_int⟩
      | _ => exact h.elim
    | _ => exact h.elim
  | _ => exact h.elim
theorem l_blt {b : Blt} {ds : List D} {vs : List V} {us : List Value} (g : Gd W k X) (ok : Ok W C k) (tk : Takes X Wx) (hb : b ≠ .sorted) (I : Inv X pins σ H2 s) (rv : Vals vs us) (p : Stp F H A F2 H2 (A2 ++ B1)) (re : repE W.T F2 H2 env σ A2) (r2 : reps W.T F2 H2 ds vs B1)
    (h : Aft W Wx σ (rV W) F H A ((bltD C b ds).lift env) Q) : wpAny (model X.prog X.w) X.A (call (bltV b) us) (EP X pins σ Q) X.xe s := by
  unfold bltD at h
  split at h
  · obtain ⟨x, rfl, r⟩ := reps_one r2
    obtain ⟨u, rfl, ru⟩ := vals1 rv
    exact l_blt1 (B3 := []) g ok tk hb I ru p re r h
  · obtain ⟨x, y, B, C, rfl, _, q1, q2⟩ := reps_two r2
    obtain ⟨u, w, rfl, ru, rw⟩ := vals2 rv
    exact l_blt2 (B2 := B) (B3 := C) g I ru rw p re q1 q2 h
  · exact h.elim
theorem z_blt {b : Blt} {p : Pos} {e : Expr} (g : Gd W k X) (ok : Ok W C k) (tk : Takes X Wx) (hb : b ≠ .sorted) (hg : Gl X (bltN b)) (hm : W.mg (bltN b) = if b = .gcd then some (.builtin "math.gcd") else none) (hv : b ≠ .len ∨ ∀ i, ce ≠ .cons (.var i) .nil) (hn : nos (e :: es) = true) (ha : PA X (e :: es) (tK W C Wx ce)) :
    PE X (.Call (.Name (bltN b) p) (e :: es) [] pos) (tE W C Wx (.blt b ce)) := by
  refine ⟨fun pins s σ H Q I h => ?_⟩
  have ev : ∀ env, evE W.N C (.blt b ce) env = (evK W.N C ce env).bind fun ds e => (bltD C b ds).lift e := fun env => by
    rcases hv with hv | hv
    · cases b <;> first | exact absurd rfl hv | rfl
    · cases b with
      | len => cases ce with
        | cons a es => cases a with
          | var i => cases es with
            | nil => exact absurd rfl (hv i)
            | _ => rfl
          | _ => rfl
        | _ => rfl
      | _ => rfl
  have h2 := oneK (W := W) (C := C) (Wx := Wx) (ce := ce) (σ := σ) (H := H) (Q := Q) (rq := rV W) (f := fun ds e => (bltD C b ds).lift e) (by
    obtain ⟨F, A, env, st, re, h⟩ := h
    exact ⟨F, A, env, st, re, by show Aft W Wx σ (rV W) F H A ((evK W.N C ce env).bind fun ds e => (bltD C b ds).lift e) Q; rw [← ev]; exact h⟩)
  have fin : ∀ us s1, AP X pins σ (fun vs H1 => ∃ F A ds env F1 A1 B1, ds.length = cLen ce ∧ Stp F H A F1 H1 (A1 ++ B1) ∧ repE W.T F1 H1 env σ A1 ∧ reps W.T F1 H1 ds vs B1 ∧ Aft W Wx σ (rV W) F H A ((bltD C b ds).lift env) Q) us s1 → wpAny (model X.prog X.w) X.A (call (bltV b) us) (EP X pins σ Q) X.xe s1 := by
    intro us s1 ⟨vs, H1, I1, rv, F, A, ds, env, F1, A1, B1, _, p, re, r2, h⟩
    exact l_blt g ok tk hb I1 rv p re r2 h
  refine wpAny_Call_Name_kw ?_
  have run := thn (ha.run pos pins s σ H _ I h2) fin
  by_cases hq : b = .gcd
  · subst hq
    rw [if_pos rfl, ← g.mg] at hm
    exact ld_glob I hg hm (callWith_builtin1 run (starEach_nos hn) (starEach_any (nos_tl hn))) (bltN_name _).2
  · rw [if_neg hq, ← g.mg] at hm
    refine ld_blt I hg hm (bltN_blt b hq) ?_ (bltN_name b).1 (bltN_name b).2
    cases b with
    | gcd => exact absurd rfl hq
    | int => exact callWith_type1 run (starEach_nos hn) (starEach_any (nos_tl hn))
    | str => exact callWith_type1 run (starEach_nos hn) (starEach_any (nos_tl hn))
    | list => exact callWith_type1 run (starEach_nos hn) (starEach_any (nos_tl hn))
    | tuple => exact callWith_type1 run (starEach_nos hn) (starEach_any (nos_tl hn))
    | _ => exact callWith_builtin1 run (starEach_nos hn) (starEach_any (nos_tl hn))
/-- len of a name: nothing is frozen -/
theorem z_lenV {i : Nat} {x : Str} {p px : Pos} (g : Gd W k X) (ok : Ok W C k) (tk : Takes X Wx) (hg : Gl X "len") (hm : W.mg "len" = none) (hN : X.N[i]? = some x) (hv : Vis X.env.scope x) (hd : (x == ("__debug__" : Str)) = false) (hcd : (x == ("__classdict__" : Str)) = false) :
    PE X (.Call (.Name "len" p) [.Name x px] [] pos) (tE W C Wx (.blt .len (.cons (.var i) .nil))) := by
  refine ⟨fun pins s σ H Q I h => ?_⟩
  obtain ⟨F, A, env, st, re, h⟩ := h
  rw [show evE W.N C (.blt .len (.cons (.var i) .nil)) env = (match rd env i with
    | some d => if isO d then .stuck else (lenD C (frz d)).lift env
    | none => .stuck) from rfl] at h
  cases hr : rd env i with
  | none => simp only [hr] at h; exact h.elim
  | some d =>
    simp only [hr] at h
    cases ho : isO d with
    | true => rw [ho, if_pos rfl] at h; exact h.elim
    | false =>
      rw [ho, if_neg (by simp)] at h
      have hi : i < env.length := by
        unfold rd at hr
        cases e : env[i]? with
        | none => rw [e] at hr; cases hr
        | some _ => exact (List.getElem?_eq_some_iff.mp e).1
      obtain ⟨_, B, _, _, gv, _⟩ := repE_slot re hi
      obtain ⟨v, hv', rs⟩ := gv d hr
      have r1 := (repS_of ho).mp rs
      refine wpAny_Call_Name_kw ?_
      rw [← g.mg] at hm
      refine ld_blt I hg hm (bltN_blt .len (by decide)) ?_ (by decide) (by decide)
      refine callWith_builtin1 (thn ((pa_cons (pe_var hN hv hd hcd) pa_nil rfl).run pos pins s σ H (fun vs H1 => vs = [v] ∧ H1 = H) I ⟨v, hv', rfl, rfl⟩) fun us s1 ⟨vs, H1, I1, rv, e1, e2⟩ => ?_) rfl rfl
      subst e1 e2
      obtain ⟨u, rfl, ru⟩ := vals1 rv
      exact l_len g ok tk I1 ru (B2 := []) (by simpa using Stp.refl st) re r1 h
end
end Z

namespace Z
open PySem PySem.Spec PyProof.Rows L2
def smtN : Smt → Str
  | .zfill => "zfill" | .join => "join" | .partition => "partition" | .startswith => "startswith" | .strip => "strip" | .split => "split" | .lower => "lower"
def smtI : Smt → String
  | .zfill => "str.zfill" | .join => "str.join" | .partition => "str.partition" | .startswith => "str.startswith" | .strip => "str.strip" | .split => "str.split" | .lower => "str.lower"
theorem smt_slot : ∀ m, Slot "str" (smtN m) (smtI m) := by
  intro m
  cases m
  · exact F.slot_str_zfill
  · exact F.slot_str_join
  · exact F.slot_str_partition
  · exact F.slot_str_startswith
  · exact F.slot_str_strip
  · exact F.slot_str_split
  · exact F.slot_str_lower
theorem smt_ty : ∀ m, typeOf (.builtin (smtI m)) = pure (.type "method_descriptor") := by
  intro m
  cases m <;> first | rfl | kernel_rfl
section
variable {W : Wd} {k : Nat} {X : Cx} {C : Calls} {Wx : WX} {a b c o : Expr} {ca cb cc ce : CE} {es : List Expr} {pos apos cpos : Pos}
theorem few_ok {es : List Expr} {env : PySem.Env} {cpos : Pos} (hn : nos es = true) (hl : es.length < 30) :
    ((backTo cpos (starEach es env)).all (fun x => !x.1) && (backToKw cpos (keywordEach [] env)).all (fun x => x.1.isSome)
      && decide (es.length + ([] : List Keyword).length + (if ([] : List Keyword).isEmpty then 0 else 1) < 30)) = true := by
  rw [starEach_all hn]
  show (true && true && decide (es.length + 0 + 0 < 30)) = true
  simpa using hl
/-- a method of a built-in type -/
theorem z_bmR {T id : String} {name : Str} {to : TE} {ta : TA} {σ : L2.St} {H : Hp} {pins : List (Addr × Obj)} {s : Shared} {Q : VK} {R : V → List V → Hp → Prop} (pa : PlainAttrs T) (slot : Slot T name id) (hty : typeOf (.builtin id) = pure (.type "method_descriptor")) (ho : PE X o to) (ha : PA X es ta)
    (hb : nosup o = true) (hn : nos es = true) (hl : es.length < 30) (hline : (apos.endLine == cpos.line) = true) (h0 : es = [] → ∀ σ H Q, ta σ H Q → Q [] H) (I : Inv X pins σ H s) (h : to σ H fun x H1 => tyV X.K T x H1 ∧ ta σ H1 fun xs H2 => R x xs H2)
    (hm : ∀ x xs v us H2 s2, Inv X pins σ H2 s2 → RelV x v → Vals xs us → R x xs H2 → wpAny (model X.prog X.w) X.A (call (.builtin id) (v :: us)) (EP X pins σ Q) X.xe s2) :
    wpAny (model X.prog X.w) X.A (eval (.Call (.Attribute o name apos) es [] cpos) X.env) (EP X pins σ Q) X.xe s := by
  refine wpAny_Call_method_late (attributeBase_nosup hb) (few_ok hn hl) hline rfl (thn (ho.run pins s σ H _ I h) fun v s1 ⟨x, H1, I1, r1, ty, q1⟩ => ?_)
  obtain ⟨h1, h2⟩ := tyV_is I1 r1 ty
  refine ⟨T, id, pa, slot, hty, h1, h2, ?_⟩
  cases es with
  | nil => exact Calls.callWith_builtin rfl (PySem.evalArgs_none (hm x [] v [] H1 s1 I1 r1 .nil (h0 rfl σ H1 _ q1)))
  | cons e es =>
    have hA := ha.run cpos pins s1 σ H1 _ I1 q1
    rw [starEach_nos hn] at hA ⊢
    refine Calls.callWith_builtin (by show (false || (backTo cpos (starEach es X.env)).any (·.1)) = false; rw [starEach_any (nos_tl hn)]; rfl) (Calls.evalArgs_plain ?_)
    exact thn hA fun us s2 ⟨vs, H2, I2, r2, q2⟩ => hm x vs v us H2 s2 I2 r1 r2 q2
variable {σ : L2.St} {F H F2 H2 : Hp} {A A2 B2 B1 : List Addr} {env : Env} {Q : VK} {pins : List (Addr × Obj)} {s : Shared} {v u : Value} {x y : V}
theorem frep_strs {T : Tab} {F : Hp} : ∀ {xs : List Str}, freps T F (xs.map .str) (xs.map V.str)
  | [] => by simp [freps]
  | x :: xs => by
    simp only [List.map_cons, freps]
    exact ⟨frep_str, frep_strs⟩
theorem l_smt1 {m : Smt} {z : Str} {d : D} (g : Gd W k X) (I : Inv X pins σ H2 s) (rx : RelV (.str z) v) (ry : RelV y u) (p : Stp F H A F2 H2 (A2 ++ B1)) (re : repE W.T F2 H2 env σ A2) (r1 : rep W.T F2 H2 d y B2)
    (h : Aft W Wx σ (rV W) F H A ((smt1 m z d).lift env) Q) : wpAny (model X.prog X.w) X.A (call (.builtin (smtI m)) [v, u]) (EP X pins σ Q) X.xe s := by
  have sv : Vals [y] [u] := .cons ry .nil
  cases d with
  | int n =>
    cases rep_int r1
    cases m with
    | zfill =>
      simp only [smt1] at h
      split at h
      · rename_i hp
        exact mt_zfill pins s σ H2 _ _ v _ Q I rx sv ⟨z, n, rfl, rfl, hp, fin_here h p re frep_str⟩
      · exact h.elim
    | _ => exact h.elim
  | lst o l =>
    cases m with
    | join =>
      obtain ⟨ad, vs, C1, rfl, q1, _, fl⟩ := rep_lst p.st.sub r1
      simp only [smt1] at h
      cases e : strsOf l with
      | none => simp only [e] at h; exact h.elim
      | some xs =>
        simp only [e] at h
        cases reps_strs e fl
        split at h
        · rename_i hz
          exact mt_join pins s σ H2 _ _ v _ Q I rx sv ⟨z, ad, xs, rfl, rfl, .inl (.of q1), hz, fin_here h p re frep_str⟩
        · exact h.elim
    | _ => exact h.elim
  | str b =>
    simp only [rep, frep] at r1
    obtain ⟨_, rfl⟩ := r1
    cases m with
    | partition =>
      simp only [smt1] at h
      split at h
      · rename_i hz
        refine mt_partition pins s σ H2 _ _ v _ Q I rx sv ⟨z, b, rfl, rfl, hz.1, by rw [sizeLine_eq]; exact hz.2, fun q hq => fin_newF h p re hq fun F3 mo e => ?_⟩
        simp only [frep]
        refine ⟨q, _, rfl, SqT.of e, ?_⟩
        simp only [freps, frep]
        exact ⟨trivial, trivial, trivial, trivial⟩
      · exact h.elim
    | startswith => exact mt_startswith pins s σ H2 _ _ v _ Q I rx sv ⟨z, b, rfl, rfl, fin_here h p re frep_bl⟩
    | split =>
      simp only [smt1] at h
      split at h
      · rename_i hz
        refine mt_split pins s σ H2 _ _ v _ Q I rx sv ⟨z, b, rfl, rfl, hz.1, by rw [sizeLine_eq]; exact hz.2, fun q hq => ?_⟩
        exact fin_newL (B := []) h (by simpa using p.dropB) re (reps_of_freps frep_strs) hq
      · exact h.elim
    | _ => exact h.elim
  | _ => exact h.elim
theorem z_smt {m : Smt} (g : Gd W k X) (ho : PE X o (tE W C Wx ca)) (ha : PA X es (tK W C Wx ce)) (hb : nosup o = true) (hn : nos es = true) (hl : es.length < 30) (hline : (apos.endLine == cpos.line) = true) (h0 : es = [] → ce = .nil) :
    PE X (.Call (.Attribute o (smtN m) apos) es [] cpos) (tE W C Wx (.smt m ca ce)) := by
  refine ⟨fun pins s σ H Q I h => ?_⟩
  obtain ⟨F, A, env, st, re, h⟩ := h
  have h1 := moreE (W := W) (C := C) (Wx := Wx) (σ := σ) (ce := ca) (B0 := []) (f := fun x e => if isStr x then (evK W.N C ce e).bind fun ds e => (smtD m x ds).lift e else .stuck) (by simpa using Stp.refl st) re h
  refine z_bmR (R := fun x vs H2 => ∃ z, x = .str z ∧ ∃ ds env1 F1 A1 B1, Stp F H A F1 H2 (A1 ++ B1) ∧ repE W.T F1 H2 env1 σ A1 ∧ reps W.T F1 H2 ds vs B1 ∧ Aft W Wx σ (rV W) F H A ((smtD m (.str z) ds).lift env1) Q) PySem.F.plainAttrs_str (smt_slot m) (smt_ty m) ho ha hb hn hl hline ?_ I (tG_mono h1 fun x H1 ⟨d, env1, F1, A1, B1, p1, _, _, re1, r1, h⟩ => ?_) ?_
  · intro e σ H Q ⟨F, A, env, st, re, h⟩
    cases h0 e
    exact h [] F H A [] (by simpa using Stp.refl st) re (by simp [reps])
  · cases d with
    | str z =>
      simp only [rep, frep] at r1
      obtain ⟨_, rfl⟩ := r1
      refine ⟨rfl, F1, A1, env1, p1.dropB.dropB.st, re1, ?_⟩
      have h : Aft W Wx σ (rV W) F H A ((evK W.N C ce env1).bind fun ds e => (smtD m (.str z) ds).lift e) Q := h
      have z2 := aft_more (W := W) (Wx := Wx) (σ := σ) (rp := rL W) (B1 := []) (by simpa using p1.dropB.dropB) h
      revert z2
      cases evK W.N C ce env1 with
      | exn x env => exact id
      | stuck => exact id
      | ok ds env2 =>
        intro z2 vs F2 H2 A2 B2 p2 r2 rv2
        obtain ⟨ds, env2, F3, A3, B3, p3, mo, _, r3, rv3, h3⟩ := z2 vs F2 H2 A2 B2 p2 r2 rv2
        exact ⟨z, rfl, ds, env2, F3, A3, B3, by simpa using p3, r3, rv3, h3⟩
    | _ => exact h.elim
  · intro x vs v us H2 s2 I2 rx rvs ⟨z, e, ds, env1, F1, A1, B1, p, re1, rds, h⟩
    subst e
    simp only [smtD] at h
    match ds, rds, h with
    | [], rds, h =>
      cases vs with
      | nil =>
        cases rvs
        cases m with
        | strip =>
          simp only [smt0] at h
          split at h
          · rename_i hz
            exact mt_strip pins s2 σ H2 _ _ v _ Q I2 rx .nil ⟨z, rfl, rfl, by rw [sizeLine_eq]; exact hz, fin_here h p re1 frep_str⟩
          · exact h.elim
        | _ => exact h.elim
      | cons _ _ => simp [reps] at rds
    | [d], rds, h =>
      obtain ⟨y, rfl, r⟩ := reps_one rds
      obtain ⟨w, rfl, rw⟩ := vals1 rvs
      exact l_smt1 g I2 rx rw p re1 r h
    | _ :: _ :: _, _, h => exact h.elim
end
end Z

namespace Z
open PySem PySem.Spec PyProof.Rows L2
def tyU (W : Wd) : Ty → Value
  | .int => .type "int" | .bool => .type "bool" | .str => .type "str" | .list => .type "list" | .tuple => .type "tuple" | .cls c => .ref (W.T.cad c)
def tyW (W : Wd) : Ty → V
  | .int => .ty "int" | .bool => .ty "bool" | .str => .ty "str" | .list => .ty "list" | .tuple => .ty "tuple" | .cls c => .ref (W.T.cad c)
theorem tyW_rel (W : Wd) : ∀ t, RelV (tyW W t) (tyU W t) := by
  intro t
  cases t <;> rfl
theorem tyW_cls (W : Wd) : ∀ t, ClsV (tyW W t) (tyU W t) := by
  intro t
  cases t <;> constructor
/-- a datum of each kind -/
def kinds (cs : List Nat) : List D := [.non, .bl true, .int 0, .str "", .tup [], .lst false []] ++ cs.map fun c => .ins c []
def kindV (W : Wd) : D → Value
  | .non => .type "NoneType" | .bl _ => .type "bool" | .int _ => .type "int" | .str _ => .type "str" | .tup _ => .type "tuple" | .lst _ _ => .type "list" | .ins c _ => .ref (W.T.cad c)
  | _ => .none
def tys (cs : List Nat) : List Ty := [.int, .bool, .str, .list, .tuple] ++ cs.map .cls
structure IOk (W : Wd) : Prop where
  kit : ∀ d ∈ kinds W.T.cs, ∀ t ∈ tys W.T.cs, PySem.W.kitOne W.T.K (kindV W d) (tyU W t) = some (tyD d t)
  ex : W.mg "isinstance" = none
section
variable {W : Wd} {k : Nat} {X : Cx} {C : Calls} {Wx : WX} {a b c o : Expr} {ca cb cc ce : CE} {es : List Expr} {pos apos cpos : Pos}
variable {σ : L2.St} {F H F2 H2 : Hp} {A A2 B2 B1 : List Addr} {env : Env} {Q : VK} {pins : List (Addr × Obj)} {s : Shared} {v u : Value} {x y : V}
theorem ty_one (ik : IOk W) {d : D} (sub : ∀ a o, F2 a = some o → H2 a = some o) (r : rep W.T F2 H2 d x B1) (hs : ∀ l, d ≠ .scr l) {t : Ty} (ht : t ∈ tys W.T.cs) : PySem.W.kitOne W.T.K (kindV W d) (tyU W t) = some (tyD d t) := by
  have k0 : ∀ d', d' ∈ kinds W.T.cs → kindV W d = kindV W d' → tyD d t = tyD d' t → PySem.W.kitOne W.T.K (kindV W d) (tyU W t) = some (tyD d t) := fun d' h1 h2 h3 => by rw [h2, h3]; exact ik.kit d' h1 t ht
  cases d with
  | non => exact k0 .non (by simp [kinds]) rfl rfl
  | bl b => exact k0 (.bl true) (by simp [kinds]) rfl rfl
  | int i => exact k0 (.int 0) (by simp [kinds]) rfl rfl
  | str z => exact k0 (.str "") (by simp [kinds]) rfl rfl
  | tup l => exact k0 (.tup []) (by simp [kinds]) rfl rfl
  | lst o l => exact k0 (.lst false []) (by simp [kinds]) rfl rfl
  | ins c l =>
    have fv : frep W.T F2 (.ins c l) x := ((rep_isF rfl).mp r).2
    simp only [frep] at fv
    obtain ⟨_, _, _, _, _, ⟨hc, _⟩, _⟩ := fv
    exact k0 (.ins c []) (by simp [kinds, hc]) rfl rfl
  | obj c l => simp only [rep] at r
  | scr l => exact absurd rfl (hs l)
theorem ty_x (g : Gd W k X) (zk : ZOk W) {d : D} (sub : ∀ a o, F2 a = some o → H2 a = some o) (r : rep W.T F2 H2 d x B1) (hs : ∀ l, d ≠ .scr l) : TyX X.K H2 x (kindV W d) := by
  cases d with
  | non => simp only [rep, frep] at r; obtain ⟨_, rfl⟩ := r; exact .base .non
  | bl b => simp only [rep, frep] at r; obtain ⟨_, rfl⟩ := r; exact .base (.bl _)
  | int i => simp only [rep, frep] at r; obtain ⟨_, rfl⟩ := r; exact .base (.int _)
  | str z => simp only [rep, frep] at r; obtain ⟨_, rfl⟩ := r; exact .base (.str _)
  | tup l =>
    simp only [rep, frep] at r
    obtain ⟨_, ad, vs, rfl, q, _⟩ := r
    rcases q with (q | ⟨o, q⟩) | ⟨o, its, n, q1, q2, _⟩
    · exact .base (.tup (sub _ _ q))
    · exact .fTuple (sub _ _ q)
    · exact .kTuple (by rw [g.K]; exact q1) q2
  | lst o l =>
    obtain ⟨ad, vs, C1, rfl, q1, _, fl⟩ := rep_lst sub r
    exact .base (.lst q1)
  | ins c l =>
    have fv : frep W.T F2 (.ins c l) x := ((rep_isF rfl).mp r).2
    simp only [frep] at fv
    obtain ⟨ad, dx, vs, rfl, q, ⟨hc, _⟩, _⟩ := fv
    have kc := zk.ok c hc
    exact .base (.ins (sub _ _ q) (by rw [g.K]; exact kc.cls) (by rw [g.K]; exact kc.obj) (by rw [g.K]; exact kc.osp) (by rw [g.K]; exact kc.otk) (by rw [g.K]; exact kc.omr))
  | obj c l => simp only [rep] at r
  | scr l => exact absurd rfl (hs l)
theorem isiD_ok {d : D} {ts : List Ty} (h : isiD ts d ≠ .stuck) : (∀ l, d ≠ .scr l) ∧ isiD ts d = .ok (.bl (ts.any (tyD d))) := by
  cases d <;> first | exact ⟨fun _ z => (by cases z), rfl⟩ | exact absurd rfl h
theorem lift_ns {r : Rs D} (h : Aft W Wx σ (rV W) F H A (r.lift env) Q) : r ≠ .stuck := fun z => by rw [z] at h; exact h
theorem kit_any {t : Value} {ts : List Ty} {p : Ty → Bool} (h : ∀ c ∈ ts, PySem.W.kitOne W.T.K t (tyU W c) = some (p c)) : PySem.W.kitAny W.T.K t (ts.map (tyU W)) = some (ts.any p) := by
  induction ts with
  | nil => rfl
  | cons c r ih =>
    have h1 := h c List.mem_cons_self
    have h2 := ih fun d hd => h d (List.mem_cons_of_mem _ hd)
    rw [List.map_cons, List.any_cons]
    unfold PySem.W.kitAny
    rw [h1]
    cases p c with
    | true => rfl
    | false => simpa using h2
theorem z_ty (gk : GOk W) (g : Gd W k X) {t : Ty} {n : Str} (hg : Gl X n) (hd : (n == ("__debug__" : Str)) = false) (hnn : n ≠ "__name__")
    (h : (W.mg n = none ∧ bootBuiltins n = some (tyU W t)) ∨ W.mg n = some (tyU W t)) : PE X (.Name n pos) (tC (tyW W t)) := by
  rcases h with ⟨h1, h2⟩ | h
  · exact pe_bltn hg (by rw [g.mg]; exact h1) h2 (tyW_rel W t) hnn hd
  · exact pe_glob hg (by rw [g.mg]; exact h) (tyW_rel W t) hd
theorem z_isi {t : Ty} {p : Pos} (g : Gd W k X) (zk : ZOk W) (ik : IOk W) (ht : t ∈ tys W.T.cs) (hg : Gl X "isinstance") (ha : PE X a (tE W C Wx ca)) (hb : PE X b (tC (tyW W t))) (hn : nos [a, b] = true) :
    PE X (.Call (.Name "isinstance" p) [a, b] [] pos) (tE W C Wx (.isi ca [t])) := by
  refine ⟨fun pins s σ H Q I h => ?_⟩
  refine wpAny_Call_Name_kw (ld_blt I hg (by rw [g.mg]; exact ik.ex) (by kernel_rfl : bootBuiltins "isinstance" = some (.builtin "isinstance")) ?_ (by decide) (by decide))
  have run := (pa_cons ha (pa_cons hb pa_nil (starEach_nos (nos_tl hn))) (starEach_nos hn)).run pos pins s σ H (fun vs H1 => ∃ x, vs = [x, tyW W t] ∧ ∃ F A d env F1 A1 B1, Stp F H A F1 H1 (A1 ++ B1) ∧ repE W.T F1 H1 env σ A1 ∧ rep W.T F1 H1 d x B1 ∧ Aft W Wx σ (rV W) F H A ((isiD [t] d).lift env) Q) I
    (tG_mono (oneU (ca := ca) (isiD [t]) h) fun x H1 z => ⟨x, rfl, z⟩)
  refine callWith_builtin1 (thn run fun us s1 ⟨vs, H1, I1, rv, x, e, F, A, d, env, F1, A1, B1, p, re, r, h⟩ => ?_) (starEach_nos hn) (starEach_any (nos_tl hn))
  subst e
  obtain ⟨hs, e2⟩ := isiD_ok (lift_ns h)
  rw [e2] at h
  refine call_isi pins s1 σ H1 _ us Q I1 rv ⟨x, tyW W t, kindV W d, tyU W t, tyD d t, rfl, tyW_cls W t, ty_x g zk p.st.sub r hs, by rw [g.K]; exact ty_one ik p.st.sub r hs ht, ?_⟩
  exact fin_here (by simpa using h) p re frep_bl
def tTys (W : Wd) (ts : List Ty) : TA := fun _ H Q => Q (ts.map (tyW W)) H
theorem z_isiT {ts : List Ty} {p pt : Pos} {j : Nat} (g : Gd W k X) (zk : ZOk W) (ik : IOk W) (ht : ∀ t ∈ ts, t ∈ tys W.T.cs) (hl : ts.length ≤ 1000) (hg : Gl X "isinstance") (ha : PE X a (tE W C Wx ca)) (hb : PA X es (tTys W ts)) (hn : nos [a, .Tuple es j pt] = true) :
    PE X (.Call (.Name "isinstance" p) [a, .Tuple es j pt] [] pos) (tE W C Wx (.isi ca ts)) := by
  refine ⟨fun pins s σ H Q I h => ?_⟩
  refine wpAny_Call_Name_kw (ld_blt I hg (by rw [g.mg]; exact ik.ex) (by kernel_rfl : bootBuiltins "isinstance" = some (.builtin "isinstance")) ?_ (by decide) (by decide))
  have run := (pa_cons ha (pa_cons (pe_tup hb) pa_nil (starEach_nos (nos_tl hn))) (starEach_nos hn)).run pos pins s σ H (fun vs H1 => ∃ x q H0, vs = [x, .ref q] ∧ H0 q = none ∧ H1 = upd H0 q (.tup (ts.map (tyW W))) ∧ ∃ F A d env F1 A1 B1, Stp F H A F1 H0 (A1 ++ B1) ∧ repE W.T F1 H0 env σ A1 ∧ rep W.T F1 H0 d x B1 ∧ Aft W Wx σ (rV W) F H A ((isiD ts d).lift env) Q) I
    (tG_mono (oneU (ca := ca) (isiD ts) h) fun x H1 z => ⟨by rw [List.length_map, sizeLine_eq]; omega, fun q hq => ⟨x, q, H1, rfl, hq, rfl, z⟩⟩)
  refine callWith_builtin1 (thn run fun us s1 ⟨vs, H1, I1, rv, x, q, H0, e, hq, e1, F, A, d, env, F1, A1, B1, p, re, r, h⟩ => ?_) (starEach_nos hn) (starEach_any (nos_tl hn))
  subst e e1
  obtain ⟨hs, e2⟩ := isiD_ok (lift_ns h)
  rw [e2] at h
  have fr := p.fr (o := .tup (ts.map (tyW W))) hq
  have p2 : Stp F H A F1 (upd H0 q (.tup (ts.map (tyW W)))) (A1 ++ B1) := p.junk hq
  have re2 := repE_mono (T := W.T) (F := F1) (H := H0) (fun _ _ z => z) env σ A1 (fun a ha => fr a (List.mem_append_left _ ha)) re
  have r2 := rep_mono (T := W.T) (F := F1) (H := H0) (fun _ _ z => z) d x B1 (fun a ha => fr a (List.mem_append_right _ ha)) r
  have pc : ∀ ts : List Ty, Paired ClsV (ts.map (tyW W)) (ts.map (tyU W)) := fun ts => by
    induction ts with
    | nil => exact .nil
    | cons c r ih => exact .cons (tyW_cls W c) ih
  refine call_isiT pins s1 σ _ _ us Q I1 rv ⟨x, q, ts.map (tyW W), kindV W d, ts.map (tyU W), ts.any (tyD d), rfl, upd_same, pc ts, ty_x g zk p2.st.sub r2 hs, by rw [g.K]; exact kit_any fun c hc => ty_one ik p2.st.sub r2 hs (ht c hc), ?_⟩
  exact fin_here h p2 re2 frep_bl

theorem rd_lt {i : Nat} {d : D} (h : rd env i = some d) : i < env.length := by
  unfold rd at h
  cases e : env[i]? with
  | none => rw [e] at h; cases h
  | some _ => exact (List.getElem?_eq_some_iff.mp e).1
theorem z_pop0 {i : Nat} {x : Str} {px p0 : Pos} {j : Nat} (g : Gd W k X) (hN : X.N[i]? = some x) (hv : Vis X.env.scope x) (hd : (x == ("__debug__" : Str)) = false) (hcd : (x == ("__classdict__" : Str)) = false) (hline : (apos.endLine == cpos.line) = true) :
    PE X (.Call (.Attribute (.Name x px) "pop" apos) [.Constant (.int 0) j p0] [] cpos) (tE W C Wx (.pop0 i)) := by
  refine ⟨fun pins s σ H Q I h => ?_⟩
  obtain ⟨F, A, env, st, re, h⟩ := h
  rw [show evE W.N C (.pop0 i) env = (match rd env i with
    | some (.lst true (y :: l)) => .ok y (env.set i (some (.lst true l)))
    | _ => .stuck) from rfl] at h
  split at h
  · rename_i y l hr
    obtain ⟨A1, B, A2, rfl, gv, up⟩ := repE_slot re (rd_lt hr)
    obtain ⟨v, hv', rs⟩ := gv _ hr
    have r1 : rep W.T F H (.lst true (y :: l)) v B := rs
    simp only [rep] at r1
    obtain ⟨ad, ws, B', rfl, rfl, hA, r1⟩ := r1
    cases ws with
    | nil => simp [reps] at r1
    | cons w ws =>
      simp only [reps] at r1
      obtain ⟨By, Bl, rfl, ry, rl⟩ := r1
      have hm : MtR X "list.pop" rPopAt := mt_popAt
      refine (pe_bm PySem.F.plainAttrs_list PySem.F.slot_list_pop rfl hm (pe_var hN hv hd hcd) (pa_cons pe_int pa_nil rfl) rfl rfl hline).run pins s σ H Q I ?_
      refine ⟨.ref ad, hv', .inl ⟨rfl, _, .of hA⟩, ad, w :: ws, 0, 0, w, rfl, rfl, hA, by decide, by decide, ?_, rfl, ?_⟩
      · rw [seqIndex_of (by omega) (by simp <;> omega)]; rfl
      · have p0 : Stp F H (A1 ++ (ad :: (By ++ Bl) ++ A2)) F (upd H ad (.lst ((w :: ws).eraseIdx 0))) (A1 ++ (ad :: (By ++ Bl) ++ A2)) := (Stp.refl st).wrt (by simp)
        have nd := st.nd
        have hne : ∀ b, b ∈ A1 ∨ b ∈ By ∨ b ∈ Bl ∨ b ∈ A2 → b ≠ ad := fun b hb e => by
          subst e
          have hp : (A1 ++ (b :: (By ++ Bl) ++ A2)).Perm (b :: (A1 ++ (By ++ (Bl ++ A2)))) := by
            rw [List.perm_iff_count]
            intro z
            simp only [List.count_append, List.count_cons]
            omega
          refine (List.nodup_cons.mp (hp.nodup nd)).1 ?_
          simp only [List.mem_append]
          rcases hb with h | h | h | h <;> simp [h]
        obtain ⟨u1, _⟩ := up F (upd H ad (.lst ((w :: ws).eraseIdx 0))) (fun _ _ h => h) (fun a ha => upd_ne (hne a (.inl ha))) (fun a ha => upd_ne (hne a (.inr (.inr (.inr ha)))))
        have rl' := reps_mono (T := W.T) (F := F) (H := H) (H' := upd H ad (.lst ((w :: ws).eraseIdx 0))) (fun _ _ h => h) l ws Bl (fun a ha => upd_ne (hne a (.inr (.inr (.inl ha))))) rl
        have ry' := rep_mono (T := W.T) (F := F) (H := H) (H' := upd H ad (.lst ((w :: ws).eraseIdx 0))) (fun _ _ h => h) y w By (fun a ha => upd_ne (hne a (.inr (.inl ha)))) ry
        have re' := u1 (.lst true l) (.ref ad) (ad :: Bl) (by
          show rep W.T F _ (.lst true l) (.ref ad) (ad :: Bl)
          simp only [rep]
          exact ⟨ad, ws, Bl, rfl, rfl, upd_same, rl'⟩)
        rw [set_same hv'] at re'
        refine h w F _ _ By (p0.perm ?_) re' ry'
        rw [List.perm_iff_count]
        intro z
        simp only [List.count_append, List.count_cons]
        omega
  · exact h.elim
theorem reps_snoc {T : Tab} {F H : Hp} : ∀ {l : List D} {y : D} {vs : List V} {B : List Addr}, reps T F H (l ++ [y]) vs B → ∃ ws w B1 B2, vs = ws ++ [w] ∧ B = B1 ++ B2 ∧ reps T F H l ws B1 ∧ rep T F H y w B2
  | [], y, vs, B, r => by
    have r' : reps T F H [y] vs B := r
    obtain ⟨v, rfl, q⟩ := reps_one r'
    exact ⟨[], v, [], B, rfl, rfl, by simp [reps], q⟩
  | d :: l, y, [], B, r => by simp [reps] at r
  | d :: l, y, v :: vs, B, r => by
    simp only [List.cons_append, reps] at r
    obtain ⟨B1, C1, rfl, r1, r2⟩ := r
    obtain ⟨ws, w, B2, B3, rfl, rfl, r3, r4⟩ := reps_snoc r2
    refine ⟨v :: ws, w, B1 ++ B2, B3, rfl, by rw [List.append_assoc], ?_, r4⟩
    simp only [reps]
    exact ⟨B1, B2, rfl, r1, r3⟩
theorem z_pop {i : Nat} {x : Str} {px : Pos} (g : Gd W k X) (hN : X.N[i]? = some x) (hv : Vis X.env.scope x) (hd : (x == ("__debug__" : Str)) = false) (hcd : (x == ("__classdict__" : Str)) = false) (hline : (apos.endLine == cpos.line) = true) :
    PE X (.Call (.Attribute (.Name x px) "pop" apos) [] [] cpos) (tE W C Wx (.pop i)) := by
  refine ⟨fun pins s σ H Q I h => ?_⟩
  obtain ⟨F, A, env, st, re, h⟩ := h
  rw [show evE W.N C (.pop i) env = (match rd env i with
    | some (.lst true l) => (match l.getLast? with
      | some y => .ok y (env.set i (some (.lst true l.dropLast)))
      | none => .stuck)
    | _ => .stuck) from rfl] at h
  split at h
  · rename_i l0 hr
    split at h
    · rename_i y hy
      obtain ⟨l, rfl⟩ : ∃ l, l0 = l ++ [y] := by
        obtain ⟨l, e⟩ := List.getLast?_eq_some_iff.mp hy
        exact ⟨l, e⟩
      rw [List.dropLast_concat] at h
      obtain ⟨A1, B, A2, rfl, gv, up⟩ := repE_slot re (rd_lt hr)
      obtain ⟨v, hv', rs⟩ := gv _ hr
      have r1 : rep W.T F H (.lst true (l ++ [y])) v B := rs
      simp only [rep] at r1
      obtain ⟨ad, ws0, B', rfl, rfl, hA, r1⟩ := r1
      obtain ⟨ws, w, Bl, By, rfl, rfl, rl, ry⟩ := reps_snoc r1
      have hm : MtR X "list.pop" rPop := mt_pop
      refine (pe_bm0 PySem.F.plainAttrs_list PySem.F.slot_list_pop rfl hm (pe_var hN hv hd hcd) rfl hline).run pins s σ H Q I ?_
      refine ⟨.ref ad, hv', .inl ⟨rfl, _, .of hA⟩, ad, ws ++ [w], w, rfl, rfl, hA, ?_, ?_⟩
      · simp
      · rw [List.dropLast_concat]
        have p0 : Stp F H (A1 ++ (ad :: (Bl ++ By) ++ A2)) F (upd H ad (.lst ws)) (A1 ++ (ad :: (Bl ++ By) ++ A2)) := (Stp.refl st).wrt (by simp)
        have nd := st.nd
        have hne : ∀ b, b ∈ A1 ∨ b ∈ By ∨ b ∈ Bl ∨ b ∈ A2 → b ≠ ad := fun b hb e => by
          subst e
          have hp : (A1 ++ (b :: (Bl ++ By) ++ A2)).Perm (b :: (A1 ++ (By ++ (Bl ++ A2)))) := by
            rw [List.perm_iff_count]
            intro z
            simp only [List.count_append, List.count_cons]
            omega
          refine (List.nodup_cons.mp (hp.nodup nd)).1 ?_
          simp only [List.mem_append]
          rcases hb with h | h | h | h <;> simp [h]
        obtain ⟨u1, _⟩ := up F (upd H ad (.lst ws)) (fun _ _ h => h) (fun a ha => upd_ne (hne a (.inl ha))) (fun a ha => upd_ne (hne a (.inr (.inr (.inr ha)))))
        have rl' := reps_mono (T := W.T) (F := F) (H := H) (H' := upd H ad (.lst ws)) (fun _ _ h => h) l ws Bl (fun a ha => upd_ne (hne a (.inr (.inr (.inl ha))))) rl
        have ry' := rep_mono (T := W.T) (F := F) (H := H) (H' := upd H ad (.lst ws)) (fun _ _ h => h) y w By (fun a ha => upd_ne (hne a (.inr (.inl ha)))) ry
        have re' := u1 (.lst true l) (.ref ad) (ad :: Bl) (by
          show rep W.T F _ (.lst true l) (.ref ad) (ad :: Bl)
          simp only [rep]
          exact ⟨ad, ws, Bl, rfl, rfl, upd_same, rl'⟩)
        rw [set_same hv'] at re'
        refine h w F _ _ By (p0.perm ?_) re' ry'
        rw [List.perm_iff_count]
        intro z
        simp only [List.count_append, List.count_cons]
        omega
    · exact h.elim
  · exact h.elim
end
end Z

namespace Z
open PySem PySem.Spec PyProof.Rows L2
def kept (ios : List Nat) (σ σ' : L2.St) : Prop := σ'.length = σ.length ∧ ∀ i ∈ ios, σ'[i]? = σ[i]?
theorem kept.refl {ios : List Nat} {σ : L2.St} : kept ios σ σ := ⟨rfl, fun _ _ => rfl⟩
theorem kept.trans {ios : List Nat} {σ σ1 σ2 : L2.St} (h : kept ios σ σ1) (h2 : kept ios σ1 σ2) : kept ios σ σ2 := ⟨h2.1.trans h.1, fun i hi => (h2.2 i hi).trans (h.2 i hi)⟩
theorem kept.set {ios : List Nat} {σ : L2.St} {i : Nat} {v : Option V} (h : i ∉ ios) : kept ios σ (σ.set i v) := ⟨List.length_set, fun j hj => by
  rw [List.getElem?_set_ne (fun e => h (by rw [e]; exact hj))]⟩
/-- what is wanted behind a statement -/
def AftS (W : Wd) (Wx : WX) (ios : List Nat) (De : Ends) (σ : L2.St) (F H : Hp) (A : List Addr) (r : RS) : Prop := match r with
  | .nxt env => ∀ σ' F' H' A', Stp F H A F' H' A' → repE W.T F' H' env σ' A' → kept ios σ σ' → De.nx σ' H'
  | .brk env => ∀ σ' F' H' A', Stp F H A F' H' A' → repE W.T F' H' env σ' A' → kept ios σ σ' → De.bk σ' H'
  | .cnt env => ∀ σ' F' H' A', Stp F H A F' H' A' → repE W.T F' H' env σ' A' → kept ios σ σ' → De.ct σ' H'
  | .ret d env => ∀ v σ' F' H' A' B, Stp F H A F' H' (A' ++ B) → repE W.T F' H' env σ' A' → kept ios σ σ' → rep W.T F' H' d v B → De.rt v H'
  | .exn x env => ∀ cls dd σ' F' H' A', Stp F H A F' H' A' → repE W.T F' H' env σ' A' → kept ios σ σ' → xrep W F' x cls dd → Wx cls dd σ' H'
  | .stuck => False
section
variable (W : Wd) (C : Calls) (Wx : WX) (ios : List Nat)
def tR (ev : Env → RS) : TS := fun De σ H => ∃ F A env, Stt F H A ∧ repE W.T F H env σ A ∧ AftS W Wx ios De σ F H A (ev env)
abbrev tS (cs : CS) : TS := tR W Wx ios (exec W.N C cs)
end
section
variable {W : Wd} {k : Nat} {X : Cx} {C : Calls} {Wx : WX} {ios : List Nat} {De : Ends} {a b c o : Expr} {ca cb cc ce : CE} {es : List Expr} {pos apos cpos : Pos} {cs ct : CS} {st : Stmt} {sts : List Stmt}
variable {σ σ1 : L2.St} {F H F1 H1 : Hp} {A A1 B1 : List Addr} {env : Env}
theorem AftS.step {r : RS} (h : AftS W Wx ios De σ F H A r) (p : Stp F H A F1 H1 A1) (kp : kept ios σ σ1) : AftS W Wx ios De σ1 F1 H1 A1 r := by
  cases r with
  | nxt e => exact fun σ' F' H' A' q r k2 => h σ' F' H' A' (p.trans q) r (kp.trans k2)
  | brk e => exact fun σ' F' H' A' q r k2 => h σ' F' H' A' (p.trans q) r (kp.trans k2)
  | cnt e => exact fun σ' F' H' A' q r k2 => h σ' F' H' A' (p.trans q) r (kp.trans k2)
  | ret d e => exact fun v σ' F' H' A' B q r k2 rv => h v σ' F' H' A' B (p.trans q) r (kp.trans k2) rv
  | exn x e => exact fun cls dd σ' F' H' A' q r k2 xr => h cls dd σ' F' H' A' (p.trans q) r (kp.trans k2) xr
  | stuck => exact h
/-- an expression first -/
theorem moreS {F0 H0 : Hp} {A0 B0 : List Addr} {f : D → Env → RS} (p0 : Stp F0 H0 A0 F H (A ++ B0)) (re : repE W.T F H env σ A) (h : AftS W Wx ios De σ F0 H0 A0 ((evE W.N C ce env).bindS f)) :
    tE W C Wx ce σ H fun v H1 => ∃ d env1 F1 A1 B1, Stp F0 H0 A0 F1 H1 ((A1 ++ B1) ++ B0) ∧ (∀ a o, F a = some o → F1 a = some o) ∧ (∀ a ∈ B0, H1 a = H a) ∧ repE W.T F1 H1 env1 σ A1 ∧ rep W.T F1 H1 d v B1 ∧ AftS W Wx ios De σ F0 H0 A0 (f d env1) := by
  refine ⟨F, A, env, p0.dropB.st, re, ?_⟩
  cases e : evE W.N C ce env with
  | exn x env =>
    rw [e] at h
    intro cls dd F' H' A' q r1 x1
    exact h cls dd σ F' H' A' (p0.dropB.trans q) r1 kept.refl x1
  | stuck => rw [e] at h; exact h
  | ok ds env1 =>
    rw [e] at h
    intro v F1 H1 A1 B1 q r1 rv1
    have q2 := q.beside p0.st
    exact ⟨ds, env1, F1, A1, B1, p0.trans q2, q.mono, q.keepB p0.st, r1, rv1, h⟩
theorem moreS0 {f : D → Env → RS} (st : Stt F H A) (re : repE W.T F H env σ A) (h : AftS W Wx ios De σ F H A ((evE W.N C ce env).bindS f)) :
    tE W C Wx ce σ H fun v H1 => ∃ d env1 F1 A1 B1, Stp F H A F1 H1 (A1 ++ B1) ∧ repE W.T F1 H1 env1 σ A1 ∧ rep W.T F1 H1 d v B1 ∧ AftS W Wx ios De σ F H A (f d env1) :=
  tG_mono (moreS (B0 := []) (by simpa using Stp.refl st) re h) fun v H1 ⟨d, env1, F1, A1, B1, p, _, _, r1, r2, h⟩ => ⟨d, env1, F1, A1, B1, by simpa using p, r1, r2, h⟩
/-- not a comprehension -/
def noswap : Expr → Bool
  | .ListComp .. => false | .SetComp .. => false | .DictComp .. => false
  | _ => true
theorem swap_no {e : Expr} {t : Option Expr} {n : Nat} {env : PySem.Env} (h : noswap e = true) : swapsWith e t n env = pure false := by
  unfold swapsWith
  cases e <;> first | rfl | cases h
/-- the value d (with B1) is put into slot i -/
theorem slot_set {i : Nat} {d : D} {v : V} (p : Stp F H A F1 H1 (A1 ++ B1)) (re : repE W.T F1 H1 env σ A1) (rv : repS W.T F1 H1 d v B1) (hi : i < σ.length) :
    ∃ A', Stp F H A F1 H1 A' ∧ repE W.T F1 H1 (env.set i (some d)) (σ.set i (some v)) A' := by
  obtain ⟨L, B, M, rfl, _, up⟩ := repE_slot re (by rw [repE_length re]; exact hi)
  obtain ⟨u1, _⟩ := up F1 H1 (fun _ _ h => h) (fun _ _ => rfl) (fun _ _ => rfl)
  refine ⟨L ++ (B1 ++ M), ?_, u1 d v B1 rv⟩
  have hp : ((L ++ (B ++ M)) ++ B1).Perm (B ++ (L ++ (B1 ++ M))) := by
    rw [List.perm_iff_count]
    intro x
    simp only [List.count_append]
    omega
  have q := p.perm hp
  exact q.less (fun a ha => List.mem_append_right _ ha) (List.nodup_append.mp q.st.nd).2.1
theorem slot_none {i : Nat} {ov : Option V} (p : Stp F H A F1 H1 A1) (re : repE W.T F1 H1 env σ A1) (hi : i < σ.length) :
    ∃ A', Stp F H A F1 H1 A' ∧ repE W.T F1 H1 (env.set i none) (σ.set i ov) A' := by
  obtain ⟨L, B, M, rfl, _, up⟩ := repE_slot re (by rw [repE_length re]; exact hi)
  obtain ⟨_, u2⟩ := up F1 H1 (fun _ _ h => h) (fun _ _ => rfl) (fun _ _ => rfl)
  refine ⟨L ++ M, ?_, u2 ov⟩
  have hp : (L ++ (B ++ M)).Perm (B ++ (L ++ M)) := by
    rw [List.perm_iff_count]
    intro x
    simp only [List.count_append]
    omega
  have q := p.perm hp
  exact q.less (fun a ha => List.mem_append_right _ ha) (List.nodup_append.mp q.st.nd).2.1
theorem idx_lt {pins : List (Addr × Obj)} {s : Shared} {i : Nat} {x : Str} (I : Inv X pins σ H s) (hN : X.N[i]? = some x) : i < σ.length := by
  rw [I.len]
  exact (List.getElem?_eq_some_iff.mp hN).1

theorem z_skip : PSs X [] (tS W C Wx ios .skip) := by
  refine ⟨fun pins s σ H De I h => pss_nil.run pins s σ H De I ?_⟩
  obtain ⟨F, A, env, st, re, h⟩ := h
  exact h σ F H A (Stp.refl st) re kept.refl
theorem z_seq (h1 : PS X st (tS W C Wx ios cs)) (h2 : PSs X sts (tS W C Wx ios ct)) : PSs X (st :: sts) (tS W C Wx ios (.seq cs ct)) := by
  refine ⟨fun pins s σ H De I h => (pss_cons h1 h2).run pins s σ H De I ?_⟩
  obtain ⟨F, A, env, st, re, h⟩ := h
  refine ⟨F, A, env, st, re, ?_⟩
  have h : AftS W Wx ios De σ F H A (match exec W.N C cs env with
    | .nxt e => exec W.N C ct e
    | r => r) := h
  cases e : exec W.N C cs env with
  | nxt e1 =>
    rw [e] at h
    intro σ' F' H' A' p r kp
    exact ⟨F', A', e1, p.st, r, h.step p kp⟩
  | brk e1 => rw [e] at h; exact h
  | cnt e1 => rw [e] at h; exact h
  | ret d e1 => rw [e] at h; exact h
  | exn x e1 => rw [e] at h; exact h
  | stuck => rw [e] at h; exact h
theorem z_exp (he : PE X a (tE W C Wx ca)) (hs : noswap a = true) : PS X (.Expr a pos) (tS W C Wx ios (.exp ca)) := by
  refine ⟨fun pins s σ H De I h => (ps_expr he (swap_no hs)).run pins s σ H De I ?_⟩
  obtain ⟨F, A, env, st, re, h⟩ := h
  refine tG_mono (moreS0 (ce := ca) (f := fun _ e => .nxt e) st re h) fun v H1 ⟨d, env1, F1, A1, B1, p, r1, r2, h⟩ => ?_
  exact h σ F1 H1 A1 p.dropB r1 kept.refl
theorem z_asg {i : Nat} {x : Str} {px : Pos} (g : Gd W k X) (hN : X.N[i]? = some x) (hx : Loc X.env.scope x) (hf : X.fn x = true ∨ X.env.scope.names.lookup x = some .local) (hio : i ∉ ios) (he : PE X a (tE W C Wx ca)) (hs : noswap a = true) :
    PS X (.Assign [.Name x px] a pos) (tS W C Wx ios (.asg i ca)) := by
  refine ⟨fun pins s σ H De I h => (ps_set g.nd hN hx he (swap_no hs) hf).run pins s σ H De I ?_⟩
  obtain ⟨F, A, env, st, re, h⟩ := h
  refine tG_mono (moreS0 (ce := ca) (f := fun d e => .nxt (e.set i (some d))) st re h) fun v H1 ⟨d, env1, F1, A1, B1, p, r1, r2, h⟩ => ?_
  obtain ⟨A', p', r'⟩ := slot_set p r1 r2.S (idx_lt I hN)
  exact h _ F1 H1 A' p' r' (kept.set hio)
theorem z_ret (he : PE X a (tE W C Wx ca)) (hn : ca ≠ .nil) (hv : ∀ i, ca ≠ .var i) : PS X (.Return (some a) pos) (tS W C Wx ios (.ret ca)) := by
  refine ⟨fun pins s σ H De I h => (ps_ret he).run pins s σ H De I ?_⟩
  obtain ⟨F, A, env, st, re, h⟩ := h
  have e : exec W.N C (.ret ca) env = (evE W.N C ca env).bindS fun d e => .ret d e := by
    cases ca <;> first | rfl | exact absurd rfl hn | exact absurd rfl (hv _)
  rw [e] at h
  refine tG_mono (moreS0 (ce := ca) (f := fun d e => .ret d e) st re h) fun v H1 ⟨d, env1, F1, A1, B1, p, r1, r2, h⟩ => ?_
  exact h v σ F1 H1 A1 B1 p r1 kept.refl r2
theorem z_retN : PS X (.Return none pos) (tS W C Wx ios (.ret .nil)) := by
  refine ⟨fun pins s σ H De I h => ps_retN.run pins s σ H De I ?_⟩
  obtain ⟨F, A, env, st, re, h⟩ := h
  exact h .non σ F H A [] (by simpa using Stp.refl st) re kept.refl (rep_of_frep (by simp only [frep]))
/-- a name's list is given back as it is -/
theorem z_retV {i : Nat} {x : Str} {px : Pos} (hN : X.N[i]? = some x) (hv : Vis X.env.scope x) (hd : (x == ("__debug__" : Str)) = false) (hcd : (x == ("__classdict__" : Str)) = false) : PS X (.Return (some (.Name x px)) pos) (tS W C Wx ios (.ret (.var i))) := by
  refine ⟨fun pins s σ H De I h => (ps_ret (pe_var hN hv hd hcd)).run pins s σ H De I ?_⟩
  obtain ⟨F, A, env, st, re, h⟩ := h
  have e : exec W.N C (.ret (.var i)) env = (match rd env i with
    | some d => (match d with
      | .obj _ _ => Res.stuck
      | d => if isF d then .ok d env else .ok d (env.set i none))
    | none => Res.stuck).bindS fun d e => .ret d e := rfl
  rw [e] at h
  cases hr : rd env i with
  | none => simp only [hr] at h; exact h.elim
  | some d =>
    simp only [hr] at h
    obtain ⟨A1, B, A2, eA, gv, up⟩ := repE_slot re (rd_lt hr)
    obtain ⟨v, hv', rs⟩ := gv d hr
    refine ⟨v, hv', ?_⟩
    have main : isO d = false → AftS W Wx ios De σ F H A ((if isF d then (.ok d env : Res D) else .ok d (env.set i none)).bindS fun d e => .ret d e) → De.rt v H := fun ho h => by
      have rv' : rep W.T F H d v B := (repS_of ho).mp rs
      by_cases hf : isF d = true
      · rw [if_pos hf] at h
        obtain ⟨_, fv⟩ := (rep_isF hf).mp rv'
        exact h v σ F H A [] (by simpa using Stp.refl st) re kept.refl (rep_of_frep fv)
      · rw [if_neg hf] at h
        have p0 : Stp F H A F H ((A1 ++ A2) ++ B) := (Stp.refl st).perm (by
          rw [eA, List.append_assoc]
          exact List.Perm.append_left A1 List.perm_append_comm)
        obtain ⟨_, u2⟩ := up F H (fun _ _ h => h) (fun _ _ => rfl) (fun _ _ => rfl)
        have re' := u2 (some v)
        rw [set_same hv'] at re'
        exact h v σ F H (A1 ++ A2) B p0 re' kept.refl rv'
    cases d with
    | obj c l => exact h.elim
    | _ => exact main rfl h
theorem z_brk : PS X (.Break pos) (tS W C Wx ios .brk) := by
  refine ⟨fun pins s σ H De I h => ps_break.run pins s σ H De I ?_⟩
  obtain ⟨F, A, env, st, re, h⟩ := h
  exact h σ F H A (Stp.refl st) re kept.refl
theorem z_cnt : PS X (.Continue pos) (tS W C Wx ios .cnt) := by
  refine ⟨fun pins s σ H De I h => ps_continue.run pins s σ H De I ?_⟩
  obtain ⟨F, A, env, st, re, h⟩ := h
  exact h σ F H A (Stp.refl st) re kept.refl
theorem z_pass : PS X (.Pass pos) (tS W C Wx ios .skip) := by
  refine ⟨fun pins s σ H De I h => ps_pass.run pins s σ H De I ?_⟩
  obtain ⟨F, A, env, st, re, h⟩ := h
  exact h σ F H A (Stp.refl st) re kept.refl
/-- a test first -/
theorem moreT {f : Bool → Env → RS} (st : Stt F H A) (re : repE W.T F H env σ A) (h : AftS W Wx ios De σ F H A ((evT W.N C ca env).bindS f)) :
    tT W C Wx ca σ H fun b H1 => tR W Wx ios (f b) De σ H1 := by
  refine ⟨F, A, env, st, re, ?_⟩
  cases e : evT W.N C ca env with
  | exn x env =>
    rw [e] at h
    intro cls dd F' H' A' q r1 x1
    exact h cls dd σ F' H' A' q r1 kept.refl x1
  | stuck => rw [e] at h; exact h
  | ok b env1 =>
    rw [e] at h
    intro v F1 H1 A1 B1 q r1 rv1
    cases rv1
    have q1 := q.dropB
    have h : AftS W Wx ios De σ F H A (f b env1) := h
    exact ⟨F1, A1, env1, q1.st, r1, h.step q1 kept.refl⟩
theorem z_if {u : List Stmt} (hc : PT X c (tT W C Wx cc)) (ha : PSs X sts (tS W C Wx ios cs)) (hb : PSs X u (tS W C Wx ios ct)) : PS X (.If c sts u pos) (tS W C Wx ios (.ite cc cs ct)) := by
  refine ⟨fun pins s σ H De I h => (ps_if hc ha hb).run pins s σ H De I ?_⟩
  obtain ⟨F, A, env, st, re, h⟩ := h
  refine tG_mono (moreT (ca := cc) (f := fun b e => if b then exec W.N C cs e else exec W.N C ct e) st re h) fun b H1 z => ?_
  cases b with
  | true => exact z
  | false => exact z
theorem z_while {hp : PassesOwn (model X.prog X.w) X.A X.env X.xe} (hc : PT X c (tT W C Wx cc)) (hb : PSs X sts (tS W C Wx ios cs)) : PS X (.While c sts [] pos) (tS W C Wx ios (.whl cc cs)) := by
  refine ⟨fun pins s σ H De I h => (ps_while hp hc hb).run pins s σ H De I ?_⟩
  refine ⟨fun m σ H => tR W Wx ios (loopW (evT W.N C cc) (fun e => exec W.N C cs e) m) De σ H, ?_, ?_⟩
  · obtain ⟨F, A, env, st, re, h⟩ := h
    rw [exec] at h
    exact ⟨fuel, F, A, env, st, re, h⟩
  intro m σ H h
  obtain ⟨F, A, env, st, re, h⟩ := h
  cases m with
  | zero => exact h.elim
  | succ m =>
    let f : Bool → Env → RS := fun b e => if b = true then (match exec W.N C cs e with
      | .nxt e => loopW (evT W.N C cc) (fun e => exec W.N C cs e) m e
      | .cnt e => loopW (evT W.N C cc) (fun e => exec W.N C cs e) m e
      | .brk e => .nxt e
      | r => r) else .nxt e
    have e0 : loopW (evT W.N C cc) (fun e => exec W.N C cs e) (m + 1) env = (evT W.N C cc env).bindS f := by
      rw [loopW]
      cases evT W.N C cc env with
      | ok b e => cases b <;> rfl
      | _ => rfl
    rw [e0] at h
    refine tG_mono (moreT (ca := cc) (f := f) st re h) fun b H1 z => ?_
    cases b with
    | false =>
      rw [if_neg Bool.false_ne_true]
      obtain ⟨F1, A1, env1, st1, re1, h1⟩ := z
      exact h1 σ F1 H1 A1 (Stp.refl st1) re1 kept.refl
    | true =>
      rw [if_pos rfl]
      obtain ⟨F1, A1, env1, st1, re1, h1⟩ := z
      refine ⟨fun σ' H' => tR W Wx ios (loopW (evT W.N C cc) (fun e => exec W.N C cs e) m) De σ' H', fun σ' H' n => ⟨m, Nat.lt_succ_self _, n⟩, F1, A1, env1, st1, re1, ?_⟩
      have h1 : AftS W Wx ios De σ F1 H1 A1 (match exec W.N C cs env1 with
        | .nxt e => loopW (evT W.N C cc) (fun e => exec W.N C cs e) m e
        | .cnt e => loopW (evT W.N C cc) (fun e => exec W.N C cs e) m e
        | .brk e => .nxt e
        | r => r) := h1
      cases e : exec W.N C cs env1 with
      | nxt e1 =>
        rw [e] at h1
        intro σ' F' H' A' p r kp
        exact ⟨F', A', e1, p.st, r, h1.step p kp⟩
      | cnt e1 =>
        rw [e] at h1
        intro σ' F' H' A' p r kp
        exact ⟨F', A', e1, p.st, r, h1.step p kp⟩
      | brk e1 => rw [e] at h1; exact h1
      | ret d e1 => rw [e] at h1; exact h1
      | exn x e1 => rw [e] at h1; exact h1
      | stuck => rw [e] at h1; exact h1
end
end Z

namespace Z
open PySem PySem.Spec PyProof.Rows L2
section
variable {W : Wd} {k : Nat} {X : Cx} {C : Calls} {Wx : WX} {ios : List Nat} {De : Ends} {a b c o : Expr} {ca cb cc ce : CE} {es : List Expr} {pos apos cpos : Pos} {cs ct : CS} {st : Stmt} {sts : List Stmt}
variable {σ σ1 : L2.St} {F H F1 H1 : Hp} {A A1 B1 : List Addr} {env : Env}
theorem putF_zip : ∀ {fl : List Str} {vs : List V} {f : Str} {v : V}, fl.Nodup → fl[vs.length]? = some f → putF f v (fl.zip vs) = fl.zip (vs ++ [v])
  | [], _, _, _, _, h => by simp at h
  | g :: r, [], f, v, nd, h => by
    simp at h
    subst h
    simp [putF]
  | g :: r, w :: vs, f, v, nd, h => by
    have nd' := List.nodup_cons.mp nd
    have h' : r[vs.length]? = some f := by simpa using h
    have hne : g ≠ f := fun e => nd'.1 (e ▸ List.mem_of_getElem? h')
    rw [List.zip_cons_cons, List.cons_append, List.zip_cons_cons]
    unfold putF
    rw [if_neg hne, putF_zip nd'.2 h']
/-- self.f = e -/
theorem z_sat {f : Nat} {fs : Str} {x : Str} {px pa : Pos} (g : Gd W k X) (zk : ZOk W) (gk : GOk W) (hf : fs = W.n.fl f) (hN : X.N[0]? = some x) (hv : Vis X.env.scope x) (hd : (x == ("__debug__" : Str)) = false) (hcd : (x == ("__classdict__" : Str)) = false) (ha : PE X a (tE W C Wx ca)) (hs : noswap a = true) :
    PS X (.Assign [.Attribute (.Name x px) fs pa] a pos) (tS W C Wx ios (.sat f ca)) := by
  subst hf
  refine ⟨fun pins s σ H De I h => (ps_fld (pe_var hN hv hd hcd) ha (swap_no hs)).run pins s σ H De I ?_⟩
  obtain ⟨F, A, env, st, re, h⟩ := h
  refine tG_mono (moreS0 (ce := ca) (f := fun d e => (match rd e 0 with
    | some (.obj c l) => if (W.N.fl c)[l.length]? = some f then RS.nxt (e.set 0 (some (.obj c (l ++ [frz d])))) else .stuck
    | _ => .stuck)) st re h) fun y H1 ⟨d, env1, F1, A1, B1, p, r1, r2, h⟩ => ?_
  split at h
  · rename_i c l hr
    split at h
    · rename_i hl
      have p1 := p.frozen
      have fy := frz_here p.st r2
      have r1' := repE_mono (frzH_old p.st) env1 σ A1 (fun _ _ => rfl) r1
      obtain ⟨L, B, M, rfl, gv, up⟩ := repE_slot r1' (rd_lt hr)
      obtain ⟨v, hv', rs⟩ := gv _ hr
      obtain ⟨ad, dx, vs, rfl, rfl, hA, ⟨hc, hz⟩, fr⟩ := rs
      have kc := zk.ok c hc
      have hln := freps_length fr
      have hfl : (W.T.fl c)[vs.length]? = some (W.n.fl f) := by rw [gk.fl c hc, List.getElem?_map, ← hln, hl]; rfl
      have cl := kc.cls
      have na := kc.noa _ (List.mem_of_getElem? hfl)
      rw [← g.K] at cl na
      have hlt : vs.length < (W.T.fl c).length := (List.getElem?_eq_some_iff.mp hfl).1
      refine ⟨.ref ad, hv', ad, W.T.cad c, dx, _, rfl, hA, cl, na, ?_, ?_⟩
      · rw [List.length_zip]
        have := kc.len
        omega
      · rw [putF_zip kc.nd hfl]
        have p2 : Stp F H A (frzH F1 H1 B1) (upd H1 ad (.ins (W.T.cad c) dx ((W.T.fl c).zip (vs ++ [y])))) (L ++ ([ad] ++ M)) := p1.wrt (by simp)
        have nd := p1.st.nd
        have hne : ∀ b, b ∈ L ∨ b ∈ M → b ≠ ad := fun b hb e => by
          subst e
          have hp : (L ++ ([b] ++ M)).Perm (b :: (L ++ M)) := by
            rw [List.perm_iff_count]
            intro z
            simp only [List.count_append, List.count_cons, List.count_nil]
            omega
          refine (List.nodup_cons.mp (hp.nodup nd)).1 ?_
          simp only [List.mem_append]
          exact hb
        obtain ⟨u1, _⟩ := up (frzH F1 H1 B1) (upd H1 ad (.ins (W.T.cad c) dx ((W.T.fl c).zip (vs ++ [y])))) (fun _ _ h => h) (fun a ha => upd_ne (hne a (.inl ha))) (fun a ha => upd_ne (hne a (.inr ha)))
        have re' := u1 (.obj c (l ++ [frz d])) (.ref ad) [ad] ⟨ad, dx, vs ++ [y], rfl, rfl, upd_same, ⟨hc, by rw [List.length_append]; exact hlt⟩, freps_app fr (by simp only [freps]; exact ⟨fy, trivial⟩)⟩
        rw [set_same hv'] at re'
        exact h σ _ _ _ p2 re' kept.refl
    · exact h.elim
  · exact h.elim

theorem l_apd {i : Nat} {d : D} {x y : V} (hx : σ[i]? = some (some x)) (p : Stp F H A F1 H1 (A1 ++ B1)) (re : repE W.T F1 H1 env σ A1) (ry : rep W.T F1 H1 d y B1)
    (h : AftS W Wx ios De σ F H A (match rd env i with
      | some (.lst true l) => if l.length < lim then RS.nxt (env.set i (some (.lst true (l ++ [d])))) else .stuck
      | _ => .stuck)) : rAppend x [y] H1 fun _ H2 => De.nx σ H2 := by
  split at h
  · rename_i l hr
    split at h
    · rename_i hz
      obtain ⟨L, B, M, rfl, gv, up⟩ := repE_slot re (rd_lt hr)
      obtain ⟨v, hv', rs⟩ := gv _ hr
      rw [hx] at hv'
      cases hv'
      have r1 : rep W.T F1 H1 (.lst true l) x B := rs
      simp only [rep] at r1
      obtain ⟨ad, vs, B', rfl, rfl, hA, r1⟩ := r1
      refine ⟨ad, vs, y, rfl, rfl, hA, by rw [← reps_length r1, sizeLine_eq]; exact hz, ?_⟩
      have p2 : Stp F H A F1 (upd H1 ad (.lst (vs ++ [y]))) ((L ++ (ad :: B' ++ M)) ++ B1) := p.wrt (by simp)
      have nd := p.st.nd
      have hne : ∀ b, b ∈ L ∨ b ∈ B' ∨ b ∈ M ∨ b ∈ B1 → b ≠ ad := fun b hb e => by
        subst e
        have hp : ((L ++ (b :: B' ++ M)) ++ B1).Perm (b :: (L ++ (B' ++ (M ++ B1)))) := by
          rw [List.perm_iff_count]
          intro z
          simp only [List.count_append, List.count_cons]
          omega
        refine (List.nodup_cons.mp (hp.nodup nd)).1 ?_
        simp only [List.mem_append]
        rcases hb with h | h | h | h <;> simp [h]
      obtain ⟨u1, _⟩ := up F1 (upd H1 ad (.lst (vs ++ [y]))) (fun _ _ h => h) (fun a ha => upd_ne (hne a (.inl ha))) (fun a ha => upd_ne (hne a (.inr (.inr (.inl ha)))))
      have r1' := reps_mono (T := W.T) (F := F1) (H := H1) (H' := upd H1 ad (.lst (vs ++ [y]))) (fun _ _ h => h) l vs B' (fun a ha => upd_ne (hne a (.inr (.inl ha)))) r1
      have ry' := rep_mono (T := W.T) (F := F1) (H := H1) (H' := upd H1 ad (.lst (vs ++ [y]))) (fun _ _ h => h) d y B1 (fun a ha => upd_ne (hne a (.inr (.inr (.inr ha))))) ry
      have rl : reps W.T F1 (upd H1 ad (.lst (vs ++ [y]))) (l ++ [d]) (vs ++ [y]) (B' ++ B1) := reps_app r1' (by simp only [reps]; exact ⟨B1, [], by simp, ry', rfl⟩)
      have re' := u1 (.lst true (l ++ [d])) (.ref ad) (ad :: (B' ++ B1)) (by
        show rep W.T F1 _ (.lst true (l ++ [d])) (.ref ad) _
        simp only [rep]
        exact ⟨ad, vs ++ [y], B' ++ B1, rfl, rfl, upd_same, rl⟩)
      rw [set_same hx] at re'
      refine h σ _ _ _ (p2.perm ?_) re' kept.refl
      rw [List.perm_iff_count]
      intro z
      simp only [List.count_append, List.count_cons]
      omega
    · exact h.elim
  · exact h.elim
theorem z_apd {i : Nat} {x : Str} {px : Pos} (g : Gd W k X) (hN : X.N[i]? = some x) (hv : Vis X.env.scope x) (hd : (x == ("__debug__" : Str)) = false) (hcd : (x == ("__classdict__" : Str)) = false) (hline : (apos.endLine == cpos.line) = true)
    (hn : nos [a] = true) (hc : ∀ j, ca ≠ .io j) (ha : PE X a (tE W C Wx ca)) : PS X (.Expr (.Call (.Attribute (.Name x px) "append" apos) [a] [] cpos) pos) (tS W C Wx ios (.apd i ca)) := by
  have hm : MtR X "list.append" rAppend := mt_append
  refine ⟨fun pins s σ H De I h => (ps_expr (pe_bm PySem.F.plainAttrs_list PySem.F.slot_list_append rfl hm (pe_var hN hv hd hcd) (pa_cons ha pa_nil (starEach_nos hn)) rfl (few_ok hn (by simp)) hline (starEach_nos hn) rfl) (by rfl)).run pins s σ H De I ?_⟩
  obtain ⟨F, A, env, st, re, h⟩ := h
  have e : exec W.N C (.apd i ca) env = if isLst (rd env i) = false then .stuck else (evE W.N C ca env).bindS fun d e => (match rd e i with
      | some (.lst true l) => if l.length < lim then .nxt (e.set i (some (.lst true (l ++ [d])))) else .stuck
      | _ => .stuck) := by
    cases ca <;> first | rfl | exact absurd rfl (hc _)
  rw [e] at h
  cases hl : isLst (rd env i) with
  | false => rw [hl, if_pos rfl] at h; exact h.elim
  | true =>
    rw [hl, if_neg (by simp)] at h
    obtain ⟨d0, hr⟩ : ∃ d0, rd env i = some d0 := by
      cases hr : rd env i with
      | none => rw [hr] at hl; cases hl
      | some d0 => exact ⟨d0, rfl⟩
    obtain ⟨_, B, _, _, gv, _⟩ := repE_slot re (rd_lt hr)
    obtain ⟨v, hv', rs⟩ := gv d0 hr
    refine ⟨v, hv', ?_, ?_⟩
    · rw [hr] at hl
      cases d0 with
      | lst ow l =>
        have r1 : rep W.T F H (.lst ow l) v B := rs
        obtain ⟨ad, vs, _, rfl, q, _, _⟩ := rep_lst st.sub r1
        exact .inl ⟨rfl, vs, .of q⟩
      | _ => cases hl
    · refine tG_mono (moreS0 (ce := ca) st re h) fun y H1 ⟨d, env1, F1, A1, B1, p, r1, r2, h⟩ => ?_
      exact l_apd hv' p r1 r2 h

structure XOk (W : Wd) : Prop where
  mks : ∀ c ∈ W.xs, W.N.xf c = none → PySem.W.excIn W.T.K (W.T.cad c) [.type "ValueError", .type "Exception", .type "BaseException", .type "object"] "ValueError.__new__" = true
  nm : ∀ c ∈ W.xs, W.mg (W.n.cl c) = some (.ref (W.T.cad c)) ∧ PySem.W.keepIn W.T.K (.ref (W.T.cad c)) = true ∧ PySem.W.subIn W.T.K (.ref (W.T.cad c)) (.type "BaseException") = some true ∧ PySem.W.typeIn W.T.K (.ref (W.T.cad c)) = some (.type "type") ∧ (W.n.cl c == ("__debug__" : Str)) = false
  sub : ∀ e ∈ W.xs, ∀ c ∈ W.xs, PySem.W.exmOne W.T.K (.ref (W.T.cad e)) (.ref (W.T.cad c)) = some (W.N.sub e c)
theorem z_rai {c : Nat} {p rp : Pos} (g : Gd W k X) (xk : XOk W) (tk : Takes X Wx) (hc : c ∈ W.xs) (hx : W.N.xf c = none) (hg : Gl X (W.n.cl c)) (hn : nos [a] = true) (ha : PE X a (tE W C Wx ca)) :
    PS X (.Raise (some (.Call (.Name (W.n.cl c) p) [a] [] pos)) none rp) (tS W C Wx ios (.rai c ca)) := by
  obtain ⟨hm, hk, hs, ht, hd⟩ := xk.nm c hc
  have hr : Raises X (.ref (W.T.cad c)) := raises_own (by rw [g.K]; exact hs) (by rw [g.K]; exact ht)
  refine ⟨fun pins s σ H De I h => (ps_raise g.calm tk (SkE.pmk_own1 PySem.F.excBase_ValueError (by rw [g.K]; exact xk.mks c hc hx) (by rw [g.mg]; exact hm) (by rw [g.K]; exact hk) hr hg ha (starEach_nos hn) hd)).run pins s σ H De I ?_⟩
  obtain ⟨F, A, env, st, re, h⟩ := h
  refine tG_mono (moreS0 (ce := ca) (f := fun d e => .exn ⟨c, (W.N.xf c).map fun _ => frz d⟩ e) st re h) fun v H1 ⟨d, env1, F1, A1, B1, p, r1, r2, h⟩ => ?_
  refine h _ none σ F1 H1 A1 p.dropB r1 kept.refl ⟨hc, rfl, ?_⟩
  rw [hx]
  rfl
end
end Z

namespace Z
open PySem PySem.Spec PyProof.Rows L2
section
variable {W : Wd} {k : Nat} {X : Cx} {C : Calls} {Wx : WX} {ios : List Nat} {De : Ends} {a b c o : Expr} {ca cb cc ce : CE} {es : List Expr} {pos apos cpos : Pos} {cs ct : CS} {st : Stmt} {sts : List Stmt}
variable {σ σ1 : L2.St} {F H F1 H1 : Hp} {A A1 B1 : List Addr} {env : Env}

def conV : Const → V
  | .bool b => .bl b
  | .int i => .int i
  | .str x => .str x
  | _ => .non
def lOf (W : Wd) : CS → List (Value × (Addr → Value → Option Addr → TS))
  | .hret (c :: _) d h => (.ref (W.T.cad c), fun _ _ _ => tRet (tC (conV d))) :: lOf W h
  | .hinc (c :: _) i n h => (.ref (W.T.cad c), fun _ _ _ => tAsg (tAdd (tVar i) (tC (.int n))) (gName i)) :: lOf W h
  | _ => []
/-- the handlers' classes are known -/
def hOk (xs : List Nat) (ios : List Nat) : CS → Bool
  | .hret [c] d h => xs.contains c && (conD d).isSome && hOk xs ios h
  | .hinc [c] i n h => xs.contains c && !ios.contains i && hOk xs ios h
  | .hnil => true
  | _ => false
theorem conV_rep {T : Tab} {F H : Hp} {c : Const} {d : D} (h : conD c = some d) : rep T F H d (conV c) [] := by
  cases c <;> first | (cases h; exact rep_of_frep (by simp only [frep, conV])) | cases h
theorem many_of (xk : XOk W) : ∀ (h : CS) {x : Exn} {cls : Value} {dd : Option Addr}, hOk W.xs ios h = true → AftS W Wx ios De σ F H A (hand W.N h x env) → Stt F H A → repE W.T F H env σ A → xrep W F x cls dd → wMany W.T.K Wx De (lOf W h) cls dd σ H
  | .hnil, x, cls, dd, ho, hA, st, re, xr => hA cls dd σ F H A (Stp.refl st) re kept.refl xr
  | .hret [c] d h, x, cls, dd, ho, hA, st, re, xr => by
    simp only [hOk, Bool.and_eq_true] at ho
    obtain ⟨⟨h1, h2⟩, h3⟩ := ho
    obtain ⟨hx, rfl, _⟩ := id xr
    refine ⟨W.N.sub x.c c, xk.sub _ hx c (by simpa using h1), fun e a _ => ?_, fun e => ?_⟩
    · unfold hand at hA
      rw [List.any_cons, e] at hA
      simp only [Bool.true_or, if_true] at hA
      cases hd : conD d with
      | none => rw [hd] at h2; cases h2
      | some z =>
        simp only [hd] at hA
        exact hA (conV d) σ F H A [] (by simpa using Stp.refl st) re kept.refl (conV_rep hd)
    · unfold hand at hA
      rw [List.any_cons, e] at hA
      simp only [Bool.false_or, List.any_nil, Bool.false_eq_true, if_false] at hA
      exact many_of xk h h3 hA st re xr
  | .hinc [c] i n h, x, cls, dd, ho, hA, st, re, xr => by
    simp only [hOk, Bool.and_eq_true] at ho
    obtain ⟨⟨h1, h2⟩, h3⟩ := ho
    obtain ⟨hx, rfl, _⟩ := id xr
    refine ⟨W.N.sub x.c c, xk.sub _ hx c (by simpa using h1), fun e a _ => ?_, fun e => ?_⟩
    · unfold hand at hA
      rw [List.any_cons, e] at hA
      simp only [Bool.true_or, if_true] at hA
      split at hA
      · rename_i j hr
        obtain ⟨_, B, _, _, gv, _⟩ := repE_slot re (rd_lt hr)
        obtain ⟨v, hv', rs⟩ := gv _ hr
        have r1 : rep W.T F H (.int j) v B := rs
        cases rep_int r1
        have hi : i < σ.length := (List.getElem?_eq_some_iff.mp hv').1
        obtain ⟨A', p', r'⟩ := slot_set (i := i) (d := .int (j + n)) (v := .int (j + n)) (B1 := []) (by simpa using Stp.refl st) re (rep_of_frep frep_int).S hi
        exact ⟨.int j, hv', j, n, rfl, rfl, hA _ F H A' p' r' (kept.set (by simpa using h2))⟩
      · exact hA.elim
    · unfold hand at hA
      rw [List.any_cons, e] at hA
      simp only [Bool.false_or, List.any_nil, Bool.false_eq_true, if_false] at hA
      exact many_of xk h h3 hA st re xr
theorem z_try {hds : List ExceptHandler} {h0 : ExceptHandler} {hh : CS} (g : Gd W k X) (xk : XOk W) (tk : Takes X Wx) (hs : X.stack = X.env :: X.outer) (hf : X.env.frame = some X.env.locals)
    (hb : ∀ (W' : WX) (pn : List (Addr × Obj)) (xe : Value → Shared → Prop), Takes (X.tr pn xe) W' → PassesOwn (model X.prog X.w) X.A X.env xe → PSs (X.tr pn xe) sts (tS W C W' ios cs))
    (hk : HdsOk X (h0 :: hds) (lOf W hh)) (ho : hOk W.xs ios hh = true) : PS X (.Try sts (h0 :: hds) [] [] pos) (tS W C Wx ios (.try cs hh)) := by
  refine ⟨fun pins s σ H De I h => (ps_try_many (tb := fun W' => tS W C W' ios cs) hs hf tk hb hk).run pins s σ H De I ?_⟩
  obtain ⟨F, A, env, st, re, h⟩ := h
  refine ⟨F, A, env, st, re, ?_⟩
  have h : AftS W Wx ios De σ F H A (match exec W.N C cs env with
    | .exn x e => hand W.N hh x e
    | r => r) := h
  rw [g.K]
  cases e : exec W.N C cs env with
  | exn x e1 =>
    rw [e] at h
    intro cls dd σ' F' H' A' p r kp xr
    exact many_of xk hh ho (h.step p kp) p.st r xr
  | nxt e1 => rw [e] at h; exact h
  | brk e1 => rw [e] at h; exact h
  | cnt e1 => rw [e] at h; exact h
  | ret d e1 => rw [e] at h; exact h
  | stuck => rw [e] at h; exact h

def gNs : List Nat → TGs
  | [] => gNil
  | i :: r => gCons (gName i) (gNs r)
def gTg (K : PySem.W.Frag) : Tg → TG
  | .nam i => gName i
  | .tup is => gTup K is.length (gNs is)
theorem put_all {T : Tab} : ∀ {is : List Nat} {l : List D} {vs : List V} {env env' : Env} {σ : L2.St} {A A0 : List Addr} {F0 H0 : Hp} {Q : L2.St → Hp → Prop}, setAll is l env = some env' → freps T F l vs → repE T F H env σ A → Stp F0 H0 A0 F H A → (∀ i ∈ is, i < σ.length ∧ i ∉ ios) →
    (∀ σ' A', kept ios σ σ' → Stp F0 H0 A0 F H A' → repE T F H env' σ' A' → Q σ' H) → gNs is vs σ H Q
  | [], [], [], env, env', σ, A, A0, F0, H0, Q, e, fr, re, p, hi, hq => by
    cases e
    exact ⟨rfl, hq σ A kept.refl p re⟩
  | [], [], _ :: _, _, _, _, _, _, _, _, _, _, fr, _, _, _, _ => by simp [freps] at fr
  | [], _ :: _, _, _, _, _, _, _, _, _, _, e, _, _, _, _, _ => by cases e
  | _ :: _, [], _, _, _, _, _, _, _, _, _, e, _, _, _, _, _ => by cases e
  | i :: is, d :: l, [], _, _, _, _, _, _, _, _, _, fr, _, _, _, _ => by simp [freps] at fr
  | i :: is, d :: l, v :: vs, env, env', σ, A, A0, F0, H0, Q, e, fr, re, p, hi, hq => by
    simp only [freps] at fr
    refine ⟨v, vs, rfl, ?_⟩
    obtain ⟨h1, h2⟩ := hi i List.mem_cons_self
    obtain ⟨L, B, M, rfl, _, up⟩ := repE_slot re (by rw [repE_length re]; exact h1)
    obtain ⟨u1, _⟩ := up F H (fun _ _ h => h) (fun _ _ => rfl) (fun _ _ => rfl)
    have re' := u1 d v [] (rep_of_frep fr.1).S
    have p' : Stp F0 H0 A0 F H (L ++ ([] ++ M)) := by
      have hp : (L ++ (B ++ M)).Perm (B ++ (L ++ ([] ++ M))) := by
        rw [List.perm_iff_count]
        intro x
        simp only [List.count_append, List.count_nil]
        omega
      have q := p.perm hp
      exact q.less (fun a ha => List.mem_append_right _ ha) (List.nodup_append.mp q.st.nd).2.1
    exact put_all (is := is) e fr.2 re' p' (fun j hj => by rw [List.length_set]; exact hi j (List.mem_cons_of_mem _ hj)) fun σ' A' kp q r => hq σ' A' ((kept.set h2).trans kp) q r
theorem put_tg {t : Tg} {d : D} {v : V} {env' : Env} {Q : L2.St → Hp → Prop} {F0 H0 : Hp} {A0 : List Addr} (g : Gd W k X) (e : t.put d env = some env') (fv : frep W.T F d v) (re : repE W.T F H env σ A) (p : Stp F0 H0 A0 F H A) (hi : ∀ i ∈ t.own, i < σ.length ∧ i ∉ ios)
    (hq : ∀ σ' A', kept ios σ σ' → Stp F0 H0 A0 F H A' → repE W.T F H env' σ' A' → Q σ' H) : gTg X.K t v σ H Q := by
  cases t with
  | nam i =>
    cases e
    obtain ⟨h1, h2⟩ := hi i (by simp [Tg.own])
    obtain ⟨A', p', r'⟩ := slot_set (B1 := []) (by simpa using p) re (rep_of_frep fv).S h1
    exact hq _ A' (kept.set h2) p' r'
  | tup is =>
    cases d with
    | tup l =>
      simp only [frep] at fv
      obtain ⟨ad, vs, rfl, q, fr⟩ := fv
      have hl : is.length = l.length := by
        have : ∀ (is : List Nat) (l : List D) (env env' : Env), setAll is l env = some env' → is.length = l.length := by
          intro is
          induction is with
          | nil => intro l env env' e; cases l <;> first | rfl | cases e
          | cons i r ih => intro l env env' e; cases l with
            | nil => cases e
            | cons d t => simp [ih t _ _ e]
        exact this is l env env' e
      refine ⟨ad, vs, rfl, by rw [g.K]; exact SqT.mono' p.st.sub q, by rw [← freps_length fr, hl], ?_⟩
      exact put_all e fr re p hi hq
    | _ => cases e
theorem names_each {es : List Expr} {env : PySem.Env} (h : ∀ e ∈ es, ∃ x p, e = .Name x p) : (assignEach es env).length = es.length ∧ (assignEach es env).findIdx? (·.1) = none := by
  induction es with
  | nil => exact ⟨rfl, rfl⟩
  | cons e r ih =>
    obtain ⟨x, p, rfl⟩ := h e List.mem_cons_self
    obtain ⟨h1, h2⟩ := ih fun e he => h e (List.mem_cons_of_mem _ he)
    have e1 : assignEach (.Name x p :: r) env = (false, assign (.Name x p) env) :: assignEach r env := rfl
    rw [e1]
    refine ⟨by simp [h1], ?_⟩
    rw [List.findIdx?_cons]
    simp [h2]

/-- a walk over the data ds, frozen -/
structure Wk (W : Wd) (J : It) (ds : List D) (F0 : Hp) : Prop where
  go : ∃ (G : Hp → Prop) (Y : Nat → Hp → V → Hp → Prop), Walk J ds.length G Y ∧ (∀ (F H : Hp), (∀ a o, F0 a = some o → F a = some o) → (∀ a o, F a = some o → H a = some o) → G H) ∧
    (∀ (i : Nat) (d : D) (x : V) (F H H' : Hp) (A : List Addr), ds[i]? = some d → (∀ a o, F0 a = some o → F a = some o) → Stt F H A → Y i H x H' → ∃ F', Stp F H A F' H' A ∧ (∀ a ∈ A, H' a = H a) ∧ frep W.T F' d x)
theorem for_all {t : Tg} {J : It} {ds : List D} (g : Gd W k X) (hi : ∀ i ∈ t.own, i < σ.length ∧ i ∉ ios) (wk : Wk W J ds F) (st : Stt F H A) (re : repE W.T F H env σ A) (h : AftS W Wx ios De σ F H A (loopF t.put (fun e => exec W.N C cs e) ds env)) :
    ∃ W' : Nat → Nat → L2.St → Hp → Prop, (∃ m, W' 0 m σ H) ∧ ∀ i m σ H, W' i m σ H →
      (J.stop i H ∧ De.nx σ H) ∨ (J.go i H ∧ ∃ N : L2.St → Hp → Prop, (∀ σ' H', N σ' H' → ∃ m', m' < m ∧ W' (i + 1) m' σ' H') ∧ ∀ x H', J.yld i H x H' → gTg X.K t x σ H' fun σ2 H2 => tS W C Wx ios cs { De with nx := N, ct := N, bk := De.nx } σ2 H2) := by
  obtain ⟨G, Y, w, hG, hY⟩ := wk.go
  refine for_it w (fun i σ' H' => ∃ F' A' env', (∀ a o, F a = some o → F' a = some o) ∧ Stt F' H' A' ∧ repE W.T F' H' env' σ' A' ∧ σ'.length = σ.length ∧ AftS W Wx ios De σ' F' H' A' (loopF t.put (fun e => exec W.N C cs e) (ds.drop i) env')) ⟨F, A, env, fun _ _ h => h, st, re, rfl, by simpa using h⟩ ?_ ?_ ?_
  · intro i σ' H' _ ⟨F', A', env', mo, st', _⟩
    exact hG F' H' mo st'.sub
  · intro i x σ' H' H2 hlt ⟨F', A', env', mo, st', re', hl, h'⟩ y
    have hd : ds[i]? = some ds[i] := by simp [hlt]
    obtain ⟨F2, p, kp, fx⟩ := hY i ds[i] x F' H' H2 A' hd mo st' y
    have re2 := repE_mono p.mono env' σ' A' kp re'
    have ed : ds.drop i = ds[i] :: ds.drop (i + 1) := by rw [List.drop_eq_getElem_cons hlt]
    rw [ed] at h'
    unfold loopF at h'
    cases hp : t.put ds[i] env' with
    | none => rw [hp] at h'; exact h'.elim
    | some e1 =>
      rw [hp] at h'
      refine put_tg (ios := ios) g hp fx re2 p (fun j hj => by rw [hl]; exact hi j hj) fun σ2 A2 kp2 p2 r2 => ?_
      refine ⟨F2, A2, e1, p2.st, r2, ?_⟩
      have h3 := h'.step p2 kp2
      simp only at h3
      cases ex : exec W.N C cs e1 with
      | nxt e2 =>
        rw [ex] at h3
        intro σ3 F3 H3 A3 q r3 k3
        exact ⟨F3, A3, e2, fun a o z => q.mono a o (p2.mono a o (mo a o z)), q.st, r3, by rw [k3.1, kp2.1, hl], h3.step q k3⟩
      | cnt e2 =>
        rw [ex] at h3
        intro σ3 F3 H3 A3 q r3 k3
        exact ⟨F3, A3, e2, fun a o z => q.mono a o (p2.mono a o (mo a o z)), q.st, r3, by rw [k3.1, kp2.1, hl], h3.step q k3⟩
      | brk e2 => rw [ex] at h3; exact h3
      | ret d e2 => rw [ex] at h3; exact h3
      | exn x e2 => rw [ex] at h3; exact h3
      | stuck => rw [ex] at h3; exact h3
  · intro σ' H' ⟨F', A', env', mo, st', re', _, h'⟩
    rw [List.drop_length] at h'
    exact h' σ' F' H' A' (Stp.refl st') re' kept.refl
theorem wk_range {lo : Int} {n : Nat} : Wk W (Itr lo n) ((List.range n).map fun (k : Nat) => .int (lo + k)) F := by
  have w := walk_range (lo := lo) (n := n)
  refine ⟨fun _ => True, YFn fun i => .int (lo + i), by simpa using w, fun _ _ _ _ => trivial, fun i d x F H H' A hd _ st y => ?_⟩
  obtain ⟨rfl, rfl⟩ := y
  refine ⟨F, Stp.refl st, fun _ _ => rfl, ?_⟩
  rw [List.getElem?_map] at hd
  cases e : (List.range n)[i]? with
  | none => rw [e] at hd; cases hd
  | some j =>
    rw [e] at hd
    have : j = i := by
      rw [List.getElem?_range (by simpa using (List.getElem?_eq_some_iff.mp e).1)] at e
      cases e; rfl
    subst this
    cases hd
    exact frep_int
theorem wk_rangeC {lo c : Int} {n : Nat} : Wk W (Itc lo c n) ((List.range n).map fun (k : Nat) => .int (lo + k * c)) F := by
  have w := walk_rangeC (lo := lo) (c := c) (n := n)
  refine ⟨fun _ => True, YFn fun i => .int (lo + (i : Nat) * c), by simpa using w, fun _ _ _ _ => trivial, fun i d x F H H' A hd _ st y => ?_⟩
  obtain ⟨rfl, rfl⟩ := y
  refine ⟨F, Stp.refl st, fun _ _ => rfl, ?_⟩
  rw [List.getElem?_map] at hd
  cases e : (List.range n)[i]? with
  | none => rw [e] at hd; cases hd
  | some j =>
    rw [e] at hd
    have : j = i := by
      rw [List.getElem?_range (by simpa using (List.getElem?_eq_some_iff.mp e).1)] at e
      cases e; rfl
    subst this
    cases hd
    exact frep_int
theorem wk_list {ad : Addr} {ds : List D} {vs : List V} (h : F ad = some (.lst vs)) (fr : freps W.T F ds vs) : Wk W (Itl W.T.K ad) ds F := by
  have w := walk_list (K := W.T.K) (a := ad) (xs := vs)
  refine ⟨_, _, by rw [freps_length fr]; exact w, fun F' H mo sub => SqL.of (sub _ _ (mo _ _ h)), fun i d x F' H H' A hd mo st y => ?_⟩
  obtain ⟨rfl, hx⟩ := y
  obtain ⟨v, hv, fv⟩ := freps_get fr hd
  rw [hv] at hx
  cases hx
  exact ⟨F', Stp.refl st, fun _ _ => rfl, frep_mono mo _ _ fv⟩
theorem wk_tup {ad : Addr} {ds : List D} {vs : List V} (h : SqT W.T.K F ad vs) (fr : freps W.T F ds vs) : Wk W (Itt W.T.K ad) ds F := by
  have w := walk_tup (K := W.T.K) (a := ad) (xs := vs)
  refine ⟨_, _, by rw [freps_length fr]; exact w, fun F' H mo sub => SqT.mono' (fun a o z => sub _ _ (mo _ _ z)) h, fun i d x F' H H' A hd mo st y => ?_⟩
  obtain ⟨rfl, hx⟩ := y
  obtain ⟨v, hv, fv⟩ := freps_get fr hd
  rw [hv] at hx
  cases hx
  exact ⟨F', Stp.refl st, fun _ _ => rfl, frep_mono mo _ _ fv⟩
theorem wk_str {z : Str} : Wk W (Its z) (z.cps.toList.map fun c => .str ⟨#[c]⟩) F := by
  have w := walk_str (z := z)
  refine ⟨_, _, by simpa using w, fun _ _ _ _ => trivial, fun i d x F H H' A hd _ st y => ?_⟩
  obtain ⟨rfl, c, hc, rfl⟩ := y
  refine ⟨F, Stp.refl st, fun _ _ => rfl, ?_⟩
  rw [List.getElem?_map, Array.getElem?_toList, hc] at hd
  cases hd
  exact frep_str
/-- what is walked: a list, a tuple, a text -/
def iAny (K : PySem.W.Frag) (tl : TE) : TI := fun σ H R => tl σ H fun x H1 => (∃ a xs, x = .ref a ∧ SqL K H1 a xs ∧ R (Itl K a) H1) ∨ (∃ a xs, x = .ref a ∧ SqT K H1 a xs ∧ R (Itt K a) H1) ∨ (∃ z, x = .str z ∧ R (Its z) H1)
theorem pi_any {tg l : Expr} {tl : TE} (hl : PE X l tl) : PI X tg l (iAny X.K tl) := by
  refine ⟨fun pins s σ H R I h => ?_⟩
  refine thn (hl.run pins s σ H _ I h) fun v s1 ⟨x, H1, I1, r1, q1⟩ => ?_
  rcases q1 with ⟨a, xs, e, hq, q⟩ | ⟨a, xs, e, hq, q⟩ | ⟨z, e, q⟩
  · subst e
    cases r1
    obtain ⟨its, rv, p, hz⟩ := I1.list hq
    refine wpAny_pyIter_list p.isList ?_
    refine ⟨s1.heap.objs.size, [s1.heap.objs.size], _, _, H1, rfl, I1.kept (t' := s1.toks) fun b o e => Heap.get?_push_of_some _ e, turn_list a _, ⟨_, Heap.get?_push_size _ rfl, rfl, rfl⟩, fun b hb => ?_, q⟩
    have e : b = s1.heap.objs.size := by simpa using hb
    subst e
    exact I1.fpOk (Nat.le_refl _) (I1.hok.fresh (Nat.le_refl _))
  · subst e
    cases r1
    obtain ⟨its, rv, p, hz⟩ := I1.tuple hq
    refine wpAny_pyIter_tuple (show s1.heap.IsTuple a its.toArray from p) ?_
    refine ⟨s1.heap.objs.size, [s1.heap.objs.size], _, _, H1, rfl, I1.kept (t' := s1.toks) fun b o e => Heap.get?_push_of_some _ e, turn_tuple a _, ⟨_, Heap.get?_push_size _ rfl, rfl, rfl⟩, fun b hb => ?_, q⟩
    have e : b = s1.heap.objs.size := by simpa using hb
    subst e
    exact I1.fpOk (Nat.le_refl _) (I1.hok.fresh (Nat.le_refl _))
  · subst e
    obtain ⟨t, rfl⟩ := r1
    cases ha : z.cps.all (· < 128)
    · exact wpAny_pyIter_wide ha (pi_one (tk := s1.toks) I1 _ (turn_str _ z t "str_iterator" (.inr rfl)) ⟨_, Heap.get?_push_size _ rfl, rfl, rfl⟩ q)
    · exact wpAny_pyIter_ascii ha (pi_one (tk := s1.toks) I1 _ (turn_str _ z t "str_ascii_iterator" (.inl rfl)) ⟨_, Heap.get?_push_size _ rfl, rfl, rfl⟩ q)
/-- what is walked, as data -/
def bodyL (C : Calls) (N : Nm) (t : Tg) (cs : CS) (o : Option (List D)) (e : Env) : RS := match o with
  | some l => loopF t.put (fun e => exec N C cs e) l e
  | none => .stuck
theorem exec_for {t : Tg} {it : CE} (hr : ∀ es, it ≠ .rng es) (hz : ∀ x y, it ≠ .zip x y) : exec W.N C (.for t it cs) env = (evE W.N C it env).bindS fun x e => bodyL C W.N t cs (itemsOf (frz x)) e := by
  have e1 : evI W.N C it env = (evE W.N C it env).bind fun x e => (match itemsOf (frz x) with
    | some l => .ok l e
    | none => .stuck) := by
    cases it <;> first | rfl | exact absurd rfl (hr _) | exact absurd rfl (hz _ _)
  rw [exec, e1]
  cases evE W.N C it env with
  | ok d e =>
    show Res.bindS (match itemsOf (frz d) with
      | some l => Res.ok l e
      | none => Res.stuck) _ = bodyL C W.N t cs (itemsOf (frz d)) e
    cases itemsOf (frz d) <;> rfl
  | _ => rfl
theorem exec_rng {t : Tg} : exec W.N C (.for t (.rng ce) cs) env = (evK W.N C ce env).bindS fun ds e => bodyL C W.N t cs (rngOf ds) e := by
  rw [exec, evI]
  cases evK W.N C ce env with
  | ok d e =>
    show Res.bindS (match rngOf d with
      | some l => Res.ok l e
      | none => Res.stuck) _ = bodyL C W.N t cs (rngOf d) e
    cases rngOf d <;> rfl
  | _ => rfl
theorem z_for {t : Tg} {tg it : Expr} {ci : CE} (g : Gd W k X) (hp : PassesOwn (model X.prog X.w) X.A X.env X.xe) (hr : ∀ es, ci ≠ .rng es) (hz : ∀ x y, ci ≠ .zip x y) (hi : PE X it (tE W C Wx ci)) (hg : PG X tg (gTg X.K t)) (hb : PSs X sts (tS W C Wx ios cs))
    (hfs : ∀ x, foldedSetIterable it X.env x = pure x) (ho : ∀ i ∈ t.own, i < X.N.length ∧ i ∉ ios) : PS X (.For tg it sts [] pos) (tS W C Wx ios (.for t ci cs)) := by
  refine ⟨fun pins s σ H De I h => (ps_for hp g.calm (pi_any hi) hg hb hfs).run pins s σ H De I ?_⟩
  have ho' : ∀ i ∈ t.own, i < σ.length ∧ i ∉ ios := fun i hi => by rw [I.len]; exact ho i hi
  obtain ⟨F, A, env, st, re, h⟩ := h
  rw [exec_for hr hz] at h
  refine tG_mono (moreS0 (ce := ci) (f := fun x e => bodyL C W.N t cs (itemsOf (frz x)) e) st re h) fun x H1 ⟨d, env1, F1, A1, B1, p, r1, r2, h⟩ => ?_
  have p1 := p.frozen
  have fx := frz_here p.st r2
  have r1' := repE_mono (frzH_old p.st) env1 σ A1 (fun _ _ => rfl) r1
  have h := h.step p1 kept.refl
  generalize frz d = d' at h fx
  cases d' with
  | tup l =>
    simp only [frep] at fx
    obtain ⟨ad, vs, rfl, q, fr⟩ := fx
    exact .inr (.inl ⟨ad, vs, rfl, by rw [g.K]; exact SqT.mono' p1.st.sub q, for_all g ho' (by rw [g.K]; exact wk_tup q fr) p1.st r1' h⟩)
  | lst o l =>
    simp only [frep] at fx
    obtain ⟨_, ad, vs, rfl, q, fr⟩ := fx
    exact .inl ⟨ad, vs, rfl, .of (p1.st.sub _ _ q), for_all g ho' (by rw [g.K]; exact wk_list q fr) p1.st r1' h⟩
  | str z =>
    simp only [frep] at fx
    subst fx
    exact .inr (.inr ⟨z, rfl, for_all g ho' wk_str p1.st r1' h⟩)
  | _ => exact h.elim
/-- several values first -/
theorem moreSK {f : List D → Env → RS} (st : Stt F H A) (re : repE W.T F H env σ A) (h : AftS W Wx ios De σ F H A ((evK W.N C ce env).bindS f)) :
    tK W C Wx ce σ H fun vs H1 => ∃ ds env1 F1 A1 B1, ds.length = cLen ce ∧ Stp F H A F1 H1 (A1 ++ B1) ∧ repE W.T F1 H1 env1 σ A1 ∧ reps W.T F1 H1 ds vs B1 ∧ AftS W Wx ios De σ F H A (f ds env1) := by
  refine ⟨F, A, env, st, re, ?_⟩
  cases e : evK W.N C ce env with
  | exn x env =>
    rw [e] at h
    intro cls dd F' H' A' q r1 x1
    exact h cls dd σ F' H' A' q r1 kept.refl x1
  | stuck => rw [e] at h; exact h
  | ok ds env1 =>
    rw [e] at h
    intro v F1 H1 A1 B1 q r1 rv1
    exact ⟨ds, env1, F1, A1, B1, evK_len e, q, r1, rv1, h⟩
theorem big_ok {i : Int} (h : big (some i) = true) : -(2 ^ 62) ≤ i ∧ i < 2 ^ 62 := by
  unfold big at h
  simpa using h
theorem z_rng {t : Tg} {tg : Expr} {p : Pos} {args : List Expr} (g : Gd W k X) (hp : PassesOwn (model X.prog X.w) X.A X.env X.xe) (hgl : Gl X "range") (hm : W.mg "range" = none) (ha : PA X args (tK W C Wx ce)) (hn : nos args = true) (hl : args.length = cLen ce) (h3 : 1 ≤ args.length ∧ args.length ≤ 3)
    (hg : PG X tg (gTg X.K t)) (hb : PSs X sts (tS W C Wx ios cs)) (ho : ∀ i ∈ t.own, i < X.N.length ∧ i ∉ ios) : PS X (.For tg (.Call (.Name "range" p) args [] pos) sts [] apos) (tS W C Wx ios (.for t (.rng ce) cs)) := by
  have hm' : X.mg "range" = none := by rw [g.mg]; exact hm
  have hfs : ∀ x, foldedSetIterable (.Call (.Name "range" p) args [] pos) X.env x = pure x := fun _ => rfl
  have key : ∀ {σ : L2.St} {H : Hp} {De : Ends}, σ.length = X.N.length → tS W C Wx ios (.for t (.rng ce) cs) De σ H → tK W C Wx ce σ H fun vs H1 => ∃ ds env1 F1 A1 B1, Stt F1 H1 A1 ∧ repE W.T F1 H1 env1 σ A1 ∧ reps W.T F1 H1 ds vs B1 ∧ ds.length = cLen ce ∧ AftS W Wx ios De σ F1 H1 A1 (bodyL C W.N t cs (rngOf ds) env1) := by
    intro σ H De hl ⟨F, A, env, st, re, h⟩
    rw [exec_rng] at h
    refine tG_mono (moreSK (ce := ce) (f := fun ds e => bodyL C W.N t cs (rngOf ds) e) st re h) fun vs H1 ⟨ds, env1, F1, A1, B1, hln, p, r1, r2, h⟩ => ?_
    exact ⟨ds, env1, F1, A1, B1, p.dropB.st, r1, r2, hln, h.step p.dropB kept.refl⟩
  have idx : ∀ {σ : L2.St}, σ.length = X.N.length → ∀ i ∈ t.own, i < σ.length ∧ i ∉ ios := fun e i hi => by rw [e]; exact ho i hi
  match args, ha, hn, hfs, hl, h3 with
  | [e1], ha, hn, hfs, hl, _ =>
    refine ⟨fun pins s σ H De I h => (ps_for hp g.calm (pi_range1 hgl hm' ha (by rw [starEach_nos hn]; rfl)) hg hb hfs).run pins s σ H De I ?_⟩
    refine tG_mono (key I.len h) fun vs H1 ⟨ds, env1, F1, A1, B1, st, r1, r2, hlen, h⟩ => ?_
    rw [← hl] at hlen
    match ds, r2, h, hlen with
    | [d], r2, h, _ =>
      obtain ⟨x, rfl, r⟩ := reps_one r2
      cases d with
      | int n =>
        cases rep_int r
        simp only [rngOf, rngL, if_pos] at h
        by_cases hb2 : (big (some 0) && big (some n)) = true
        · rw [if_pos hb2] at h
          simp only [Bool.and_eq_true] at hb2
          have hn2 := big_ok hb2.2
          refine ⟨n, rfl, hn2.1, hn2.2, ?_⟩
          have wk := wk_range (W := W) (F := F1) (lo := 0) (n := n.toNat)
          exact for_all g (idx I.len) wk st r1 (by simpa [bodyL] using h)
        · rw [if_neg hb2] at h; exact h.elim
      | _ => exact h.elim
    | [], _, _, hlen => cases hlen
    | _ :: _ :: _, _, _, hlen => simp at hlen
  | [e1, e2], ha, hn, hfs, hl, _ =>
    refine ⟨fun pins s σ H De I h => (ps_for hp g.calm (pi_range2 hgl hm' ha (by rw [starEach_nos hn, starEach_nos (nos_tl hn)]; rfl) (by rw [starEach_nos (nos_tl hn)]; rfl)) hg hb hfs).run pins s σ H De I ?_⟩
    refine tG_mono (key I.len h) fun vs H1 ⟨ds, env1, F1, A1, B1, st, r1, r2, hlen, h⟩ => ?_
    rw [← hl] at hlen
    match ds, r2, h, hlen with
    | [d, e], r2, h, _ =>
      obtain ⟨x, y, B, C', rfl, _, q1, q2⟩ := reps_two r2
      cases d with
      | int m => cases e with
        | int n =>
          cases rep_int q1
          cases rep_int q2
          simp only [rngOf, rngL, if_pos] at h
          by_cases hb2 : (big (some m) && big (some n)) = true
          · rw [if_pos hb2] at h
            simp only [Bool.and_eq_true] at hb2
            have hm2 := big_ok hb2.1
            have hn2 := big_ok hb2.2
            refine ⟨m, n, rfl, ⟨hm2.1, hm2.2, hn2.1, hn2.2⟩, ?_⟩
            exact for_all g (idx I.len) (wk_range (W := W) (F := F1) (lo := m) (n := (n - m).toNat)) st r1 h
          · rw [if_neg hb2] at h; exact h.elim
        | _ => exact h.elim
      | _ => exact h.elim
    | [], _, _, hlen => cases hlen
    | [_], _, _, hlen => simp at hlen
    | _ :: _ :: _ :: _, _, _, hlen => simp at hlen
  | [e1, e2, e3], ha, hn, hfs, hl, _ =>
    refine ⟨fun pins s σ H De I h => (ps_for hp g.calm (pi_range3 hgl hm' ha (starEach_nos hn) (starEach_any (nos_tl hn))) hg hb hfs).run pins s σ H De I ?_⟩
    refine tG_mono (key I.len h) fun vs H1 ⟨ds, env1, F1, A1, B1, st, r1, r2, hlen, h⟩ => ?_
    rw [← hl] at hlen
    match ds, r2, h, hlen with
    | [d, e, f], r2, h, _ =>
      obtain ⟨x, y, z, rfl, q1, q2, q3⟩ : ∃ x y z, vs = [x, y, z] ∧ (∃ B, rep W.T F1 H1 d x B) ∧ (∃ B, rep W.T F1 H1 e y B) ∧ ∃ B, rep W.T F1 H1 f z B := by
        match vs, r2 with
        | x :: vs, r2 =>
          simp only [reps] at r2
          obtain ⟨B, C2, _, a1, r2⟩ := r2
          obtain ⟨y, z, B2, C3, rfl, _, a2, a3⟩ := reps_two r2
          exact ⟨x, y, z, rfl, ⟨_, a1⟩, ⟨_, a2⟩, ⟨_, a3⟩⟩
        | [], r2 => simp [reps] at r2
      obtain ⟨_, q1⟩ := q1
      obtain ⟨_, q2⟩ := q2
      obtain ⟨_, q3⟩ := q3
      cases d with
      | int m => cases e with
        | int n => cases f with
          | int c =>
            cases rep_int q1
            cases rep_int q2
            cases rep_int q3
            simp only [rngOf, rngL] at h
            by_cases hc1 : c = 1
            · subst hc1
              rw [if_pos rfl] at h
              exact h.elim
            · rw [if_neg hc1, if_neg hc1] at h
              split at h
              · rename_i hcc
                obtain ⟨h1, h2, h3, h4⟩ := hcc
                refine ⟨m, n, c, _, rfl, ⟨h1, h2, h3, (Int.toNat_of_nonneg h4).symm⟩, ?_⟩
                exact for_all g (idx I.len) (wk_rangeC (W := W) (F := F1) (lo := m) (c := c)) st r1 h
              · exact h.elim
          | _ => exact h.elim
        | _ => exact h.elim
      | _ => exact h.elim
    | [], _, _, hlen => cases hlen
    | [_], _, _, hlen => simp at hlen
    | [_, _], _, _, hlen => simp at hlen
    | _ :: _ :: _ :: _ :: _, _, _, hlen => simp at hlen
  | [], _, _, _, _, h3 => exact absurd h3.1 (by simp)
  | _ :: _ :: _ :: _ :: _, _, _, _, _, h3 => exact absurd h3.2 (by simp <;> omega)
end
end Z

namespace Z
open PySem PySem.Spec PyProof.Rows L2
/-- a def's scope -/
structure Sc where
  N : List Str
  nm : List (Str × NameKind)
/-- the tables that a check reads -/
structure Tb where
  n : Ns
  P : Nat → Option Fd
  cs : List Nat
  xs : List Nat
  xf : Nat → Option Nat
  bs : List Blt
def okName (x : Str) : Bool := !(x == ("__debug__" : Str)) && !(x == ("__classdict__" : Str))
def visB (S : Sc) (i : Nat) (x : Str) : Bool := (match S.N[i]? with | some y => x == y | none => false) && (match S.nm.lookup x with | some .local => true | some .cell => true | some .free => true | _ => false) && okName x
def locB (S : Sc) (i : Nat) (x : Str) : Bool := (match S.N[i]? with | some y => x == y | none => false) && (match S.nm.lookup x with | some .local => true | some .cell => true | _ => false)
def gloB (S : Sc) (x : Str) : Bool := match S.nm.lookup x with
  | some .globalImplicit => true
  | _ => false
def plainB : Expr → Bool
  | .Slice .. => false
  | _ => true
def noIf : Expr → Bool
  | .IfExp .. => false
  | _ => true
def isTy (n : Ns) (t : Ty) (x : Str) : Bool := match t with
  | .int => x == "int" | .bool => x == "bool" | .str => x == "str" | .list => x == "list" | .tuple => x == "tuple" | .cls c => x == n.cl c
def tyB (S : Sc) (B : Tb) (t : Ty) (e : Expr) : Bool := match e with
  | .Name x _ => gloB S x && isTy B.n t x && (match t with | .cls c => B.cs.contains c && okName x && !(x == ("__name__" : Str)) | _ => true)
  | _ => false
def tyL (S : Sc) (B : Tb) : List Ty → List Expr → Bool
  | [], [] => true
  | t :: r, e :: l => tyB S B t e && tyL S B r l
  | _, _ => false
def isiB (S : Sc) (B : Tb) (ts : List Ty) (e : Expr) : Bool := match e with
  | .Tuple l _ _ => tyL S B ts l && decide (ts.length ≤ 1000)
  | e => (match ts with
    | [t] => tyB S B t e
    | _ => false)
def ioB (B : Tb) (f : Nat) (l : List Nat) : Bool := match B.P f with
  | some fd => decide (fd.io = l)
  | none => false
def ioM (B : Tb) (m : Nat) (l : List Nat) : Bool := B.cs.all fun c => match B.P (mfid c m) with
  | some fd => decide (fd.io = l)
  | none => true
def isNil : CE → Bool
  | .nil => true
  | _ => false
def isNC : CE → Bool
  | .con .none => true
  | _ => false
def isVar1 : CE → Option Nat
  | .cons (.var i) .nil => some i
  | _ => none
mutual
def chkE (S : Sc) (B : Tb) : CE → Expr → Bool
  | .con c, e => (match e with | .Constant d _ _ => decide (c = d) | _ => false)
  | .glo g, e => (match e with | .Name x _ => gloB S x && x == B.n.gl g && okName x | _ => false)
  | .var i, e => (match e with | .Name x _ => visB S i x | _ => false)
  | .tup es, e => (match e with | .Tuple l _ _ => chkK S B es l && decide (cLen es ≤ 1000) | _ => false)
  | .lst es, e => (match e with | .List l _ => chkK S B es l && decide (cLen es ≤ 1000) | _ => false)
  | .neg a, e => (match e with | .UnaryOp .USub x _ => chkE S B a x | _ => false)
  | .bin o a b, e => (match e with | .BinOp x o' y _ => decide (o = o') && chkE S B a x && chkE S B b y | _ => false)
  | .not a, e => (match e with | .UnaryOp .Not x _ => chkE S B a x && noIf x | _ => false)
  | .ands es, e => (match e with | .BoolOp .And l _ => chkA S B es l | _ => false)
  | .ors es, e => (match e with | .BoolOp .Or l _ => chkA S B es l | _ => false)
  | .cmp o a b, e => (match e with | .Compare x [o'] [y] _ => decide (o = o') && !behindInMarks o y && chkE S B a x && chkE S B b y | _ => false)
  | .chn o p a b c, e => (match e with | .Compare x [o', p'] [y, z] _ => decide (o = o') && decide (p = p') && !lastMarks [o, p] [y, z] && chkE S B a x && chkE S B b y && chkE S B c z | _ => false)
  | .ite c a b, e => (match e with | .IfExp x y z _ => chkE S B c x && noIf x && chkE S B a y && chkE S B b z | _ => false)
  | .idx a j, e => (match e with | .Subscript x y _ => chkE S B a x && chkE S B j y && plainB y | _ => false)
  | .slc a lo hi, e => (match e with
    | .Subscript x (.Slice l h none _) _ => chkE S B a x && (match l with | some l => chkE S B lo l | none => isNC lo) && (match h with | some h => chkE S B hi h | none => isNC hi)
    | _ => false)
  | .rev a, e => (match e with | .Subscript x (.Slice none none (some (.UnaryOp .USub (.Constant (.int 1) _ _) _)) _) _ => chkE S B a x | _ => false)
  | .cal f es, e => (match e with | .Call (.Name x _) l [] _ => x == B.n.fn f && gloB S x && decide (f < 1000) && nos l && ioB B f (ioPos es 0) && (!l.isEmpty || isNil es) && chkL S B es l | _ => false)
  | .new c es, e => (match e with | .Call (.Name x _) l [] _ => x == B.n.cl c && gloB S x && nos l && (B.P (mfid c mInit)).isSome && (!l.isEmpty || isNil es) && chkK S B es l | _ => false)
  | .mth m a es, e => (match e with | .Call (.Attribute o x ap) l [] pos => x == B.n.mt m && nosup o && nos l && decide (l.length < 30) && ap.endLine == pos.line && ioM B m (ioPos es 1) && (!l.isEmpty || isNil es) && chkE S B a o && chkL S B es l | _ => false)
  | .att a f, e => (match e with | .Attribute o x _ => x == B.n.fl f && nosup o && chkE S B a o | _ => false)
  | .blt b es, e => (match e with
    | .Call (.Name x _) l [] _ => x == bltN b && gloB S x && nos l && decide (b ≠ .sorted) && B.bs.contains b && (match l with
      | [] => false
      | y :: r => (match (if b = .len then isVar1 es else none), y, r with
        | some i, .Name z _, [] => visB S i z
        | some _, _, _ => false
        | none, _, _ => chkK S B es l))
    | _ => false)
  | .smt m a es, e => (match e with | .Call (.Attribute o x ap) l [] pos => x == smtN m && nosup o && nos l && decide (l.length < 30) && ap.endLine == pos.line && (!l.isEmpty || isNil es) && chkE S B a o && chkK S B es l | _ => false)
  | .pop i, e => (match e with | .Call (.Attribute (.Name z _) x ap) [] [] pos => x == ("pop" : Str) && ap.endLine == pos.line && visB S i z | _ => false)
  | .pop0 i, e => (match e with | .Call (.Attribute (.Name z _) x ap) [.Constant (.int 0) _ _] [] pos => x == ("pop" : Str) && ap.endLine == pos.line && visB S i z | _ => false)
  | .isi a ts, e => (match e with | .Call (.Name x _) [y, t] [] _ => x == ("isinstance" : Str) && gloB S x && nos [y, t] && isiB S B ts t && chkE S B a y | _ => false)
  | _, _ => false
termination_by structural c => c
def chkL (S : Sc) (B : Tb) : CE → List Expr → Bool
  | .nil, l => l.isEmpty
  | .cons a es, l => (match l with
    | [] => false
    | e :: r => nos [e] && (match a, e with
      | .io i, .Name x _ => visB S i x && chkL S B es r
      | .io _, _ => false
      | a, e => chkE S B a e && chkL S B es r))
  | _, _ => false
termination_by structural c => c
def chkK (S : Sc) (B : Tb) : CE → List Expr → Bool
  | .nil, l => l.isEmpty
  | .cons a es, l => (match l with
    | [] => false
    | e :: r => nos [e] && chkE S B a e && chkK S B es r)
  | _, _ => false
termination_by structural c => c
def chkA (S : Sc) (B : Tb) : CE → List Expr → Bool
  | .cons a .nil, l => (match l with
    | [e] => chkE S B a e && noIf e
    | _ => false)
  | .cons a es, l => (match l with
    | [] => false
    | e :: r => chkE S B a e && noIf e && chkA S B es r)
  | _, _ => false
termination_by structural c => c
end
end Z

namespace Z
open PySem PySem.Spec PyProof.Rows L2
structure Bd (S : Sc) (X : Cx) : Prop where
  N : X.N = S.N
  nm : X.env.scope.names = S.nm
  fn : ∀ x, S.nm.lookup x = some .cell → X.fn x = true
def tbOf (W : Wd) : Tb := ⟨W.n, W.P, W.T.cs, W.xs, W.N.xf, W.bs⟩
structure BOk (W : Wd) : Prop where
  blt : ∀ b ∈ W.bs, W.mg (bltN b) = if b = .gcd then some (.builtin "math.gcd") else none
  gl : ∀ g d, W.N.gl g = some d → ∃ u v, W.mg (W.n.gl g) = some u ∧ RelV v u ∧ ∀ F, frep W.T F d v
  ty : ∀ x ∈ ["int", "bool", "str", "list", "tuple", "range", "zip", "super"], W.mg (Str.ofString x) = none
  cl : ∀ c ∈ W.T.cs, W.mg (W.n.cl c) = some (.ref (W.T.cad c))
structure All (W : Wd) (C : Calls) (k : Nat) : Prop where
  ok : Ok W C k
  gk : GOk W
  ik : IOk W
  xk : XOk W
  bk : BOk W
section
variable {W : Wd} {k : Nat} {X : Cx} {C : Calls} {Wx : WX} {S : Sc}
theorem okName_ok {x : Str} (h : okName x = true) : (x == ("__debug__" : Str)) = false ∧ (x == ("__classdict__" : Str)) = false := by
  unfold okName at h
  simp only [Bool.and_eq_true, Bool.not_eq_true'] at h
  exact h
theorem visB_ok (bd : Bd S X) {i : Nat} {x : Str} (h : visB S i x = true) : X.N[i]? = some x ∧ Vis X.env.scope x ∧ (x == ("__debug__" : Str)) = false ∧ (x == ("__classdict__" : Str)) = false := by
  unfold visB at h
  simp only [Bool.and_eq_true] at h
  obtain ⟨⟨h1, h2⟩, h3⟩ := h
  refine ⟨?_, ?_, okName_ok h3⟩
  · rw [bd.N]
    cases e : S.N[i]? with
    | none => rw [e] at h1; cases h1
    | some y => rw [e] at h1; exact congrArg some (beq_iff_eq.mp h1).symm
  · unfold Vis
    rw [bd.nm]
    split at h2
    · rename_i e; exact .inl e
    · rename_i e; exact .inr (.inl e)
    · rename_i e; exact .inr (.inr e)
    · cases h2
theorem locB_ok (bd : Bd S X) {i : Nat} {x : Str} (h : locB S i x = true) : X.N[i]? = some x ∧ L2.Loc X.env.scope x ∧ (X.fn x = true ∨ X.env.scope.names.lookup x = some .local) := by
  unfold locB at h
  simp only [Bool.and_eq_true] at h
  obtain ⟨h1, h2⟩ := h
  refine ⟨?_, ?_⟩
  · rw [bd.N]
    cases e : S.N[i]? with
    | none => rw [e] at h1; cases h1
    | some y => rw [e] at h1; exact congrArg some (beq_iff_eq.mp h1).symm
  · unfold L2.Loc
    rw [bd.nm]
    split at h2
    · rename_i e; exact ⟨.inl e, .inr e⟩
    · rename_i e; exact ⟨.inr e, .inl (bd.fn _ e)⟩
    · cases h2
theorem gloB_ok (bd : Bd S X) {x : Str} (h : gloB S x = true) : Gl X x := by
  unfold gloB at h
  split at h
  · rename_i e
    show X.env.scope.names.lookup x = _
    rw [bd.nm]; exact e
  · cases h
theorem nos_cons {e : Expr} {r : List Expr} (h : nos [e] = true) (h2 : nos r = true) : nos (e :: r) = true := by
  cases e <;> first | exact h2 | (simp [nos] at h)
theorem chkK_nos : ∀ {ce : CE} {l : List Expr}, chkK S (tbOf W) ce l = true → nos l = true ∧ cLen ce = l.length
  | .nil, l, h => by
    cases l with
    | nil => exact ⟨rfl, rfl⟩
    | cons _ _ => exact absurd h Bool.false_ne_true
  | .cons a es, [], h => absurd h Bool.false_ne_true
  | .cons a es, e :: r, h => by
    have h : (nos [e] && chkE S (tbOf W) a e && chkK S (tbOf W) es r) = true := h
    simp only [Bool.and_eq_true] at h
    obtain ⟨i1, i2⟩ := chkK_nos h.2
    exact ⟨nos_cons h.1.1 i1, by simp [cLen, i2]⟩
  | .con _, l, h | .glo _, l, h | .var _, l, h | .io _, l, h | .tup _, l, h | .lst _, l, h | .neg _, l, h | .bin _ _ _, l, h
  | .not _, l, h | .ands _, l, h | .ors _, l, h | .cmp _ _ _, l, h | .chn _ _ _ _ _, l, h | .ite _ _ _, l, h | .idx _ _, l, h
  | .pth _ _ _, l, h | .slc _ _ _, l, h | .rev _, l, h | .cal _ _, l, h | .new _ _, l, h | .mth _ _ _, l, h | .app _ _, l, h | .att _ _, l, h
  | .blt _ _, l, h | .smt _ _ _, l, h | .pop _, l, h | .pop0 _, l, h | .isi _ _, l, h | .lcp _ _ _ _, l, h | .rng _, l, h | .zip _ _, l, h | .fmt _, l, h => absurd h Bool.false_ne_true
theorem isNil_ok {l : List Expr} {ce : CE} (h : (!l.isEmpty || isNil ce) = true) : l = [] → ce = .nil := fun e => by
  subst e
  cases ce <;> first | rfl | exact absurd h Bool.false_ne_true
theorem ioB_ok {f : Nat} {l : List Nat} (h : ioB (tbOf W) f l = true) : ∃ fd, W.P f = some fd ∧ fd.io = l := by
  have h : (match W.P f with
    | some fd => decide (fd.io = l)
    | none => false) = true := h
  cases e : W.P f with
  | none => rw [e] at h; cases h
  | some fd => rw [e] at h; exact ⟨fd, rfl, of_decide_eq_true h⟩
theorem ioM_ok (zk : ZOk W) {m : Nat} {l : List Nat} (h : ioM (tbOf W) m l = true) : ∀ c fd, W.P (mfid c m) = some fd → fd.io = l := by
  intro c fd e
  have h1 := List.all_eq_true.mp h c (zk.of c m fd e)
  have h1 : (match W.P (mfid c m) with
    | some fd => decide (fd.io = l)
    | none => true) = true := h1
  rw [e] at h1
  exact of_decide_eq_true h1
theorem tyB_ok (al : All W C k) (g : Gd W k X) (bd : Bd S X) {t : Ty} {e : Expr} (h : tyB S (tbOf W) t e = true) : PE X e (tC (tyW W t)) ∧ t ∈ tys W.T.cs ∧ nos [e] = true := by
  cases e with
  | Name x p =>
    have h : (gloB S x && isTy W.n t x && (match (generalizing := false) t with | .cls c => W.T.cs.contains c && okName x && !(x == ("__name__" : Str)) | _ => true)) = true := h
    simp only [Bool.and_eq_true] at h
    obtain ⟨⟨h1, h2⟩, h3⟩ := h
    have hg := gloB_ok bd h1
    cases t with
    | int =>
      have e : x = ("int" : Str) := by simpa [isTy] using h2
      subst e
      exact ⟨z_ty al.gk g hg (by decide) (by decide) (.inl ⟨al.bk.ty "int" (by simp), by kernel_rfl⟩), by simp [tys], rfl⟩
    | bool =>
      have e : x = ("bool" : Str) := by simpa [isTy] using h2
      subst e
      exact ⟨z_ty al.gk g hg (by decide) (by decide) (.inl ⟨al.bk.ty "bool" (by simp), by kernel_rfl⟩), by simp [tys], rfl⟩
    | str =>
      have e : x = ("str" : Str) := by simpa [isTy] using h2
      subst e
      exact ⟨z_ty al.gk g hg (by decide) (by decide) (.inl ⟨al.bk.ty "str" (by simp), by kernel_rfl⟩), by simp [tys], rfl⟩
    | list =>
      have e : x = ("list" : Str) := by simpa [isTy] using h2
      subst e
      exact ⟨z_ty al.gk g hg (by decide) (by decide) (.inl ⟨al.bk.ty "list" (by simp), by kernel_rfl⟩), by simp [tys], rfl⟩
    | tuple =>
      have e : x = ("tuple" : Str) := by simpa [isTy] using h2
      subst e
      exact ⟨z_ty al.gk g hg (by decide) (by decide) (.inl ⟨al.bk.ty "tuple" (by simp), by kernel_rfl⟩), by simp [tys], rfl⟩
    | cls c =>
      simp only [Bool.and_eq_true, Bool.not_eq_true'] at h3
      obtain ⟨⟨h4, h5⟩, h6⟩ := h3
      have e : x = W.n.cl c := by simpa [isTy] using h2
      subst e
      have hc : c ∈ W.T.cs := by simpa using h4
      exact ⟨z_ty al.gk g hg (okName_ok h5).1 (by simpa using h6) (.inr (al.bk.cl c hc)), by simp [tys, hc], rfl⟩
  | _ => exact absurd h Bool.false_ne_true
theorem tyL_ok (al : All W C k) (g : Gd W k X) (bd : Bd S X) : ∀ {ts : List Ty} {l : List Expr}, tyL S (tbOf W) ts l = true → PA X l (tTys W ts) ∧ ∀ t ∈ ts, t ∈ tys W.T.cs
  | [], [], _ => ⟨pa_nil, fun t h => by cases h⟩
  | [], _ :: _, h => absurd h Bool.false_ne_true
  | _ :: _, [], h => absurd h Bool.false_ne_true
  | t :: ts, e :: l, h => by
    have h : (tyB S (tbOf W) t e && tyL S (tbOf W) ts l) = true := h
    simp only [Bool.and_eq_true] at h
    obtain ⟨p1, t1, n1⟩ := tyB_ok al g bd h.1
    obtain ⟨p2, t2⟩ := tyL_ok al g bd h.2
    refine ⟨pa_cons p1 p2 ?_, fun t' ht => ?_⟩
    · cases e <;> first | rfl | (simp [nos] at n1)
    · rcases List.mem_cons.mp ht with rfl | ht
      · exact t1
      · exact t2 t' ht
/-- what a check gives -/
structure Snd (W : Wd) (C : Calls) (Wx : WX) (X : Cx) (S : Sc) (ce : CE) : Prop where
  e : ∀ x, chkE S (tbOf W) ce x = true → PE X x (tE W C Wx ce) ∧ (noIf x = true → PT X x (tT W C Wx ce))
  l : ∀ x, chkL S (tbOf W) ce x = true → PA X x (tL W C Wx ce)
  k : ∀ x, chkK S (tbOf W) ce x = true → PA X x (tK W C Wx ce)
  a : ∀ x, chkA S (tbOf W) ce x = true → x ≠ [] ∧ ∀ pos, PE X (.BoolOp .And x pos) (tA W C Wx ce) ∧ PE X (.BoolOp .Or x pos) (tO W C Wx ce) ∧ PW X (.BoolOp .And x pos) (tAT W C Wx ce) ∧ PW X (.BoolOp .Or x pos) (tOT W C Wx ce)
theorem chk_ok (al : All W C k) : ∀ (ce : CE) {X : Cx} {S : Sc} {Wx : WX}, Gd W k X → Bd S X → Takes X Wx → Snd W C Wx X S ce := by
  intro ce
  induction ce with
  | con c =>
    intro X S Wx g bd tk
    refine ⟨fun e h => ?_, fun _ h => absurd h Bool.false_ne_true, fun _ h => absurd h Bool.false_ne_true, fun _ h => absurd h Bool.false_ne_true⟩
    cases e with
    | Constant d j p =>
      have h : decide (c = d) = true := h
      cases of_decide_eq_true h
      exact ⟨z_con, fun _ => z_val z_con fun _ => rfl⟩
    | _ => exact absurd h Bool.false_ne_true
  | glo gi =>
    intro X S Wx g bd tk
    refine ⟨fun e h => ?_, fun _ h => absurd h Bool.false_ne_true, fun _ h => absurd h Bool.false_ne_true, fun _ h => absurd h Bool.false_ne_true⟩
    cases e with
    | Name x p =>
      have h : (gloB S x && x == W.n.gl gi && okName x) = true := h
      simp only [Bool.and_eq_true] at h
      obtain ⟨⟨h1, h2⟩, h3⟩ := h
      have e := beq_iff_eq.mp h2
      subst e
      have q : PE X (.Name (W.n.gl gi) p) (tE W C Wx (.glo gi)) := by
        cases e : W.N.gl gi with
        | none =>
          refine ⟨fun pins s σ H Q I h => ?_⟩
          obtain ⟨F, A, env, st, re, h⟩ := h
          rw [evE] at h
          simp only [e] at h
          exact h.elim
        | some d =>
          obtain ⟨u, v, hm, r, hf⟩ := al.bk.gl gi d e
          exact z_glo (gloB_ok bd h1) (by rw [g.mg]; exact hm) r (fun d' e' => by rw [e] at e'; cases e'; exact hf) (okName_ok h3).1
      exact ⟨q, fun _ => z_val q fun _ => rfl⟩
    | _ => exact absurd h Bool.false_ne_true
  | var i =>
    intro X S Wx g bd tk
    refine ⟨fun e h => ?_, fun _ h => absurd h Bool.false_ne_true, fun _ h => absurd h Bool.false_ne_true, fun _ h => absurd h Bool.false_ne_true⟩
    cases e with
    | Name x p =>
      obtain ⟨h1, h2, h3, h4⟩ := visB_ok bd h
      exact ⟨z_var h1 h2 h3 h4, fun _ => z_val (z_var h1 h2 h3 h4) fun _ => rfl⟩
    | _ => exact absurd h Bool.false_ne_true
  | tup es ih =>
    intro X S Wx g bd tk
    refine ⟨fun e h => ?_, fun _ h => absurd h Bool.false_ne_true, fun _ h => absurd h Bool.false_ne_true, fun _ h => absurd h Bool.false_ne_true⟩
    cases e with
    | Tuple l j p =>
      have h : (chkK S (tbOf W) es l && decide (cLen es ≤ 1000)) = true := h
      simp only [Bool.and_eq_true] at h
      have q : PE X (.Tuple l j p) (tE W C Wx (.tup es)) := z_tup ((ih g bd tk).k l h.1) (of_decide_eq_true h.2)
      exact ⟨q, fun _ => z_val q fun _ => rfl⟩
    | _ => exact absurd h Bool.false_ne_true
  | lst es ih =>
    intro X S Wx g bd tk
    refine ⟨fun e h => ?_, fun _ h => absurd h Bool.false_ne_true, fun _ h => absurd h Bool.false_ne_true, fun _ h => absurd h Bool.false_ne_true⟩
    cases e with
    | List l p =>
      have h : (chkK S (tbOf W) es l && decide (cLen es ≤ 1000)) = true := h
      simp only [Bool.and_eq_true] at h
      have q : PE X (.List l p) (tE W C Wx (.lst es)) := z_lst ((ih g bd tk).k l h.1) (of_decide_eq_true h.2)
      exact ⟨q, fun _ => z_val q fun _ => rfl⟩
    | _ => exact absurd h Bool.false_ne_true
  | neg a ih =>
    intro X S Wx g bd tk
    refine ⟨fun e h => ?_, fun _ h => absurd h Bool.false_ne_true, fun _ h => absurd h Bool.false_ne_true, fun _ h => absurd h Bool.false_ne_true⟩
    cases e with
    | UnaryOp op x p => cases op with
      | USub =>
        have q : PE X (.UnaryOp .USub x p) (tE W C Wx (.neg a)) := z_neg g al.ok tk ((ih g bd tk).e x h).1
        exact ⟨q, fun _ => z_val q fun _ => rfl⟩
      | _ => exact absurd h Bool.false_ne_true
    | _ => exact absurd h Bool.false_ne_true
  | bin o a b iha ihb =>
    intro X S Wx g bd tk
    refine ⟨fun e h => ?_, fun _ h => absurd h Bool.false_ne_true, fun _ h => absurd h Bool.false_ne_true, fun _ h => absurd h Bool.false_ne_true⟩
    cases e with
    | BinOp x o' y p =>
      have h : (decide (o = o') && chkE S (tbOf W) a x && chkE S (tbOf W) b y) = true := h
      simp only [Bool.and_eq_true] at h
      obtain ⟨⟨h1, h2⟩, h3⟩ := h
      cases of_decide_eq_true h1
      have q : PE X (.BinOp x o y p) (tE W C Wx (.bin o a b)) := z_bin g al.ok tk ((iha g bd tk).e x h2).1 ((ihb g bd tk).e y h3).1
      exact ⟨q, fun _ => z_val q fun _ => rfl⟩
    | _ => exact absurd h Bool.false_ne_true
  | not a ih =>
    intro X S Wx g bd tk
    refine ⟨fun e h => ?_, fun _ h => absurd h Bool.false_ne_true, fun _ h => absurd h Bool.false_ne_true, fun _ h => absurd h Bool.false_ne_true⟩
    cases e with
    | UnaryOp op x p => cases op with
      | Not =>
        have h : (chkE S (tbOf W) a x && noIf x) = true := h
        simp only [Bool.and_eq_true] at h
        obtain ⟨q1, q2⟩ := (ih g bd tk).e x h.1
        exact ⟨z_not q1, fun _ => z_notT (q2 h.2)⟩
      | _ => exact absurd h Bool.false_ne_true
    | _ => exact absurd h Bool.false_ne_true
  | ands es ih =>
    intro X S Wx g bd tk
    refine ⟨fun e h => ?_, fun _ h => absurd h Bool.false_ne_true, fun _ h => absurd h Bool.false_ne_true, fun _ h => absurd h Bool.false_ne_true⟩
    cases e with
    | BoolOp op l p => cases op with
      | And =>
        obtain ⟨_, q⟩ := (ih g bd tk).a l h
        exact ⟨(q p).1, fun _ => (q p).2.2.1.pt⟩
      | _ => exact absurd h Bool.false_ne_true
    | _ => exact absurd h Bool.false_ne_true
  | ors es ih =>
    intro X S Wx g bd tk
    refine ⟨fun e h => ?_, fun _ h => absurd h Bool.false_ne_true, fun _ h => absurd h Bool.false_ne_true, fun _ h => absurd h Bool.false_ne_true⟩
    cases e with
    | BoolOp op l p => cases op with
      | Or =>
        obtain ⟨_, q⟩ := (ih g bd tk).a l h
        exact ⟨(q p).2.1, fun _ => (q p).2.2.2.pt⟩
      | _ => exact absurd h Bool.false_ne_true
    | _ => exact absurd h Bool.false_ne_true
  | cmp o a b iha ihb =>
    intro X S Wx g bd tk
    refine ⟨fun e h => ?_, fun _ h => absurd h Bool.false_ne_true, fun _ h => absurd h Bool.false_ne_true, fun _ h => absurd h Bool.false_ne_true⟩
    cases e with
    | Compare x ops ys p =>
      match ops, ys, h with
      | [o'], [y], h =>
        have h : (decide (o = o') && !behindInMarks o y && chkE S (tbOf W) a x && chkE S (tbOf W) b y) = true := h
        simp only [Bool.and_eq_true, Bool.not_eq_true'] at h
        obtain ⟨⟨⟨h1, h2⟩, h3⟩, h4⟩ := h
        cases of_decide_eq_true h1
        have qa := ((iha g bd tk).e x h3).1
        have qb := ((ihb g bd tk).e y h4).1
        exact ⟨z_cmp g al.ok tk qa qb h2, fun _ => z_cmpT g al.ok tk qa qb h2⟩
      | [], _, h => exact absurd h Bool.false_ne_true
      | [_], [], h => exact absurd h Bool.false_ne_true
      | [_], _ :: _ :: _, h => exact absurd h Bool.false_ne_true
      | _ :: _ :: _, _, h => exact absurd h Bool.false_ne_true
    | _ => exact absurd h Bool.false_ne_true
  | chn o p a b c iha ihb ihc =>
    intro X S Wx g bd tk
    refine ⟨fun e h => ?_, fun _ h => absurd h Bool.false_ne_true, fun _ h => absurd h Bool.false_ne_true, fun _ h => absurd h Bool.false_ne_true⟩
    cases e with
    | Compare x ops ys pp =>
      match ops, ys, h with
      | [o', p'], [y, z], h =>
        have h : (decide (o = o') && decide (p = p') && !lastMarks [o, p] [y, z] && chkE S (tbOf W) a x && chkE S (tbOf W) b y && chkE S (tbOf W) c z) = true := h
        simp only [Bool.and_eq_true, Bool.not_eq_true'] at h
        obtain ⟨⟨⟨⟨⟨h1, h1'⟩, h2⟩, h3⟩, h4⟩, h5⟩ := h
        cases of_decide_eq_true h1
        cases of_decide_eq_true h1'
        have qa := ((iha g bd tk).e x h3).1
        have qb := ((ihb g bd tk).e y h4).1
        have qc := ((ihc g bd tk).e z h5).1
        exact ⟨z_chn g al.ok tk qa qb qc h2, fun _ => z_chnT g al.ok tk qa qb qc h2⟩
      | [], _, h => exact absurd h Bool.false_ne_true
      | [_], _, h => exact absurd h Bool.false_ne_true
      | [_, _], [], h => exact absurd h Bool.false_ne_true
      | [_, _], [_], h => exact absurd h Bool.false_ne_true
      | [_, _], _ :: _ :: _ :: _, h => exact absurd h Bool.false_ne_true
      | _ :: _ :: _ :: _, _, h => exact absurd h Bool.false_ne_true
    | _ => exact absurd h Bool.false_ne_true
  | ite c a b ihc iha ihb =>
    intro X S Wx g bd tk
    refine ⟨fun e h => ?_, fun _ h => absurd h Bool.false_ne_true, fun _ h => absurd h Bool.false_ne_true, fun _ h => absurd h Bool.false_ne_true⟩
    cases e with
    | IfExp x y z p =>
      have h : (chkE S (tbOf W) c x && noIf x && chkE S (tbOf W) a y && chkE S (tbOf W) b z) = true := h
      simp only [Bool.and_eq_true] at h
      obtain ⟨⟨⟨h1, h2⟩, h3⟩, h4⟩ := h
      exact ⟨z_ite (((ihc g bd tk).e x h1).2 h2) ((iha g bd tk).e y h3).1 ((ihb g bd tk).e z h4).1, fun h => absurd h Bool.false_ne_true⟩
    | _ => exact absurd h Bool.false_ne_true
  | idx a j iha ihj =>
    intro X S Wx g bd tk
    refine ⟨fun e h => ?_, fun _ h => absurd h Bool.false_ne_true, fun _ h => absurd h Bool.false_ne_true, fun _ h => absurd h Bool.false_ne_true⟩
    cases e with
    | Subscript x y p =>
      have h : (chkE S (tbOf W) a x && chkE S (tbOf W) j y && plainB y) = true := h
      simp only [Bool.and_eq_true] at h
      obtain ⟨⟨h1, h2⟩, h3⟩ := h
      have hp : PlainIx y := fun o i => by cases y <;> first | rfl | exact absurd h3 Bool.false_ne_true
      have qj := ((ihj g bd tk).e y h2).1
      have q : PE X (.Subscript x y p) (tE W C Wx (.idx a j)) := by
        by_cases hv : ∃ i, a = .var i
        · obtain ⟨i, rfl⟩ := hv
          cases x with
          | Name z pz =>
            obtain ⟨h1, h2, h3, h4⟩ := visB_ok bd h1
            exact z_idxV g h1 h2 h3 h4 qj hp
          | _ => exact absurd h1 Bool.false_ne_true
        · exact z_idx g (fun i e => hv ⟨i, e⟩) ((iha g bd tk).e x h1).1 qj hp
      exact ⟨q, fun _ => z_val q fun _ => rfl⟩
    | _ => exact absurd h Bool.false_ne_true
  | slc a lo hi iha ihl ihh =>
    intro X S Wx g bd tk
    refine ⟨fun e h => ?_, fun _ h => absurd h Bool.false_ne_true, fun _ h => absurd h Bool.false_ne_true, fun _ h => absurd h Bool.false_ne_true⟩
    cases e with
    | Subscript x y p => cases y with
      | Slice l u st p2 => cases st with
        | none =>
          have h : (chkE S (tbOf W) a x && (match (generalizing := false) l with | some l => chkE S (tbOf W) lo l | none => isNC lo) && (match (generalizing := false) u with | some h => chkE S (tbOf W) hi h | none => isNC hi)) = true := h
          simp only [Bool.and_eq_true] at h
          obtain ⟨⟨h1, h2⟩, h3⟩ := h
          have part : ∀ (ce : CE) (o : Option Expr), Snd W C Wx X S ce → (match (generalizing := false) o with | some l => chkE S (tbOf W) ce l | none => isNC ce) = true → PO X o (tPt W C Wx ce) := fun ce o ih h => by
            cases o with
            | some l => exact z_po1 (ih.e l h).1
            | none =>
              have h : isNC ce = true := h
              unfold isNC at h
              split at h
              · exact z_po0
              · cases h
          have q : PE X (.Subscript x (.Slice l u none p2) p) (tE W C Wx (.slc a lo hi)) := z_slc g ((iha g bd tk).e x h1).1 (part lo l (ihl g bd tk) h2) (part hi u (ihh g bd tk) h3)
          exact ⟨q, fun _ => z_val q fun _ => rfl⟩
        | some _ => exact absurd h Bool.false_ne_true
      | _ => exact absurd h Bool.false_ne_true
    | _ => exact absurd h Bool.false_ne_true
  | rev a ih =>
    intro X S Wx g bd tk
    refine ⟨fun e h => ?_, fun _ h => absurd h Bool.false_ne_true, fun _ h => absurd h Bool.false_ne_true, fun _ h => absurd h Bool.false_ne_true⟩
    unfold chkE at h
    split at h
    · exact ⟨z_rev ((ih g bd tk).e _ h).1, fun _ => z_val (z_rev ((ih g bd tk).e _ h).1) fun _ => rfl⟩
    · cases h
  | cal f es ih =>
    intro X S Wx g bd tk
    refine ⟨fun e h => ?_, fun _ h => absurd h Bool.false_ne_true, fun _ h => absurd h Bool.false_ne_true, fun _ h => absurd h Bool.false_ne_true⟩
    cases e with
    | Call fe l kw p =>
      cases fe with
      | Name x p1 => cases kw with
        | nil =>
          have h : (x == W.n.fn f && gloB S x && decide (f < 1000) && nos l && ioB (tbOf W) f (ioPos es 0) && (!l.isEmpty || isNil es) && chkL S (tbOf W) es l) = true := h
          simp only [Bool.and_eq_true] at h
          obtain ⟨⟨⟨⟨⟨⟨h1, h2⟩, h3⟩, h4⟩, h5⟩, h6⟩, h7⟩ := h
          have e := beq_iff_eq.mp h1
          subst e
          obtain ⟨fd, hP, hio⟩ := ioB_ok h5
          have q : PE X (.Call (.Name (W.n.fn f) p1) l [] p) (tE W C Wx (.cal f es)) := z_cal g al.ok al.gk tk hP (of_decide_eq_true h3) hio (gloB_ok bd h2) h4 (isNil_ok h6) ((ih g bd tk).l l h7)
          exact ⟨q, fun _ => z_val q fun _ => rfl⟩
        | cons _ _ => exact absurd h Bool.false_ne_true
      | _ => exact absurd h Bool.false_ne_true
    | _ => exact absurd h Bool.false_ne_true
  | new c es ih =>
    intro X S Wx g bd tk
    refine ⟨fun e h => ?_, fun _ h => absurd h Bool.false_ne_true, fun _ h => absurd h Bool.false_ne_true, fun _ h => absurd h Bool.false_ne_true⟩
    cases e with
    | Call fe l kw p =>
      cases fe with
      | Name x p1 => cases kw with
        | nil =>
          have h : (x == W.n.cl c && gloB S x && nos l && (W.P (mfid c mInit)).isSome && (!l.isEmpty || isNil es) && chkK S (tbOf W) es l) = true := h
          simp only [Bool.and_eq_true] at h
          obtain ⟨⟨⟨⟨⟨h1, h2⟩, h4⟩, h5⟩, h6⟩, h7⟩ := h
          have e := beq_iff_eq.mp h1
          subst e
          obtain ⟨fd, hP⟩ := Option.isSome_iff_exists.mp h5
          have q : PE X (.Call (.Name (W.n.cl c) p1) l [] p) (tE W C Wx (.new c es)) := z_new g al.ok al.gk tk hP (gloB_ok bd h2) h4 (isNil_ok h6) ((ih g bd tk).k l h7)
          exact ⟨q, fun _ => z_val q fun _ => rfl⟩
        | cons _ _ => exact absurd h Bool.false_ne_true
      | _ => exact absurd h Bool.false_ne_true
    | _ => exact absurd h Bool.false_ne_true
  | mth m a es iha ih =>
    intro X S Wx g bd tk
    refine ⟨fun e h => ?_, fun _ h => absurd h Bool.false_ne_true, fun _ h => absurd h Bool.false_ne_true, fun _ h => absurd h Bool.false_ne_true⟩
    cases e with
    | Call fe l kw p =>
      cases fe with
      | Attribute o x ap => cases kw with
        | nil =>
          have h : (x == W.n.mt m && nosup o && nos l && decide (l.length < 30) && ap.endLine == p.line && ioM (tbOf W) m (ioPos es 1) && (!l.isEmpty || isNil es) && chkE S (tbOf W) a o && chkL S (tbOf W) es l) = true := h
          simp only [Bool.and_eq_true] at h
          obtain ⟨⟨⟨⟨⟨⟨⟨⟨h1, h2⟩, h3⟩, h4⟩, h5⟩, h6⟩, h7⟩, h8⟩, h9⟩ := h
          have q : PE X (.Call (.Attribute o x ap) l [] p) (tE W C Wx (.mth m a es)) := z_mth g al.ok al.gk tk (beq_iff_eq.mp h1) (ioM_ok al.ok.z h6) ((iha g bd tk).e o h8).1 h2 h3 (of_decide_eq_true h4) h5 (isNil_ok h7) ((ih g bd tk).l l h9)
          exact ⟨q, fun _ => z_val q fun _ => rfl⟩
        | cons _ _ => exact absurd h Bool.false_ne_true
      | _ => exact absurd h Bool.false_ne_true
    | _ => exact absurd h Bool.false_ne_true
  | att a f ih =>
    intro X S Wx g bd tk
    refine ⟨fun e h => ?_, fun _ h => absurd h Bool.false_ne_true, fun _ h => absurd h Bool.false_ne_true, fun _ h => absurd h Bool.false_ne_true⟩
    cases e with
    | Attribute o x p =>
      have h : (x == W.n.fl f && nosup o && chkE S (tbOf W) a o) = true := h
      simp only [Bool.and_eq_true] at h
      have q : PE X (.Attribute o x p) (tE W C Wx (.att a f)) := z_att g al.ok al.gk (beq_iff_eq.mp h.1.1) h.1.2 ((ih g bd tk).e o h.2).1
      exact ⟨q, fun _ => z_val q fun _ => rfl⟩
    | _ => exact absurd h Bool.false_ne_true
  | blt b es ih =>
    intro X S Wx g bd tk
    refine ⟨fun e h => ?_, fun _ h => absurd h Bool.false_ne_true, fun _ h => absurd h Bool.false_ne_true, fun _ h => absurd h Bool.false_ne_true⟩
    cases e with
    | Call fe l kw p =>
      cases fe with
      | Name x p1 => cases kw with
        | nil => cases l with
          | nil =>
            have h : (x == bltN b && gloB S x && nos [] && decide (b ≠ .sorted) && W.bs.contains b && false) = true := h
            simp at h
          | cons y r =>
            have h : (x == bltN b && gloB S x && nos (y :: r) && decide (b ≠ .sorted) && W.bs.contains b && (match (generalizing := false) (if b = .len then isVar1 es else none), y, r with
              | some i, .Name z _, [] => visB S i z
              | some _, _, _ => false
              | none, _, _ => chkK S (tbOf W) es (y :: r))) = true := h
            simp only [Bool.and_eq_true] at h
            obtain ⟨⟨⟨⟨⟨h1, h2⟩, h3⟩, h4⟩, h6⟩, h5⟩ := h
            have e := beq_iff_eq.mp h1
            subst e
            have hg := gloB_ok bd h2
            have hb := of_decide_eq_true h4
            have hbs : b ∈ W.bs := by simpa using h6
            have q : PE X (.Call (.Name (bltN b) p1) (y :: r) [] p) (tE W C Wx (.blt b es)) := by
              by_cases hv : b = .len ∧ ∃ i, es = .cons (.var i) .nil
              · obtain ⟨rfl, i, rfl⟩ := hv
                rw [if_pos rfl] at h5
                cases y with
                | Name z pz => cases r with
                  | nil =>
                    have h5 : visB S i z = true := h5
                    obtain ⟨v1, v2, v3, v4⟩ := visB_ok bd h5
                    exact z_lenV g al.ok tk hg (al.bk.blt .len hbs) v1 v2 v3 v4
                  | cons _ _ => exact absurd h5 Bool.false_ne_true
                | _ => exact absurd h5 Bool.false_ne_true
              · have hn : b ≠ .len ∨ ∀ i, es ≠ .cons (.var i) .nil := by
                  by_cases hl : b = .len
                  · exact .inr fun i e => hv ⟨hl, i, e⟩
                  · exact .inl hl
                have e0 : (if b = .len then isVar1 es else none) = none := by
                  rcases hn with hn | hn
                  · rw [if_neg hn]
                  · split
                    · unfold isVar1
                      split
                      · exact absurd rfl (hn _)
                      · rfl
                    · rfl
                rw [e0] at h5
                exact z_blt g al.ok tk hb hg (al.bk.blt b hbs) hn h3 ((ih g bd tk).k _ h5)
            exact ⟨q, fun _ => z_val q fun _ => rfl⟩
        | cons _ _ => exact absurd h Bool.false_ne_true
      | _ => exact absurd h Bool.false_ne_true
    | _ => exact absurd h Bool.false_ne_true
  | smt m a es iha ih =>
    intro X S Wx g bd tk
    refine ⟨fun e h => ?_, fun _ h => absurd h Bool.false_ne_true, fun _ h => absurd h Bool.false_ne_true, fun _ h => absurd h Bool.false_ne_true⟩
    cases e with
    | Call fe l kw p =>
      cases fe with
      | Attribute o x ap => cases kw with
        | nil =>
          have h : (x == smtN m && nosup o && nos l && decide (l.length < 30) && ap.endLine == p.line && (!l.isEmpty || isNil es) && chkE S (tbOf W) a o && chkK S (tbOf W) es l) = true := h
          simp only [Bool.and_eq_true] at h
          obtain ⟨⟨⟨⟨⟨⟨⟨h1, h2⟩, h3⟩, h4⟩, h5⟩, h7⟩, h8⟩, h9⟩ := h
          have e := beq_iff_eq.mp h1
          subst e
          have q : PE X (.Call (.Attribute o (smtN m) ap) l [] p) (tE W C Wx (.smt m a es)) := z_smt g ((iha g bd tk).e o h8).1 ((ih g bd tk).k l h9) h2 h3 (of_decide_eq_true h4) h5 (isNil_ok h7)
          exact ⟨q, fun _ => z_val q fun _ => rfl⟩
        | cons _ _ => exact absurd h Bool.false_ne_true
      | _ => exact absurd h Bool.false_ne_true
    | _ => exact absurd h Bool.false_ne_true
  | pop i =>
    intro X S Wx g bd tk
    refine ⟨fun e h => ?_, fun _ h => absurd h Bool.false_ne_true, fun _ h => absurd h Bool.false_ne_true, fun _ h => absurd h Bool.false_ne_true⟩
    unfold chkE at h
    split at h
    · rename_i z pz x ap pos
      simp only [Bool.and_eq_true] at h
      obtain ⟨⟨h1, h2⟩, h3⟩ := h
      have e := beq_iff_eq.mp h1
      subst e
      obtain ⟨v1, v2, v3, v4⟩ := visB_ok bd h3
      have q := z_pop (W := W) (C := C) (Wx := Wx) (px := pz) g v1 v2 v3 v4 h2
      exact ⟨q, fun _ => z_val q fun _ => rfl⟩
    · cases h
  | pop0 i =>
    intro X S Wx g bd tk
    refine ⟨fun e h => ?_, fun _ h => absurd h Bool.false_ne_true, fun _ h => absurd h Bool.false_ne_true, fun _ h => absurd h Bool.false_ne_true⟩
    unfold chkE at h
    split at h
    · rename_i z pz x ap j p0 pos
      simp only [Bool.and_eq_true] at h
      obtain ⟨⟨h1, h2⟩, h3⟩ := h
      have e := beq_iff_eq.mp h1
      subst e
      obtain ⟨v1, v2, v3, v4⟩ := visB_ok bd h3
      have q := z_pop0 (W := W) (C := C) (Wx := Wx) (px := pz) (p0 := p0) (j := j) g v1 v2 v3 v4 h2
      exact ⟨q, fun _ => z_val q fun _ => rfl⟩
    · cases h
  | isi a ts ih =>
    intro X S Wx g bd tk
    refine ⟨fun e h => ?_, fun _ h => absurd h Bool.false_ne_true, fun _ h => absurd h Bool.false_ne_true, fun _ h => absurd h Bool.false_ne_true⟩
    unfold chkE at h
    split at h
    · rename_i x px y t pos
      simp only [Bool.and_eq_true] at h
      obtain ⟨⟨⟨⟨h1, h2⟩, h3⟩, h4⟩, h5⟩ := h
      have e := beq_iff_eq.mp h1
      subst e
      have hg := gloB_ok bd h2
      have qa := ((ih g bd tk).e y h5).1
      have q : PE X (.Call (.Name "isinstance" px) [y, t] [] pos) (tE W C Wx (.isi a ts)) := by
        have single : ∀ t' : Ty, ts = [t'] → tyB S (tbOf W) t' t = true → PE X (.Call (.Name "isinstance" px) [y, t] [] pos) (tE W C Wx (.isi a ts)) := fun t' e hb => by
          subst e
          obtain ⟨p1, t1, _⟩ := tyB_ok al g bd hb
          exact z_isi g al.ok.z al.ik t1 hg qa p1 h3
        unfold isiB at h4
        split at h4
        · rename_i l j pt
          simp only [Bool.and_eq_true] at h4
          obtain ⟨p1, t1⟩ := tyL_ok al g bd h4.1
          exact z_isiT g al.ok.z al.ik t1 (of_decide_eq_true h4.2) hg qa p1 h3
        · split at h4
          · exact single _ rfl h4
          · cases h4
      exact ⟨q, fun _ => z_val q fun _ => rfl⟩
    · cases h
  | nil =>
    intro X S Wx g bd tk
    refine ⟨fun _ h => absurd h Bool.false_ne_true, fun l h => ?_, fun l h => ?_, fun _ h => absurd h Bool.false_ne_true⟩
    · cases l with
      | nil => exact z_nilL
      | cons _ _ => exact absurd h Bool.false_ne_true
    · cases l with
      | nil => exact z_nilK
      | cons _ _ => exact absurd h Bool.false_ne_true
  | cons a es iha ih =>
    intro X S Wx g bd tk
    have sa := iha (X := X) (S := S) (Wx := Wx) g bd tk
    have ss := ih (X := X) (S := S) (Wx := Wx) g bd tk
    have star : ∀ {e : Expr} {r : List Expr}, nos [e] = true → starEach (e :: r) X.env = (false, eval e X.env) :: starEach r X.env := fun {e r} h => by
      cases e <;> first | rfl | (simp [nos] at h)
    refine ⟨fun _ h => absurd h Bool.false_ne_true, fun l h => ?_, fun l h => ?_, fun l h => ?_⟩
    · cases l with
      | nil => exact absurd h Bool.false_ne_true
      | cons e r =>
        by_cases hio : ∃ i, a = .io i
        · obtain ⟨i, rfl⟩ := hio
          cases e with
          | Name x p =>
            have h : (nos [.Name x p] && (visB S i x && chkL S (tbOf W) es r)) = true := h
            simp only [Bool.and_eq_true] at h
            obtain ⟨v1, v2, v3, v4⟩ := visB_ok bd h.2.1
            exact z_ioL v1 v2 v3 v4 (ss.l r h.2.2)
          | _ =>
            unfold chkL at h
            simp at h
        · have h : (nos [e] && (chkE S (tbOf W) a e && chkL S (tbOf W) es r)) = true := by
            cases a <;> first | exact h | exact absurd ⟨_, rfl⟩ hio
          simp only [Bool.and_eq_true] at h
          exact z_consL (fun i e => hio ⟨i, e⟩) (sa.e e h.2.1).1 (ss.l r h.2.2) (star h.1)
    · cases l with
      | nil => exact absurd h Bool.false_ne_true
      | cons e r =>
        have h : (nos [e] && chkE S (tbOf W) a e && chkK S (tbOf W) es r) = true := h
        simp only [Bool.and_eq_true] at h
        exact z_consK (sa.e e h.1.2).1 (ss.k r h.2) (star h.1.1)
    · cases es with
      | nil =>
        match l, h with
        | [e], h =>
          have h : (chkE S (tbOf W) a e && noIf e) = true := h
          simp only [Bool.and_eq_true] at h
          obtain ⟨q1, q2⟩ := sa.e e h.1
          exact ⟨by simp, fun pos => ⟨z_and1 q1, z_or1 q1, z_and1T (q2 h.2), z_or1T (q2 h.2)⟩⟩
        | [], h => exact absurd h Bool.false_ne_true
        | _ :: _ :: _, h => exact absurd h Bool.false_ne_true
      | cons b rs =>
        match l, h with
        | [], h => exact absurd h Bool.false_ne_true
        | e :: r, h =>
          have h : (chkE S (tbOf W) a e && noIf e && chkA S (tbOf W) (.cons b rs) r) = true := h
          simp only [Bool.and_eq_true] at h
          obtain ⟨q1, q2⟩ := sa.e e h.1.1
          obtain ⟨hne, q3⟩ := ss.a r h.2
          cases r with
          | nil => exact absurd rfl hne
          | cons e2 r2 =>
            exact ⟨by simp, fun pos => ⟨z_and q1 (q3 pos).1, z_or q1 (q3 pos).2.1, z_andT (q2 h.1.2) (q3 pos).2.2.1, z_orT (q2 h.1.2) (q3 pos).2.2.2⟩⟩
      | _ => 
        cases l with
        | nil => exact absurd h Bool.false_ne_true
        | cons e r => exact absurd (show (chkE S (tbOf W) a e && noIf e && false) = true from h) (by simp)
  | _ =>
    intro X S Wx g bd tk
    exact ⟨fun _ h => absurd h Bool.false_ne_true, fun _ h => absurd h Bool.false_ne_true, fun _ h => absurd h Bool.false_ne_true, fun _ h => absurd h Bool.false_ne_true⟩
end
end Z

namespace Z
open PySem PySem.Spec PyProof.Rows L2
def notIo : CE → Bool
  | .io _ => false
  | _ => true
def plainIt : CE → Bool
  | .rng _ => false
  | .zip _ _ => false
  | _ => true
def noSet : Expr → Bool
  | .Set .. => false
  | _ => true
def freeB (ios : List Nat) (i : Nat) : Bool := !ios.contains i
def chkNs (S : Sc) (ios : List Nat) : List Nat → List Expr → Bool
  | [], [] => true
  | i :: r, e :: l => (match e with | .Name x _ => locB S i x && freeB ios i | _ => false) && chkNs S ios r l
  | _, _ => false
def chkTg (S : Sc) (ios : List Nat) (t : Tg) (e : Expr) : Bool := match t with
  | .nam i => (match e with | .Name x _ => locB S i x && freeB ios i | _ => false)
  | .tup is => (match e with | .Tuple l _ _ => chkNs S ios is l | _ => false)
def chkIt (S : Sc) (B : Tb) (it : CE) (e : Expr) : Bool := match it with
  | .rng es => (match e with | .Call (.Name x _) l [] _ => x == ("range" : Str) && gloB S x && nos l && decide (1 ≤ l.length ∧ l.length ≤ 3) && chkK S B es l | _ => false)
  | .zip _ _ => false
  | it => chkE S B it e && noSet e
def chkRet (S : Sc) (B : Tb) (ce : CE) (o : Option Expr) : Bool := match o with
  | none => isNil ce
  | some e => (match ce with
    | .nil => false
    | .var i => (match e with | .Name x _ => visB S i x | _ => false)
    | ce => chkE S B ce e)
def chkH (S : Sc) (B : Tb) : CS → List ExceptHandler → Bool
  | .hret (c :: _) d h, l => (match l with
    | .ExceptHandler (some (.Name x _)) none [.Return (some (.Constant d' _ _)) _] _ :: r => x == B.n.cl c && gloB S x && okName x && decide (d = d') && (conD d).isSome && chkH S B h r
    | _ => false)
  | .hinc (c :: _) i n h, l => (match l with
    | .ExceptHandler (some (.Name x _)) none [.Assign [.Name y _] (.BinOp (.Name z _) .Add (.Constant (.int m) _ _) _) _] _ :: r => x == B.n.cl c && gloB S x && okName x && decide (n = m) && locB S i y && visB S i z && chkH S B h r
    | _ => false)
  | .hnil, l => l.isEmpty
  | _, _ => false
mutual
def chk1 (S : Sc) (B : Tb) (ios : List Nat) : CS → Stmt → Bool
  | .skip, st => (match st with | .Pass _ => true | _ => false)
  | .exp e, st => (match st with | .Expr a _ => chkE S B e a && noswap a | _ => false)
  | .apd i e, st => (match st with | .Expr (.Call (.Attribute (.Name x _) m ap) [a] [] cp) _ => m == ("append" : Str) && visB S i x && ap.endLine == cp.line && nos [a] && notIo e && chkE S B e a | _ => false)
  | .asg i e, st => (match st with | .Assign [.Name x _] a _ => locB S i x && freeB ios i && chkE S B e a && noswap a | _ => false)
  | .sat f e, st => (match st with | .Assign [.Attribute (.Name x _) fs _] a _ => visB S 0 x && fs == B.n.fl f && chkE S B e a && noswap a | _ => false)
  | .ite c s t, st => (match st with | .If x l r _ => chkE S B c x && noIf x && chkS S B ios s l && chkS S B ios t r | _ => false)
  | .whl c s, st => (match st with | .While x l [] _ => chkE S B c x && noIf x && chkS S B ios s l | _ => false)
  | .for t it s, st => (match st with | .For tg e l [] _ => chkTg S ios t tg && chkIt S B it e && chkS S B ios s l | _ => false)
  | .ret e, st => (match st with | .Return o _ => chkRet S B e o | _ => false)
  | .rai c e, st => (match st with | .Raise (some (.Call (.Name x _) [a] [] _)) none _ => x == B.n.cl c && gloB S x && B.xs.contains c && (B.xf c).isNone && nos [a] && chkE S B e a | _ => false)
  | .try s h, st => (match st with | .Try l (h0 :: hds) [] [] _ => chkS S B ios s l && hOk B.xs ios h && chkH S B h (h0 :: hds) | _ => false)
  | .brk, st => (match st with | .Break _ => true | _ => false)
  | .cnt, st => (match st with | .Continue _ => true | _ => false)
  | _, _ => false
termination_by structural c => c
def chkS (S : Sc) (B : Tb) (ios : List Nat) : CS → List Stmt → Bool
  | .skip, l => l.isEmpty
  | .seq s t, l => (match l with
    | [] => false
    | st :: r => chk1 S B ios s st && chkS S B ios t r)
  | _, _ => false
termination_by structural c => c
end
/-- a body's context -/
structure Ct (W : Wd) (k : Nat) (S : Sc) (X : Cx) (Wx : WX) : Prop where
  g : Gd W k X
  bd : Bd S X
  tk : Takes X Wx
  po : PassesOwn (model X.prog X.w) X.A X.env X.xe
  hs : X.stack = X.env :: X.outer
  hf : X.env.frame = some X.env.locals
section
variable {W : Wd} {k : Nat} {X : Cx} {C : Calls} {Wx : WX} {S : Sc} {ios : List Nat}
theorem Ct.tr {W' : WX} {pn : List (Addr × Obj)} {xe : Value → Shared → Prop} (c : Ct W k S X Wx) (tk : Takes (X.tr pn xe) W') (po : PassesOwn (model X.prog X.w) X.A X.env xe) : Ct W k S (X.tr pn xe) W' :=
  ⟨⟨c.g.prog, c.g.w, c.g.K, c.g.mg, c.g.base, c.g.calm, c.g.nd, c.g.room⟩, ⟨c.bd.N, c.bd.nm, c.bd.fn⟩, tk, po, c.hs, c.hf⟩
theorem freeB_ok {i : Nat} (h : freeB ios i = true) : i ∉ ios := by
  unfold freeB at h
  simpa using h
theorem names_ok (g : Gd W k X) (bd : Bd S X) : ∀ {is : List Nat} {l : List Expr}, chkNs S ios is l = true → PGs X l (gNs is) ∧ (∀ e ∈ l, ∃ x p, e = .Name x p) ∧ is.length = l.length ∧ ∀ i ∈ is, i < X.N.length ∧ i ∉ ios
  | [], [], _ => ⟨pgs_nil, (fun e h => by cases h), rfl, (fun i h => by cases h)⟩
  | [], _ :: _, h => absurd h Bool.false_ne_true
  | _ :: _, [], h => absurd h Bool.false_ne_true
  | i :: is, e :: l, h => by
    have h : ((match (generalizing := false) e with | .Name x _ => locB S i x && freeB ios i | _ => false) && chkNs S ios is l) = true := h
    simp only [Bool.and_eq_true] at h
    obtain ⟨h1, h2⟩ := h
    obtain ⟨p, n, hl, hi⟩ := names_ok g bd h2
    cases e with
    | Name x pp =>
      have h1 : (locB S i x && freeB ios i) = true := h1
      simp only [Bool.and_eq_true] at h1
      obtain ⟨v1, v2, v3⟩ := locB_ok bd h1.1
      refine ⟨pgs_cons (pg_name g.nd v1 v2 v3) p rfl, fun e he => ?_, by simp [hl], fun j hj => ?_⟩
      · rcases List.mem_cons.mp he with rfl | he
        · exact ⟨_, _, rfl⟩
        · exact n e he
      · rcases List.mem_cons.mp hj with rfl | hj
        · exact ⟨(List.getElem?_eq_some_iff.mp v1).1, freeB_ok h1.2⟩
        · exact hi j hj
    | _ => exact absurd h1 Bool.false_ne_true
theorem tg_ok (g : Gd W k X) (bd : Bd S X) {t : Tg} {e : Expr} (h : chkTg S ios t e = true) : PG X e (gTg X.K t) ∧ ∀ i ∈ t.own, i < X.N.length ∧ i ∉ ios := by
  cases t with
  | nam i => cases e with
    | Name x p =>
      have h : (locB S i x && freeB ios i) = true := h
      simp only [Bool.and_eq_true] at h
      obtain ⟨v1, v2, v3⟩ := locB_ok bd h.1
      refine ⟨pg_name g.nd v1 v2 v3, fun j hj => ?_⟩
      have : j = i := by simpa [Tg.own] using hj
      subst this
      exact ⟨(List.getElem?_eq_some_iff.mp v1).1, freeB_ok h.2⟩
    | _ => exact absurd h Bool.false_ne_true
  | tup is => cases e with
    | Tuple l j p =>
      obtain ⟨q, n, hl, hi⟩ := names_ok (ios := ios) g bd (show chkNs S ios is l = true from h)
      obtain ⟨n1, n2⟩ := names_each (env := X.env) n
      refine ⟨?_, hi⟩
      show PG X _ (gTup X.K is.length (gNs is))
      rw [hl]
      exact pg_tup g.calm q n1 n2
    | _ => exact absurd h Bool.false_ne_true
theorem pe_conV {c : Const} {j : Nat} {pos : Pos} (h : (conD c).isSome = true) : PE X (.Constant c j pos) (tC (conV c)) := by
  cases c with
  | none => exact pe_non
  | bool b => exact pe_bl
  | int i => exact pe_int
  | str x => exact pe_str
  | _ => exact absurd h Bool.false_ne_true
theorem h_ok (al : All W C k) (g : Gd W k X) (bd : Bd S X) : ∀ (h : CS) {l : List ExceptHandler}, chkH S (tbOf W) h l = true → hOk W.xs ios h = true → HdsOk X l (lOf W h) := by
  have nm : ∀ {x : Str} {c : Nat}, x = W.n.cl c → gloB S x = true → okName x = true → W.xs.contains c = true → Names X x (.ref (W.T.cad c)) := fun {x c} e h1 h2 h3 => by
    subst e
    obtain ⟨hm, _⟩ := al.xk.nm c (by simpa using h3)
    exact ⟨gloB_ok bd h1, (okName_ok h2).1, .inl (by rw [g.mg]; exact hm)⟩
  intro h
  induction h with
  | hnil =>
    intro l hc _
    cases l with
    | nil => exact .nil
    | cons _ _ => exact absurd hc Bool.false_ne_true
  | hret cs d h ih =>
    intro l hc ho
    match cs, hc, ho with
    | [], hc, ho => exact absurd ho Bool.false_ne_true
    | [c], hc, ho =>
      simp only [hOk, Bool.and_eq_true] at ho
      unfold chkH at hc
      split at hc
      · simp only [Bool.and_eq_true] at hc
        obtain ⟨⟨⟨⟨⟨h1, h2⟩, h3⟩, h4⟩, h5⟩, h6⟩ := hc
        cases of_decide_eq_true h4
        refine .cons (nm (beq_iff_eq.mp h1) h2 h3 ho.1.1) (fun a oe cls dd pn _ _ => ?_) (ih h6 ho.2)
        exact pss_one (ps_ret (pe_conV h5))
      · cases hc
    | _ :: _ :: _, hc, ho => exact absurd ho Bool.false_ne_true
  | hinc cs i n h ih =>
    intro l hc ho
    match cs, hc, ho with
    | [], hc, ho => exact absurd ho Bool.false_ne_true
    | [c], hc, ho =>
      simp only [hOk, Bool.and_eq_true] at ho
      unfold chkH at hc
      split at hc
      · simp only [Bool.and_eq_true] at hc
        obtain ⟨⟨⟨⟨⟨⟨h1, h2⟩, h3⟩, h4⟩, h5⟩, h6⟩, h7⟩ := hc
        cases of_decide_eq_true h4
        obtain ⟨v1, v2, v3⟩ := locB_ok bd h5
        obtain ⟨w1, w2, w3, w4⟩ := visB_ok bd h6
        refine .cons (nm (beq_iff_eq.mp h1) h2 h3 ho.1.1) (fun a oe cls dd pn _ _ => ?_) (ih h7 ho.2)
        exact pss_one (ps_set (X := X.suite a ((a, oe) :: pn)) g.nd v1 v2 (pe_add (pe_var (X := X.suite a ((a, oe) :: pn)) w1 w2 w3 w4) pe_int) rfl v3)
      · cases hc
    | _ :: _ :: _, hc, ho => exact absurd ho Bool.false_ne_true
  | _ => intro l hc _; exact absurd hc Bool.false_ne_true
/-- statements -/
theorem stm_ok (al : All W C k) : ∀ (cs : CS) {X : Cx} {Wx : WX}, Ct W k S X Wx → (∀ st, chk1 S (tbOf W) ios cs st = true → PS X st (tS W C Wx ios cs)) ∧ (∀ sts, chkS S (tbOf W) ios cs sts = true → PSs X sts (tS W C Wx ios cs)) := by
  intro cs
  induction cs with
  | skip =>
    intro X Wx c
    refine ⟨fun st h => ?_, fun sts h => ?_⟩
    · cases st with
      | Pass p => exact z_pass
      | _ => exact absurd h Bool.false_ne_true
    · cases sts with
      | nil => exact z_skip
      | cons _ _ => exact absurd h Bool.false_ne_true
  | seq s t ihs iht =>
    intro X Wx c
    refine ⟨fun st h => absurd h Bool.false_ne_true, fun sts h => ?_⟩
    cases sts with
    | nil => exact absurd h Bool.false_ne_true
    | cons st r =>
      have h : (chk1 S (tbOf W) ios s st && chkS S (tbOf W) ios t r) = true := h
      simp only [Bool.and_eq_true] at h
      exact z_seq ((ihs c).1 st h.1) ((iht c).2 r h.2)
  | exp e =>
    intro X Wx c
    refine ⟨fun st h => ?_, fun sts h => absurd h Bool.false_ne_true⟩
    cases st with
    | Expr a p =>
      have h : (chkE S (tbOf W) e a && noswap a) = true := h
      simp only [Bool.and_eq_true] at h
      exact z_exp ((chk_ok al e c.g c.bd c.tk).e a h.1).1 h.2
    | _ => exact absurd h Bool.false_ne_true
  | apd i e =>
    intro X Wx c
    refine ⟨fun st h => ?_, fun sts h => absurd h Bool.false_ne_true⟩
    unfold chk1 at h
    split at h
    · simp only [Bool.and_eq_true] at h
      obtain ⟨⟨⟨⟨⟨h1, h2⟩, h3⟩, h4⟩, h5⟩, h6⟩ := h
      have e1 := beq_iff_eq.mp h1
      subst e1
      obtain ⟨v1, v2, v3, v4⟩ := visB_ok c.bd h2
      exact z_apd c.g v1 v2 v3 v4 h3 h4 (fun j e => by subst e; exact absurd h5 Bool.false_ne_true) ((chk_ok al e c.g c.bd c.tk).e _ h6).1
    · cases h
  | asg i e =>
    intro X Wx c
    refine ⟨fun st h => ?_, fun sts h => absurd h Bool.false_ne_true⟩
    unfold chk1 at h
    split at h
    · simp only [Bool.and_eq_true] at h
      obtain ⟨⟨⟨h1, h2⟩, h3⟩, h4⟩ := h
      obtain ⟨v1, v2, v3⟩ := locB_ok c.bd h1
      exact z_asg c.g v1 v2 v3 (freeB_ok h2) ((chk_ok al e c.g c.bd c.tk).e _ h3).1 h4
    · cases h
  | sat f e =>
    intro X Wx c
    refine ⟨fun st h => ?_, fun sts h => absurd h Bool.false_ne_true⟩
    unfold chk1 at h
    split at h
    · simp only [Bool.and_eq_true] at h
      obtain ⟨⟨⟨h1, h2⟩, h3⟩, h4⟩ := h
      obtain ⟨v1, v2, v3, v4⟩ := visB_ok c.bd h1
      exact z_sat c.g al.ok.z al.gk (beq_iff_eq.mp h2) v1 v2 v3 v4 ((chk_ok al e c.g c.bd c.tk).e _ h3).1 h4
    · cases h
  | ite e s t ihs iht =>
    intro X Wx c
    refine ⟨fun st h => ?_, fun sts h => absurd h Bool.false_ne_true⟩
    cases st with
    | If x l r p =>
      have h : (chkE S (tbOf W) e x && noIf x && chkS S (tbOf W) ios s l && chkS S (tbOf W) ios t r) = true := h
      simp only [Bool.and_eq_true] at h
      obtain ⟨⟨⟨h1, h2⟩, h3⟩, h4⟩ := h
      exact z_if (((chk_ok al e c.g c.bd c.tk).e x h1).2 h2) ((ihs c).2 l h3) ((iht c).2 r h4)
    | _ => exact absurd h Bool.false_ne_true
  | whl e s ihs =>
    intro X Wx c
    refine ⟨fun st h => ?_, fun sts h => absurd h Bool.false_ne_true⟩
    cases st with
    | While x l r p => cases r with
      | nil =>
        have h : (chkE S (tbOf W) e x && noIf x && chkS S (tbOf W) ios s l) = true := h
        simp only [Bool.and_eq_true] at h
        obtain ⟨⟨h1, h2⟩, h3⟩ := h
        exact z_while (hp := c.po) (((chk_ok al e c.g c.bd c.tk).e x h1).2 h2) ((ihs c).2 l h3)
      | cons _ _ => exact absurd h Bool.false_ne_true
    | _ => exact absurd h Bool.false_ne_true
  | «for» t it s ihs =>
    intro X Wx c
    refine ⟨fun st h => ?_, fun sts h => absurd h Bool.false_ne_true⟩
    cases st with
    | For tg e l r p => cases r with
      | nil =>
        have h : (chkTg S ios t tg && chkIt S (tbOf W) it e && chkS S (tbOf W) ios s l) = true := h
        simp only [Bool.and_eq_true] at h
        obtain ⟨⟨h1, h2⟩, h3⟩ := h
        obtain ⟨q1, q2⟩ := tg_ok c.g c.bd h1
        have gen : (∀ es, it ≠ .rng es) → (∀ x y, it ≠ .zip x y) → PS X (.For tg e l [] p) (tS W C Wx ios (.for t it s)) := fun hr hz => by
          have h2 : (chkE S (tbOf W) it e && noSet e) = true := by
            cases it <;> first | exact h2 | exact absurd rfl (hr _) | exact absurd rfl (hz _ _)
          simp only [Bool.and_eq_true] at h2
          exact z_for c.g c.po hr hz ((chk_ok al it c.g c.bd c.tk).e e h2.1).1 q1 ((ihs c).2 l h3) (fun x => by cases e <;> first | rfl | exact absurd h2.2 Bool.false_ne_true) q2
        cases it with
        | rng es =>
          unfold chkIt at h2
          simp only at h2
          split at h2
          · simp only [Bool.and_eq_true] at h2
            obtain ⟨⟨⟨⟨g1, g2⟩, g3⟩, g4⟩, g5⟩ := h2
            have e1 := beq_iff_eq.mp g1
            subst e1
            exact z_rng c.g c.po (gloB_ok c.bd g2) (al.bk.ty "range" (by simp)) ((chk_ok al es c.g c.bd c.tk).k _ g5) g3 (chkK_nos g5).2.symm (of_decide_eq_true g4) q1 ((ihs c).2 l h3) q2
          · cases h2
        | zip _ _ => exact absurd h2 Bool.false_ne_true
        | _ => exact gen (fun _ e => by cases e) (fun _ _ e => by cases e)
      | cons _ _ => exact absurd h Bool.false_ne_true
    | _ => exact absurd h Bool.false_ne_true
  | ret e =>
    intro X Wx c
    refine ⟨fun st h => ?_, fun sts h => absurd h Bool.false_ne_true⟩
    cases st with
    | Return o p =>
      have h : chkRet S (tbOf W) e o = true := h
      cases o with
      | none =>
        cases e with
        | nil => exact z_retN
        | _ => exact absurd h Bool.false_ne_true
      | some a =>
        cases e with
        | nil => exact absurd h Bool.false_ne_true
        | var i => cases a with
          | Name x px =>
            obtain ⟨v1, v2, v3, v4⟩ := visB_ok c.bd (show visB S i x = true from h)
            exact z_retV v1 v2 v3 v4
          | _ => exact absurd h Bool.false_ne_true
        | _ => exact z_ret ((chk_ok al _ c.g c.bd c.tk).e a h).1 (fun e => by cases e) (fun i e => by cases e)
    | _ => exact absurd h Bool.false_ne_true
  | rai cl e =>
    intro X Wx c
    refine ⟨fun st h => ?_, fun sts h => absurd h Bool.false_ne_true⟩
    unfold chk1 at h
    split at h
    · simp only [Bool.and_eq_true] at h
      obtain ⟨⟨⟨⟨⟨h1, h2⟩, h3⟩, h4⟩, h5⟩, h6⟩ := h
      have e1 := beq_iff_eq.mp h1
      subst e1
      exact z_rai c.g al.xk c.tk (by simpa [tbOf] using h3) (by simpa [tbOf] using h4) (gloB_ok c.bd h2) h5 ((chk_ok al e c.g c.bd c.tk).e _ h6).1
    · cases h
  | «try» s hh ihs _ =>
    intro X Wx c
    refine ⟨fun st h => ?_, fun sts h => absurd h Bool.false_ne_true⟩
    unfold chk1 at h
    split at h
    · simp only [Bool.and_eq_true] at h
      obtain ⟨⟨h1, h2⟩, h3⟩ := h
      exact z_try c.g al.xk c.tk c.hs c.hf (fun W' pn xe tk po => (ihs (c.tr tk po)).2 _ h1) (h_ok al c.g c.bd hh h3 h2) h2
    · cases h
  | brk =>
    intro X Wx c
    refine ⟨fun st h => ?_, fun sts h => absurd h Bool.false_ne_true⟩
    cases st with
    | Break p => exact z_brk
    | _ => exact absurd h Bool.false_ne_true
  | cnt =>
    intro X Wx c
    refine ⟨fun st h => ?_, fun sts h => absurd h Bool.false_ne_true⟩
    cases st with
    | Continue p => exact z_cnt
    | _ => exact absurd h Bool.false_ne_true
  | _ =>
    intro X Wx c
    exact ⟨fun st h => absurd h Bool.false_ne_true, fun sts h => absurd h Bool.false_ne_true⟩

/-- a def stands as its core text says -/
structure FDk (W : Wd) (f : Nat) (fd : Fd) : Prop where
  ex : ∃ (x qual : Str) (params : Arguments) (body : List Stmt) (scope : Scope) (dvs : List V) (kws : List (Str × V)) (N : List Str), FunD W.T.K x qual params body scope dvs kws (W.fad f) (W.fda f) ∧ FnScope N (W.fps f) scope ∧ (W.fps f).length = fd.np ∧ N.length = fd.nv ∧
    (fd.io.Nodup ∧ ∀ i ∈ fd.io, i < fd.np) ∧ chkS ⟨N, scope.names⟩ (tbOf W) fd.io fd.body body = true
theorem repE_start {T : Tab} {F H : Hp} {n : Nat} : ∀ {ds : List D} {vs : List V} {A : List Addr}, repA T F H ds vs A → repE T F H (ds.map some ++ List.replicate n none) (vs.map some ++ List.replicate n none) A
  | [], [], A, h => by
    cases (show A = [] from h)
    show repE T F H (List.replicate n none) (List.replicate n none) []
    induction n with
    | zero => simp [repE]
    | succ n ih => simpa [List.replicate_succ, repE] using ih
  | [], _ :: _, _, h => h.elim
  | _ :: _, [], _, h => h.elim
  | d :: ds, v :: vs, A, h => by
    obtain ⟨B, C, rfl, r1, r2⟩ := h
    show repE T F H (some d :: (ds.map some ++ List.replicate n none)) (some v :: (vs.map some ++ List.replicate n none)) (B ++ C)
    simp only [repE]
    exact ⟨B, C, rfl, r1, repE_start r2⟩
theorem repE_pick {T : Tab} {F H : Hp} {vs : List V} : ∀ {io : List Nat} {l : List D} {e : Env} {σ : L2.St} {A : List Addr}, io.Nodup → io.mapM (rd e) = some l → repE T F H e σ A → A.Nodup → (∀ i ∈ io, σ[i]? = some (some (vs.getD i .non))) →
    ∃ B, repA T F H l (io.map fun i => vs.getD i .non) B ∧ (∀ a ∈ B, a ∈ A) ∧ B.Nodup
  | [], l, e, σ, A, _, h, re, nd, _ => by
    have : l = [] := by simpa using h.symm
    subst this
    exact ⟨[], rfl, (fun a ha => by cases ha), List.nodup_nil⟩
  | i :: io, l, e, σ, A, hn, h, re, nd, hv => by
    rw [List.mapM_cons] at h
    cases hr : rd e i with
    | none => rw [hr] at h; cases h
    | some d =>
      rw [hr] at h
      cases hm : io.mapM (rd e) with
      | none => rw [hm] at h; cases h
      | some l' =>
        rw [hm] at h
        cases h
        obtain ⟨L, B1, M, rfl, gv, up⟩ := repE_slot re (rd_lt hr)
        obtain ⟨v, hv', rs⟩ := gv d hr
        have e1 := hv i List.mem_cons_self
        rw [e1] at hv'
        cases hv'
        obtain ⟨_, u2⟩ := up F H (fun _ _ h => h) (fun _ _ => rfl) (fun _ _ => rfl)
        have re' := u2 (some (vs.getD i .non))
        rw [set_same e1] at re'
        have hn' := List.nodup_cons.mp hn
        have hp : (L ++ (B1 ++ M)).Perm (B1 ++ (L ++ M)) := by
          rw [List.perm_iff_count]
          intro x
          simp only [List.count_append]
          omega
        have nd' := List.nodup_append.mp (hp.nodup nd)
        have hm' : io.mapM (rd (e.set i none)) = some l' := by
          rw [← hm]
          have : ∀ (l : List Nat), i ∉ l → l.mapM (rd (e.set i none)) = l.mapM (rd e) := by
            intro l
            induction l with
            | nil => intro _; rfl
            | cons j r ih =>
              intro hj
              simp only [List.mem_cons, not_or] at hj
              rw [List.mapM_cons, List.mapM_cons, ih hj.2]
              have : rd (e.set i none) j = rd e j := by
                unfold rd
                rw [List.getElem?_set_ne hj.1]
              rw [this]
          exact this io hn'.1
        obtain ⟨B, q1, q2, q3⟩ := repE_pick (vs := vs) hn'.2 hm' re' nd'.2.1 (fun j hj => hv j (List.mem_cons_of_mem _ hj))
        refine ⟨B1 ++ B, ⟨B1, B, rfl, rs, q1⟩, fun a ha => ?_, List.nodup_append.mpr ⟨nd'.1, q3, fun a ha b hb => nd'.2.2 a ha b (q2 b hb)⟩⟩
        rcases List.mem_append.mp ha with z | z
        · exact hp.symm.subset (List.mem_append_left _ z)
        · exact hp.symm.subset (List.mem_append_right _ (q2 a z))
theorem fn_ok {k : Nat} {C C' : Calls} (al : All W C k) {f : Nat} {fd : Fd} (D1 : FDk W f fd) (hC : ∀ ds, ds.length = fd.np → C' f ds = runF W.N C fd ds) :
    FnOk W.prog W.w W.T.K W.mg W.base (L2.CX W.prog W.w) (k + 10 + 1) (W.fad f) (W.fda f) (W.fps f) (spOf W C' f fd) := by
  obtain ⟨x, qual, params, body, scope, dvs, kws, N, F0, S, hps, hN, ⟨hnd, hio⟩, hc⟩ := D1.ex
  refine F0.ok S (fun vs H Q E h => ?_) fun cdv A outer s H vs Q E hr hsp => ?_
  · obtain ⟨_, _, _, h1, h2, _⟩ := h
    rw [h1, h2]
  · obtain ⟨F, A0, ds, hl, hl2, st, ra, hm⟩ := hsp
    let X := cxOf (L2.CX W.prog W.w) W.prog W.w W.T.K W.mg W.base N qual scope (W.fad f) cdv A outer s H E
    have ct : Ct W k ⟨N, scope.names⟩ X (fun cls d _ H => E cls d H) := by
      refine ⟨⟨rfl, rfl, rfl, rfl, rfl, rfl, S.nd, hr⟩, ⟨rfl, rfl, fun _ _ => rfl⟩, takes_of rfl rfl rfl rfl, passes_of rfl, rfl, rfl⟩
    refine ⟨tS W C (fun cls d _ H => E cls d H) fd.io fd.body, (stm_ok al fd.body ct).2 body hc, ?_⟩
    have hlen := repA_length ra
    rw [hl] at hlen
    have hst : repE W.T F H (ds.map some ++ List.replicate (fd.nv - fd.np) none) (L2.start N vs) A0 := by
      unfold L2.start
      rw [hN, hl]
      exact repE_start ra
    refine ⟨F, A0, _, st, hst, ?_⟩
    have e0 : (ds ++ fd.dfl.drop (fd.dfl.length + ds.length - fd.np)) = ds := by
      rw [hlen, Nat.add_sub_cancel, List.drop_length, List.append_nil]
    rw [hC ds hlen] at hm
    unfold runF at hm
    rw [e0] at hm
    have hv : ∀ {σ' : L2.St}, kept fd.io (L2.start N vs) σ' → ∀ i ∈ fd.io, σ'[i]? = some (some (vs.getD i .non)) := fun {σ'} kp i hi => by
      rw [kp.2 i hi]
      unfold L2.start
      have hlt : i < vs.length := by rw [hl]; exact hio i hi
      rw [List.getElem?_append_left (by simpa using hlt), List.getElem?_map, List.getElem?_eq_getElem hlt]
      simp [List.getD, hlt]
    have fin : ∀ {d : D} {e : Env} {v : V} {σ' : L2.St} {F' H' : Hp} {A' B : List Addr}, (match finals fd.io d e with
        | .ok d io => ∀ v F' H' A' B, Stp F H A0 F' H' (A' ++ B) → repA W.T F' H' io (fd.io.map fun i => vs.getD i .non) A' → rep W.T F' H' d v B → Q v H'
        | .exn x => ∀ cls dd F' H', Stp F H A0 F' H' [] → xrep W F' x cls dd → E cls dd H'
        | .stuck => False) → Stp F H A0 F' H' (A' ++ B) → repE W.T F' H' e σ' A' → kept fd.io (L2.start N vs) σ' → rep W.T F' H' d v B → Q v H' := by
      intro d e v σ' F' H' A' B hm p re kp rv
      unfold finals at hm
      cases hf : fd.io.mapM (rd e) with
      | none => rw [hf] at hm; exact hm.elim
      | some l =>
        rw [hf] at hm
        have nd := List.nodup_append.mp p.st.nd
        obtain ⟨B2, q1, q2, q3⟩ := repE_pick (vs := vs) hnd hf re nd.1 (hv kp)
        refine hm v F' H' B2 B (p.less (fun a ha => ?_) (List.nodup_append.mpr ⟨q3, nd.2.1, fun a ha b hb => nd.2.2 a (q2 a ha) b hb⟩)) q1 rv
        rcases List.mem_append.mp ha with z | z
        · exact List.mem_append_left _ (q2 a z)
        · exact List.mem_append_right _ z
    cases ex : exec W.N C fd.body (ds.map some ++ List.replicate (fd.nv - fd.np) none) with
    | nxt e =>
      rw [ex] at hm
      intro σ' F' H' A' p re kp
      exact fin hm (B := []) (by simpa using p) re kp (rep_of_frep (by simp only [frep]))
    | ret d e =>
      rw [ex] at hm
      intro v σ' F' H' A' B p re kp rv
      exact fin hm p re kp rv
    | exn x e =>
      rw [ex] at hm
      intro cls dd σ' F' H' A' p re kp xr
      exact hm cls dd F' H' (p.less (fun a ha => by cases ha) List.nodup_nil) xr
    | brk e => rw [ex] at hm; exact hm.elim
    | cnt e => rw [ex] at hm; exact hm.elim
    | stuck => rw [ex] at hm; exact hm.elim
/-- all that stands still, in one -/
structure Sta (W : Wd) : Prop where
  d : DOk W
  z : ZOk W
  e : EOk W
  gk : GOk W
  ik : IOk W
  xk : XOk W
  bk : BOk W
  fd : ∀ f fd, W.P f = some fd → FDk W f fd
theorem call_ok (s : Sta W) : ∀ n, COk W (callN W.N W.P n) (11 * n)
  | 0 => ⟨fun f fd hP => ⟨fun vs H Q E h => by
      obtain ⟨_, _, _, h1, h2, _⟩ := h
      rw [h1, h2], fun A outer s H args us vs Q E _ _ _ _ h => by
      obtain ⟨_, _, _, _, _, _, _, h⟩ := h
      exact h.elim⟩, fun f ds h => absurd rfl h⟩
  | n + 1 => by
    have al : All W (callN W.N W.P n) (11 * n) := ⟨⟨call_ok s n, s.d, s.z, s.e⟩, s.gk, s.ik, s.xk, s.bk⟩
    have le := fun f fd (hP : W.P f = some fd) => (s.fd f fd hP).ex
    refine ⟨fun f fd hP => ?_, fun f ds h => ?_⟩
    · have hn : fd.np ≤ fd.nv := by
        obtain ⟨x, qual, params, body, scope, dvs, kws, N, F0, S, hps, hN, _, hc⟩ := le f fd hP
        rw [← hps, ← hN]
        have := congrArg List.length S.pre
        rw [List.length_take] at this
        omega
      have := fn_ok al (s.fd f fd hP) (C' := callN W.N W.P (n + 1)) (fun ds hl => by
        show (match W.P f with
          | some fd => if ds.length ≤ fd.np ∧ fd.np ≤ ds.length + fd.dfl.length ∧ fd.np ≤ fd.nv then runF W.N (callN W.N W.P n) fd ds else .stuck
          | none => .stuck) = _
        rw [hP]
        simp only
        rw [if_pos ⟨by omega, by omega, hn⟩])
      exact this.mono (by omega)
    · have h0 : (match W.P f with
          | some fd => if ds.length ≤ fd.np ∧ fd.np ≤ ds.length + fd.dfl.length ∧ fd.np ≤ fd.nv then runF W.N (callN W.N W.P n) fd ds else .stuck
          | none => .stuck) ≠ CR.stuck := h
      cases hP : W.P f with
      | none => rw [hP] at h0; exact absurd rfl h0
      | some fd =>
        rw [hP] at h0
        simp only at h0
        by_cases hc : ds.length ≤ fd.np ∧ fd.np ≤ ds.length + fd.dfl.length ∧ fd.np ≤ fd.nv
        · refine ⟨fd, rfl, hc.1, hc.2.1, ?_⟩
          show (match W.P f with
            | some fd => if ds.length ≤ fd.np ∧ fd.np ≤ ds.length + fd.dfl.length ∧ fd.np ≤ fd.nv then runF W.N (callN W.N W.P n) fd ds else .stuck
            | none => .stuck) = (match W.P f with
            | some fd' => if (ds ++ fd.dfl.drop (fd.dfl.length + ds.length - fd.np)).length ≤ fd'.np ∧ fd'.np ≤ (ds ++ fd.dfl.drop (fd.dfl.length + ds.length - fd.np)).length + fd'.dfl.length ∧ fd'.np ≤ fd'.nv then runF W.N (callN W.N W.P n) fd' (ds ++ fd.dfl.drop (fd.dfl.length + ds.length - fd.np)) else .stuck
            | none => .stuck)
          rw [hP]
          simp only
          have hl : (ds ++ fd.dfl.drop (fd.dfl.length + ds.length - fd.np)).length = fd.np := by
            rw [List.length_append, List.length_drop]
            omega
          rw [if_pos hc, if_pos ⟨by omega, by omega, hc.2.2⟩]
          unfold runF
          rw [hl, Nat.add_sub_cancel, List.drop_length, List.append_nil]
        · rw [if_neg hc] at h0; exact absurd rfl h0
end
end Z

namespace Z
open PySem PySem.Spec PyProof.Rows L2
/-- parameters of the plain form -/
def plainP (p : Arguments) : Bool := p.posonlyargs.isEmpty && p.kwonlyargs.isEmpty && p.vararg.isNone && p.kwarg.isNone
theorem lookup_zip : ∀ {ps : List Str} {us : List Value} {n : Str}, ps.Nodup → ps.length = us.length → n ∈ ps → ((ps.zip us).lookup n).isSome = true
  | [], _, _, _, _, h => by cases h
  | _ :: _, [], _, _, h, _ => by cases h
  | p :: ps, u :: us, n, nd, hl, h => by
    rw [List.zip_cons_cons, List.lookup_cons]
    cases e : n == p with
    | true => rfl
    | false =>
      refine lookup_zip (List.nodup_cons.mp nd).2 (by simpa using hl) ?_
      rcases List.mem_cons.mp h with rfl | h
      · simp at e
      · exact h
theorem filter_zip : ∀ {ps : List Str} {us : List Value}, ps.Nodup → ps.length = us.length → (ps.filterMap fun n => ((ps.zip us).lookup n).map (n, ·)) = ps.zip us := by
  have gen : ∀ {ps : List Str} {us : List Value} (pre : List (Str × Value)), ps.Nodup → ps.length = us.length → (∀ n ∈ ps, pre.lookup n = none) → (ps.filterMap fun n => ((pre ++ ps.zip us).lookup n).map (n, ·)) = ps.zip us := by
    intro ps
    induction ps with
    | nil => intro us pre _ _ _; cases us <;> rfl
    | cons p ps ih =>
      intro us pre nd hl hp
      cases us with
      | nil => cases hl
      | cons u us =>
        have nd' := List.nodup_cons.mp nd
        have e1 : (pre ++ (p, u) :: ps.zip us).lookup p = some u := by
          have : ∀ (l : List (Str × Value)), l.lookup p = none → (l ++ (p, u) :: ps.zip us).lookup p = some u := by
            intro l
            induction l with
            | nil => intro _; simp [List.lookup_cons]
            | cons q r ih2 =>
              intro h
              rw [List.cons_append, List.lookup_cons]
              rw [List.lookup_cons] at h
              cases e : p == q.1 with
              | true => rw [e] at h; cases h
              | false => rw [e] at h; exact ih2 h
          exact this pre (hp p List.mem_cons_self)
        rw [List.zip_cons_cons, List.filterMap_cons, e1]
        simp only [Option.map_some]
        congr 1
        have := ih (us := us) (pre ++ [(p, u)]) nd'.2 (by simpa using hl) (fun n hn => by
          have h1 := hp n (List.mem_cons_of_mem _ hn)
          have h2 : (n == p) = false := beq_eq_false_iff_ne.mpr fun e => nd'.1 (e ▸ hn)
          have : ∀ (l : List (Str × Value)), l.lookup n = none → (l ++ [(p, u)]).lookup n = none := by
            intro l
            induction l with
            | nil => intro _; simp [List.lookup_cons, h2]
            | cons q r ih2 =>
              intro h
              rw [List.cons_append, List.lookup_cons]
              rw [List.lookup_cons] at h
              cases e : n == q.1 with
              | true => rw [e] at h; cases h
              | false => rw [e] at h; exact ih2 h
          exact this pre h1)
        rw [List.append_assoc] at this
        exact this
  intro ps us nd hl
  exact gen [] nd hl (fun _ _ => rfl)
theorem bind_none {x qual : Str} {params : Arguments} {body : List Stmt} {scope : Scope} {kV doc pm cdv ct : Value} {an : Option Addr} {ps : List Str} {us : List Value} (hp : plainP params = true) (hps : params.args.map (·.arg) = ps) (nd : ps.Nodup) (hl : us.length = ps.length) :
    bindArgs (PySem.W.fnOf x qual params body scope .none kV doc pm an cdv ct) ⟨us, []⟩ = pure (ps.zip us) := by
  unfold plainP at hp
  simp only [Bool.and_eq_true, List.isEmpty_iff, Option.isNone_iff_eq_none] at hp
  obtain ⟨⟨⟨h1, h2⟩, h3⟩, h4⟩ := hp
  have e0 : seqItems? .none = (pure none : Sem (Option (Array Value))) := rfl
  have e1 : (params.args.map (·.arg)).filterMap (fun n => (((params.args.map (·.arg)).zip us).lookup n).map (n, ·)) = ps.zip us := by
    rw [hps]; exact filter_zip nd hl.symm
  have e2 : ((ps.take ps.length).filter fun n => ((ps.zip us).lookup n).isNone) = [] := by
    rw [List.filter_eq_nil_iff]
    intro n hn
    have := lookup_zip nd hl.symm (List.mem_of_mem_take hn)
    cases e : (ps.zip us).lookup n with
    | none => rw [e] at this; cases this
    | some _ => simp
  have e3 : ¬ (us.length > ps.length) := by omega
  unfold bindArgs
  simp only [PySem.W.fnOf, h1, h2, h3, h4, hps, e0, List.map_nil, List.nil_append, List.append_nil, List.forIn_nil, pure_bind, bind_pure, Option.getD_none]
  have e4 : (decide (us.length > ps.length) && true) = false := by simp [e3]
  have el : (params.args.map (·.arg)).length = ps.length := by rw [hps]
  simp only [Option.isNone_none, Bool.and_true, decide_eq_true_eq, and_true, if_neg e3, List.drop_nil, List.length_nil, Nat.sub_zero, Nat.zero_sub, List.zip_nil_right, List.forIn_nil, pure_bind, e2, List.isEmpty_nil, Bool.not_true, Bool.false_eq_true, if_false]
  rw [filter_zip nd hl.symm]
/-- the loop over the defaults -/
def fillL (S : List (Str × Value)) : List (Str × Value) → List (Str × Value)
  | [] => S
  | q :: r => fillL (if (S.lookup q.1).isNone then S ++ [q] else S) r
theorem fill_in {S : List (Str × Value)} : ∀ {L : List (Str × Value)}, (∀ q ∈ L, (S.lookup q.1).isSome = true) → fillL S L = S
  | [], _ => rfl
  | q :: r, h => by
    unfold fillL
    have := h q List.mem_cons_self
    have e : (S.lookup q.1).isNone = false := by
      cases e : S.lookup q.1 with
      | none => rw [e] at this; cases this
      | some _ => rfl
    rw [e, if_neg (by simp)]
    exact fill_in fun q' h' => h q' (List.mem_cons_of_mem _ h')
theorem lookup_snoc {n : Str} {q : Str × Value} : ∀ {l : List (Str × Value)}, l.lookup n = none → n ≠ q.1 → (l ++ [q]).lookup n = none
  | [], _, h2 => by
    rw [List.nil_append, List.lookup_cons, beq_eq_false_iff_ne.mpr h2]; rfl
  | p :: r, h, h2 => by
    rw [List.cons_append, List.lookup_cons]
    rw [List.lookup_cons] at h
    cases e : n == p.1 with
    | true => rw [e] at h; cases h
    | false => rw [e] at h; exact lookup_snoc h h2
theorem fill_out : ∀ {L S : List (Str × Value)}, (∀ q ∈ L, S.lookup q.1 = none) → (L.map (·.1)).Nodup → fillL S L = S ++ L
  | [], S, _, _ => by simp [fillL]
  | q :: r, S, h, nd => by
    unfold fillL
    rw [h q List.mem_cons_self]
    rw [List.map_cons] at nd
    have nd' := List.nodup_cons.mp nd
    simp only [Option.isNone_none, if_true]
    rw [fill_out (fun q' h' => lookup_snoc (h q' (List.mem_cons_of_mem _ h')) (fun e => nd'.1 (by rw [← e]; exact List.mem_map_of_mem h'))) nd'.2]
    simp
theorem fillL_app : ∀ {L M S : List (Str × Value)}, fillL S (L ++ M) = fillL (fillL S L) M
  | [], _, _ => rfl
  | q :: r, M, S => by
    show fillL _ (r ++ M) = fillL (fillL _ r) M
    exact fillL_app
theorem lookup_zip_none : ∀ {ps : List Str} {us : List Value} {n : Str}, n ∉ ps.take us.length → (ps.zip us).lookup n = none
  | [], _, _, _ => by simp
  | _ :: _, [], _, _ => by simp
  | p :: ps, u :: us, n, h => by
    simp only [List.length_cons, List.take_succ_cons, List.mem_cons, not_or] at h
    rw [List.zip_cons_cons, List.lookup_cons, beq_eq_false_iff_ne.mpr h.1]
    exact lookup_zip_none h.2
theorem lookup_zip_some : ∀ {ps : List Str} {us : List Value} {n : Str}, n ∈ ps.take us.length → ((ps.zip us).lookup n).isSome = true
  | [], _, _, h => by simp at h
  | _ :: _, [], _, h => by simp at h
  | p :: ps, u :: us, n, h => by
    simp only [List.length_cons, List.take_succ_cons, List.mem_cons] at h
    rw [List.zip_cons_cons, List.lookup_cons]
    cases e : n == p with
    | true => rfl
    | false =>
      rcases h with rfl | h
      · simp at e
      · exact lookup_zip_some h
theorem zip_app : ∀ {ps : List Str} {us vs : List Value}, us.length ≤ ps.length → ps.zip (us ++ vs) = ps.zip us ++ (ps.drop us.length).zip vs
  | ps, [], vs, _ => by simp
  | [], _ :: _, _, h => by simp at h
  | p :: ps, u :: us, vs, h => by
    simp only [List.cons_append, List.zip_cons_cons, List.length_cons, List.drop_succ_cons]
    rw [zip_app (by simpa using h)]
theorem forIn_fill : ∀ (L S : List (Str × Value)), (forIn L S fun x s => if (List.lookup x.fst s).isNone = true then (pure (ForInStep.yield (s ++ [(x.fst, x.snd)])) : Sem _) else pure (ForInStep.yield s)) = pure (fillL S L)
  | [], S => rfl
  | q :: r, S => by
    rw [List.forIn_cons]
    unfold fillL
    cases e : (List.lookup q.fst S).isNone with
    | true =>
      simp only [if_true, pure_bind]
      exact forIn_fill r _
    | false =>
      simp only [Bool.false_eq_true, if_false, pure_bind]
      exact forIn_fill r _
theorem mem_zip_left {q : Str × Value} : ∀ {ps : List Str} {us : List Value}, q ∈ ps.zip us → q.1 ∈ ps
  | [], _, h => by simp at h
  | _ :: _, [], h => by simp at h
  | p :: ps, u :: us, h => by
    rw [List.zip_cons_cons] at h
    rcases List.mem_cons.mp h with rfl | h
    · exact List.mem_cons_self
    · exact List.mem_cons_of_mem _ (mem_zip_left h)
theorem zip_split : ∀ {ps : List Str} {us : List Value} (a : Nat), ps.zip us = (ps.take a).zip (us.take a) ++ (ps.drop a).zip (us.drop a)
  | ps, us, 0 => by simp
  | [], _, _ + 1 => by simp
  | _ :: _, [], _ + 1 => by simp
  | p :: ps, u :: us, a + 1 => by
    simp only [List.take_succ_cons, List.drop_succ_cons, List.zip_cons_cons, List.cons_append]
    rw [← zip_split a]
theorem zip_names : ∀ {ps : List Str} {us : List Value}, ((ps.zip us).map (·.1)).Sublist ps
  | [], _ => by simp
  | _ :: _, [] => by simp
  | p :: ps, u :: us => by
    simp only [List.zip_cons_cons, List.map_cons]
    exact List.Sublist.cons_cons _ zip_names
theorem fill_dfl {ps : List Str} {us its : List Value} {j : Nat} (nd : ps.Nodup) (hj : j ≤ its.length) (hm : its.length ≤ ps.length) (hl : us.length + (its.length - j) = ps.length) :
    fillL (ps.zip us) ((ps.drop (ps.length - its.length)).zip its) = ps.zip (us ++ its.drop j) := by
  have ha : us.length = (ps.length - its.length) + j := by omega
  have s1 : fillL (ps.zip us) (((ps.drop (ps.length - its.length)).take j).zip (its.take j)) = ps.zip us := by
    refine fill_in fun q hq => ?_
    have h1 := mem_zip_left hq
    refine lookup_zip_some ?_
    rw [ha, List.take_add]
    exact List.mem_append_right _ h1
  have s2 : fillL (ps.zip us) (((ps.drop (ps.length - its.length)).drop j).zip (its.drop j)) = ps.zip us ++ ((ps.drop (ps.length - its.length)).drop j).zip (its.drop j) := by
    refine fill_out (fun q hq => ?_) (zip_names.nodup ((List.drop_sublist _ _).nodup ((List.drop_sublist _ _).nodup nd)))
    have h1 := mem_zip_left hq
    rw [List.drop_drop, ← ha] at h1
    refine lookup_zip_none fun h2 => ?_
    have := nd
    rw [← List.take_append_drop us.length ps] at this
    exact (List.nodup_append.mp this).2.2 _ h2 _ h1 rfl
  rw [zip_split (ps := ps.drop (ps.length - its.length)) j, fillL_app, s1, s2, zip_app (by omega), List.drop_drop, ha]
theorem bind_dfl {x qual : Str} {params : Arguments} {body : List Stmt} {scope : Scope} {T : Addr} {kV doc pm cdv ct : Value} {an : Option Addr} {ps : List Str} {us its : List Value} {j : Nat} (hp : plainP params = true) (hps : params.args.map (·.arg) = ps) (nd : ps.Nodup) (hj : j ≤ its.length) (hm : its.length ≤ ps.length) (hl : us.length + (its.length - j) = ps.length) :
    ∃ k, bindArgs (PySem.W.fnOf x qual params body scope (.ref T) kV doc pm an cdv ct) ⟨us, []⟩ = seqItems? (.ref T) >>= k ∧ k (some its.toArray) = pure (ps.zip (us ++ its.drop j)) := by
  unfold plainP at hp
  simp only [Bool.and_eq_true, List.isEmpty_iff, Option.isNone_iff_eq_none] at hp
  obtain ⟨⟨⟨h1, h2⟩, h3⟩, h4⟩ := hp
  have e3 : ¬ (us.length > ps.length) := by omega
  unfold bindArgs
  simp only [PySem.W.fnOf, h1, h2, h3, h4, hps, List.map_nil, List.nil_append, List.append_nil, List.forIn_nil, pure_bind, bind_pure, Option.getD_none]
  simp only [Option.isNone_none, Bool.and_true, decide_eq_true_eq, and_true, if_neg e3]
  refine ⟨_, rfl, ?_⟩
  have e4 : its.length - ps.length = 0 := by omega
  simp only [Option.getD_some, e4, List.drop_zero]
  have e5 : ((ps.take (ps.length - its.length)).filter fun n => ((ps.zip us).lookup n).isNone) = [] := by
    rw [List.filter_eq_nil_iff]
    intro n hn
    have : n ∈ ps.take us.length := by
      have : us.length = (ps.length - its.length) + j := by omega
      rw [this, List.take_add]
      exact List.mem_append_left _ hn
    have := lookup_zip_some this
    cases e : (ps.zip us).lookup n with
    | none => rw [e] at this; cases this
    | some _ => simp
  simp only [e5, List.isEmpty_nil, Bool.not_true, Bool.false_eq_true, if_false]
  rw [forIn_fill]
  simp only [pure_bind]
  rw [fill_dfl nd hj hm hl, filter_zip nd (by rw [List.length_append, List.length_drop]; omega)]
end Z

namespace Z
open PySem PySem.Spec PyProof.Rows L2
/-- a def's texts: where it stands, its parameters' names, all its names -/
structure Dx where
  fd : Fd
  d : He.DefD
  ps : List Str
  N : List Str
/-- a law's tables -/
structure Tx where
  n : Ns
  N : Nm
  tbl : List (Nat × Dx)
  cs : List Nat
  xs : List Nat
  bs : List Blt
  gs : List (Nat × D)
def Tx.P (t : Tx) : Nat → Option Fd := fun f => (t.tbl.lookup f).map (·.fd)
/-- the names, with what the tables say -/
def Tx.M (t : Tx) : Nm := { t.N with has := fun c m => (t.P (mfid c m)).isSome, gl := fun g => t.gs.lookup g }
def dx0 : Dx := ⟨⟨0, 0, [], [], .skip⟩, ⟨("", none), "", "", ⟨[], [], none, [], [], none, []⟩, [], ⟨.function, [], false, false, []⟩, [], []⟩, [], []⟩
def Tx.dx (t : Tx) (f : Nat) : Dx := (t.tbl.lookup f).getD dx0
def fda0 (K : PySem.W.Frag) (a : Addr) : FuncData := match K.lookup a with
  | some ⟨_, _, .func fd, _⟩ => fd
  | _ => PySem.W.fnOf "" "" ⟨[], [], none, [], [], none, []⟩ [] ⟨.function, [], false, false, []⟩ .none .none .none .none none .none .none
/-- the world of a law -/
def mkW (t : Tx) (K : PySem.W.Frag) (prog : Program) (w : World) (mg : Str → Option Value) (base : Heap) : Wd where
  T := ⟨K, fun c => He.ga K (t.n.cl c), fun c => (t.N.fl c).map t.n.fl, t.cs⟩
  n := t.n
  N := t.M
  P := t.P
  fad := fun f => He.fAd K (t.dx f).d.at_
  fda := fun f => fda0 K (He.fAd K (t.dx f).d.at_)
  fps := fun f => (t.dx f).ps
  fdv := fun f => (t.dx f).d.dvs K
  prog := prog
  w := w
  mg := mg
  base := base
  xs := t.xs
  bs := t.bs
def dvB : He.Dv → D → Bool
  | .non, d => (match d with | .non => true | _ => false)
  | .bl b, d => (match d with | .bl c => decide (b = c) | _ => false)
  | .int b, d => (match d with | .int c => decide (b = c) | _ => false)
  | .str b, d => (match d with | .str c => decide (b = c) | _ => false)
  | _, _ => false
def dvBs : List He.Dv → List D → Bool
  | [], [] => true
  | v :: r, d :: l => dvB v d && dvBs r l
  | _, _ => false
def scB (N ps : List Str) (sc : Scope) : Bool := decide (sc.kind = .function) && !sc.isCoroutine && !sc.isGenerator && decide N.Nodup && decide (N.take ps.length = ps) && ps.all (fun x => match sc.names.lookup x with | some .local => true | some .cell => true | _ => false) && sc.names.all fun y => decide (y.2 ≠ .free)
def dxB (B : Tb) (x : Dx) : Bool := plainP x.d.params && decide (x.d.params.args.map (·.arg) = x.ps) && decide (x.ps.length = x.fd.np) && decide (x.N.length = x.fd.nv) && scB x.N x.ps x.d.scope && decide (x.fd.io.Nodup) && x.fd.io.all (fun i => decide (i < x.fd.np)) &&
  dvBs x.d.dfl x.fd.dfl && x.d.kwd.isEmpty && decide (x.fd.dfl.length ≤ x.fd.np) && chkS ⟨x.N, x.d.scope.names⟩ B x.fd.io x.fd.body x.d.body
def Tx.tb (t : Tx) : Tb := ⟨t.n, t.P, t.cs, t.xs, t.N.xf, t.bs⟩
/-- all texts -/
def txB (t : Tx) : Bool := t.tbl.all fun p => dxB t.tb p.2
/-- the numbers: methods are methods of the classes -/
def Tx.numB (t : Tx) : Bool := t.tbl.all (fun p => decide (p.1 < 1000) || t.cs.contains (p.1 / 1000 - 1)) && decide (t.tbl.map (·.1)).Nodup
theorem scB_ok {N ps : List Str} {sc : Scope} (h : scB N ps sc = true) : FnScope N ps sc := by
  unfold scB at h
  simp only [Bool.and_eq_true, Bool.not_eq_true', decide_eq_true_eq] at h
  obtain ⟨⟨⟨⟨⟨⟨h1, h2⟩, h3⟩, h4⟩, h5⟩, h6⟩, h7⟩ := h
  refine ⟨h1, h2, h3, h4, h5, fun x hx => ?_, fun y hy => ?_⟩
  · have := List.all_eq_true.mp h6 x hx
    split at this
    · rename_i e; exact .inl e
    · rename_i e; exact .inr e
    · cases this
  · exact of_decide_eq_true (List.all_eq_true.mp h7 y hy)
theorem dvB_ok {K : PySem.W.Frag} {v : He.Dv} {d : D} (h : dvB v d = true) {T : Tab} {F : Hp} : frep T F d (v.v K) := by
  cases v with
  | non => cases d with
    | non => simp only [frep, He.Dv.v]
    | _ => exact absurd h Bool.false_ne_true
  | bl b => cases d with
    | bl c => cases of_decide_eq_true (show decide (b = c) = true from h); exact frep_bl
    | _ => exact absurd h Bool.false_ne_true
  | int b => cases d with
    | int c => cases of_decide_eq_true (show decide (b = c) = true from h); exact frep_int
    | _ => exact absurd h Bool.false_ne_true
  | str b => cases d with
    | str c => cases of_decide_eq_true (show decide (b = c) = true from h); exact frep_str
    | _ => exact absurd h Bool.false_ne_true
  | _ => exact absurd h Bool.false_ne_true
theorem dvBs_ok {K : PySem.W.Frag} {T : Tab} {F : Hp} : ∀ {vs : List He.Dv} {ds : List D}, dvBs vs ds = true → freps T F ds (vs.map (He.Dv.v K))
  | [], [], _ => by simp [freps]
  | [], _ :: _, h => absurd h Bool.false_ne_true
  | _ :: _, [], h => absurd h Bool.false_ne_true
  | v :: vs, d :: ds, h => by
    have h : (dvB v d && dvBs vs ds) = true := h
    simp only [Bool.and_eq_true] at h
    simp only [List.map_cons, freps]
    exact ⟨dvB_ok h.1, dvBs_ok h.2⟩
section
variable {t : Tx} {K : PySem.W.Frag} {prog : Program} {w : World} {mg : Str → Option Value} {base : Heap}
theorem mem_lookupN {β : Type} {f : Nat} {x : β} : ∀ {l : List (Nat × β)}, l.lookup f = some x → (f, x) ∈ l
  | [], h => by cases h
  | p :: r, h => by
    rw [List.lookup_cons] at h
    cases e : f == p.1 with
    | true =>
      rw [e] at h
      have := beq_iff_eq.mp e
      cases h
      subst this
      exact List.mem_cons_self
    | false => rw [e] at h; exact List.mem_cons_of_mem _ (mem_lookupN h)
theorem P_dx {f : Nat} {fd : Fd} (h : t.P f = some fd) : t.tbl.lookup f = some (t.dx f) ∧ (t.dx f).fd = fd ∧ (f, t.dx f) ∈ t.tbl := by
  unfold Tx.P at h
  unfold Tx.dx
  cases e : t.tbl.lookup f with
  | none => rw [e] at h; cases h
  | some x =>
    rw [e] at h
    cases h
    have hm := mem_lookupN e
    exact ⟨rfl, rfl, hm⟩
theorem says_def {fn : List He.DefD} {d : He.DefD} (c : He.SaysD [] fn K) (h : d ∈ fn) : ∃ fd, FunD K d.name d.qual d.params d.body d.scope (d.dvs K) (d.kws K) (He.fAd K d.at_) fd := by
  obtain ⟨i, hi, e⟩ := List.mem_iff_getElem.mp h
  exact c.def_ i (d := d) (by rw [List.getElem?_eq_getElem hi, e])
/-- the def as an object -/
theorem fun_ok (hs : He.SaysD [] (t.tbl.map (·.2.d)) K) {f : Nat} {fd : Fd} (h : t.P f = some fd) :
    FunD K (t.dx f).d.name (t.dx f).d.qual (t.dx f).d.params (t.dx f).d.body (t.dx f).d.scope ((t.dx f).d.dvs K) ((t.dx f).d.kws K) (He.fAd K (t.dx f).d.at_) (fda0 K (He.fAd K (t.dx f).d.at_)) := by
  obtain ⟨_, _, hm⟩ := P_dx h
  have hm2 : (t.dx f).d ∈ t.tbl.map (·.2.d) := List.mem_map.mpr ⟨(f, t.dx f), hm, rfl⟩
  obtain ⟨fd', F⟩ := says_def hs hm2
  obtain ⟨oc, od, dV, kV, doc, pm, an, cdv, ct, osl, e1, lk, _⟩ := F.ex
  have : fda0 K (He.fAd K (t.dx f).d.at_) = fd' := by
    unfold fda0
    rw [lk]
  rw [this]
  exact F
theorem tx_one (ht : txB t = true) {f : Nat} {x : Dx} (h : (f, x) ∈ t.tbl) : dxB t.tb x = true := by
  unfold txB at ht
  rw [List.all_eq_true] at ht
  exact ht (f, x) h
theorem dok (hs : He.SaysD [] (t.tbl.map (·.2.d)) K) (ht : txB t = true) : DOk (mkW t K prog w mg base) := by
  have one : ∀ f fd, t.P f = some fd → (t.dx f).fd = fd ∧ dxB t.tb (t.dx f) = true := fun f fd h => by
    obtain ⟨_, e, hm⟩ := P_dx h
    exact ⟨e, tx_one ht hm⟩
  refine ⟨fun f fd h => ?_, fun f fd h F => ?_, fun f fd m h h1 h2 => ?_⟩
  · obtain ⟨e, hb⟩ := one f fd h
    unfold dxB at hb
    simp only [Bool.and_eq_true, decide_eq_true_eq] at hb
    rw [← e]
    exact hb.1.1.1.1.1.1.1.1.2
  · obtain ⟨e, hb⟩ := one f fd h
    unfold dxB at hb
    simp only [Bool.and_eq_true, decide_eq_true_eq] at hb
    rw [← e]
    exact dvBs_ok hb.1.1.1.2
  · have h : t.P f = some fd := h
    obtain ⟨e, hb⟩ := one f fd h
    have F := fun_ok hs h
    unfold dxB at hb
    simp only [Bool.and_eq_true, decide_eq_true_eq] at hb
    obtain ⟨⟨⟨⟨⟨⟨⟨⟨⟨⟨b1, b2⟩, b3⟩, b4⟩, b5⟩, b6⟩, b7⟩, b8⟩, b9⟩, b10⟩, b11⟩ := hb
    have S := scB_ok b5
    have nd : (t.dx f).ps.Nodup := by
      rw [← S.pre]
      exact (List.take_sublist _ _).nodup S.nd
    have hlen : ((t.dx f).d.dvs K).length = fd.dfl.length := by
      have := freps_length (dvBs_ok (K := K) (T := ⟨K, fun _ => 0, fun _ => [], []⟩) (F := fun _ => none) b8)
      rw [e] at this
      exact this.symm
    rw [e] at b3 b10
    show ∃ us, Vals (((t.dx f).d.dvs K).drop (fd.dfl.length + m - fd.np)) us ∧ Binds K (fda0 K (He.fAd K (t.dx f).d.at_)) (t.dx f).ps us
    by_cases hd : (t.dx f).d.dvs K = []
    · rw [hd] at F hlen ⊢
      refine ⟨[], by simp only [List.drop_nil]; exact .nil, ?_⟩
      exact F.bindsN fun kV doc pm an cdv ct us hl => bind_none b1 b2 nd hl
    · refine F.binds1 m _ hd (by rw [hlen, b3]; omega) fun T kV doc pm an cdv ct us its hu hi => ?_
      exact bind_dfl b1 b2 nd (by rw [hi, hlen]; omega) (by rw [hi, hlen, b3]; omega) (by rw [hi, hlen, b3, hu]; omega)
theorem fdk (hs : He.SaysD [] (t.tbl.map (·.2.d)) K) (ht : txB t = true) : ∀ f fd, (mkW t K prog w mg base).P f = some fd → FDk (mkW t K prog w mg base) f fd := fun f fd h => by
  have h : t.P f = some fd := h
  obtain ⟨_, e, hm⟩ := P_dx h
  have hb := tx_one ht hm
  have F := fun_ok hs h
  unfold dxB at hb
  simp only [Bool.and_eq_true, decide_eq_true_eq] at hb
  obtain ⟨⟨⟨⟨⟨⟨⟨⟨⟨⟨b1, b2⟩, b3⟩, b4⟩, b5⟩, b6⟩, b7⟩, b8⟩, b9⟩, b10⟩, b11⟩ := hb
  rw [← e]
  exact ⟨_, _, _, _, _, _, _, (t.dx f).N, F, scB_ok b5, b3, b4, ⟨b6, fun i hi => of_decide_eq_true (List.all_eq_true.mp b7 i hi)⟩, b11⟩
end
end Z

namespace Z
open PySem PySem.Spec PyProof.Rows L2
section
variable (t : Tx) (K : PySem.W.Frag)
def cA (c : Nat) : Addr := He.ga K (t.n.cl c)
def fA (f : Nat) : Addr := He.fAd K (t.dx f).d.at_
/-- a class -/
def clsB (c : Nat) : Bool :=
  let C := cA t K c
  let fs := (t.N.fl c).map t.n.fl
  (He.Fa.cls (t.n.cl c)).ok K && fs.all (fun f => (He.Fa.noat (t.n.cl c) f).ok K) && decide fs.Nodup && decide (fs.length ≤ 900) && PySem.W.selfFirst K C &&
  decide (PySem.W.findIn K (.ref C) "__class__" = some (some (.builtin "object.__class__"))) && decide (PySem.W.mroIn K C (.type "object") = some true) &&
  [Operator.Add, .Sub, .Mult, .FloorDiv, .Mod].all (fun o => decide (PySem.W.findIn K (.ref C) (dunderR o.info.2) = some none)) &&
  bts.all (fun T => decide (PySem.W.subIn K (.type T) (.ref C) = some false)) &&
  t.cs.all (fun d => decide (d = c) || (decide (cA t K d ≠ C) && decide (PySem.W.subIn K (.ref C) (.ref (cA t K d)) = some false)))
/-- a def: f = 1000 (c + 1) + m -/
def fnB (p : Nat × Dx) : Bool :=
  let a := He.fAd K p.2.d.at_
  if p.1 < 1000 then decide (p.1 ≠ 999) && decide (p.2.d.at_ = (t.n.fn p.1, none)) && (He.Fa.glo (t.n.fn p.1)).ok K && !(t.n.fn p.1 == ("__debug__" : Str))
  else
    let c := p.1 / 1000 - 1
    let m := p.1 % 1000
    let C := cA t K c
    t.cs.contains c && decide (p.2.d.at_ = (t.n.cl c, some (t.n.mt m))) && (He.Fa.meth (t.n.cl c) (t.n.mt m)).ok K && !((t.N.fl c).map t.n.fl).contains (t.n.mt m) &&
    (if m = mInit then decide (p.2.fd.io = [0]) && (He.Fa.mkr (t.n.cl c)).ok K else true) &&
    (if m = mEq then neIn K C a else true)
def nmB : Bool := decide (t.n.mt mEq = "__eq__") && decide (t.n.mt mAdd = "__add__") && decide (t.n.mt mSub = "__sub__") && decide (t.n.mt mMul = "__mul__") && decide (t.n.mt mNeg = "__neg__") && decide (t.n.mt mFdiv = "__floordiv__") && decide (t.n.mt mMod = "__mod__") && decide (t.n.mt mCall = "__call__") && decide (t.n.mt mStr = "__str__") && decide (t.n.mt mLen = "__len__") && decide (t.n.mt mInit = "__init__")
def excB (c : Nat) : Bool := ((t.N.xf c).isSome || (He.Fa.exc (t.n.cl c)).ok K) && (He.Fa.glo (t.n.cl c)).ok K && PySem.W.keepIn K (.ref (cA t K c)) && decide (PySem.W.subIn K (.ref (cA t K c)) (.type "BaseException") = some true) && decide (PySem.W.typeIn K (.ref (cA t K c)) = some (.type "type")) && !(t.n.cl c == ("__debug__" : Str)) &&
  t.xs.all fun d => decide (PySem.W.exmOne K (.ref (cA t K c)) (.ref (cA t K d)) = some (t.N.sub c d))
def scalB : D → Value → Bool
  | .int i, v => (match v with | .int j _ => decide (i = j) | _ => false)
  | .str i, v => (match v with | .str j _ => decide (i = j) | _ => false)
  | .bl i, v => (match v with | .bool j => decide (i = j) | _ => false)
  | .non, v => (match v with | .none => true | _ => false)
  | _, _ => false
def scalBs : List D → List Value → Bool
  | [], [] => true
  | d :: l, v :: r => scalB d v && scalBs l r
  | _, _ => false
def valB (d : D) (v : Value) : Bool := match d with
  | .tup l => (match v with
    | .ref a => (match K.lookup a with
      | some o => decide (o.cls = .type "tuple") && (match o.data with
        | .seq its _ => decide (its.size ≤ 1000) && scalBs l its.toList
        | _ => false)
      | none => false)
    | _ => false)
  | d => scalB d v
def gloKB (p : Nat × D) : Bool := match PySem.W.nsIn K mainGlobals (t.n.gl p.1) with
  | some (some v) => valB K p.2 v
  | _ => false
def ktU (K : PySem.W.Frag) (cd : Nat → Addr) : Ty → Value
  | .int => .type "int" | .bool => .type "bool" | .str => .type "str" | .list => .type "list" | .tuple => .type "tuple" | .cls c => .ref (cd c)
def ktV (cd : Nat → Addr) : D → Value
  | .non => .type "NoneType" | .bl _ => .type "bool" | .int _ => .type "int" | .str _ => .type "str" | .tup _ => .type "tuple" | .lst _ _ => .type "list" | .ins c _ => .ref (cd c)
  | _ => .none
def kitB : Bool := (kinds t.cs).all fun d => (tys t.cs).all fun y => decide (PySem.W.kitOne K (ktV (cA t K) d) (ktU K (cA t K) y) = some (tyD d y))
def freB : Bool := (["isinstance", "int", "bool", "str", "list", "tuple", "range", "zip", "super"].all fun x => (He.Fa.free (Str.ofString x)).ok K) &&
  t.bs.all fun b => if b = .gcd then decide (PySem.W.nsIn K mainGlobals (bltN b) = some (some (.builtin "math.gcd"))) else (He.Fa.free (bltN b)).ok K
/-- all facts -/
def kB : Bool := decide (PySem.W.specialIn K (.builtin "object.__class__") "__get__" = some (some (.builtin "getset_descriptor.__get__"))) && decide (PySem.W.takesIn K (.builtin "object.__class__") = some true) &&
  nmB t && t.cs.all (clsB t K) && t.tbl.all (fnB t K) && t.xs.all (excB t K) && t.gs.all (gloKB t K) && kitB t K && freB t K && t.cs.all fun c => (He.Fa.glo (t.n.cl c)).ok K && !(t.n.cl c == ("__debug__" : Str))
end
section
variable {t : Tx} {K : PySem.W.Frag} {prog : Program} {w : World} {mg : Str → Option Value} {base h : Heap}
/-- kB, taken apart -/
structure KF (t : Tx) (K : PySem.W.Frag) : Prop where
  sp : PySem.W.specialIn K (.builtin "object.__class__") "__get__" = some (some (.builtin "getset_descriptor.__get__"))
  tk : PySem.W.takesIn K (.builtin "object.__class__") = some true
  nm : nmB t = true
  cl : ∀ c ∈ t.cs, clsB t K c = true
  fn : ∀ p ∈ t.tbl, fnB t K p = true
  ex : ∀ c ∈ t.xs, excB t K c = true
  gl : ∀ p ∈ t.gs, gloKB t K p = true
  kt : kitB t K = true
  fr : freB t K = true
  cg : ∀ c ∈ t.cs, (He.Fa.glo (t.n.cl c)).ok K = true ∧ (t.n.cl c == ("__debug__" : Str)) = false
theorem kf_of (h : kB t K = true) : KF t K := by
  unfold kB at h
  simp only [Bool.and_eq_true, decide_eq_true_eq, List.all_eq_true, Bool.not_eq_true'] at h
  obtain ⟨⟨⟨⟨⟨⟨⟨⟨⟨h1, h2⟩, h3⟩, h4⟩, h5⟩, h6⟩, h7⟩, h8⟩, h9⟩, h10⟩ := h
  exact ⟨h1, h2, h3, h4, h5, h6, h7, h8, h9, h10⟩
/-- a def of the table, by its number -/
theorem fn_low (k : KF t K) {f : Nat} {fd : Fd} (h : t.P f = some fd) (hf : f < 1000) : (t.dx f).d.at_ = (t.n.fn f, none) ∧ (He.Fa.glo (t.n.fn f)).ok K = true ∧ (t.n.fn f == ("__debug__" : Str)) = false := by
  obtain ⟨_, _, hm⟩ := P_dx h
  have := k.fn _ hm
  unfold fnB at this
  simp only [if_pos hf, Bool.and_eq_true, decide_eq_true_eq, Bool.not_eq_true'] at this
  exact ⟨this.1.1.2, this.1.2, this.2⟩
theorem fn_high (k : KF t K) {c m : Nat} {fd : Fd} (h : t.P (mfid c m) = some fd) : c ∈ t.cs ∧ (t.dx (mfid c m)).d.at_ = (t.n.cl c, some (t.n.mt m)) ∧ (He.Fa.meth (t.n.cl c) (t.n.mt m)).ok K = true ∧ t.n.mt m ∉ (t.N.fl c).map t.n.fl ∧
    (m = mInit → (t.dx (mfid c m)).fd.io = [0] ∧ (He.Fa.mkr (t.n.cl c)).ok K = true) ∧ (m = mEq → neIn K (cA t K c) (fA t K (mfid c m)) = true) := by
  obtain ⟨_, _, hm⟩ := P_dx h
  have := k.fn _ hm
  unfold fnB at this
  have hm0 : m < 1000 := by
    refine Classical.byContradiction fun z => ?_
    have e : mfid c m = 999 := if_neg z
    rw [e] at this
    simp at this
  have e0 : ¬ (mfid c m < 1000) := by unfold mfid; rw [if_pos hm0]; omega
  have e1 : mfid c m / 1000 - 1 = c := by unfold mfid; rw [if_pos hm0]; omega
  have e2 : mfid c m % 1000 = m := by unfold mfid; rw [if_pos hm0]; omega
  simp only [if_neg e0, e1, e2, Bool.and_eq_true, decide_eq_true_eq, Bool.not_eq_true', List.contains_eq_mem, decide_eq_false_iff_not] at this
  obtain ⟨⟨⟨⟨⟨h1, h2⟩, h3⟩, h4⟩, h5⟩, h6⟩ := this
  refine ⟨h1, h2, h3, h4, fun e => ?_, fun e => ?_⟩
  · rw [if_pos e] at h5
    simpa using h5
  · rw [if_pos e] at h6
    exact h6
theorem kok (k : KF t K) {c : Nat} (hc : c ∈ t.cs) : KOk (mkW t K prog w mg base) c := by
  have := k.cl c hc
  unfold clsB at this
  simp only [Bool.and_eq_true, decide_eq_true_eq] at this
  obtain ⟨⟨⟨⟨⟨⟨⟨⟨⟨h1, h2⟩, h3⟩, h4⟩, h5⟩, h6⟩, h7⟩, h8⟩, h9⟩, h10⟩ := this
  refine ⟨He.cls_ok h1, fun f hf => He.noat_ok (List.all_eq_true.mp h2 f hf), h3, h4, h5, h6, k.sp, k.tk, h7, fun o m ho => ?_, fun m fd hP => ?_⟩
  · rw [List.all_eq_true] at h8
    have mem : o ∈ [Operator.Add, .Sub, .Mult, .FloorDiv, .Mod] := by
      cases o <;> first | (simp; done) | (simp [opM] at ho)
    exact of_decide_eq_true (h8 o mem)
  · obtain ⟨_, e, hm, hn, _⟩ := fn_high k (show t.P (mfid c m) = some fd from hP)
    refine ⟨?_, hn⟩
    have := He.meth_ok hm
    show Meth K (He.ga K (t.n.cl c)) (t.n.mt m) (He.fAd K (t.dx (mfid c m)).d.at_)
    rw [e]
    exact this
theorem pairs (k : KF t K) {c d : Nat} (hc : c ∈ t.cs) (hd : d ∈ t.cs) (hne : c ≠ d) : cA t K d ≠ cA t K c ∧ PySem.W.subIn K (.ref (cA t K c)) (.ref (cA t K d)) = some false := by
  have := k.cl c hc
  unfold clsB at this
  simp only [Bool.and_eq_true, decide_eq_true_eq] at this
  have h10 := this.2
  rw [List.all_eq_true] at h10
  have := h10 d hd
  simp only [Bool.or_eq_true, Bool.and_eq_true, decide_eq_true_eq] at this
  rcases this with e | e
  · exact absurd e.symm hne
  · exact e
theorem zok (k : KF t K) : ZOk (mkW t K prog w mg base) := by
  have nm := k.nm
  unfold nmB at nm
  simp only [Bool.and_eq_true, decide_eq_true_eq] at nm
  obtain ⟨⟨⟨⟨⟨⟨⟨⟨⟨⟨n1, n2⟩, n3⟩, n4⟩, n5⟩, n6⟩, n7⟩, n8⟩, n9⟩, n10⟩, n11⟩ := nm
  refine ⟨fun c hc => kok k hc, fun c m fd hP => (fn_high k (show t.P (mfid c m) = some fd from hP)).1, fun c hc d hd e => ?_, fun c hc d hd hne => (pairs k hc hd hne).2, n1, n2, n3, n4, n5, n6, n7, n8, n9, n10, n11⟩
  refine Classical.byContradiction fun hne => ?_
  exact (pairs k hc hd hne).1 e.symm
theorem eok (k : KF t K) : EOk (mkW t K prog w mg base) := by
  refine ⟨fun c hc hP => ?_, fun c hc T hT => ?_⟩
  · obtain ⟨fd, hP⟩ := Option.isSome_iff_exists.mp hP
    exact (fn_high k (show t.P (mfid c mEq) = some fd from hP)).2.2.2.2.2 rfl
  · have := k.cl c hc
    unfold clsB at this
    simp only [Bool.and_eq_true, decide_eq_true_eq] at this
    exact of_decide_eq_true (List.all_eq_true.mp this.1.2 T hT)
theorem gok (k : KF t K) (X : K.In h) (G : h.Ns mainGlobals mg) (hkp : ∀ f fd, t.P f = some fd → PySem.W.keepIn K (.ref (He.fAd K (t.dx f).d.at_)) = true) : GOk (mkW t K prog w mg base) := by
  refine ⟨fun f fd hP hf => ?_, fun c fd hP => ?_, fun c hc => rfl, fun c m e => ?_⟩
  · have hP : t.P f = some fd := hP
    obtain ⟨e, hg, hd⟩ := fn_low k hP hf
    refine ⟨?_, hkp f fd hP, hd⟩
    have := He.glo_ok X G hg
    show mg (t.n.fn f) = some (.ref (He.fAd K (t.dx f).d.at_))
    rw [e]
    exact this
  · have hP : t.P (mfid c mInit) = some fd := hP
    obtain ⟨hc, e, _, _, hi, _⟩ := fn_high k hP
    obtain ⟨_, e2, _⟩ := P_dx hP
    obtain ⟨i1, i2⟩ := hi rfl
    rw [e2] at i1
    obtain ⟨g1, g2⟩ := k.cg c hc
    refine ⟨i1, He.glo_ok X G g1, ?_, g2⟩
    have nm := k.nm
    unfold nmB at nm
    simp only [Bool.and_eq_true, decide_eq_true_eq] at nm
    have := He.mkr_ok i2
    show Mk K (He.ga K (t.n.cl c)) (He.fAd K (t.dx (mfid c mInit)).d.at_)
    rw [e, nm.2]
    exact this
  · exact Option.isSome_iff_exists.mp (show (t.P (mfid c m)).isSome = true from e)
theorem fre (k : KF t K) (X : K.In h) (G : h.Ns mainGlobals mg) : ∀ x ∈ ["isinstance", "int", "bool", "str", "list", "tuple", "range", "zip", "super"], mg (Str.ofString x) = none := fun x hx => by
  have := k.fr
  unfold freB at this
  simp only [Bool.and_eq_true, List.all_eq_true] at this
  exact He.free_ok X G (this.1 x hx)
theorem iok (k : KF t K) (X : K.In h) (G : h.Ns mainGlobals mg) : IOk (mkW t K prog w mg base) := by
  refine ⟨fun d hd y hy => ?_, fre k X G "isinstance" (by simp)⟩
  have := k.kt
  unfold kitB at this
  simp only [List.all_eq_true, decide_eq_true_eq] at this
  have := this d hd y hy
  have e1 : kindV (mkW t K prog w mg base) d = ktV (cA t K) d := by cases d <;> rfl
  have e2 : tyU (mkW t K prog w mg base) y = ktU K (cA t K) y := by cases y <;> rfl
  rw [e1, e2]
  exact this
theorem xok (k : KF t K) (X : K.In h) (G : h.Ns mainGlobals mg) : XOk (mkW t K prog w mg base) := by
  have one : ∀ c ∈ t.xs, ((t.N.xf c).isSome = true ∨ (He.Fa.exc (t.n.cl c)).ok K = true) ∧ (He.Fa.glo (t.n.cl c)).ok K = true ∧ PySem.W.keepIn K (.ref (cA t K c)) = true ∧ PySem.W.subIn K (.ref (cA t K c)) (.type "BaseException") = some true ∧ PySem.W.typeIn K (.ref (cA t K c)) = some (.type "type") ∧ (t.n.cl c == ("__debug__" : Str)) = false ∧
      ∀ d ∈ t.xs, PySem.W.exmOne K (.ref (cA t K c)) (.ref (cA t K d)) = some (t.N.sub c d) := fun c hc => by
    have := k.ex c hc
    unfold excB at this
    simp only [Bool.and_eq_true, Bool.or_eq_true, decide_eq_true_eq, Bool.not_eq_true', List.all_eq_true] at this
    obtain ⟨⟨⟨⟨⟨⟨h1, h2⟩, h3⟩, h4⟩, h5⟩, h6⟩, h7⟩ := this
    exact ⟨h1, h2, h3, h4, h5, h6, h7⟩
  refine ⟨fun c hc hx => ?_, fun c hc => ?_, fun e he c hc => (one e he).2.2.2.2.2.2 c hc⟩
  · rcases (one c hc).1 with z | z
    · rw [show t.N.xf c = none from hx] at z; cases z
    · exact (He.exc_ok z).1
  · obtain ⟨_, h2, h3, h4, h5, h6, _⟩ := one c hc
    exact ⟨He.glo_ok X G h2, h3, h4, h5, h6⟩
theorem scal_ok {d : D} {v : Value} (h : scalB d v = true) : ∃ x, RelV x v ∧ ∀ (T : Tab) F, frep T F d x := by
  cases d with
  | int i => cases v with
    | int j tk => cases of_decide_eq_true (show decide (i = j) = true from h); exact ⟨.int i, ⟨tk, rfl⟩, fun _ _ => frep_int⟩
    | _ => exact absurd h Bool.false_ne_true
  | str i => cases v with
    | str j tk => cases of_decide_eq_true (show decide (i = j) = true from h); exact ⟨.str i, ⟨tk, rfl⟩, fun _ _ => frep_str⟩
    | _ => exact absurd h Bool.false_ne_true
  | bl i => cases v with
    | bool j => cases of_decide_eq_true (show decide (i = j) = true from h); exact ⟨.bl i, rfl, fun _ _ => frep_bl⟩
    | _ => exact absurd h Bool.false_ne_true
  | non => cases v with
    | none => exact ⟨.non, rfl, fun _ _ => by simp only [frep]⟩
    | _ => exact absurd h Bool.false_ne_true
  | _ => exact absurd h Bool.false_ne_true
theorem scals_ok : ∀ {l : List D} {vs : List Value}, scalBs l vs = true → ∃ xs, Vals xs vs ∧ ∀ (T : Tab) F, freps T F l xs
  | [], [], _ => ⟨[], .nil, fun _ _ => by simp [freps]⟩
  | [], _ :: _, h => absurd h Bool.false_ne_true
  | _ :: _, [], h => absurd h Bool.false_ne_true
  | d :: l, v :: vs, h => by
    have h : (scalB d v && scalBs l vs) = true := h
    simp only [Bool.and_eq_true] at h
    obtain ⟨x, r, f⟩ := scal_ok h.1
    obtain ⟨xs, rs, fs⟩ := scals_ok h.2
    exact ⟨x :: xs, .cons r rs, fun T F => by simp only [freps]; exact ⟨f T F, fs T F⟩⟩
theorem bok (k : KF t K) (X : K.In h) (G : h.Ns mainGlobals mg) : BOk (mkW t K prog w mg base) := by
  refine ⟨fun b hb => ?_, fun g d hg => ?_, fun x hx => fre k X G x (by simp at hx ⊢; grind), fun c hc => He.glo_ok X G (k.cg c hc).1⟩
  · have := k.fr
    unfold freB at this
    simp only [Bool.and_eq_true, List.all_eq_true] at this
    have := this.2 b hb
    by_cases e : b = .gcd
    · rw [if_pos e] at this ⊢
      exact PySem.W.mg_of X G (of_decide_eq_true this)
    · rw [if_neg e] at this ⊢
      exact He.free_ok X G this
  · have hg : t.gs.lookup g = some d := hg
    have := k.gl _ (mem_lookupN hg)
    unfold gloKB at this
    split at this
    · rename_i v hv
      refine ⟨v, ?_⟩
      have hm := PySem.W.mg_of X G hv
      have sc : scalB d v = true → ∃ x, mg (t.n.gl g) = some v ∧ RelV x v ∧ ∀ F, frep (mkW t K prog w mg base).T F d x := fun hs => by
        obtain ⟨x, r, f⟩ := scal_ok hs
        exact ⟨x, hm, r, fun F => f _ F⟩
      cases d with
      | tup l =>
        unfold valB at this
        simp only at this
        split at this
        · rename_i a
          split at this
          · rename_i o hk
            simp only [Bool.and_eq_true, decide_eq_true_eq] at this
            obtain ⟨ho, h2⟩ := this
            split at h2
            · rename_i its n hd
              simp only [Bool.and_eq_true, decide_eq_true_eq] at h2
              obtain ⟨xs, rs, fs⟩ := scals_ok h2.2
              refine ⟨.ref a, hm, rfl, fun F => ?_⟩
              simp only [frep]
              exact ⟨a, xs, rfl, .inr ⟨o, its, n, hk, ho, hd, by rw [sizeLine_eq]; omega, rs⟩, fs _ F⟩
            · cases h2
          · cases this
        · cases this
      | _ => exact sc this
    · cases this
/-- all that stands still -/
theorem sta_of (k : KF t K) (hs : He.SaysD [] (t.tbl.map (·.2.d)) K) (ht : txB t = true) (X : K.In h) (G : h.Ns mainGlobals mg) : Sta (mkW t K prog w mg base) :=
  ⟨dok hs ht, zok k, eok k, gok k X G fun f fd hP => (fun_ok hs hP).kp, iok k X G, xok k X G, bok k X G, fdk hs ht⟩
end
end Z

namespace Z
open PySem PySem.Spec PyProof.Rows L2
def obK (m : Nat) (t : Tx) (g : Addr → Option Obj) : He.AlD × Bool := (He.obsD [] (t.tbl.map fun p : Nat × Dx => p.2.d) (He.frG g (He.asD g m)), kB t (He.frG g (He.asD g m)))
def hookZ (m : Nat) (t : Tx) : PySem.W.Hook where
  α := He.AlD × Bool
  obs := fun s => obK m t s.heap.get?
  val := fun _ => (He.valD (t.tbl.map fun p : Nat × Dx => p.2.d), true)
  says := fun _ h => ∃ K : PySem.W.Frag, K.In h ∧ He.SaysD [] (t.tbl.map fun p : Nat × Dx => p.2.d) K ∧ kB t K = true
  of := fun _ _ e => ⟨_, He.frG_in, congrArg Prod.fst e, congrArg Prod.snd e⟩
  keeps := fun _ _ _ ⟨K, hK, c⟩ k => ⟨K, PySem.W.Frag.In.keeps hK k, c⟩
theorem obK_eq {m : Nat} {t : Tx} {g : Addr → Option Obj} {s : Shared} (h : ∀ a, g a = s.heap.get? a) : obK m t g = (hookZ m t).obs s := by
  have e : g = s.heap.get? := funext h
  rw [e] <;> rfl
/-- walk_ofE with exceptions that know the world -/
theorem walk_ofW {l : PySem.W.OpenLaw} {n k : Nat} {q : Program} {loose : List Str} {XP : (Str → Option Value) → Heap → Prop} {YP : World → Heap → Prop} {d : DefRec} {CX : World → CXT} {x : Str}
    (hn : l.most = some n) (hn2 : n ≤ sizeLine) (hdf : d.params.defaults = []) (hr : Room k callerA)
    (F : ∀ (w : World) (mg : Str → Option Value) (fa : Addr) (h : Heap), YP w h → h.Ns mainGlobals mg → mg d.name = some (.ref fa) →
      ∃ (K : PySem.W.Frag) (fd : FuncData) (sp : Sp), K.In h ∧ (∀ (s : Shared) (u : Value), BindsTo s fd ⟨[u], []⟩ [(x, u)]) ∧
        (∀ (H : Hp) (a : Addr) (ns : List Int), ns.length ≤ n → Only H → SqL K H a (ns.map V.int) → sp [.ref a] H (fun v _ => v = .bl true) fun _ _ _ => False) ∧
        ∀ base : Heap, K.In base → base.Ns mainGlobals mg → FnOk l.prog w K mg base (CX w) k fa fd [x] sp)
    (hCX : ∀ (w : World) (H : Hp) (s : Shared) (e : Value) (s' : Shared), CX w [] H s (fun _ _ _ => False) e s' → False) :
    PySem.W.WalkO q loose XP YP l.row.toRowW d [] (fun f vs => PySem.call f vs) := by
  refine Att.attach_call hn hdf fun w s₀ s₁ mg mb fa o pm cd doc a vs ns G Y ho hd hcd hmg hobj hints hlen hg => ?_
  obtain ⟨K, fd, sp, KX, hb, hsp, hF⟩ := F w mg fa _ Y G.T.g hmg
  exact law_call KX G.T.g G.T.b G.T.builtins G.T.nolimit hg hobj hints (Nat.le_trans hlen hn2) hr hF hb (fun H hO hS => hsp H a ns hlen hO hS) fun H e s' => hCX w H s₁ e s'
theorem only_stt {H : Hp} : Stt H H [] := ⟨fun _ _ h => h, fun _ h => (nomatch h), fun _ h => (nomatch h), List.nodup_nil⟩
theorem only_scr {T : Tab} {H : Hp} {a : Addr} {ns : List Int} (o : Only H) (h : SqL T.K H a (ns.map V.int)) : frep T H (.scr ns) (.ref a) := by
  simp only [frep]
  refine ⟨a, rfl, h, ?_⟩
  rcases h with (h | ⟨u, h⟩) | ⟨u, _, _, h, _⟩
  · rcases o a with e | ⟨u, xs, e⟩
    · rw [e] at h; cases h
    · rw [e] at h; cases h
  · exact .inl ⟨_, _, h⟩
  · exact .inr ⟨_, h⟩
/-- the law's walk -/
theorem walkZ {l : PySem.W.OpenLaw} {q : Program} {loose : List Str} {XP : (Str → Option Value) → Heap → Prop} {d : DefRec} {t : Tx} {m n N : Nat} {p : Str} {fd0 : Fd}
    (hn : l.most = some n) (hn2 : n ≤ sizeLine) (hdf : d.params.defaults = []) (hr : Room (11 * N) callerA)
    (hP : t.P 998 = some fd0) (hps : (t.dx 998).ps = [p]) (hnp : fd0.np = 1) (hio : fd0.io = []) (hds : fd0.dfl = []) (hname : d.name = t.n.fn 998) (ht : txB t = true)
    (spec : ∀ ns : List Int, ns.length ≤ n → callN t.M t.P N 998 [.scr ns] = .ok (.bl true) []) :
    PySem.W.WalkO q loose XP (hookZ m t).says l.row.toRowW d [] (fun f vs => PySem.call f vs) := by
  refine walk_ofW (n := n) (k := 11 * N) (x := p) (CX := fun w => L2.CX l.prog w) hn hn2 hdf hr ?_ ?_
  · intro w mg fa h Y G hmg
    obtain ⟨K, KX, hs, hk⟩ := Y
    have kf := kf_of hk
    have st : ∀ base, Sta (mkW t K l.prog w mg base) := fun base => sta_of kf hs ht KX G
    have e1 : mg (t.n.fn 998) = some (.ref (He.fAd K (t.dx 998).d.at_)) := ((st h).gk.fn 998 fd0 hP (by decide)).1
    have ef : fa = He.fAd K (t.dx 998).d.at_ := by
      rw [hname] at hmg
      have := hmg.symm.trans e1
      cases this
      rfl
    subst ef
    obtain ⟨_, e, hm⟩ := P_dx hP
    have hb := tx_one ht hm
    have F := fun_ok hs hP
    unfold dxB at hb
    simp only [Bool.and_eq_true, decide_eq_true_eq] at hb
    obtain ⟨⟨⟨⟨⟨⟨⟨⟨⟨⟨b1, b2⟩, b3⟩, b4⟩, b5⟩, b6⟩, b7⟩, b8⟩, b9⟩, b10⟩, b11⟩ := hb
    have S := scB_ok b5
    have nd : (t.dx 998).ps.Nodup := by
      rw [← S.pre]
      exact (List.take_sublist _ _).nodup S.nd
    have hdv : (t.dx 998).d.dvs K = [] := by
      have := freps_length (dvBs_ok (K := K) (T := ⟨K, fun _ => 0, fun _ => [], []⟩) (F := fun _ => none) b8)
      rw [e, hds] at this
      exact List.length_eq_zero_iff.mp this.symm
    refine ⟨K, fda0 K (He.fAd K (t.dx 998).d.at_), spOf (mkW t K l.prog w mg h) (callN t.M t.P N) 998 fd0, KX, fun s u => ?_, fun H a ns hl ho hS => ?_, fun base hb1 hb2 => ?_⟩
    · have F2 := F
      rw [hdv] at F2
      have := F2.bindsA (ps := (t.dx 998).ps) (fun kV doc pm an cdv ct us hl => bind_none b1 b2 nd hl) s [u] (by rw [hps]; rfl)
      rw [hps] at this
      exact this
    · refine ⟨H, [], [.scr ns], by rw [hnp]; rfl, ?_, only_stt, ⟨[], [], rfl, ?_, rfl⟩, ?_⟩
      · show (t.dx 998).ps.length = fd0.np
        rw [hps, hnp]; rfl
      · show rep _ _ _ _ _ _
        rw [rep_isF rfl]
        exact ⟨rfl, only_scr ho hS⟩
      · rw [spec ns hl]
        intro v F' H' A' B _ _ rv
        rw [rep_isF rfl] at rv
        simpa only [frep] using rv.2
    · have := (call_ok (st base) N).fn 998 fd0 hP
      have e2 : (mkW t K l.prog w mg base).fps 998 = [p] := hps
      rw [e2] at this
      exact this
  · intro w H s e s' h
    obtain ⟨_, _, _, _, _, _, _, _, _, _, _, _, h⟩ := h
    exact h
end Z

namespace Z
open PySem L2
theorem rd0 (x0 : D) (e : Env) : rd (some x0 :: e) 0 = some x0 := rfl
theorem rn0 (e : Env) : rd (none :: e) 0 = none := rfl
theorem st0 (x0 y : Option D) (e : Env) : List.set (x0 :: e) 0 y = y :: e := rfl
theorem rd1 (x0 : Option D) (x1 : D) (e : Env) : rd (x0 :: some x1 :: e) 1 = some x1 := rfl
theorem rn1 (x0 : Option D) (e : Env) : rd (x0 :: none :: e) 1 = none := rfl
theorem st1 (x0 x1 y : Option D) (e : Env) : List.set (x0 :: x1 :: e) 1 y = x0 :: y :: e := rfl
theorem rd2 (x0 x1 : Option D) (x2 : D) (e : Env) : rd (x0 :: x1 :: some x2 :: e) 2 = some x2 := rfl
theorem rn2 (x0 x1 : Option D) (e : Env) : rd (x0 :: x1 :: none :: e) 2 = none := rfl
theorem st2 (x0 x1 x2 y : Option D) (e : Env) : List.set (x0 :: x1 :: x2 :: e) 2 y = x0 :: x1 :: y :: e := rfl
theorem rd3 (x0 x1 x2 : Option D) (x3 : D) (e : Env) : rd (x0 :: x1 :: x2 :: some x3 :: e) 3 = some x3 := rfl
theorem rn3 (x0 x1 x2 : Option D) (e : Env) : rd (x0 :: x1 :: x2 :: none :: e) 3 = none := rfl
theorem st3 (x0 x1 x2 x3 y : Option D) (e : Env) : List.set (x0 :: x1 :: x2 :: x3 :: e) 3 y = x0 :: x1 :: x2 :: y :: e := rfl
theorem rd4 (x0 x1 x2 x3 : Option D) (x4 : D) (e : Env) : rd (x0 :: x1 :: x2 :: x3 :: some x4 :: e) 4 = some x4 := rfl
theorem rn4 (x0 x1 x2 x3 : Option D) (e : Env) : rd (x0 :: x1 :: x2 :: x3 :: none :: e) 4 = none := rfl
theorem st4 (x0 x1 x2 x3 x4 y : Option D) (e : Env) : List.set (x0 :: x1 :: x2 :: x3 :: x4 :: e) 4 y = x0 :: x1 :: x2 :: x3 :: y :: e := rfl
theorem rd5 (x0 x1 x2 x3 x4 : Option D) (x5 : D) (e : Env) : rd (x0 :: x1 :: x2 :: x3 :: x4 :: some x5 :: e) 5 = some x5 := rfl
theorem rn5 (x0 x1 x2 x3 x4 : Option D) (e : Env) : rd (x0 :: x1 :: x2 :: x3 :: x4 :: none :: e) 5 = none := rfl
theorem st5 (x0 x1 x2 x3 x4 x5 y : Option D) (e : Env) : List.set (x0 :: x1 :: x2 :: x3 :: x4 :: x5 :: e) 5 y = x0 :: x1 :: x2 :: x3 :: x4 :: y :: e := rfl
theorem rd6 (x0 x1 x2 x3 x4 x5 : Option D) (x6 : D) (e : Env) : rd (x0 :: x1 :: x2 :: x3 :: x4 :: x5 :: some x6 :: e) 6 = some x6 := rfl
theorem rn6 (x0 x1 x2 x3 x4 x5 : Option D) (e : Env) : rd (x0 :: x1 :: x2 :: x3 :: x4 :: x5 :: none :: e) 6 = none := rfl
theorem st6 (x0 x1 x2 x3 x4 x5 x6 y : Option D) (e : Env) : List.set (x0 :: x1 :: x2 :: x3 :: x4 :: x5 :: x6 :: e) 6 y = x0 :: x1 :: x2 :: x3 :: x4 :: x5 :: y :: e := rfl
theorem rd7 (x0 x1 x2 x3 x4 x5 x6 : Option D) (x7 : D) (e : Env) : rd (x0 :: x1 :: x2 :: x3 :: x4 :: x5 :: x6 :: some x7 :: e) 7 = some x7 := rfl
theorem rn7 (x0 x1 x2 x3 x4 x5 x6 : Option D) (e : Env) : rd (x0 :: x1 :: x2 :: x3 :: x4 :: x5 :: x6 :: none :: e) 7 = none := rfl
theorem st7 (x0 x1 x2 x3 x4 x5 x6 x7 y : Option D) (e : Env) : List.set (x0 :: x1 :: x2 :: x3 :: x4 :: x5 :: x6 :: x7 :: e) 7 y = x0 :: x1 :: x2 :: x3 :: x4 :: x5 :: x6 :: y :: e := rfl
theorem rd8 (x0 x1 x2 x3 x4 x5 x6 x7 : Option D) (x8 : D) (e : Env) : rd (x0 :: x1 :: x2 :: x3 :: x4 :: x5 :: x6 :: x7 :: some x8 :: e) 8 = some x8 := rfl
theorem rn8 (x0 x1 x2 x3 x4 x5 x6 x7 : Option D) (e : Env) : rd (x0 :: x1 :: x2 :: x3 :: x4 :: x5 :: x6 :: x7 :: none :: e) 8 = none := rfl
theorem st8 (x0 x1 x2 x3 x4 x5 x6 x7 x8 y : Option D) (e : Env) : List.set (x0 :: x1 :: x2 :: x3 :: x4 :: x5 :: x6 :: x7 :: x8 :: e) 8 y = x0 :: x1 :: x2 :: x3 :: x4 :: x5 :: x6 :: x7 :: y :: e := rfl
theorem rd9 (x0 x1 x2 x3 x4 x5 x6 x7 x8 : Option D) (x9 : D) (e : Env) : rd (x0 :: x1 :: x2 :: x3 :: x4 :: x5 :: x6 :: x7 :: x8 :: some x9 :: e) 9 = some x9 := rfl
theorem rn9 (x0 x1 x2 x3 x4 x5 x6 x7 x8 : Option D) (e : Env) : rd (x0 :: x1 :: x2 :: x3 :: x4 :: x5 :: x6 :: x7 :: x8 :: none :: e) 9 = none := rfl
theorem st9 (x0 x1 x2 x3 x4 x5 x6 x7 x8 x9 y : Option D) (e : Env) : List.set (x0 :: x1 :: x2 :: x3 :: x4 :: x5 :: x6 :: x7 :: x8 :: x9 :: e) 9 y = x0 :: x1 :: x2 :: x3 :: x4 :: x5 :: x6 :: x7 :: x8 :: y :: e := rfl
theorem rd10 (x0 x1 x2 x3 x4 x5 x6 x7 x8 x9 : Option D) (x10 : D) (e : Env) : rd (x0 :: x1 :: x2 :: x3 :: x4 :: x5 :: x6 :: x7 :: x8 :: x9 :: some x10 :: e) 10 = some x10 := rfl
theorem rn10 (x0 x1 x2 x3 x4 x5 x6 x7 x8 x9 : Option D) (e : Env) : rd (x0 :: x1 :: x2 :: x3 :: x4 :: x5 :: x6 :: x7 :: x8 :: x9 :: none :: e) 10 = none := rfl
theorem st10 (x0 x1 x2 x3 x4 x5 x6 x7 x8 x9 x10 y : Option D) (e : Env) : List.set (x0 :: x1 :: x2 :: x3 :: x4 :: x5 :: x6 :: x7 :: x8 :: x9 :: x10 :: e) 10 y = x0 :: x1 :: x2 :: x3 :: x4 :: x5 :: x6 :: x7 :: x8 :: x9 :: y :: e := rfl
theorem rd11 (x0 x1 x2 x3 x4 x5 x6 x7 x8 x9 x10 : Option D) (x11 : D) (e : Env) : rd (x0 :: x1 :: x2 :: x3 :: x4 :: x5 :: x6 :: x7 :: x8 :: x9 :: x10 :: some x11 :: e) 11 = some x11 := rfl
theorem rn11 (x0 x1 x2 x3 x4 x5 x6 x7 x8 x9 x10 : Option D) (e : Env) : rd (x0 :: x1 :: x2 :: x3 :: x4 :: x5 :: x6 :: x7 :: x8 :: x9 :: x10 :: none :: e) 11 = none := rfl
theorem st11 (x0 x1 x2 x3 x4 x5 x6 x7 x8 x9 x10 x11 y : Option D) (e : Env) : List.set (x0 :: x1 :: x2 :: x3 :: x4 :: x5 :: x6 :: x7 :: x8 :: x9 :: x10 :: x11 :: e) 11 y = x0 :: x1 :: x2 :: x3 :: x4 :: x5 :: x6 :: x7 :: x8 :: x9 :: x10 :: y :: e := rfl
theorem rd12 (x0 x1 x2 x3 x4 x5 x6 x7 x8 x9 x10 x11 : Option D) (x12 : D) (e : Env) : rd (x0 :: x1 :: x2 :: x3 :: x4 :: x5 :: x6 :: x7 :: x8 :: x9 :: x10 :: x11 :: some x12 :: e) 12 = some x12 := rfl
theorem rn12 (x0 x1 x2 x3 x4 x5 x6 x7 x8 x9 x10 x11 : Option D) (e : Env) : rd (x0 :: x1 :: x2 :: x3 :: x4 :: x5 :: x6 :: x7 :: x8 :: x9 :: x10 :: x11 :: none :: e) 12 = none := rfl
theorem st12 (x0 x1 x2 x3 x4 x5 x6 x7 x8 x9 x10 x11 x12 y : Option D) (e : Env) : List.set (x0 :: x1 :: x2 :: x3 :: x4 :: x5 :: x6 :: x7 :: x8 :: x9 :: x10 :: x11 :: x12 :: e) 12 y = x0 :: x1 :: x2 :: x3 :: x4 :: x5 :: x6 :: x7 :: x8 :: x9 :: x10 :: x11 :: y :: e := rfl
theorem rd13 (x0 x1 x2 x3 x4 x5 x6 x7 x8 x9 x10 x11 x12 : Option D) (x13 : D) (e : Env) : rd (x0 :: x1 :: x2 :: x3 :: x4 :: x5 :: x6 :: x7 :: x8 :: x9 :: x10 :: x11 :: x12 :: some x13 :: e) 13 = some x13 := rfl
theorem rn13 (x0 x1 x2 x3 x4 x5 x6 x7 x8 x9 x10 x11 x12 : Option D) (e : Env) : rd (x0 :: x1 :: x2 :: x3 :: x4 :: x5 :: x6 :: x7 :: x8 :: x9 :: x10 :: x11 :: x12 :: none :: e) 13 = none := rfl
theorem st13 (x0 x1 x2 x3 x4 x5 x6 x7 x8 x9 x10 x11 x12 x13 y : Option D) (e : Env) : List.set (x0 :: x1 :: x2 :: x3 :: x4 :: x5 :: x6 :: x7 :: x8 :: x9 :: x10 :: x11 :: x12 :: x13 :: e) 13 y = x0 :: x1 :: x2 :: x3 :: x4 :: x5 :: x6 :: x7 :: x8 :: x9 :: x10 :: x11 :: x12 :: y :: e := rfl
theorem rd14 (x0 x1 x2 x3 x4 x5 x6 x7 x8 x9 x10 x11 x12 x13 : Option D) (x14 : D) (e : Env) : rd (x0 :: x1 :: x2 :: x3 :: x4 :: x5 :: x6 :: x7 :: x8 :: x9 :: x10 :: x11 :: x12 :: x13 :: some x14 :: e) 14 = some x14 := rfl
theorem rn14 (x0 x1 x2 x3 x4 x5 x6 x7 x8 x9 x10 x11 x12 x13 : Option D) (e : Env) : rd (x0 :: x1 :: x2 :: x3 :: x4 :: x5 :: x6 :: x7 :: x8 :: x9 :: x10 :: x11 :: x12 :: x13 :: none :: e) 14 = none := rfl
theorem st14 (x0 x1 x2 x3 x4 x5 x6 x7 x8 x9 x10 x11 x12 x13 x14 y : Option D) (e : Env) : List.set (x0 :: x1 :: x2 :: x3 :: x4 :: x5 :: x6 :: x7 :: x8 :: x9 :: x10 :: x11 :: x12 :: x13 :: x14 :: e) 14 y = x0 :: x1 :: x2 :: x3 :: x4 :: x5 :: x6 :: x7 :: x8 :: x9 :: x10 :: x11 :: x12 :: x13 :: y :: e := rfl
theorem rd15 (x0 x1 x2 x3 x4 x5 x6 x7 x8 x9 x10 x11 x12 x13 x14 : Option D) (x15 : D) (e : Env) : rd (x0 :: x1 :: x2 :: x3 :: x4 :: x5 :: x6 :: x7 :: x8 :: x9 :: x10 :: x11 :: x12 :: x13 :: x14 :: some x15 :: e) 15 = some x15 := rfl
theorem rn15 (x0 x1 x2 x3 x4 x5 x6 x7 x8 x9 x10 x11 x12 x13 x14 : Option D) (e : Env) : rd (x0 :: x1 :: x2 :: x3 :: x4 :: x5 :: x6 :: x7 :: x8 :: x9 :: x10 :: x11 :: x12 :: x13 :: x14 :: none :: e) 15 = none := rfl
theorem st15 (x0 x1 x2 x3 x4 x5 x6 x7 x8 x9 x10 x11 x12 x13 x14 x15 y : Option D) (e : Env) : List.set (x0 :: x1 :: x2 :: x3 :: x4 :: x5 :: x6 :: x7 :: x8 :: x9 :: x10 :: x11 :: x12 :: x13 :: x14 :: x15 :: e) 15 y = x0 :: x1 :: x2 :: x3 :: x4 :: x5 :: x6 :: x7 :: x8 :: x9 :: x10 :: x11 :: x12 :: x13 :: x14 :: y :: e := rfl
theorem rd16 (x0 x1 x2 x3 x4 x5 x6 x7 x8 x9 x10 x11 x12 x13 x14 x15 : Option D) (x16 : D) (e : Env) : rd (x0 :: x1 :: x2 :: x3 :: x4 :: x5 :: x6 :: x7 :: x8 :: x9 :: x10 :: x11 :: x12 :: x13 :: x14 :: x15 :: some x16 :: e) 16 = some x16 := rfl
theorem rn16 (x0 x1 x2 x3 x4 x5 x6 x7 x8 x9 x10 x11 x12 x13 x14 x15 : Option D) (e : Env) : rd (x0 :: x1 :: x2 :: x3 :: x4 :: x5 :: x6 :: x7 :: x8 :: x9 :: x10 :: x11 :: x12 :: x13 :: x14 :: x15 :: none :: e) 16 = none := rfl
theorem st16 (x0 x1 x2 x3 x4 x5 x6 x7 x8 x9 x10 x11 x12 x13 x14 x15 x16 y : Option D) (e : Env) : List.set (x0 :: x1 :: x2 :: x3 :: x4 :: x5 :: x6 :: x7 :: x8 :: x9 :: x10 :: x11 :: x12 :: x13 :: x14 :: x15 :: x16 :: e) 16 y = x0 :: x1 :: x2 :: x3 :: x4 :: x5 :: x6 :: x7 :: x8 :: x9 :: x10 :: x11 :: x12 :: x13 :: x14 :: x15 :: y :: e := rfl
theorem rd17 (x0 x1 x2 x3 x4 x5 x6 x7 x8 x9 x10 x11 x12 x13 x14 x15 x16 : Option D) (x17 : D) (e : Env) : rd (x0 :: x1 :: x2 :: x3 :: x4 :: x5 :: x6 :: x7 :: x8 :: x9 :: x10 :: x11 :: x12 :: x13 :: x14 :: x15 :: x16 :: some x17 :: e) 17 = some x17 := rfl
theorem rn17 (x0 x1 x2 x3 x4 x5 x6 x7 x8 x9 x10 x11 x12 x13 x14 x15 x16 : Option D) (e : Env) : rd (x0 :: x1 :: x2 :: x3 :: x4 :: x5 :: x6 :: x7 :: x8 :: x9 :: x10 :: x11 :: x12 :: x13 :: x14 :: x15 :: x16 :: none :: e) 17 = none := rfl
theorem st17 (x0 x1 x2 x3 x4 x5 x6 x7 x8 x9 x10 x11 x12 x13 x14 x15 x16 x17 y : Option D) (e : Env) : List.set (x0 :: x1 :: x2 :: x3 :: x4 :: x5 :: x6 :: x7 :: x8 :: x9 :: x10 :: x11 :: x12 :: x13 :: x14 :: x15 :: x16 :: x17 :: e) 17 y = x0 :: x1 :: x2 :: x3 :: x4 :: x5 :: x6 :: x7 :: x8 :: x9 :: x10 :: x11 :: x12 :: x13 :: x14 :: x15 :: x16 :: y :: e := rfl
theorem rd18 (x0 x1 x2 x3 x4 x5 x6 x7 x8 x9 x10 x11 x12 x13 x14 x15 x16 x17 : Option D) (x18 : D) (e : Env) : rd (x0 :: x1 :: x2 :: x3 :: x4 :: x5 :: x6 :: x7 :: x8 :: x9 :: x10 :: x11 :: x12 :: x13 :: x14 :: x15 :: x16 :: x17 :: some x18 :: e) 18 = some x18 := rfl
theorem rn18 (x0 x1 x2 x3 x4 x5 x6 x7 x8 x9 x10 x11 x12 x13 x14 x15 x16 x17 : Option D) (e : Env) : rd (x0 :: x1 :: x2 :: x3 :: x4 :: x5 :: x6 :: x7 :: x8 :: x9 :: x10 :: x11 :: x12 :: x13 :: x14 :: x15 :: x16 :: x17 :: none :: e) 18 = none := rfl
theorem st18 (x0 x1 x2 x3 x4 x5 x6 x7 x8 x9 x10 x11 x12 x13 x14 x15 x16 x17 x18 y : Option D) (e : Env) : List.set (x0 :: x1 :: x2 :: x3 :: x4 :: x5 :: x6 :: x7 :: x8 :: x9 :: x10 :: x11 :: x12 :: x13 :: x14 :: x15 :: x16 :: x17 :: x18 :: e) 18 y = x0 :: x1 :: x2 :: x3 :: x4 :: x5 :: x6 :: x7 :: x8 :: x9 :: x10 :: x11 :: x12 :: x13 :: x14 :: x15 :: x16 :: x17 :: y :: e := rfl
theorem rd19 (x0 x1 x2 x3 x4 x5 x6 x7 x8 x9 x10 x11 x12 x13 x14 x15 x16 x17 x18 : Option D) (x19 : D) (e : Env) : rd (x0 :: x1 :: x2 :: x3 :: x4 :: x5 :: x6 :: x7 :: x8 :: x9 :: x10 :: x11 :: x12 :: x13 :: x14 :: x15 :: x16 :: x17 :: x18 :: some x19 :: e) 19 = some x19 := rfl
theorem rn19 (x0 x1 x2 x3 x4 x5 x6 x7 x8 x9 x10 x11 x12 x13 x14 x15 x16 x17 x18 : Option D) (e : Env) : rd (x0 :: x1 :: x2 :: x3 :: x4 :: x5 :: x6 :: x7 :: x8 :: x9 :: x10 :: x11 :: x12 :: x13 :: x14 :: x15 :: x16 :: x17 :: x18 :: none :: e) 19 = none := rfl
theorem st19 (x0 x1 x2 x3 x4 x5 x6 x7 x8 x9 x10 x11 x12 x13 x14 x15 x16 x17 x18 x19 y : Option D) (e : Env) : List.set (x0 :: x1 :: x2 :: x3 :: x4 :: x5 :: x6 :: x7 :: x8 :: x9 :: x10 :: x11 :: x12 :: x13 :: x14 :: x15 :: x16 :: x17 :: x18 :: x19 :: e) 19 y = x0 :: x1 :: x2 :: x3 :: x4 :: x5 :: x6 :: x7 :: x8 :: x9 :: x10 :: x11 :: x12 :: x13 :: x14 :: x15 :: x16 :: x17 :: x18 :: y :: e := rfl
theorem rd20 (x0 x1 x2 x3 x4 x5 x6 x7 x8 x9 x10 x11 x12 x13 x14 x15 x16 x17 x18 x19 : Option D) (x20 : D) (e : Env) : rd (x0 :: x1 :: x2 :: x3 :: x4 :: x5 :: x6 :: x7 :: x8 :: x9 :: x10 :: x11 :: x12 :: x13 :: x14 :: x15 :: x16 :: x17 :: x18 :: x19 :: some x20 :: e) 20 = some x20 := rfl
theorem rn20 (x0 x1 x2 x3 x4 x5 x6 x7 x8 x9 x10 x11 x12 x13 x14 x15 x16 x17 x18 x19 : Option D) (e : Env) : rd (x0 :: x1 :: x2 :: x3 :: x4 :: x5 :: x6 :: x7 :: x8 :: x9 :: x10 :: x11 :: x12 :: x13 :: x14 :: x15 :: x16 :: x17 :: x18 :: x19 :: none :: e) 20 = none := rfl
theorem st20 (x0 x1 x2 x3 x4 x5 x6 x7 x8 x9 x10 x11 x12 x13 x14 x15 x16 x17 x18 x19 x20 y : Option D) (e : Env) : List.set (x0 :: x1 :: x2 :: x3 :: x4 :: x5 :: x6 :: x7 :: x8 :: x9 :: x10 :: x11 :: x12 :: x13 :: x14 :: x15 :: x16 :: x17 :: x18 :: x19 :: x20 :: e) 20 y = x0 :: x1 :: x2 :: x3 :: x4 :: x5 :: x6 :: x7 :: x8 :: x9 :: x10 :: x11 :: x12 :: x13 :: x14 :: x15 :: x16 :: x17 :: x18 :: x19 :: y :: e := rfl
theorem rd21 (x0 x1 x2 x3 x4 x5 x6 x7 x8 x9 x10 x11 x12 x13 x14 x15 x16 x17 x18 x19 x20 : Option D) (x21 : D) (e : Env) : rd (x0 :: x1 :: x2 :: x3 :: x4 :: x5 :: x6 :: x7 :: x8 :: x9 :: x10 :: x11 :: x12 :: x13 :: x14 :: x15 :: x16 :: x17 :: x18 :: x19 :: x20 :: some x21 :: e) 21 = some x21 := rfl
theorem rn21 (x0 x1 x2 x3 x4 x5 x6 x7 x8 x9 x10 x11 x12 x13 x14 x15 x16 x17 x18 x19 x20 : Option D) (e : Env) : rd (x0 :: x1 :: x2 :: x3 :: x4 :: x5 :: x6 :: x7 :: x8 :: x9 :: x10 :: x11 :: x12 :: x13 :: x14 :: x15 :: x16 :: x17 :: x18 :: x19 :: x20 :: none :: e) 21 = none := rfl
theorem st21 (x0 x1 x2 x3 x4 x5 x6 x7 x8 x9 x10 x11 x12 x13 x14 x15 x16 x17 x18 x19 x20 x21 y : Option D) (e : Env) : List.set (x0 :: x1 :: x2 :: x3 :: x4 :: x5 :: x6 :: x7 :: x8 :: x9 :: x10 :: x11 :: x12 :: x13 :: x14 :: x15 :: x16 :: x17 :: x18 :: x19 :: x20 :: x21 :: e) 21 y = x0 :: x1 :: x2 :: x3 :: x4 :: x5 :: x6 :: x7 :: x8 :: x9 :: x10 :: x11 :: x12 :: x13 :: x14 :: x15 :: x16 :: x17 :: x18 :: x19 :: x20 :: y :: e := rfl
theorem rd22 (x0 x1 x2 x3 x4 x5 x6 x7 x8 x9 x10 x11 x12 x13 x14 x15 x16 x17 x18 x19 x20 x21 : Option D) (x22 : D) (e : Env) : rd (x0 :: x1 :: x2 :: x3 :: x4 :: x5 :: x6 :: x7 :: x8 :: x9 :: x10 :: x11 :: x12 :: x13 :: x14 :: x15 :: x16 :: x17 :: x18 :: x19 :: x20 :: x21 :: some x22 :: e) 22 = some x22 := rfl
theorem rn22 (x0 x1 x2 x3 x4 x5 x6 x7 x8 x9 x10 x11 x12 x13 x14 x15 x16 x17 x18 x19 x20 x21 : Option D) (e : Env) : rd (x0 :: x1 :: x2 :: x3 :: x4 :: x5 :: x6 :: x7 :: x8 :: x9 :: x10 :: x11 :: x12 :: x13 :: x14 :: x15 :: x16 :: x17 :: x18 :: x19 :: x20 :: x21 :: none :: e) 22 = none := rfl
theorem st22 (x0 x1 x2 x3 x4 x5 x6 x7 x8 x9 x10 x11 x12 x13 x14 x15 x16 x17 x18 x19 x20 x21 x22 y : Option D) (e : Env) : List.set (x0 :: x1 :: x2 :: x3 :: x4 :: x5 :: x6 :: x7 :: x8 :: x9 :: x10 :: x11 :: x12 :: x13 :: x14 :: x15 :: x16 :: x17 :: x18 :: x19 :: x20 :: x21 :: x22 :: e) 22 y = x0 :: x1 :: x2 :: x3 :: x4 :: x5 :: x6 :: x7 :: x8 :: x9 :: x10 :: x11 :: x12 :: x13 :: x14 :: x15 :: x16 :: x17 :: x18 :: x19 :: x20 :: x21 :: y :: e := rfl
theorem rd23 (x0 x1 x2 x3 x4 x5 x6 x7 x8 x9 x10 x11 x12 x13 x14 x15 x16 x17 x18 x19 x20 x21 x22 : Option D) (x23 : D) (e : Env) : rd (x0 :: x1 :: x2 :: x3 :: x4 :: x5 :: x6 :: x7 :: x8 :: x9 :: x10 :: x11 :: x12 :: x13 :: x14 :: x15 :: x16 :: x17 :: x18 :: x19 :: x20 :: x21 :: x22 :: some x23 :: e) 23 = some x23 := rfl
theorem rn23 (x0 x1 x2 x3 x4 x5 x6 x7 x8 x9 x10 x11 x12 x13 x14 x15 x16 x17 x18 x19 x20 x21 x22 : Option D) (e : Env) : rd (x0 :: x1 :: x2 :: x3 :: x4 :: x5 :: x6 :: x7 :: x8 :: x9 :: x10 :: x11 :: x12 :: x13 :: x14 :: x15 :: x16 :: x17 :: x18 :: x19 :: x20 :: x21 :: x22 :: none :: e) 23 = none := rfl
theorem st23 (x0 x1 x2 x3 x4 x5 x6 x7 x8 x9 x10 x11 x12 x13 x14 x15 x16 x17 x18 x19 x20 x21 x22 x23 y : Option D) (e : Env) : List.set (x0 :: x1 :: x2 :: x3 :: x4 :: x5 :: x6 :: x7 :: x8 :: x9 :: x10 :: x11 :: x12 :: x13 :: x14 :: x15 :: x16 :: x17 :: x18 :: x19 :: x20 :: x21 :: x22 :: x23 :: e) 23 y = x0 :: x1 :: x2 :: x3 :: x4 :: x5 :: x6 :: x7 :: x8 :: x9 :: x10 :: x11 :: x12 :: x13 :: x14 :: x15 :: x16 :: x17 :: x18 :: x19 :: x20 :: x21 :: x22 :: y :: e := rfl
theorem rd24 (x0 x1 x2 x3 x4 x5 x6 x7 x8 x9 x10 x11 x12 x13 x14 x15 x16 x17 x18 x19 x20 x21 x22 x23 : Option D) (x24 : D) (e : Env) : rd (x0 :: x1 :: x2 :: x3 :: x4 :: x5 :: x6 :: x7 :: x8 :: x9 :: x10 :: x11 :: x12 :: x13 :: x14 :: x15 :: x16 :: x17 :: x18 :: x19 :: x20 :: x21 :: x22 :: x23 :: some x24 :: e) 24 = some x24 := rfl
theorem rn24 (x0 x1 x2 x3 x4 x5 x6 x7 x8 x9 x10 x11 x12 x13 x14 x15 x16 x17 x18 x19 x20 x21 x22 x23 : Option D) (e : Env) : rd (x0 :: x1 :: x2 :: x3 :: x4 :: x5 :: x6 :: x7 :: x8 :: x9 :: x10 :: x11 :: x12 :: x13 :: x14 :: x15 :: x16 :: x17 :: x18 :: x19 :: x20 :: x21 :: x22 :: x23 :: none :: e) 24 = none := rfl
theorem st24 (x0 x1 x2 x3 x4 x5 x6 x7 x8 x9 x10 x11 x12 x13 x14 x15 x16 x17 x18 x19 x20 x21 x22 x23 x24 y : Option D) (e : Env) : List.set (x0 :: x1 :: x2 :: x3 :: x4 :: x5 :: x6 :: x7 :: x8 :: x9 :: x10 :: x11 :: x12 :: x13 :: x14 :: x15 :: x16 :: x17 :: x18 :: x19 :: x20 :: x21 :: x22 :: x23 :: x24 :: e) 24 y = x0 :: x1 :: x2 :: x3 :: x4 :: x5 :: x6 :: x7 :: x8 :: x9 :: x10 :: x11 :: x12 :: x13 :: x14 :: x15 :: x16 :: x17 :: x18 :: x19 :: x20 :: x21 :: x22 :: x23 :: y :: e := rfl
theorem rd25 (x0 x1 x2 x3 x4 x5 x6 x7 x8 x9 x10 x11 x12 x13 x14 x15 x16 x17 x18 x19 x20 x21 x22 x23 x24 : Option D) (x25 : D) (e : Env) : rd (x0 :: x1 :: x2 :: x3 :: x4 :: x5 :: x6 :: x7 :: x8 :: x9 :: x10 :: x11 :: x12 :: x13 :: x14 :: x15 :: x16 :: x17 :: x18 :: x19 :: x20 :: x21 :: x22 :: x23 :: x24 :: some x25 :: e) 25 = some x25 := rfl
theorem rn25 (x0 x1 x2 x3 x4 x5 x6 x7 x8 x9 x10 x11 x12 x13 x14 x15 x16 x17 x18 x19 x20 x21 x22 x23 x24 : Option D) (e : Env) : rd (x0 :: x1 :: x2 :: x3 :: x4 :: x5 :: x6 :: x7 :: x8 :: x9 :: x10 :: x11 :: x12 :: x13 :: x14 :: x15 :: x16 :: x17 :: x18 :: x19 :: x20 :: x21 :: x22 :: x23 :: x24 :: none :: e) 25 = none := rfl
theorem st25 (x0 x1 x2 x3 x4 x5 x6 x7 x8 x9 x10 x11 x12 x13 x14 x15 x16 x17 x18 x19 x20 x21 x22 x23 x24 x25 y : Option D) (e : Env) : List.set (x0 :: x1 :: x2 :: x3 :: x4 :: x5 :: x6 :: x7 :: x8 :: x9 :: x10 :: x11 :: x12 :: x13 :: x14 :: x15 :: x16 :: x17 :: x18 :: x19 :: x20 :: x21 :: x22 :: x23 :: x24 :: x25 :: e) 25 y = x0 :: x1 :: x2 :: x3 :: x4 :: x5 :: x6 :: x7 :: x8 :: x9 :: x10 :: x11 :: x12 :: x13 :: x14 :: x15 :: x16 :: x17 :: x18 :: x19 :: x20 :: x21 :: x22 :: x23 :: x24 :: y :: e := rfl
theorem rd26 (x0 x1 x2 x3 x4 x5 x6 x7 x8 x9 x10 x11 x12 x13 x14 x15 x16 x17 x18 x19 x20 x21 x22 x23 x24 x25 : Option D) (x26 : D) (e : Env) : rd (x0 :: x1 :: x2 :: x3 :: x4 :: x5 :: x6 :: x7 :: x8 :: x9 :: x10 :: x11 :: x12 :: x13 :: x14 :: x15 :: x16 :: x17 :: x18 :: x19 :: x20 :: x21 :: x22 :: x23 :: x24 :: x25 :: some x26 :: e) 26 = some x26 := rfl
theorem rn26 (x0 x1 x2 x3 x4 x5 x6 x7 x8 x9 x10 x11 x12 x13 x14 x15 x16 x17 x18 x19 x20 x21 x22 x23 x24 x25 : Option D) (e : Env) : rd (x0 :: x1 :: x2 :: x3 :: x4 :: x5 :: x6 :: x7 :: x8 :: x9 :: x10 :: x11 :: x12 :: x13 :: x14 :: x15 :: x16 :: x17 :: x18 :: x19 :: x20 :: x21 :: x22 :: x23 :: x24 :: x25 :: none :: e) 26 = none := rfl
theorem st26 (x0 x1 x2 x3 x4 x5 x6 x7 x8 x9 x10 x11 x12 x13 x14 x15 x16 x17 x18 x19 x20 x21 x22 x23 x24 x25 x26 y : Option D) (e : Env) : List.set (x0 :: x1 :: x2 :: x3 :: x4 :: x5 :: x6 :: x7 :: x8 :: x9 :: x10 :: x11 :: x12 :: x13 :: x14 :: x15 :: x16 :: x17 :: x18 :: x19 :: x20 :: x21 :: x22 :: x23 :: x24 :: x25 :: x26 :: e) 26 y = x0 :: x1 :: x2 :: x3 :: x4 :: x5 :: x6 :: x7 :: x8 :: x9 :: x10 :: x11 :: x12 :: x13 :: x14 :: x15 :: x16 :: x17 :: x18 :: x19 :: x20 :: x21 :: x22 :: x23 :: x24 :: x25 :: y :: e := rfl
theorem rd27 (x0 x1 x2 x3 x4 x5 x6 x7 x8 x9 x10 x11 x12 x13 x14 x15 x16 x17 x18 x19 x20 x21 x22 x23 x24 x25 x26 : Option D) (x27 : D) (e : Env) : rd (x0 :: x1 :: x2 :: x3 :: x4 :: x5 :: x6 :: x7 :: x8 :: x9 :: x10 :: x11 :: x12 :: x13 :: x14 :: x15 :: x16 :: x17 :: x18 :: x19 :: x20 :: x21 :: x22 :: x23 :: x24 :: x25 :: x26 :: some x27 :: e) 27 = some x27 := rfl
theorem rn27 (x0 x1 x2 x3 x4 x5 x6 x7 x8 x9 x10 x11 x12 x13 x14 x15 x16 x17 x18 x19 x20 x21 x22 x23 x24 x25 x26 : Option D) (e : Env) : rd (x0 :: x1 :: x2 :: x3 :: x4 :: x5 :: x6 :: x7 :: x8 :: x9 :: x10 :: x11 :: x12 :: x13 :: x14 :: x15 :: x16 :: x17 :: x18 :: x19 :: x20 :: x21 :: x22 :: x23 :: x24 :: x25 :: x26 :: none :: e) 27 = none := rfl
theorem st27 (x0 x1 x2 x3 x4 x5 x6 x7 x8 x9 x10 x11 x12 x13 x14 x15 x16 x17 x18 x19 x20 x21 x22 x23 x24 x25 x26 x27 y : Option D) (e : Env) : List.set (x0 :: x1 :: x2 :: x3 :: x4 :: x5 :: x6 :: x7 :: x8 :: x9 :: x10 :: x11 :: x12 :: x13 :: x14 :: x15 :: x16 :: x17 :: x18 :: x19 :: x20 :: x21 :: x22 :: x23 :: x24 :: x25 :: x26 :: x27 :: e) 27 y = x0 :: x1 :: x2 :: x3 :: x4 :: x5 :: x6 :: x7 :: x8 :: x9 :: x10 :: x11 :: x12 :: x13 :: x14 :: x15 :: x16 :: x17 :: x18 :: x19 :: x20 :: x21 :: x22 :: x23 :: x24 :: x25 :: x26 :: y :: e := rfl
theorem rd28 (x0 x1 x2 x3 x4 x5 x6 x7 x8 x9 x10 x11 x12 x13 x14 x15 x16 x17 x18 x19 x20 x21 x22 x23 x24 x25 x26 x27 : Option D) (x28 : D) (e : Env) : rd (x0 :: x1 :: x2 :: x3 :: x4 :: x5 :: x6 :: x7 :: x8 :: x9 :: x10 :: x11 :: x12 :: x13 :: x14 :: x15 :: x16 :: x17 :: x18 :: x19 :: x20 :: x21 :: x22 :: x23 :: x24 :: x25 :: x26 :: x27 :: some x28 :: e) 28 = some x28 := rfl
theorem rn28 (x0 x1 x2 x3 x4 x5 x6 x7 x8 x9 x10 x11 x12 x13 x14 x15 x16 x17 x18 x19 x20 x21 x22 x23 x24 x25 x26 x27 : Option D) (e : Env) : rd (x0 :: x1 :: x2 :: x3 :: x4 :: x5 :: x6 :: x7 :: x8 :: x9 :: x10 :: x11 :: x12 :: x13 :: x14 :: x15 :: x16 :: x17 :: x18 :: x19 :: x20 :: x21 :: x22 :: x23 :: x24 :: x25 :: x26 :: x27 :: none :: e) 28 = none := rfl
theorem st28 (x0 x1 x2 x3 x4 x5 x6 x7 x8 x9 x10 x11 x12 x13 x14 x15 x16 x17 x18 x19 x20 x21 x22 x23 x24 x25 x26 x27 x28 y : Option D) (e : Env) : List.set (x0 :: x1 :: x2 :: x3 :: x4 :: x5 :: x6 :: x7 :: x8 :: x9 :: x10 :: x11 :: x12 :: x13 :: x14 :: x15 :: x16 :: x17 :: x18 :: x19 :: x20 :: x21 :: x22 :: x23 :: x24 :: x25 :: x26 :: x27 :: x28 :: e) 28 y = x0 :: x1 :: x2 :: x3 :: x4 :: x5 :: x6 :: x7 :: x8 :: x9 :: x10 :: x11 :: x12 :: x13 :: x14 :: x15 :: x16 :: x17 :: x18 :: x19 :: x20 :: x21 :: x22 :: x23 :: x24 :: x25 :: x26 :: x27 :: y :: e := rfl
theorem rd29 (x0 x1 x2 x3 x4 x5 x6 x7 x8 x9 x10 x11 x12 x13 x14 x15 x16 x17 x18 x19 x20 x21 x22 x23 x24 x25 x26 x27 x28 : Option D) (x29 : D) (e : Env) : rd (x0 :: x1 :: x2 :: x3 :: x4 :: x5 :: x6 :: x7 :: x8 :: x9 :: x10 :: x11 :: x12 :: x13 :: x14 :: x15 :: x16 :: x17 :: x18 :: x19 :: x20 :: x21 :: x22 :: x23 :: x24 :: x25 :: x26 :: x27 :: x28 :: some x29 :: e) 29 = some x29 := rfl
theorem rn29 (x0 x1 x2 x3 x4 x5 x6 x7 x8 x9 x10 x11 x12 x13 x14 x15 x16 x17 x18 x19 x20 x21 x22 x23 x24 x25 x26 x27 x28 : Option D) (e : Env) : rd (x0 :: x1 :: x2 :: x3 :: x4 :: x5 :: x6 :: x7 :: x8 :: x9 :: x10 :: x11 :: x12 :: x13 :: x14 :: x15 :: x16 :: x17 :: x18 :: x19 :: x20 :: x21 :: x22 :: x23 :: x24 :: x25 :: x26 :: x27 :: x28 :: none :: e) 29 = none := rfl
theorem st29 (x0 x1 x2 x3 x4 x5 x6 x7 x8 x9 x10 x11 x12 x13 x14 x15 x16 x17 x18 x19 x20 x21 x22 x23 x24 x25 x26 x27 x28 x29 y : Option D) (e : Env) : List.set (x0 :: x1 :: x2 :: x3 :: x4 :: x5 :: x6 :: x7 :: x8 :: x9 :: x10 :: x11 :: x12 :: x13 :: x14 :: x15 :: x16 :: x17 :: x18 :: x19 :: x20 :: x21 :: x22 :: x23 :: x24 :: x25 :: x26 :: x27 :: x28 :: x29 :: e) 29 y = x0 :: x1 :: x2 :: x3 :: x4 :: x5 :: x6 :: x7 :: x8 :: x9 :: x10 :: x11 :: x12 :: x13 :: x14 :: x15 :: x16 :: x17 :: x18 :: x19 :: x20 :: x21 :: x22 :: x23 :: x24 :: x25 :: x26 :: x27 :: x28 :: y :: e := rfl
theorem rd30 (x0 x1 x2 x3 x4 x5 x6 x7 x8 x9 x10 x11 x12 x13 x14 x15 x16 x17 x18 x19 x20 x21 x22 x23 x24 x25 x26 x27 x28 x29 : Option D) (x30 : D) (e : Env) : rd (x0 :: x1 :: x2 :: x3 :: x4 :: x5 :: x6 :: x7 :: x8 :: x9 :: x10 :: x11 :: x12 :: x13 :: x14 :: x15 :: x16 :: x17 :: x18 :: x19 :: x20 :: x21 :: x22 :: x23 :: x24 :: x25 :: x26 :: x27 :: x28 :: x29 :: some x30 :: e) 30 = some x30 := rfl
theorem rn30 (x0 x1 x2 x3 x4 x5 x6 x7 x8 x9 x10 x11 x12 x13 x14 x15 x16 x17 x18 x19 x20 x21 x22 x23 x24 x25 x26 x27 x28 x29 : Option D) (e : Env) : rd (x0 :: x1 :: x2 :: x3 :: x4 :: x5 :: x6 :: x7 :: x8 :: x9 :: x10 :: x11 :: x12 :: x13 :: x14 :: x15 :: x16 :: x17 :: x18 :: x19 :: x20 :: x21 :: x22 :: x23 :: x24 :: x25 :: x26 :: x27 :: x28 :: x29 :: none :: e) 30 = none := rfl
theorem st30 (x0 x1 x2 x3 x4 x5 x6 x7 x8 x9 x10 x11 x12 x13 x14 x15 x16 x17 x18 x19 x20 x21 x22 x23 x24 x25 x26 x27 x28 x29 x30 y : Option D) (e : Env) : List.set (x0 :: x1 :: x2 :: x3 :: x4 :: x5 :: x6 :: x7 :: x8 :: x9 :: x10 :: x11 :: x12 :: x13 :: x14 :: x15 :: x16 :: x17 :: x18 :: x19 :: x20 :: x21 :: x22 :: x23 :: x24 :: x25 :: x26 :: x27 :: x28 :: x29 :: x30 :: e) 30 y = x0 :: x1 :: x2 :: x3 :: x4 :: x5 :: x6 :: x7 :: x8 :: x9 :: x10 :: x11 :: x12 :: x13 :: x14 :: x15 :: x16 :: x17 :: x18 :: x19 :: x20 :: x21 :: x22 :: x23 :: x24 :: x25 :: x26 :: x27 :: x28 :: x29 :: y :: e := rfl
theorem rd31 (x0 x1 x2 x3 x4 x5 x6 x7 x8 x9 x10 x11 x12 x13 x14 x15 x16 x17 x18 x19 x20 x21 x22 x23 x24 x25 x26 x27 x28 x29 x30 : Option D) (x31 : D) (e : Env) : rd (x0 :: x1 :: x2 :: x3 :: x4 :: x5 :: x6 :: x7 :: x8 :: x9 :: x10 :: x11 :: x12 :: x13 :: x14 :: x15 :: x16 :: x17 :: x18 :: x19 :: x20 :: x21 :: x22 :: x23 :: x24 :: x25 :: x26 :: x27 :: x28 :: x29 :: x30 :: some x31 :: e) 31 = some x31 := rfl
theorem rn31 (x0 x1 x2 x3 x4 x5 x6 x7 x8 x9 x10 x11 x12 x13 x14 x15 x16 x17 x18 x19 x20 x21 x22 x23 x24 x25 x26 x27 x28 x29 x30 : Option D) (e : Env) : rd (x0 :: x1 :: x2 :: x3 :: x4 :: x5 :: x6 :: x7 :: x8 :: x9 :: x10 :: x11 :: x12 :: x13 :: x14 :: x15 :: x16 :: x17 :: x18 :: x19 :: x20 :: x21 :: x22 :: x23 :: x24 :: x25 :: x26 :: x27 :: x28 :: x29 :: x30 :: none :: e) 31 = none := rfl
theorem st31 (x0 x1 x2 x3 x4 x5 x6 x7 x8 x9 x10 x11 x12 x13 x14 x15 x16 x17 x18 x19 x20 x21 x22 x23 x24 x25 x26 x27 x28 x29 x30 x31 y : Option D) (e : Env) : List.set (x0 :: x1 :: x2 :: x3 :: x4 :: x5 :: x6 :: x7 :: x8 :: x9 :: x10 :: x11 :: x12 :: x13 :: x14 :: x15 :: x16 :: x17 :: x18 :: x19 :: x20 :: x21 :: x22 :: x23 :: x24 :: x25 :: x26 :: x27 :: x28 :: x29 :: x30 :: x31 :: e) 31 y = x0 :: x1 :: x2 :: x3 :: x4 :: x5 :: x6 :: x7 :: x8 :: x9 :: x10 :: x11 :: x12 :: x13 :: x14 :: x15 :: x16 :: x17 :: x18 :: x19 :: x20 :: x21 :: x22 :: x23 :: x24 :: x25 :: x26 :: x27 :: x28 :: x29 :: x30 :: y :: e := rfl
theorem rd32 (x0 x1 x2 x3 x4 x5 x6 x7 x8 x9 x10 x11 x12 x13 x14 x15 x16 x17 x18 x19 x20 x21 x22 x23 x24 x25 x26 x27 x28 x29 x30 x31 : Option D) (x32 : D) (e : Env) : rd (x0 :: x1 :: x2 :: x3 :: x4 :: x5 :: x6 :: x7 :: x8 :: x9 :: x10 :: x11 :: x12 :: x13 :: x14 :: x15 :: x16 :: x17 :: x18 :: x19 :: x20 :: x21 :: x22 :: x23 :: x24 :: x25 :: x26 :: x27 :: x28 :: x29 :: x30 :: x31 :: some x32 :: e) 32 = some x32 := rfl
theorem rn32 (x0 x1 x2 x3 x4 x5 x6 x7 x8 x9 x10 x11 x12 x13 x14 x15 x16 x17 x18 x19 x20 x21 x22 x23 x24 x25 x26 x27 x28 x29 x30 x31 : Option D) (e : Env) : rd (x0 :: x1 :: x2 :: x3 :: x4 :: x5 :: x6 :: x7 :: x8 :: x9 :: x10 :: x11 :: x12 :: x13 :: x14 :: x15 :: x16 :: x17 :: x18 :: x19 :: x20 :: x21 :: x22 :: x23 :: x24 :: x25 :: x26 :: x27 :: x28 :: x29 :: x30 :: x31 :: none :: e) 32 = none := rfl
theorem st32 (x0 x1 x2 x3 x4 x5 x6 x7 x8 x9 x10 x11 x12 x13 x14 x15 x16 x17 x18 x19 x20 x21 x22 x23 x24 x25 x26 x27 x28 x29 x30 x31 x32 y : Option D) (e : Env) : List.set (x0 :: x1 :: x2 :: x3 :: x4 :: x5 :: x6 :: x7 :: x8 :: x9 :: x10 :: x11 :: x12 :: x13 :: x14 :: x15 :: x16 :: x17 :: x18 :: x19 :: x20 :: x21 :: x22 :: x23 :: x24 :: x25 :: x26 :: x27 :: x28 :: x29 :: x30 :: x31 :: x32 :: e) 32 y = x0 :: x1 :: x2 :: x3 :: x4 :: x5 :: x6 :: x7 :: x8 :: x9 :: x10 :: x11 :: x12 :: x13 :: x14 :: x15 :: x16 :: x17 :: x18 :: x19 :: x20 :: x21 :: x22 :: x23 :: x24 :: x25 :: x26 :: x27 :: x28 :: x29 :: x30 :: x31 :: y :: e := rfl
theorem rd33 (x0 x1 x2 x3 x4 x5 x6 x7 x8 x9 x10 x11 x12 x13 x14 x15 x16 x17 x18 x19 x20 x21 x22 x23 x24 x25 x26 x27 x28 x29 x30 x31 x32 : Option D) (x33 : D) (e : Env) : rd (x0 :: x1 :: x2 :: x3 :: x4 :: x5 :: x6 :: x7 :: x8 :: x9 :: x10 :: x11 :: x12 :: x13 :: x14 :: x15 :: x16 :: x17 :: x18 :: x19 :: x20 :: x21 :: x22 :: x23 :: x24 :: x25 :: x26 :: x27 :: x28 :: x29 :: x30 :: x31 :: x32 :: some x33 :: e) 33 = some x33 := rfl
theorem rn33 (x0 x1 x2 x3 x4 x5 x6 x7 x8 x9 x10 x11 x12 x13 x14 x15 x16 x17 x18 x19 x20 x21 x22 x23 x24 x25 x26 x27 x28 x29 x30 x31 x32 : Option D) (e : Env) : rd (x0 :: x1 :: x2 :: x3 :: x4 :: x5 :: x6 :: x7 :: x8 :: x9 :: x10 :: x11 :: x12 :: x13 :: x14 :: x15 :: x16 :: x17 :: x18 :: x19 :: x20 :: x21 :: x22 :: x23 :: x24 :: x25 :: x26 :: x27 :: x28 :: x29 :: x30 :: x31 :: x32 :: none :: e) 33 = none := rfl
theorem st33 (x0 x1 x2 x3 x4 x5 x6 x7 x8 x9 x10 x11 x12 x13 x14 x15 x16 x17 x18 x19 x20 x21 x22 x23 x24 x25 x26 x27 x28 x29 x30 x31 x32 x33 y : Option D) (e : Env) : List.set (x0 :: x1 :: x2 :: x3 :: x4 :: x5 :: x6 :: x7 :: x8 :: x9 :: x10 :: x11 :: x12 :: x13 :: x14 :: x15 :: x16 :: x17 :: x18 :: x19 :: x20 :: x21 :: x22 :: x23 :: x24 :: x25 :: x26 :: x27 :: x28 :: x29 :: x30 :: x31 :: x32 :: x33 :: e) 33 y = x0 :: x1 :: x2 :: x3 :: x4 :: x5 :: x6 :: x7 :: x8 :: x9 :: x10 :: x11 :: x12 :: x13 :: x14 :: x15 :: x16 :: x17 :: x18 :: x19 :: x20 :: x21 :: x22 :: x23 :: x24 :: x25 :: x26 :: x27 :: x28 :: x29 :: x30 :: x31 :: x32 :: y :: e := rfl
theorem rd34 (x0 x1 x2 x3 x4 x5 x6 x7 x8 x9 x10 x11 x12 x13 x14 x15 x16 x17 x18 x19 x20 x21 x22 x23 x24 x25 x26 x27 x28 x29 x30 x31 x32 x33 : Option D) (x34 : D) (e : Env) : rd (x0 :: x1 :: x2 :: x3 :: x4 :: x5 :: x6 :: x7 :: x8 :: x9 :: x10 :: x11 :: x12 :: x13 :: x14 :: x15 :: x16 :: x17 :: x18 :: x19 :: x20 :: x21 :: x22 :: x23 :: x24 :: x25 :: x26 :: x27 :: x28 :: x29 :: x30 :: x31 :: x32 :: x33 :: some x34 :: e) 34 = some x34 := rfl
theorem rn34 (x0 x1 x2 x3 x4 x5 x6 x7 x8 x9 x10 x11 x12 x13 x14 x15 x16 x17 x18 x19 x20 x21 x22 x23 x24 x25 x26 x27 x28 x29 x30 x31 x32 x33 : Option D) (e : Env) : rd (x0 :: x1 :: x2 :: x3 :: x4 :: x5 :: x6 :: x7 :: x8 :: x9 :: x10 :: x11 :: x12 :: x13 :: x14 :: x15 :: x16 :: x17 :: x18 :: x19 :: x20 :: x21 :: x22 :: x23 :: x24 :: x25 :: x26 :: x27 :: x28 :: x29 :: x30 :: x31 :: x32 :: x33 :: none :: e) 34 = none := rfl
theorem st34 (x0 x1 x2 x3 x4 x5 x6 x7 x8 x9 x10 x11 x12 x13 x14 x15 x16 x17 x18 x19 x20 x21 x22 x23 x24 x25 x26 x27 x28 x29 x30 x31 x32 x33 x34 y : Option D) (e : Env) : List.set (x0 :: x1 :: x2 :: x3 :: x4 :: x5 :: x6 :: x7 :: x8 :: x9 :: x10 :: x11 :: x12 :: x13 :: x14 :: x15 :: x16 :: x17 :: x18 :: x19 :: x20 :: x21 :: x22 :: x23 :: x24 :: x25 :: x26 :: x27 :: x28 :: x29 :: x30 :: x31 :: x32 :: x33 :: x34 :: e) 34 y = x0 :: x1 :: x2 :: x3 :: x4 :: x5 :: x6 :: x7 :: x8 :: x9 :: x10 :: x11 :: x12 :: x13 :: x14 :: x15 :: x16 :: x17 :: x18 :: x19 :: x20 :: x21 :: x22 :: x23 :: x24 :: x25 :: x26 :: x27 :: x28 :: x29 :: x30 :: x31 :: x32 :: x33 :: y :: e := rfl
theorem rd35 (x0 x1 x2 x3 x4 x5 x6 x7 x8 x9 x10 x11 x12 x13 x14 x15 x16 x17 x18 x19 x20 x21 x22 x23 x24 x25 x26 x27 x28 x29 x30 x31 x32 x33 x34 : Option D) (x35 : D) (e : Env) : rd (x0 :: x1 :: x2 :: x3 :: x4 :: x5 :: x6 :: x7 :: x8 :: x9 :: x10 :: x11 :: x12 :: x13 :: x14 :: x15 :: x16 :: x17 :: x18 :: x19 :: x20 :: x21 :: x22 :: x23 :: x24 :: x25 :: x26 :: x27 :: x28 :: x29 :: x30 :: x31 :: x32 :: x33 :: x34 :: some x35 :: e) 35 = some x35 := rfl
theorem rn35 (x0 x1 x2 x3 x4 x5 x6 x7 x8 x9 x10 x11 x12 x13 x14 x15 x16 x17 x18 x19 x20 x21 x22 x23 x24 x25 x26 x27 x28 x29 x30 x31 x32 x33 x34 : Option D) (e : Env) : rd (x0 :: x1 :: x2 :: x3 :: x4 :: x5 :: x6 :: x7 :: x8 :: x9 :: x10 :: x11 :: x12 :: x13 :: x14 :: x15 :: x16 :: x17 :: x18 :: x19 :: x20 :: x21 :: x22 :: x23 :: x24 :: x25 :: x26 :: x27 :: x28 :: x29 :: x30 :: x31 :: x32 :: x33 :: x34 :: none :: e) 35 = none := rfl
theorem st35 (x0 x1 x2 x3 x4 x5 x6 x7 x8 x9 x10 x11 x12 x13 x14 x15 x16 x17 x18 x19 x20 x21 x22 x23 x24 x25 x26 x27 x28 x29 x30 x31 x32 x33 x34 x35 y : Option D) (e : Env) : List.set (x0 :: x1 :: x2 :: x3 :: x4 :: x5 :: x6 :: x7 :: x8 :: x9 :: x10 :: x11 :: x12 :: x13 :: x14 :: x15 :: x16 :: x17 :: x18 :: x19 :: x20 :: x21 :: x22 :: x23 :: x24 :: x25 :: x26 :: x27 :: x28 :: x29 :: x30 :: x31 :: x32 :: x33 :: x34 :: x35 :: e) 35 y = x0 :: x1 :: x2 :: x3 :: x4 :: x5 :: x6 :: x7 :: x8 :: x9 :: x10 :: x11 :: x12 :: x13 :: x14 :: x15 :: x16 :: x17 :: x18 :: x19 :: x20 :: x21 :: x22 :: x23 :: x24 :: x25 :: x26 :: x27 :: x28 :: x29 :: x30 :: x31 :: x32 :: x33 :: x34 :: y :: e := rfl
theorem rd36 (x0 x1 x2 x3 x4 x5 x6 x7 x8 x9 x10 x11 x12 x13 x14 x15 x16 x17 x18 x19 x20 x21 x22 x23 x24 x25 x26 x27 x28 x29 x30 x31 x32 x33 x34 x35 : Option D) (x36 : D) (e : Env) : rd (x0 :: x1 :: x2 :: x3 :: x4 :: x5 :: x6 :: x7 :: x8 :: x9 :: x10 :: x11 :: x12 :: x13 :: x14 :: x15 :: x16 :: x17 :: x18 :: x19 :: x20 :: x21 :: x22 :: x23 :: x24 :: x25 :: x26 :: x27 :: x28 :: x29 :: x30 :: x31 :: x32 :: x33 :: x34 :: x35 :: some x36 :: e) 36 = some x36 := rfl
theorem rn36 (x0 x1 x2 x3 x4 x5 x6 x7 x8 x9 x10 x11 x12 x13 x14 x15 x16 x17 x18 x19 x20 x21 x22 x23 x24 x25 x26 x27 x28 x29 x30 x31 x32 x33 x34 x35 : Option D) (e : Env) : rd (x0 :: x1 :: x2 :: x3 :: x4 :: x5 :: x6 :: x7 :: x8 :: x9 :: x10 :: x11 :: x12 :: x13 :: x14 :: x15 :: x16 :: x17 :: x18 :: x19 :: x20 :: x21 :: x22 :: x23 :: x24 :: x25 :: x26 :: x27 :: x28 :: x29 :: x30 :: x31 :: x32 :: x33 :: x34 :: x35 :: none :: e) 36 = none := rfl
theorem st36 (x0 x1 x2 x3 x4 x5 x6 x7 x8 x9 x10 x11 x12 x13 x14 x15 x16 x17 x18 x19 x20 x21 x22 x23 x24 x25 x26 x27 x28 x29 x30 x31 x32 x33 x34 x35 x36 y : Option D) (e : Env) : List.set (x0 :: x1 :: x2 :: x3 :: x4 :: x5 :: x6 :: x7 :: x8 :: x9 :: x10 :: x11 :: x12 :: x13 :: x14 :: x15 :: x16 :: x17 :: x18 :: x19 :: x20 :: x21 :: x22 :: x23 :: x24 :: x25 :: x26 :: x27 :: x28 :: x29 :: x30 :: x31 :: x32 :: x33 :: x34 :: x35 :: x36 :: e) 36 y = x0 :: x1 :: x2 :: x3 :: x4 :: x5 :: x6 :: x7 :: x8 :: x9 :: x10 :: x11 :: x12 :: x13 :: x14 :: x15 :: x16 :: x17 :: x18 :: x19 :: x20 :: x21 :: x22 :: x23 :: x24 :: x25 :: x26 :: x27 :: x28 :: x29 :: x30 :: x31 :: x32 :: x33 :: x34 :: x35 :: y :: e := rfl
theorem rd37 (x0 x1 x2 x3 x4 x5 x6 x7 x8 x9 x10 x11 x12 x13 x14 x15 x16 x17 x18 x19 x20 x21 x22 x23 x24 x25 x26 x27 x28 x29 x30 x31 x32 x33 x34 x35 x36 : Option D) (x37 : D) (e : Env) : rd (x0 :: x1 :: x2 :: x3 :: x4 :: x5 :: x6 :: x7 :: x8 :: x9 :: x10 :: x11 :: x12 :: x13 :: x14 :: x15 :: x16 :: x17 :: x18 :: x19 :: x20 :: x21 :: x22 :: x23 :: x24 :: x25 :: x26 :: x27 :: x28 :: x29 :: x30 :: x31 :: x32 :: x33 :: x34 :: x35 :: x36 :: some x37 :: e) 37 = some x37 := rfl
theorem rn37 (x0 x1 x2 x3 x4 x5 x6 x7 x8 x9 x10 x11 x12 x13 x14 x15 x16 x17 x18 x19 x20 x21 x22 x23 x24 x25 x26 x27 x28 x29 x30 x31 x32 x33 x34 x35 x36 : Option D) (e : Env) : rd (x0 :: x1 :: x2 :: x3 :: x4 :: x5 :: x6 :: x7 :: x8 :: x9 :: x10 :: x11 :: x12 :: x13 :: x14 :: x15 :: x16 :: x17 :: x18 :: x19 :: x20 :: x21 :: x22 :: x23 :: x24 :: x25 :: x26 :: x27 :: x28 :: x29 :: x30 :: x31 :: x32 :: x33 :: x34 :: x35 :: x36 :: none :: e) 37 = none := rfl
theorem st37 (x0 x1 x2 x3 x4 x5 x6 x7 x8 x9 x10 x11 x12 x13 x14 x15 x16 x17 x18 x19 x20 x21 x22 x23 x24 x25 x26 x27 x28 x29 x30 x31 x32 x33 x34 x35 x36 x37 y : Option D) (e : Env) : List.set (x0 :: x1 :: x2 :: x3 :: x4 :: x5 :: x6 :: x7 :: x8 :: x9 :: x10 :: x11 :: x12 :: x13 :: x14 :: x15 :: x16 :: x17 :: x18 :: x19 :: x20 :: x21 :: x22 :: x23 :: x24 :: x25 :: x26 :: x27 :: x28 :: x29 :: x30 :: x31 :: x32 :: x33 :: x34 :: x35 :: x36 :: x37 :: e) 37 y = x0 :: x1 :: x2 :: x3 :: x4 :: x5 :: x6 :: x7 :: x8 :: x9 :: x10 :: x11 :: x12 :: x13 :: x14 :: x15 :: x16 :: x17 :: x18 :: x19 :: x20 :: x21 :: x22 :: x23 :: x24 :: x25 :: x26 :: x27 :: x28 :: x29 :: x30 :: x31 :: x32 :: x33 :: x34 :: x35 :: x36 :: y :: e := rfl
theorem rd38 (x0 x1 x2 x3 x4 x5 x6 x7 x8 x9 x10 x11 x12 x13 x14 x15 x16 x17 x18 x19 x20 x21 x22 x23 x24 x25 x26 x27 x28 x29 x30 x31 x32 x33 x34 x35 x36 x37 : Option D) (x38 : D) (e : Env) : rd (x0 :: x1 :: x2 :: x3 :: x4 :: x5 :: x6 :: x7 :: x8 :: x9 :: x10 :: x11 :: x12 :: x13 :: x14 :: x15 :: x16 :: x17 :: x18 :: x19 :: x20 :: x21 :: x22 :: x23 :: x24 :: x25 :: x26 :: x27 :: x28 :: x29 :: x30 :: x31 :: x32 :: x33 :: x34 :: x35 :: x36 :: x37 :: some x38 :: e) 38 = some x38 := rfl
theorem rn38 (x0 x1 x2 x3 x4 x5 x6 x7 x8 x9 x10 x11 x12 x13 x14 x15 x16 x17 x18 x19 x20 x21 x22 x23 x24 x25 x26 x27 x28 x29 x30 x31 x32 x33 x34 x35 x36 x37 : Option D) (e : Env) : rd (x0 :: x1 :: x2 :: x3 :: x4 :: x5 :: x6 :: x7 :: x8 :: x9 :: x10 :: x11 :: x12 :: x13 :: x14 :: x15 :: x16 :: x17 :: x18 :: x19 :: x20 :: x21 :: x22 :: x23 :: x24 :: x25 :: x26 :: x27 :: x28 :: x29 :: x30 :: x31 :: x32 :: x33 :: x34 :: x35 :: x36 :: x37 :: none :: e) 38 = none := rfl
theorem st38 (x0 x1 x2 x3 x4 x5 x6 x7 x8 x9 x10 x11 x12 x13 x14 x15 x16 x17 x18 x19 x20 x21 x22 x23 x24 x25 x26 x27 x28 x29 x30 x31 x32 x33 x34 x35 x36 x37 x38 y : Option D) (e : Env) : List.set (x0 :: x1 :: x2 :: x3 :: x4 :: x5 :: x6 :: x7 :: x8 :: x9 :: x10 :: x11 :: x12 :: x13 :: x14 :: x15 :: x16 :: x17 :: x18 :: x19 :: x20 :: x21 :: x22 :: x23 :: x24 :: x25 :: x26 :: x27 :: x28 :: x29 :: x30 :: x31 :: x32 :: x33 :: x34 :: x35 :: x36 :: x37 :: x38 :: e) 38 y = x0 :: x1 :: x2 :: x3 :: x4 :: x5 :: x6 :: x7 :: x8 :: x9 :: x10 :: x11 :: x12 :: x13 :: x14 :: x15 :: x16 :: x17 :: x18 :: x19 :: x20 :: x21 :: x22 :: x23 :: x24 :: x25 :: x26 :: x27 :: x28 :: x29 :: x30 :: x31 :: x32 :: x33 :: x34 :: x35 :: x36 :: x37 :: y :: e := rfl
theorem rd39 (x0 x1 x2 x3 x4 x5 x6 x7 x8 x9 x10 x11 x12 x13 x14 x15 x16 x17 x18 x19 x20 x21 x22 x23 x24 x25 x26 x27 x28 x29 x30 x31 x32 x33 x34 x35 x36 x37 x38 : Option D) (x39 : D) (e : Env) : rd (x0 :: x1 :: x2 :: x3 :: x4 :: x5 :: x6 :: x7 :: x8 :: x9 :: x10 :: x11 :: x12 :: x13 :: x14 :: x15 :: x16 :: x17 :: x18 :: x19 :: x20 :: x21 :: x22 :: x23 :: x24 :: x25 :: x26 :: x27 :: x28 :: x29 :: x30 :: x31 :: x32 :: x33 :: x34 :: x35 :: x36 :: x37 :: x38 :: some x39 :: e) 39 = some x39 := rfl
theorem rn39 (x0 x1 x2 x3 x4 x5 x6 x7 x8 x9 x10 x11 x12 x13 x14 x15 x16 x17 x18 x19 x20 x21 x22 x23 x24 x25 x26 x27 x28 x29 x30 x31 x32 x33 x34 x35 x36 x37 x38 : Option D) (e : Env) : rd (x0 :: x1 :: x2 :: x3 :: x4 :: x5 :: x6 :: x7 :: x8 :: x9 :: x10 :: x11 :: x12 :: x13 :: x14 :: x15 :: x16 :: x17 :: x18 :: x19 :: x20 :: x21 :: x22 :: x23 :: x24 :: x25 :: x26 :: x27 :: x28 :: x29 :: x30 :: x31 :: x32 :: x33 :: x34 :: x35 :: x36 :: x37 :: x38 :: none :: e) 39 = none := rfl
theorem st39 (x0 x1 x2 x3 x4 x5 x6 x7 x8 x9 x10 x11 x12 x13 x14 x15 x16 x17 x18 x19 x20 x21 x22 x23 x24 x25 x26 x27 x28 x29 x30 x31 x32 x33 x34 x35 x36 x37 x38 x39 y : Option D) (e : Env) : List.set (x0 :: x1 :: x2 :: x3 :: x4 :: x5 :: x6 :: x7 :: x8 :: x9 :: x10 :: x11 :: x12 :: x13 :: x14 :: x15 :: x16 :: x17 :: x18 :: x19 :: x20 :: x21 :: x22 :: x23 :: x24 :: x25 :: x26 :: x27 :: x28 :: x29 :: x30 :: x31 :: x32 :: x33 :: x34 :: x35 :: x36 :: x37 :: x38 :: x39 :: e) 39 y = x0 :: x1 :: x2 :: x3 :: x4 :: x5 :: x6 :: x7 :: x8 :: x9 :: x10 :: x11 :: x12 :: x13 :: x14 :: x15 :: x16 :: x17 :: x18 :: x19 :: x20 :: x21 :: x22 :: x23 :: x24 :: x25 :: x26 :: x27 :: x28 :: x29 :: x30 :: x31 :: x32 :: x33 :: x34 :: x35 :: x36 :: x37 :: x38 :: y :: e := rfl
section
variable (N : Nm) (C : Calls) (e : Env)
theorem e_int (i : Int) : evE N C (.con (.int i)) e = .ok (.int i) e := rfl
theorem e_str (i : Str) : evE N C (.con (.str i)) e = .ok (.str i) e := rfl
theorem e_bl (i : Bool) : evE N C (.con (.bool i)) e = .ok (.bl i) e := rfl
theorem e_non : evE N C (.con .none) e = .ok .non e := rfl
theorem e_glo (g : Nat) : evE N C (.glo g) e = (match N.gl g with | some d => .ok d e | none => .stuck) := rfl
def varR (i : Nat) (e : Env) : Option D → Res D
  | some d => if isF d then .ok d e else (match d with
      | .obj _ _ => .stuck
      | d => .ok (frz d) (e.set i (some (frz d))))
  | none => .stuck
theorem e_var (i : Nat) : evE N C (.var i) e = varR i e (rd e i) := rfl
theorem v_int (i : Nat) (x : Int) : varR i e (some (.int x)) = .ok (.int x) e := rfl
theorem v_str (i : Nat) (x : Str) : varR i e (some (.str x)) = .ok (.str x) e := rfl
theorem v_bl (i : Nat) (x : Bool) : varR i e (some (.bl x)) = .ok (.bl x) e := rfl
theorem v_non (i : Nat) : varR i e (some .non) = .ok .non e := rfl
theorem v_tup (i : Nat) (x : List D) : varR i e (some (.tup x)) = .ok (.tup x) e := rfl
theorem v_ins (i c : Nat) (x : List D) : varR i e (some (.ins c x)) = .ok (.ins c x) e := rfl
theorem v_scr (i : Nat) (x : List Int) : varR i e (some (.scr x)) = .ok (.scr x) e := rfl
theorem v_lst (i : Nat) (x : List D) : varR i e (some (.lst true x)) = .ok (.lst false (frzs x)) (e.set i (some (.lst false (frzs x)))) := by
  show Res.ok (frz (.lst true x)) _ = _
  simp only [frz]
theorem v_lstF (i : Nat) (x : List D) : varR i e (some (.lst false x)) = .ok (.lst false x) e := rfl
theorem e_tup (es : CE) : evE N C (.tup es) e = (evK N C es e).bind fun ds e => .ok (.tup (frzs ds)) e := rfl
theorem e_lst (es : CE) : evE N C (.lst es) e = (evK N C es e).bind fun ds e => .ok (.lst true ds) e := rfl
theorem e_neg (a : CE) : evE N C (.neg a) e = (evE N C a e).bind fun d e => (negD C d).lift e := rfl
theorem e_bin (o : Operator) (a b : CE) : evE N C (.bin o a b) e = (evE N C a e).bind fun x e => (evE N C b e).bind fun y e => (binD C o x y).lift e := rfl
theorem e_not (a : CE) : evE N C (.not a) e = (evE N C a e).bind fun d e => (notD d).lift e := rfl
theorem e_ands (es : CE) : evE N C (.ands es) e = evA N C es e := rfl
theorem e_ors (es : CE) : evE N C (.ors es) e = evO N C es e := rfl
theorem e_cmp (o : CmpOp) (a b : CE) : evE N C (.cmp o a b) e = (evE N C a e).bind fun x e => (evE N C b e).bind fun y e => ((cmpB C o (frz x) (frz y)).bind fun b => .ok (D.bl b)).lift e := rfl
theorem e_chn (o p : CmpOp) (a b c : CE) : evE N C (.chn o p a b c) e = (evE N C a e).bind fun x e => (evE N C b e).bind fun y e => (match cmpB C o (frz x) (frz y) with
    | .ok true => (evE N C c e).bind fun z e => ((cmpB C p (frz y) (frz z)).bind fun b => .ok (D.bl b)).lift e
    | .ok false => .ok (.bl false) e
    | .exn x => .exn x e
    | .stuck => .stuck) := rfl
theorem e_ite (c a b : CE) : evE N C (.ite c a b) e = (evE N C c e).bind fun d e => (match d with | .bl true => evE N C a e | .bl false => evE N C b e | _ => .stuck) := rfl
theorem e_idxv (i : Nat) (j : CE) : evE N C (.idx (.var i) j) e = (if (rd e i).isSome then (evE N C j e).bind fun k e => (idxV (rd e i) k).lift e else .stuck) := rfl
theorem e_idx (a j : CE) (h : ∀ i, a ≠ .var i) : evE N C (.idx a j) e = (evE N C a e).bind fun x e => (evE N C j e).bind fun k e => (idxD x k).lift e := by
  cases a <;> first | rfl | exact absurd rfl (h _)
theorem e_slc (a lo hi : CE) : evE N C (.slc a lo hi) e = (evE N C a e).bind fun x e => (evE N C lo e).bind fun l e => if (bnd l).isSome then (evE N C hi e).bind fun h e => (sliceD x l h).lift e else .stuck := rfl
theorem e_rev (a : CE) : evE N C (.rev a) e = (evE N C a e).bind fun x e => (rever x).lift e := rfl
theorem e_cal (f : Nat) (es : CE) : evE N C (.cal f es) e = (evL N C es e).bind fun ds e => callR C f (iosOf es) ds e := rfl
theorem e_new (c : Nat) (es : CE) : evE N C (.new c es) e = (evK N C es e).bind fun ds e => (newR N C c (frzs ds)).lift e := rfl
theorem e_mth (m : Nat) (a es : CE) : evE N C (.mth m a es) e = (evE N C a e).bind fun x e => if hasM N x m then (evL N C es e).bind fun ds e => mthR C m (iosOf es) x ds e else .stuck := rfl
theorem e_app (a es : CE) : evE N C (.app a es) e = (evE N C a e).bind fun x e => if hasM N x mCall then (evL N C es e).bind fun ds e => mthR C mCall (iosOf es) x ds e else .stuck := rfl
theorem e_att (a : CE) (f : Nat) : evE N C (.att a f) e = (evE N C a e).bind fun x e => (field N x f).lift e := rfl
def lenR (C : Calls) (e : Env) : Option D → Res D
  | some d => if isO d then .stuck else (lenD C (frz d)).lift e
  | none => .stuck
theorem e_len (i : Nat) : evE N C (.blt .len (.cons (.var i) .nil)) e = lenR C e (rd e i) := rfl
theorem e_blt (b : Blt) (es : CE) (h : ∀ i, es ≠ .cons (.var i) .nil ∨ b ≠ .len) : evE N C (.blt b es) e = (evK N C es e).bind fun ds e => (bltD C b ds).lift e := by
  cases b <;> try rfl
  cases es <;> try rfl
  rename_i a r
  cases a <;> try rfl
  cases r <;> try rfl
  rename_i i
  rcases h i with h | h <;> exact absurd rfl h
theorem e_blt1 (b : Blt) (a : CE) (h : b ≠ .len) : evE N C (.blt b (.cons a .nil)) e = (evE N C a e).bind fun d e => (blt1 C b d).lift e := by
  rw [e_blt _ _ _ _ _ fun _ => .inr h]
  show Res.bind (Res.bind (evE N C a e) _) _ = _
  cases evE N C a e <;> rfl
theorem e_lenE (a : CE) (h : ∀ i, a ≠ .var i) : evE N C (.blt .len (.cons a .nil)) e = (evE N C a e).bind fun d e => (lenD C d).lift e := by
  rw [e_blt _ _ _ _ _ fun i => .inl fun z => h i (by cases z; rfl)]
  show Res.bind (Res.bind (evE N C a e) _) _ = _
  cases evE N C a e <;> rfl
theorem e_blt2 (b : Blt) (a c : CE) : evE N C (.blt b (.cons a (.cons c .nil))) e = (evE N C a e).bind fun x e => (evE N C c e).bind fun y e => (blt2 b x y).lift e := by
  rw [e_blt _ _ _ _ _ fun _ => .inl (by intro z; cases z)]
  show Res.bind (Res.bind (evE N C a e) _) _ = _
  cases evE N C a e with
  | ok d e =>
    show Res.bind (Res.bind (Res.bind (evE N C c e) _) _) _ = Res.bind (evE N C c e) _
    cases evE N C c e <;> rfl
  | _ => rfl
theorem e_smt (m : Smt) (a es : CE) : evE N C (.smt m a es) e = (evE N C a e).bind fun x e => if isStr x then (evK N C es e).bind fun ds e => (smtD m x ds).lift e else .stuck := rfl
def popR (i : Nat) (e : Env) : Option D → Res D
  | some (.lst true l) => (match l.getLast? with
      | some y => .ok y (e.set i (some (.lst true l.dropLast)))
      | none => .stuck)
  | _ => .stuck
def pop0R (i : Nat) (e : Env) : Option D → Res D
  | some (.lst true (y :: l)) => .ok y (e.set i (some (.lst true l)))
  | _ => .stuck
theorem e_pop (i : Nat) : evE N C (.pop i) e = popR i e (rd e i) := rfl
theorem e_pop0 (i : Nat) : evE N C (.pop0 i) e = pop0R i e (rd e i) := rfl
theorem e_isi (a : CE) (ts : List Ty) : evE N C (.isi a ts) e = (evE N C a e).bind fun x e => (isiD ts x).lift e := rfl
theorem a_one (a : CE) : evA N C (.cons a .nil) e = evE N C a e := rfl
theorem a_more (a b es : CE) : evA N C (.cons a (.cons b es)) e = (evE N C a e).bind fun d e => (match d with | .bl true => evA N C (.cons b es) e | .bl false => .ok (.bl false) e | _ => .stuck) := rfl
theorem o_one (a : CE) : evO N C (.cons a .nil) e = evE N C a e := rfl
theorem o_more (a b es : CE) : evO N C (.cons a (.cons b es)) e = (evE N C a e).bind fun d e => (match d with | .bl false => evO N C (.cons b es) e | .bl true => .ok (.bl true) e | _ => .stuck) := rfl
theorem k_nil : evK N C .nil e = .ok [] e := rfl
theorem k_cons (a es : CE) : evK N C (.cons a es) e = (evE N C a e).bind fun d e => (evK N C es e).bind fun ds e => .ok (d :: ds) e := rfl
def ioR (i : Nat) (es : CE) (N : Nm) (C : Calls) (e : Env) : Option D → Res (List D)
  | some d => if isO d then .stuck else (evL N C es (e.set i none)).bind fun ds e => .ok (d :: ds) e
  | none => .stuck
theorem l_nil : evL N C .nil e = .ok [] e := rfl
theorem l_io (i : Nat) (es : CE) : evL N C (.cons (.io i) es) e = ioR i es N C e (rd e i) := rfl
theorem l_cons (a es : CE) (h : ∀ i, a ≠ .io i) : evL N C (.cons a es) e = (evE N C a e).bind fun d e => (evL N C es e).bind fun ds e => .ok (frz d :: ds) e := by
  cases a <;> first | rfl | exact absurd rfl (h _)
theorem io_lst (i : Nat) (es : CE) (o : Bool) (l : List D) : ioR i es N C e (some (.lst o l)) = (evL N C es (e.set i none)).bind fun ds e => .ok (.lst o l :: ds) e := rfl
theorem i_nil : iosOf .nil = [] := rfl
theorem i_io (i : Nat) (es : CE) : iosOf (.cons (.io i) es) = i :: iosOf es := rfl
theorem i_cons (a es : CE) (h : ∀ i, a ≠ .io i) : iosOf (.cons a es) = iosOf es := by
  cases a <;> first | rfl | exact absurd rfl (h _)
/-- a call's outcome -/
def outR (ios : List Nat) (e : Env) : CR → Res D
  | .ok d io => (match backIo ios io e with
    | some e' => .ok d e'
    | none => .stuck)
  | .exn x => .exn x e
  | .stuck => .stuck
theorem callR_eq (f : Nat) (ios : List Nat) (ds : List D) : callR C f ios ds e = outR ios e (C f ds) := rfl
theorem out_ok (d : D) : outR [] e (.ok d []) = .ok d e := rfl
theorem out_ok1 (i : Nat) (d x : D) : outR [i] e (.ok d [x]) = .ok d (e.set i (some x)) := rfl
theorem out_exn (ios : List Nat) (x : Exn) : outR ios e (.exn x) = .exn x e := rfl
theorem mthR_ins (m : Nat) (ios : List Nat) (c : Nat) (l ds : List D) : mthR C m ios (.ins c l) ds e = outR ios e (C (mfid c m) (.ins c l :: ds)) := rfl
/-- a maker's outcome -/
def newO (N : Nm) (c : Nat) : CR → Rs D
  | .ok .non [.obj c' l] => if c' = c ∧ l.length = (N.fl c).length then .ok (.ins c l) else .stuck
  | .exn x => .exn x
  | _ => .stuck
theorem newR_eq (c : Nat) (ds : List D) : newR N C c ds = newO N c (C (mfid c mInit) (.obj c [] :: ds)) := rfl
theorem new_ok (c : Nat) (l : List D) (h : l.length = (N.fl c).length) : newO N c (.ok .non [.obj c l]) = .ok (.ins c l) := if_pos ⟨rfl, h⟩
theorem new_exn (c : Nat) (x : Exn) : newO N c (.exn x) = .exn x := rfl
theorem hasM_ins (c m : Nat) (l : List D) : hasM N (.ins c l) m = N.has c m := rfl
theorem x_skip : exec N C .skip e = .nxt e := rfl
theorem x_seq (s t : CS) : exec N C (.seq s t) e = (match exec N C s e with | .nxt e => exec N C t e | r => r) := rfl
theorem x_exp (a : CE) : exec N C (.exp a) e = (evE N C a e).bindS fun _ e => .nxt e := rfl
theorem x_asg (i : Nat) (a : CE) : exec N C (.asg i a) e = (evE N C a e).bindS fun d e => .nxt (e.set i (some d)) := rfl
def satR (N : Nm) (f : Nat) (d : D) (e : Env) : Option D → RS
  | some (.obj c l) => if (N.fl c)[l.length]? = some f then .nxt (e.set 0 (some (.obj c (l ++ [frz d])))) else .stuck
  | _ => .stuck
theorem x_sat (f : Nat) (a : CE) : exec N C (.sat f a) e = (evE N C a e).bindS fun d e => satR N f d e (rd e 0) := rfl
theorem sat_obj (f c : Nat) (d : D) (l : List D) : satR N f d e (some (.obj c l)) = if (N.fl c)[l.length]? = some f then .nxt (e.set 0 (some (.obj c (l ++ [frz d])))) else .stuck := rfl
def apdR (i : Nat) (d : D) (e : Env) : Option D → RS
  | some (.lst true l) => if l.length < lim then .nxt (e.set i (some (.lst true (l ++ [d])))) else .stuck
  | _ => .stuck
theorem x_apd (i : Nat) (a : CE) (h : ∀ i, a ≠ .io i) : exec N C (.apd i a) e = if isLst (rd e i) = false then .stuck else (evE N C a e).bindS fun d e => apdR i d e (rd e i) := by
  cases a <;> first | rfl | exact absurd rfl (h _)
theorem apd_lst (i : Nat) (d : D) (l : List D) (h : l.length < lim) : apdR i d e (some (.lst true l)) = .nxt (e.set i (some (.lst true (l ++ [d])))) := if_pos h
theorem isLst_lst (o : Bool) (l : List D) : isLst (some (.lst o l)) = true := rfl
theorem x_ite (c : CE) (s t : CS) : exec N C (.ite c s t) e = (tst (evE N C c e)).bindS fun b e => if b then exec N C s e else exec N C t e := rfl
def whlR (c : CE) (s : CS) : RS := loopW (fun e => tst (evE N C c e)) (fun e => exec N C s e) fuel e
theorem x_whl (c : CE) (s : CS) : exec N C (.whl c s) e = whlR N C e c s := rfl
theorem x_for (tg : Tg) (it : CE) (s : CS) : exec N C (.for tg it s) e = (evI N C it e).bindS fun ds e => loopF tg.put (fun e => exec N C s e) ds e := rfl
def rngR (e : Env) : Option (List D) → Res (List D)
  | some l => .ok l e
  | none => .stuck
theorem t_rng (es : CE) : evI N C (.rng es) e = (evK N C es e).bind fun ds e => rngR e (rngOf ds) := rfl
theorem t_it (it : CE) (h1 : ∀ es, it ≠ .rng es) (h2 : ∀ x y, it ≠ .zip x y) : evI N C it e = (evE N C it e).bind fun x e => rngR e (itemsOf (frz x)) := by
  cases it <;> first | rfl | exact absurd rfl (h1 _) | exact absurd rfl (h2 _ _)
theorem rng_some (l : List D) : rngR e (some l) = .ok l e := rfl
theorem x_ret (a : CE) : exec N C (.ret a) e = (evRet N C a e).bindS fun d e => .ret d e := rfl
theorem r_nil : evRet N C .nil e = .ok .non e := rfl
def retR (i : Nat) (e : Env) : Option D → Res D
  | some d => (match d with
      | .obj _ _ => .stuck
      | d => if isF d then .ok d e else .ok d (e.set i none))
  | none => .stuck
theorem r_var (i : Nat) : evRet N C (.var i) e = retR i e (rd e i) := rfl
theorem r_e (a : CE) (h : ∀ i, a ≠ .var i) (h2 : a ≠ .nil) : evRet N C a e = evE N C a e := by
  cases a <;> first | rfl | exact absurd rfl (h _) | exact absurd rfl h2
theorem ret_int (i : Nat) (x : Int) : retR i e (some (.int x)) = .ok (.int x) e := rfl
theorem ret_str (i : Nat) (x : Str) : retR i e (some (.str x)) = .ok (.str x) e := rfl
theorem ret_bl (i : Nat) (x : Bool) : retR i e (some (.bl x)) = .ok (.bl x) e := rfl
theorem ret_non (i : Nat) : retR i e (some .non) = .ok .non e := rfl
theorem ret_tup (i : Nat) (x : List D) : retR i e (some (.tup x)) = .ok (.tup x) e := rfl
theorem ret_ins (i c : Nat) (x : List D) : retR i e (some (.ins c x)) = .ok (.ins c x) e := rfl
theorem ret_lst (i : Nat) (x : List D) : retR i e (some (.lst true x)) = .ok (.lst true x) (e.set i none) := rfl
theorem ret_lstF (i : Nat) (x : List D) : retR i e (some (.lst false x)) = .ok (.lst false x) e := rfl
theorem x_rai (c : Nat) (a : CE) : exec N C (.rai c a) e = (evE N C a e).bindS fun d e => .exn ⟨c, (N.xf c).map fun _ => frz d⟩ e := rfl
theorem x_try (s h : CS) : exec N C (.try s h) e = (match exec N C s e with
    | .exn x e => hand N h x e
    | r => r) := rfl
theorem x_brk : exec N C .brk e = .brk e := rfl
theorem x_cnt : exec N C .cnt e = .cnt e := rfl
theorem h_ret (cs : List Nat) (d : Const) (h : CS) (x : Exn) : hand N (.hret cs d h) x e = if cs.any (N.sub x.c) then (match conD d with | some d => .ret d e | none => .stuck) else hand N h x e := rfl
def incR (i : Nat) (k : Int) (e : Env) : Option D → RS
  | some (.int j) => .nxt (e.set i (some (.int (j + k))))
  | _ => .stuck
theorem h_inc (cs : List Nat) (i : Nat) (k : Int) (h : CS) (x : Exn) : hand N (.hinc cs i k h) x e = if cs.any (N.sub x.c) then incR i k e (rd e i) else hand N h x e := rfl
theorem h_nil (x : Exn) : hand N .hnil x e = .exn x e := rfl
theorem inc_int (i : Nat) (k j : Int) : incR i k e (some (.int j)) = .nxt (e.set i (some (.int (j + k)))) := rfl
theorem conD_bl (b : Bool) : conD (.bool b) = some (.bl b) := rfl
theorem conD_int (b : Int) : conD (.int b) = some (.int b) := rfl
theorem conD_str (b : Str) : conD (.str b) = some (.str b) := rfl
theorem conD_non : conD .none = some .non := rfl
end
section
variable (C : Calls)
theorem lift_ok (d : D) (e : Env) : Rs.lift (.ok d) e = .ok d e := rfl
theorem b_int (o : Operator) (i j : Int) : binD C o (.int i) (.int j) = intD o i j := rfl
theorem b_ins (o : Operator) (c : Nat) (l : List D) (c' : Nat) (l' : List D) : binD C o (.ins c l) (.ins c' l') = (match opM o with
    | some m => if c' = c then (C (mfid c m) [.ins c l, .ins c' l']).rs else (match C (mfid c' m) [.ins c' l', .ins c' l'] with
      | .stuck => .stuck
      | _ => (C (mfid c m) [.ins c l, .ins c' l']).rs)
    | none => .stuck) := rfl
theorem b_same (o : Operator) (c : Nat) (l l' : List D) {m : Nat} (h : opM o = some m) : binD C o (.ins c l) (.ins c l') = (C (mfid c m) [.ins c l, .ins c l']).rs := by
  rw [b_ins, h]
  simp only [if_true]
theorem b_add (c : Nat) (l l' : List D) : binD C .Add (.ins c l) (.ins c l') = (C (mfid c mAdd) [.ins c l, .ins c l']).rs := b_same C _ c l l' rfl
theorem b_sub (c : Nat) (l l' : List D) : binD C .Sub (.ins c l) (.ins c l') = (C (mfid c mSub) [.ins c l, .ins c l']).rs := b_same C _ c l l' rfl
theorem b_mul (c : Nat) (l l' : List D) : binD C .Mult (.ins c l) (.ins c l') = (C (mfid c mMul) [.ins c l, .ins c l']).rs := b_same C _ c l l' rfl
theorem b_fdiv (c : Nat) (l l' : List D) : binD C .FloorDiv (.ins c l) (.ins c l') = (C (mfid c mFdiv) [.ins c l, .ins c l']).rs := b_same C _ c l l' rfl
theorem b_mod (c : Nat) (l l' : List D) : binD C .Mod (.ins c l) (.ins c l') = (C (mfid c mMod) [.ins c l, .ins c l']).rs := b_same C _ c l l' rfl
theorem cr_ok (d : D) : CR.rs (.ok d []) = .ok (frz d) := rfl
theorem cr_exn (x : Exn) : CR.rs (.exn x) = .exn x := rfl
theorem b_str (a b : Str) (h : a.length + b.length ≤ lim) : binD C .Add (.str a) (.str b) = .ok (.str (a ++ b)) := if_pos ⟨rfl, h⟩
theorem i_add (i j : Int) : intD .Add i j = .ok (.int (i + j)) := rfl
theorem i_sub (i j : Int) : intD .Sub i j = .ok (.int (i - j)) := rfl
theorem i_mul (i j : Int) (h : mulOk i j = true) : intD .Mult i j = .ok (.int (i * j)) := if_pos h
theorem i_div (i j : Int) (h : divOk i j = true) : intD .FloorDiv i j = .ok (.int (i.fdiv j)) := if_pos h
theorem i_mod (i j : Int) (h : j ≠ 0) : intD .Mod i j = .ok (.int (i.fmod j)) := if_neg h
theorem i_pow (i j : Int) (h : 0 ≤ j ∧ j ≤ 1000000 ∧ i.natAbs < 2 ^ 64) : intD .Pow i j = .ok (.int (i ^ j.toNat)) := if_pos h
theorem n_int (i : Int) : negD C (.int i) = .ok (.int (-i)) := rfl
theorem n_ins (c : Nat) (l : List D) : negD C (.ins c l) = (C (mfid c mNeg) [.ins c l]).rs := rfl
theorem not_bl (b : Bool) : notD (.bl b) = .ok (.bl (!b)) := rfl
/-- an equality's outcome -/
def eqO : CR → Rs Bool
  | .ok (.bl b) [] => .ok b
  | _ => .stuck
def neO : CR → Rs Bool
  | .ok (.bl b) [] => .ok (!b)
  | _ => .stuck
theorem eqO_ok (b : Bool) : eqO (.ok (.bl b) []) = .ok b := rfl
theorem neO_ok (b : Bool) : neO (.ok (.bl b) []) = .ok (!b) := rfl
theorem c_eq_ins (c : Nat) (l : List D) (y : D) : cmpB C .Eq (.ins c l) y = eqO (C (mfid c mEq) [.ins c l, y]) := rfl
theorem c_eq_int (i j : Int) : cmpB C .Eq (.int i) (.int j) = .ok (decide (i = j)) := rfl
theorem c_eq_str (i j : Str) : cmpB C .Eq (.str i) (.str j) = .ok (decide (i = j)) := rfl
theorem c_eq_bl (i j : Bool) : cmpB C .Eq (.bl i) (.bl j) = .ok (i == j) := rfl
theorem c_ne_ins (c : Nat) (l l' : List D) : cmpB C .NotEq (.ins c l) (.ins c l') = neO (C (mfid c mEq) [.ins c l, .ins c l']) := if_pos rfl
theorem c_ne_int (i j : Int) : cmpB C .NotEq (.int i) (.int j) = .ok (!decide (i = j)) := rfl
theorem c_ne_str (i j : Str) : cmpB C .NotEq (.str i) (.str j) = .ok (!decide (i = j)) := rfl
theorem c_ne_bl (i j : Bool) : cmpB C .NotEq (.bl i) (.bl j) = .ok (!(i == j)) := rfl
theorem c_lt (i j : Int) : cmpB C .Lt (.int i) (.int j) = .ok (decide (i < j)) := rfl
theorem c_le (i j : Int) : cmpB C .LtE (.int i) (.int j) = .ok (decide (i ≤ j)) := rfl
theorem c_gt (i j : Int) : cmpB C .Gt (.int i) (.int j) = .ok (decide (j < i)) := rfl
theorem c_ge (i j : Int) : cmpB C .GtE (.int i) (.int j) = .ok (decide (j ≤ i)) := rfl
theorem c_is_bl (i j : Bool) : cmpB C .Is (.bl i) (.bl j) = .ok (decide (i = j)) := rfl
theorem c_isn_bl (i j : Bool) : cmpB C .IsNot (.bl i) (.bl j) = .ok (!decide (i = j)) := rfl
theorem c_is_non (x : D) : cmpB C .Is x .non = .ok (isNon x) := rfl
theorem c_isn_non (x : D) : cmpB C .IsNot x .non = .ok (!isNon x) := rfl
theorem c_in (x y : D) : cmpB C .In x y = inR x y := rfl
theorem c_notin (x y : D) : cmpB C .NotIn x y = (inR x y).bind fun b => .ok (!b) := rfl
theorem fz_int (i : Int) : frz (.int i) = .int i := by simp only [frz]
theorem fz_str (i : Str) : frz (.str i) = .str i := by simp only [frz]
theorem fz_bl (i : Bool) : frz (.bl i) = .bl i := by simp only [frz]
theorem fz_scr (l : List Int) : frz (.scr l) = .scr l := by simp only [frz]
theorem fz_nil : frz .non = .non := by simp only [frz]
theorem fz_tup (l : List D) : frz (.tup l) = .tup l := by simp only [frz]
theorem fz_ins (c : Nat) (l : List D) : frz (.ins c l) = .ins c l := by simp only [frz]
theorem fz_lst (l : List D) : frz (.lst true l) = .lst false (frzs l) := by simp only [frz]
theorem fz_lstF (l : List D) : frz (.lst false l) = .lst false l := by simp only [frz]
theorem zs_nil : frzs [] = [] := by simp only [frzs]
theorem zs_cons (d : D) (l : List D) : frzs (d :: l) = frz d :: frzs l := by simp only [frzs]
theorem len_lst (o : Bool) (l : List D) (e : Env) : lenR C e (some (.lst o l)) = .ok (.int l.length) e := by
  cases o <;> simp [lenR, isO, frz, lenD, frzs_map]
theorem len_tup (l : List D) (e : Env) : lenR C e (some (.tup l)) = .ok (.int l.length) e := by simp [lenR, isO, frz, lenD]
theorem len_scr (l : List Int) (e : Env) : lenR C e (some (.scr l)) = .ok (.int l.length) e := by simp [lenR, isO, frz, lenD]
/-- a text's outcome -/
def strO : CR → Rs D
  | .ok (.str a) [] => .ok (.str a)
  | .exn x => .exn x
  | _ => .stuck
theorem s_ins (c : Nat) (l : List D) : blt1 C .str (.ins c l) = strO (C (mfid c mStr) [.ins c l]) := rfl
theorem s_str (a : Str) : blt1 C .str (.str a) = .ok (.str a) := rfl
theorem strO_ok (a : Str) : strO (.ok (.str a) []) = .ok (.str a) := rfl
theorem strO_exn (x : Exn) : strO (.exn x) = .exn x := rfl
theorem s_int (i : Int) (h : i.natAbs.log2 < 1920) : blt1 C .str (.int i) = .ok (.str (toString i)) := if_pos h
theorem s_abs (i : Int) : blt1 C .abs (.int i) = .ok (.int (if i < 0 then -i else i)) := rfl
theorem items_lst (o : Bool) (l : List D) : itemsOf (.lst o l) = some l := rfl
theorem items_tup (l : List D) : itemsOf (.tup l) = some l := rfl
theorem isi_int (i : Int) (ts : List Ty) : isiD ts (.int i) = .ok (.bl (ts.any (tyD (.int i)))) := rfl
theorem isi_bl (i : Bool) (ts : List Ty) : isiD ts (.bl i) = .ok (.bl (ts.any (tyD (.bl i)))) := rfl
theorem isi_str (i : Str) (ts : List Ty) : isiD ts (.str i) = .ok (.bl (ts.any (tyD (.str i)))) := rfl
theorem isi_non (ts : List Ty) : isiD ts .non = .ok (.bl (ts.any (tyD .non))) := rfl
theorem isi_tup (l : List D) (ts : List Ty) : isiD ts (.tup l) = .ok (.bl (ts.any (tyD (.tup l)))) := rfl
theorem isi_lst (o : Bool) (l : List D) (ts : List Ty) : isiD ts (.lst o l) = .ok (.bl (ts.any (tyD (.lst o l)))) := rfl
theorem isi_ins (c : Nat) (l : List D) (ts : List Ty) : isiD ts (.ins c l) = .ok (.bl (ts.any (tyD (.ins c l)))) := rfl
end
section
variable {N : Nm} {P : Nat → Option Fd}
/-- a def's outcome -/
def finR (io : List Nat) : RS → CR
  | .nxt e => finals io .non e
  | .ret d e => finals io d e
  | .exn x _ => .exn x
  | _ => .stuck
/-- the names at a call -/
def start0 (fd : Fd) (ds : List D) : Env := (ds ++ fd.dfl.drop (fd.dfl.length + ds.length - fd.np)).map some ++ List.replicate (fd.nv - fd.np) none
theorem call_eq {f : Nat} {fd : Fd} {n : Nat} {ds : List D} (h : P f = some fd) (hc : ds.length ≤ fd.np ∧ fd.np ≤ ds.length + fd.dfl.length ∧ fd.np ≤ fd.nv) :
    callN N P (n + 1) f ds = finR fd.io (exec N (callN N P n) fd.body (start0 fd ds)) := by
  show (match P f with
    | some fd => if ds.length ≤ fd.np ∧ fd.np ≤ ds.length + fd.dfl.length ∧ fd.np ≤ fd.nv then runF N (callN N P n) fd ds else .stuck
    | none => .stuck) = _
  rw [h]
  simp only
  rw [if_pos hc]
  rfl
def argOk (fd : Fd) (m : Nat) : Bool := decide (m ≤ fd.np) && decide (fd.np ≤ m + fd.dfl.length) && decide (fd.np ≤ fd.nv)
theorem callE {f : Nat} {fd : Fd} {n : Nat} {ds : List D} (h : P f = some fd) (m : Nat) (hl : ds.length = m) (hc : argOk fd m = true) :
    callN N P (n + 1) f ds = finR fd.io (exec N (callN N P n) fd.body (start0 fd ds)) := by
  unfold argOk at hc
  simp only [Bool.and_eq_true, decide_eq_true_eq] at hc
  exact call_eq h (by rw [hl]; exact ⟨hc.1.1, hc.1.2, hc.2⟩)
theorem fin_ret (d : D) (e : Env) : finR [] (.ret d e) = .ok d [] := rfl
theorem fin_nxt (e : Env) : finR [] (.nxt e) = .ok .non [] := rfl
theorem fin_exn (io : List Nat) (x : Exn) (e : Env) : finR io (.exn x e) = .exn x := rfl
theorem fin_ret0 (d x : D) (e : Env) : finR [0] (.ret d (some x :: e)) = .ok d [x] := rfl
theorem fin_nxt0 (x : D) (e : Env) : finR [0] (.nxt (some x :: e)) = .ok .non [x] := rfl
end
theorem loopF_nil {put : D → Env → Option Env} {b : Env → RS} {e : Env} : loopF put b [] e = .nxt e := rfl
theorem loopF_cons {put : D → Env → Option Env} {b : Env → RS} {d : D} {r : List D} {e : Env} : loopF put b (d :: r) e = (match put d e with
    | some e => (match b e with
      | .nxt e => loopF put b r e
      | .cnt e => loopF put b r e
      | .brk e => .nxt e
      | r => r)
    | none => .stuck) := rfl
/-- a loop that walks to its end: what holds of the names -/
theorem loopF_inv {put : D → Env → Option Env} {b : Env → RS} (I : List D → Env → Prop) : ∀ (l : List D) (e : Env),
    (∀ d r e, I (d :: r) e → ∃ e1 e2, put d e = some e1 ∧ (b e1 = .nxt e2 ∨ b e1 = .cnt e2) ∧ I r e2) → I l e → ∃ e', loopF put b l e = .nxt e' ∧ I [] e'
  | [], e, _, i => ⟨e, rfl, i⟩
  | d :: r, e, h, i => by
    obtain ⟨e1, e2, p, q, i2⟩ := h d r e i
    obtain ⟨e', h1, h2⟩ := loopF_inv I r e2 h i2
    refine ⟨e', ?_, h2⟩
    rw [loopF_cons, p]
    rcases q with q | q <;> simp only [q, h1]
/-- the same of a body -/
theorem for_inv {N : Nm} {C : Calls} {put : D → Env → Option Env} {b : CS} (I : List D → Env → Prop) (h : ∀ d r e, I (d :: r) e → ∃ e1 e2, put d e = some e1 ∧ (exec N C b e1 = .nxt e2 ∨ exec N C b e1 = .cnt e2) ∧ I r e2) (l : List D) (e : Env) (i : I l e) :
    ∃ e', loopF put (fun e => exec N C b e) l e = .nxt e' ∧ I [] e' := loopF_inv (b := fun e => exec N C b e) I l e h i
/-- a loop whose turns all end plainly -/
theorem for_nxt {N : Nm} {C : Calls} {put : D → Env → Option Env} {b : CS} (I : List D → Env → Prop) (h : ∀ d r e, I (d :: r) e → ∃ e1 e2, put d e = some e1 ∧ exec N C b e1 = .nxt e2 ∧ I r e2) (l : List D) (e : Env) (i : I l e) :
    ∃ e', loopF put (fun e => exec N C b e) l e = .nxt e' ∧ I [] e' := for_inv I (fun d r e q => let ⟨e1, e2, h1, h2, h3⟩ := h d r e q; ⟨e1, e2, h1, .inl h2, h3⟩) l e i
def wN (Q : Env → Prop) : RS → Prop
  | .nxt e => Q e
  | .cnt e => Q e
  | _ => False
theorem wN_nxt (Q : Env → Prop) (e : Env) : wN Q (.nxt e) = Q e := rfl
theorem wN_cnt (Q : Env → Prop) (e : Env) : wN Q (.cnt e) = Q e := rfl
theorem for_wp {N : Nm} {C : Calls} {put : D → Env → Option Env} {b : CS} (I : List D → Env → Prop) (h : ∀ d r e, I (d :: r) e → ∃ e1, put d e = some e1 ∧ wN (I r) (exec N C b e1)) (l : List D) (e : Env) (i : I l e) :
    ∃ e', loopF put (fun e => exec N C b e) l e = .nxt e' ∧ I [] e' := for_inv I (fun d r e q => by
  obtain ⟨e1, h1, h2⟩ := h d r e q
  cases x : exec N C b e1 with
  | nxt e => rw [x] at h2; exact ⟨e1, e, h1, .inl x, h2⟩
  | cnt e => rw [x] at h2; exact ⟨e1, e, h1, .inr x, h2⟩
  | _ => rw [x] at h2; exact h2.elim) l e i
theorem put_nam (i : Nat) (d : D) (e : Env) : Tg.put (.nam i) d e = some (e.set i (some d)) := rfl
/-- a while loop that ends after at most n turns -/
theorem loopW_inv {c : Env → Res Bool} {b : Env → RS} (I : Nat → Env → Prop) (J : Env → Prop)
    (h : ∀ n e, I n e → (∃ e1, c e = .ok false e1 ∧ J e1) ∨ ∃ e1 e2 m, c e = .ok true e1 ∧ (b e1 = .nxt e2 ∨ b e1 = .cnt e2) ∧ I m e2 ∧ m < n) : ∀ (n : Nat) (k : Nat) (e : Env), n < k → I n e → ∃ e', loopW c b k e = .nxt e' ∧ J e' := by
  intro n
  induction n using Nat.strongRecOn with
  | _ n ih =>
    intro k e hk hi
    obtain ⟨k, rfl⟩ : ∃ j, k = j + 1 := ⟨k - 1, by omega⟩
    rcases h n e hi with ⟨e1, q, j⟩ | ⟨e1, e2, m, q, s, i2, lt⟩
    · exact ⟨e1, by show (match c e with | .ok true e => _ | .ok false e => _ | .exn x e => _ | .stuck => _) = _; rw [q], j⟩
    · obtain ⟨e', q2, j⟩ := ih m lt k e2 (by omega) i2
      refine ⟨e', ?_, j⟩
      show (match c e with
        | .ok true e => (match b e with
          | .nxt e => loopW c b k e
          | .cnt e => loopW c b k e
          | .brk e => .nxt e
          | r => r)
        | .ok false e => .nxt e
        | .exn x e => .exn x e
        | .stuck => .stuck) = _
      rw [q]
      rcases s with s | s <;> simp only [s, q2]
def wT (Q : Bool → Env → Prop) : Res Bool → Prop
  | .ok b e => Q b e
  | _ => False
theorem wT_ok (Q : Bool → Env → Prop) (b : Bool) (e : Env) : wT Q (.ok b e) = Q b e := rfl
theorem whl_wp {N : Nm} {C : Calls} {c : CE} {s : CS} (I : Nat → Env → Prop) (J : Env → Prop)
    (h : ∀ n e, I n e → wT (fun b e1 => if b = true then wN (fun e2 => ∃ m, m < n ∧ I m e2) (exec N C s e1) else J e1) (tst (evE N C c e))) (n : Nat) (e : Env) (hn : n < fuel) (i : I n e) : ∃ e', whlR N C e c s = .nxt e' ∧ J e' := by
  refine loopW_inv I J (fun n e q => ?_) n fuel e hn i
  have q := h n e q
  cases x : tst (evE N C c e) with
  | ok b e1 =>
    rw [x] at q
    cases b with
    | false => exact .inl ⟨e1, rfl, q⟩
    | true =>
      have q : wN (fun e2 => ∃ m, m < n ∧ I m e2) (exec N C s e1) := q
      refine .inr ?_
      cases y : exec N C s e1 with
      | nxt e2 =>
        rw [y] at q
        obtain ⟨m, hm, im⟩ := q
        exact ⟨e1, e2, m, rfl, .inl y, im, hm⟩
      | cnt e2 =>
        rw [y] at q
        obtain ⟨m, hm, im⟩ := q
        exact ⟨e1, e2, m, rfl, .inr y, im, hm⟩
      | _ => rw [y] at q; exact q.elim
  | _ => rw [x] at q; exact q.elim
theorem whl_end {N : Nm} {C : Calls} {c : CE} {s : CS} {e e1 : Env} (h : tst (evE N C c e) = .ok false e1) : whlR N C e c s = .nxt e1 := by
  show (match tst (evE N C c e) with | .ok true e => _ | .ok false e => _ | .exn x e => _ | .stuck => _) = _
  rw [h]
theorem rng_one (n : Int) (h : n < 4611686018427387904 ∧ -4611686018427387904 ≤ n) : rngOf [.int n] = some ((List.range n.toNat).map fun (k : Nat) => .int k) := by
  show rngL 0 n 1 = _
  unfold rngL big
  simp
  omega
end Z

namespace Z
open PySem L2
def b1_written_integer : CS :=
 .seq (.apd 1 (.smt .zfill (.blt .str (.cons (.bin .Mod (.var 0) (.bin .Pow (.con (.int 10)) (.con (.int 50)))) (.nil))) (.cons (.glo 0) (.nil))))
  (.seq (.asg 0 (.bin .FloorDiv (.var 0) (.bin .Pow (.con (.int 10)) (.con (.int 50)))))
  (.skip))
def c_written_integer : CS :=
 .seq (.ite (.cmp .Lt (.var 0) (.con (.int 0)))
 (.seq (.ret (.bin .Add (.con (.str "-")) (.cal 0 (.cons (.neg (.var 0)) (.nil)))))
  (.skip))
 (.skip))
  (.seq (.asg 1 (.lst (.nil)))
  (.seq (.whl (.cmp .GtE (.var 0) (.bin .Pow (.con (.int 10)) (.con (.int 50))))
 (b1_written_integer))
  (.seq (.apd 1 (.blt .str (.cons (.var 0) (.nil))))
  (.seq (.ret (.smt .join (.con (.str "")) (.cons (.rev (.var 1)) (.nil))))
  (.skip)))))
def f_written_integer : Fd := ⟨1, 2, [], [], c_written_integer⟩

def c_is_integer : CS :=
 .seq (.ret (.ands (.cons (.isi (.var 0) [.int]) (.cons (.not (.isi (.var 0) [.bool])) (.nil)))))
  (.skip)
def f_is_integer : Fd := ⟨1, 1, [], [], c_is_integer⟩

def c_is_small_prime : CS :=
 .seq (.ret (.ands (.cons (.cal 1 (.cons (.var 0) (.nil))) (.cons (.cmp .In (.var 0) (.glo 1)) (.nil)))))
  (.skip)
def f_is_small_prime : Fd := ⟨1, 1, [], [], c_is_small_prime⟩

def c_Ratio_init : CS :=
 .seq (.ite (.cmp .Eq (.var 2) (.con (.int 0)))
 (.seq (.rai 1 (.con (.str "zero")))
  (.skip))
 (.skip))
  (.seq (.ite (.cmp .Lt (.var 2) (.con (.int 0)))
 (.seq (.asg 1 (.neg (.var 1)))
  (.seq (.asg 2 (.neg (.var 2)))
  (.skip)))
 (.skip))
  (.seq (.asg 3 (.blt .gcd (.cons (.var 1) (.cons (.var 2) (.nil)))))
  (.seq (.sat 0 (.bin .FloorDiv (.var 1) (.var 3)))
  (.seq (.sat 1 (.bin .FloorDiv (.var 2) (.var 3)))
  (.skip)))))
def f_Ratio_init : Fd := ⟨3, 4, [.int 1], [0], c_Ratio_init⟩

def c_Ratio_eq : CS :=
 .seq (.ret (.ands (.cons (.isi (.var 1) [.cls 3]) (.cons (.cmp .Eq (.att (.var 0) 0) (.att (.var 1) 0)) (.cons (.cmp .Eq (.att (.var 0) 1) (.att (.var 1) 1)) (.nil))))))
  (.skip)
def f_Ratio_eq : Fd := ⟨2, 2, [], [], c_Ratio_eq⟩

def c_Ratio_add : CS :=
 .seq (.ite (.not (.isi (.var 1) [.cls 3]))
 (.seq (.rai 2 (.con (.str "ratio")))
  (.skip))
 (.skip))
  (.seq (.ret (.new 3 (.cons (.bin .Add (.bin .Mult (.att (.var 0) 0) (.att (.var 1) 1)) (.bin .Mult (.att (.var 1) 0) (.att (.var 0) 1))) (.cons (.bin .Mult (.att (.var 0) 1) (.att (.var 1) 1)) (.nil)))))
  (.skip))
def f_Ratio_add : Fd := ⟨2, 2, [], [], c_Ratio_add⟩

def c_Ratio_sub : CS :=
 .seq (.ite (.not (.isi (.var 1) [.cls 3]))
 (.seq (.rai 2 (.con (.str "ratio")))
  (.skip))
 (.skip))
  (.seq (.ret (.new 3 (.cons (.bin .Sub (.bin .Mult (.att (.var 0) 0) (.att (.var 1) 1)) (.bin .Mult (.att (.var 1) 0) (.att (.var 0) 1))) (.cons (.bin .Mult (.att (.var 0) 1) (.att (.var 1) 1)) (.nil)))))
  (.skip))
def f_Ratio_sub : Fd := ⟨2, 2, [], [], c_Ratio_sub⟩

def c_Ratio_mul : CS :=
 .seq (.ite (.not (.isi (.var 1) [.cls 3]))
 (.seq (.rai 2 (.con (.str "ratio")))
  (.skip))
 (.skip))
  (.seq (.ret (.new 3 (.cons (.bin .Mult (.att (.var 0) 0) (.att (.var 1) 0)) (.cons (.bin .Mult (.att (.var 0) 1) (.att (.var 1) 1)) (.nil)))))
  (.skip))
def f_Ratio_mul : Fd := ⟨2, 2, [], [], c_Ratio_mul⟩

def c_Ratio_neg : CS :=
 .seq (.ret (.new 3 (.cons (.neg (.att (.var 0) 0)) (.cons (.att (.var 0) 1) (.nil)))))
  (.skip)
def f_Ratio_neg : Fd := ⟨1, 1, [], [], c_Ratio_neg⟩

def c_Ratio_str : CS :=
 .seq (.ite (.cmp .Eq (.att (.var 0) 1) (.con (.int 1)))
 (.seq (.ret (.smt .join (.con (.str "")) (.cons (.lst (.cons (.cal 0 (.cons (.att (.var 0) 0) (.nil))) (.nil))) (.nil))))
  (.skip))
 (.skip))
  (.seq (.ret (.smt .join (.con (.str "/")) (.cons (.lst (.cons (.cal 0 (.cons (.att (.var 0) 0) (.nil))) (.cons (.cal 0 (.cons (.att (.var 0) 1) (.nil))) (.nil)))) (.nil))))
  (.skip))
def f_Ratio_str : Fd := ⟨1, 1, [], [], c_Ratio_str⟩

def c_Ratio_is_zero : CS :=
 .seq (.ret (.cmp .Eq (.att (.var 0) 0) (.con (.int 0))))
  (.skip)
def f_Ratio_is_zero : Fd := ⟨1, 1, [], [], c_Ratio_is_zero⟩

def c_Ratio_inverse : CS :=
 .seq (.ret (.new 3 (.cons (.att (.var 0) 1) (.cons (.att (.var 0) 0) (.nil)))))
  (.skip)
def f_Ratio_inverse : Fd := ⟨1, 1, [], [], c_Ratio_inverse⟩

def c_Ratio_over : CS :=
 .seq (.ret (.bin .Mult (.var 0) (.mth 12 (.var 1) (.nil))))
  (.skip)
def f_Ratio_over : Fd := ⟨2, 2, [], [], c_Ratio_over⟩

def b1_Ratio_power : CS :=
 .seq (.asg 3 (.bin .Mult (.var 3) (.var 2)))
  (.skip)
def c_Ratio_power : CS :=
 .seq (.asg 2 (.var 0))
  (.seq (.ite (.cmp .Lt (.var 1) (.con (.int 0)))
 (.seq (.asg 2 (.mth 12 (.var 0) (.nil)))
  (.seq (.asg 1 (.neg (.var 1)))
  (.skip)))
 (.skip))
  (.seq (.asg 3 (.new 3 (.cons (.con (.int 1)) (.nil))))
  (.seq (.for (.nam 4) (.rng (.cons (.var 1) (.nil)))
 (b1_Ratio_power))
  (.seq (.ret (.var 3))
  (.skip)))))
def f_Ratio_power : Fd := ⟨2, 5, [], [], c_Ratio_power⟩

def c_Residue_init : CS :=
 .seq (.ite (.ors (.cons (.not (.cal 2 (.cons (.var 1) (.nil)))) (.cons (.not (.cal 1 (.cons (.var 2) (.nil)))) (.nil))))
 (.seq (.rai 2 (.con (.str "residue")))
  (.skip))
 (.skip))
  (.seq (.sat 2 (.var 1))
  (.seq (.sat 0 (.bin .Mod (.var 2) (.var 1)))
  (.skip)))
def f_Residue_init : Fd := ⟨3, 3, [], [0], c_Residue_init⟩

def c_Residue_eq : CS :=
 .seq (.ret (.ands (.cons (.isi (.var 1) [.cls 4]) (.cons (.cmp .Eq (.att (.var 0) 2) (.att (.var 1) 2)) (.cons (.cmp .Eq (.att (.var 0) 0) (.att (.var 1) 0)) (.nil))))))
  (.skip)
def f_Residue_eq : Fd := ⟨2, 2, [], [], c_Residue_eq⟩

def c_Residue_add : CS :=
 .seq (.ite (.ors (.cons (.not (.isi (.var 1) [.cls 4])) (.cons (.cmp .NotEq (.att (.var 0) 2) (.att (.var 1) 2)) (.nil))))
 (.seq (.rai 2 (.con (.str "residue")))
  (.skip))
 (.skip))
  (.seq (.ret (.new 4 (.cons (.att (.var 0) 2) (.cons (.bin .Add (.att (.var 0) 0) (.att (.var 1) 0)) (.nil)))))
  (.skip))
def f_Residue_add : Fd := ⟨2, 2, [], [], c_Residue_add⟩

def c_Residue_sub : CS :=
 .seq (.ite (.ors (.cons (.not (.isi (.var 1) [.cls 4])) (.cons (.cmp .NotEq (.att (.var 0) 2) (.att (.var 1) 2)) (.nil))))
 (.seq (.rai 2 (.con (.str "residue")))
  (.skip))
 (.skip))
  (.seq (.ret (.new 4 (.cons (.att (.var 0) 2) (.cons (.bin .Sub (.att (.var 0) 0) (.att (.var 1) 0)) (.nil)))))
  (.skip))
def f_Residue_sub : Fd := ⟨2, 2, [], [], c_Residue_sub⟩

def c_Residue_mul : CS :=
 .seq (.ite (.ors (.cons (.not (.isi (.var 1) [.cls 4])) (.cons (.cmp .NotEq (.att (.var 0) 2) (.att (.var 1) 2)) (.nil))))
 (.seq (.rai 2 (.con (.str "residue")))
  (.skip))
 (.skip))
  (.seq (.ret (.new 4 (.cons (.att (.var 0) 2) (.cons (.bin .Mult (.att (.var 0) 0) (.att (.var 1) 0)) (.nil)))))
  (.skip))
def f_Residue_mul : Fd := ⟨2, 2, [], [], c_Residue_mul⟩

def c_Residue_neg : CS :=
 .seq (.ret (.new 4 (.cons (.att (.var 0) 2) (.cons (.neg (.att (.var 0) 0)) (.nil)))))
  (.skip)
def f_Residue_neg : Fd := ⟨1, 1, [], [], c_Residue_neg⟩

def c_Residue_str : CS :=
 .seq (.ret (.blt .str (.cons (.att (.var 0) 0) (.nil))))
  (.skip)
def f_Residue_str : Fd := ⟨1, 1, [], [], c_Residue_str⟩

def c_Residue_is_zero : CS :=
 .seq (.ret (.cmp .Eq (.att (.var 0) 0) (.con (.int 0))))
  (.skip)
def f_Residue_is_zero : Fd := ⟨1, 1, [], [], c_Residue_is_zero⟩

def b1_Residue_inverse : CS :=
 .seq (.asg 1 (.bin .Mod (.bin .Mult (.var 1) (.att (.var 0) 0)) (.att (.var 0) 2)))
  (.skip)
def c_Residue_inverse : CS :=
 .seq (.ite (.cmp .Eq (.att (.var 0) 0) (.con (.int 0)))
 (.seq (.rai 1 (.con (.str "zero")))
  (.skip))
 (.skip))
  (.seq (.asg 1 (.con (.int 1)))
  (.seq (.for (.nam 2) (.rng (.cons (.bin .Sub (.att (.var 0) 2) (.con (.int 2))) (.nil)))
 (b1_Residue_inverse))
  (.seq (.ret (.new 4 (.cons (.att (.var 0) 2) (.cons (.var 1) (.nil)))))
  (.skip))))
def f_Residue_inverse : Fd := ⟨1, 3, [], [], c_Residue_inverse⟩

def c_Residue_over : CS :=
 .seq (.ret (.bin .Mult (.var 0) (.mth 12 (.var 1) (.nil))))
  (.skip)
def f_Residue_over : Fd := ⟨2, 2, [], [], c_Residue_over⟩

def b1_Residue_power : CS :=
 .seq (.asg 3 (.bin .Mult (.var 3) (.var 2)))
  (.skip)
def c_Residue_power : CS :=
 .seq (.asg 2 (.var 0))
  (.seq (.ite (.cmp .Lt (.var 1) (.con (.int 0)))
 (.seq (.asg 2 (.mth 12 (.var 0) (.nil)))
  (.seq (.asg 1 (.neg (.var 1)))
  (.skip)))
 (.skip))
  (.seq (.asg 3 (.new 4 (.cons (.att (.var 0) 2) (.cons (.con (.int 1)) (.nil)))))
  (.seq (.for (.nam 4) (.rng (.cons (.var 1) (.nil)))
 (b1_Residue_power))
  (.seq (.ret (.var 3))
  (.skip)))))
def f_Residue_power : Fd := ⟨2, 5, [], [], c_Residue_power⟩

def b1_law_numbers : CS :=
 .seq (.ite (.cmp .Gt (.var 3) (.con (.int 0)))
 (.seq (.apd 1 (.bin .Mod (.var 3) (.con (.int 1009))))
  (.seq (.asg 3 (.bin .FloorDiv (.var 3) (.con (.int 1009))))
  (.skip)))
 (.skip))
  (.skip)
def b2_law_numbers : CS :=
 .seq (.asg 3 (.bin .Mod (.bin .Add (.bin .Add (.bin .Mult (.var 3) (.con (.int 48271))) (.bin .Mult (.con (.int 69621)) (.bin .Add (.var 5) (.var 2)))) (.con (.int 11))) (.con (.int 2147483647))))
  (.seq (.asg 6 (.bin .Mod (.bin .Add (.bin .Mult (.var 3) (.con (.int 16807))) (.bin .FloorDiv (.var 3) (.con (.int 65536)))) (.con (.int 2147483629))))
  (.seq (.apd 1 (.bin .Mod (.var 6) (.con (.int 1009))))
  (.skip)))
def b3_law_numbers : CS :=
 .seq (.asg 3 (.blt .abs (.cons (.idx (.var 0) (.var 2)) (.nil))))
  (.seq (.ite (.cmp .GtE (.var 3) (.bin .Pow (.con (.int 10)) (.con (.int 18))))
 (.seq (.for (.nam 4) (.rng (.cons (.con (.int 60)) (.nil)))
 (b1_law_numbers))
  (.skip))
 (.seq (.for (.nam 5) (.rng (.cons (.con (.int 5)) (.nil)))
 (b2_law_numbers))
  (.skip)))
  (.skip))
def c_law_numbers : CS :=
 .seq (.asg 1 (.lst (.nil)))
  (.seq (.for (.nam 2) (.rng (.cons (.blt .min (.cons (.blt .len (.cons (.var 0) (.nil))) (.cons (.con (.int 63)) (.nil)))) (.nil)))
 (b3_law_numbers))
  (.seq (.ret (.var 1))
  (.skip)))
def f_law_numbers : Fd := ⟨1, 7, [], [], c_law_numbers⟩

def c_law_next : CS :=
 .seq (.ite (.cmp .Eq (.blt .len (.cons (.var 0) (.nil))) (.con (.int 0)))
 (.seq (.ret (.con (.int 0)))
  (.skip))
 (.skip))
  (.seq (.ret (.bin .Mod (.pop0 0) (.var 1)))
  (.skip))
def f_law_next : Fd := ⟨2, 2, [], [0], c_law_next⟩

end Z
namespace Z
open PySem L2
/-- a rational number as the program has it -/
abbrev rt (q : Rat) : D := .ins 3 [.int q.num, .int q.den]
abbrev xZero : Exn := ⟨1, none⟩
abbrev xMal : Exn := ⟨2, none⟩
def lim9 : Nat := 9000
/-- of at most k bits -/
def Bnd (k : Nat) (q : Rat) : Prop := q.num.natAbs < 2 ^ k ∧ q.den < 2 ^ k
structure HR (N : Nm) (P : Nat → Option Fd) : Prop where
  fl : N.fl 3 = [0, 1]
  x1 : N.xf 1 = none
  x2 : N.xf 2 = none
  init : P (mfid 3 mInit) = some f_Ratio_init
  eq : P (mfid 3 mEq) = some f_Ratio_eq
  add : P (mfid 3 mAdd) = some f_Ratio_add
  sub : P (mfid 3 mSub) = some f_Ratio_sub
  mul : P (mfid 3 mMul) = some f_Ratio_mul
  neg : P (mfid 3 mNeg) = some f_Ratio_neg
theorem log_lt {a k : Nat} (h : a < 2 ^ k) (hk : 0 < k) : a.log2 < k := by
  by_cases z : a = 0
  · subst z; simpa using hk
  · exact (Nat.log2_lt z).mpr h
theorem divOk_of {i j : Int} (h : j ≠ 0) (hj : j.natAbs < 2 ^ lim9) : divOk i j = true := by
  unfold divOk Builtin.divisionGoesByPylong
  have := log_lt hj (by decide)
  unfold lim9 at this
  have e : (j == 0) = false := by simpa using h
  simp only [e, decide_eq_true h, Bool.true_and, Bool.not_eq_true', Bool.and_eq_false_iff, decide_eq_false_iff_not]
  left
  simp only [Bool.false_eq_true, if_false]
  omega
theorem mulOk_of {i j : Int} {k l : Nat} (hi : i.natAbs < 2 ^ k) (hj : j.natAbs < 2 ^ l) (hk : 0 < k) (hl : 0 < l) (h : k + l ≤ 100000000) : mulOk i j = true := by
  unfold mulOk
  have := log_lt hi hk
  have := log_lt hj hl
  simp only [Bool.or_eq_true, decide_eq_true_eq]
  right
  omega
theorem one_lt9 : (1 : Int).natAbs < 2 ^ lim9 := Nat.one_lt_two_pow (by decide)
section
variable {N : Nm} {P : Nat → Option Fd} (h : HR N P)
include h
theorem ratio_init0 (n : Nat) (a : Int) : callN N P (n + 1) (mfid 3 mInit) [.obj 3 [], .int a, .int 0] = .exn xZero := by
  rw [callE h.init 3 rfl rfl]
  simp only [f_Ratio_init, c_Ratio_init, rd0, rn0, st0, rd1, rn1, st1, rd2, rn2, st2, rd3, rn3, st3, rd4, rn4, st4, rd5, rn5, st5, rd6, rn6, st6, rd7, rn7, st7, rd8, rn8, st8, rd9, rn9, st9, rd10, rn10, st10, rd11, rn11, st11, rd12, rn12, st12, rd13, rn13, st13, rd14, rn14, st14, rd15, rn15, st15, rd16, rn16, st16, rd17, rn17, st17, rd18, rn18, st18, rd19, rn19, st19, rd20, rn20, st20, rd21, rn21, st21, rd22, rn22, st22, rd23, rn23, st23, rd24, rn24, st24, rd25, rn25, st25, e_int, e_str, e_bl, e_non, e_var, v_int, v_str, v_bl, v_non, v_tup, v_ins, v_scr, v_lst, v_lstF, e_tup, e_lst, e_neg, e_bin, e_not, e_ands, e_ors, e_cmp, e_chn, e_ite, e_idxv, e_idx, e_slc, e_rev, e_cal, e_new, e_mth, e_app, e_att, e_len, e_blt1, e_lenE, e_blt2, e_smt, e_pop, e_pop0, e_isi, a_one, a_more, o_one, o_more, k_nil, k_cons, l_nil, l_io, l_cons, io_lst, i_nil, i_io, i_cons, out_ok, out_ok1, out_exn, mthR_ins, new_exn, hasM_ins, x_skip, x_seq, x_exp, x_asg, x_sat, sat_obj, x_apd, isLst_lst, x_ite, x_whl, x_for, t_rng, t_it, rng_some, x_ret, r_nil, r_var, r_e, ret_int, ret_str, ret_bl, ret_non, ret_tup, ret_ins, ret_lst, ret_lstF, x_rai, x_try, x_brk, x_cnt, h_ret, h_inc, h_nil, inc_int, conD_bl, conD_int, conD_str, conD_non, lift_ok, b_int, b_add, b_sub, b_mul, b_fdiv, b_mod, cr_ok, cr_exn, i_add, i_sub, n_int, n_ins, not_bl, eqO_ok, neO_ok, c_eq_ins, c_eq_int, c_eq_str, c_eq_bl, c_ne_ins, c_ne_int, c_ne_str, c_ne_bl, c_lt, c_le, c_gt, c_ge, c_is_bl, c_isn_bl, c_is_non, c_isn_non, c_in, c_notin, fz_int, fz_str, fz_bl, fz_scr, fz_nil, fz_tup, fz_ins, fz_lst, fz_lstF, zs_nil, zs_cons, len_lst, len_tup, len_scr, s_ins, s_str, strO_ok, strO_exn, s_abs, items_lst, items_tup, isi_int, isi_bl, isi_str, isi_non, isi_tup, isi_lst, isi_ins, fin_ret, fin_nxt, fin_exn, fin_ret0, fin_nxt0, wN_nxt, wN_cnt, put_nam, wT_ok, callR_eq, eq_self, beq_self_eq_true, Res.bind, Res.bindS, Rs.bind, tst, Rs.lift, reduceCtorEq, ne_eq, not_false_eq_true, implies_true, ite_true, ite_false, Bool.false_eq_true, decide_true, decide_false, Bool.not_true, Bool.not_false, List.length_cons, List.length_nil, List.cons_append, List.nil_append, reduceIte, start0, List.map_cons, List.map_nil, List.any_cons, List.any_nil, tyD, Bool.or_true, Bool.or_false, Bool.true_or, Bool.false_or, Nat.reduceAdd, Nat.reduceSub, List.drop_succ_cons, List.drop_nil, List.drop_zero, List.replicate_succ, List.replicate_zero, List.append_nil, Option.map_none, Option.map_some, isNon, isStr, Option.isSome_some, Option.isSome_none, forall_const, false_or, or_false, or_true, true_or, not_true_eq_false, and_self, and_true, true_and, h.x1]
theorem ratio_init (n : Nat) (a b : Int) (hb : b ≠ 0) (hs : b.natAbs < 2 ^ lim9) : callN N P (n + 1) (mfid 3 mInit) [.obj 3 [], .int a, .int b] = .ok .non [.obj 3 [.int (Rat.divInt a b).num, .int (Rat.divInt a b).den]] := by
  rw [callE h.init 3 rfl rfl]
  have g0 : ∀ c : Int, (((Int.natAbs c).gcd b.natAbs : Nat) : Int) ≠ 0 := fun c z => by
    have z : (Int.natAbs c).gcd b.natAbs = 0 := by omega
    rw [Nat.gcd_eq_zero_iff] at z
    exact hb (by omega)
  have g1 : ∀ c : Int, (((Int.natAbs c).gcd b.natAbs : Nat) : Int).natAbs < 2 ^ lim9 := fun c => by
    refine Nat.lt_of_le_of_lt ?_ hs
    exact Nat.le_of_dvd (by omega) (Nat.gcd_dvd_right _ _)
  by_cases hn : b < 0
  · have q : ∀ c : Int, divOk c (((Int.natAbs a).gcd b.natAbs : Nat) : Int) = true := fun c => divOk_of (g0 a) (g1 a)
    have e1 : (-a).fdiv (((Int.natAbs a).gcd b.natAbs : Nat) : Int) = (Rat.divInt a b).num := by
      rw [Rat.num_divInt, Int.fdiv_eq_ediv_of_nonneg _ (by omega), Int.sign_eq_neg_one_of_neg hn, Int.gcd, Nat.gcd_comm]
      simp
    have e2 : (-b).fdiv (((Int.natAbs a).gcd b.natAbs : Nat) : Int) = (Rat.divInt a b).den := by
      rw [Rat.den_divInt, Int.fdiv_eq_ediv_of_nonneg _ (by omega), if_neg hb, Int.gcd, Nat.gcd_comm, Int.natCast_ediv]
      congr 1
      omega
    simp only [f_Ratio_init, c_Ratio_init, rd0, rn0, st0, rd1, rn1, st1, rd2, rn2, st2, rd3, rn3, st3, rd4, rn4, st4, rd5, rn5, st5, rd6, rn6, st6, rd7, rn7, st7, rd8, rn8, st8, rd9, rn9, st9, rd10, rn10, st10, rd11, rn11, st11, rd12, rn12, st12, rd13, rn13, st13, rd14, rn14, st14, rd15, rn15, st15, rd16, rn16, st16, rd17, rn17, st17, rd18, rn18, st18, rd19, rn19, st19, rd20, rn20, st20, rd21, rn21, st21, rd22, rn22, st22, rd23, rn23, st23, rd24, rn24, st24, rd25, rn25, st25, e_int, e_str, e_bl, e_non, e_var, v_int, v_str, v_bl, v_non, v_tup, v_ins, v_scr, v_lst, v_lstF, e_tup, e_lst, e_neg, e_bin, e_not, e_ands, e_ors, e_cmp, e_chn, e_ite, e_idxv, e_idx, e_slc, e_rev, e_cal, e_new, e_mth, e_app, e_att, e_len, e_blt1, e_lenE, e_blt2, e_smt, e_pop, e_pop0, e_isi, a_one, a_more, o_one, o_more, k_nil, k_cons, l_nil, l_io, l_cons, io_lst, i_nil, i_io, i_cons, out_ok, out_ok1, out_exn, mthR_ins, new_exn, hasM_ins, x_skip, x_seq, x_exp, x_asg, x_sat, sat_obj, x_apd, isLst_lst, x_ite, x_whl, x_for, t_rng, t_it, rng_some, x_ret, r_nil, r_var, r_e, ret_int, ret_str, ret_bl, ret_non, ret_tup, ret_ins, ret_lst, ret_lstF, x_rai, x_try, x_brk, x_cnt, h_ret, h_inc, h_nil, inc_int, conD_bl, conD_int, conD_str, conD_non, lift_ok, b_int, b_add, b_sub, b_mul, b_fdiv, b_mod, cr_ok, cr_exn, i_add, i_sub, n_int, n_ins, not_bl, eqO_ok, neO_ok, c_eq_ins, c_eq_int, c_eq_str, c_eq_bl, c_ne_ins, c_ne_int, c_ne_str, c_ne_bl, c_lt, c_le, c_gt, c_ge, c_is_bl, c_isn_bl, c_is_non, c_isn_non, c_in, c_notin, fz_int, fz_str, fz_bl, fz_scr, fz_nil, fz_tup, fz_ins, fz_lst, fz_lstF, zs_nil, zs_cons, len_lst, len_tup, len_scr, s_ins, s_str, strO_ok, strO_exn, s_abs, items_lst, items_tup, isi_int, isi_bl, isi_str, isi_non, isi_tup, isi_lst, isi_ins, fin_ret, fin_nxt, fin_exn, fin_ret0, fin_nxt0, wN_nxt, wN_cnt, put_nam, wT_ok, callR_eq, eq_self, beq_self_eq_true, Res.bind, Res.bindS, Rs.bind, tst, Rs.lift, reduceCtorEq, ne_eq, not_false_eq_true, implies_true, ite_true, ite_false, Bool.false_eq_true, decide_true, decide_false, Bool.not_true, Bool.not_false, List.length_cons, List.length_nil, List.cons_append, List.nil_append, reduceIte, start0, List.map_cons, List.map_nil, List.any_cons, List.any_nil, tyD, Bool.or_true, Bool.or_false, Bool.true_or, Bool.false_or, Nat.reduceAdd, Nat.reduceSub, List.drop_succ_cons, List.drop_nil, List.drop_zero, List.replicate_succ, List.replicate_zero, List.append_nil, Option.map_none, Option.map_some, isNon, isStr, Option.isSome_some, Option.isSome_none, forall_const, false_or, or_false, or_true, true_or, not_true_eq_false, and_self, and_true, true_and, hb, hn, decide_true, decide_false, blt2, Int.natAbs_neg, i_div _ _ (q _), h.fl, List.getElem?_cons_zero, List.getElem?_cons_succ, e1, e2]
  · have q : ∀ c : Int, divOk c (((Int.natAbs a).gcd b.natAbs : Nat) : Int) = true := fun c => divOk_of (g0 a) (g1 a)
    have e1 : a.fdiv (((Int.natAbs a).gcd b.natAbs : Nat) : Int) = (Rat.divInt a b).num := by
      rw [Rat.num_divInt, Int.fdiv_eq_ediv_of_nonneg _ (by omega), Int.sign_eq_one_of_pos (by omega), Int.gcd, Nat.gcd_comm]
      simp
    have e2 : b.fdiv (((Int.natAbs a).gcd b.natAbs : Nat) : Int) = (Rat.divInt a b).den := by
      rw [Rat.den_divInt, Int.fdiv_eq_ediv_of_nonneg _ (by omega), if_neg hb, Int.gcd, Nat.gcd_comm, Int.natCast_ediv]
      congr 1
      omega
    simp only [f_Ratio_init, c_Ratio_init, rd0, rn0, st0, rd1, rn1, st1, rd2, rn2, st2, rd3, rn3, st3, rd4, rn4, st4, rd5, rn5, st5, rd6, rn6, st6, rd7, rn7, st7, rd8, rn8, st8, rd9, rn9, st9, rd10, rn10, st10, rd11, rn11, st11, rd12, rn12, st12, rd13, rn13, st13, rd14, rn14, st14, rd15, rn15, st15, rd16, rn16, st16, rd17, rn17, st17, rd18, rn18, st18, rd19, rn19, st19, rd20, rn20, st20, rd21, rn21, st21, rd22, rn22, st22, rd23, rn23, st23, rd24, rn24, st24, rd25, rn25, st25, e_int, e_str, e_bl, e_non, e_var, v_int, v_str, v_bl, v_non, v_tup, v_ins, v_scr, v_lst, v_lstF, e_tup, e_lst, e_neg, e_bin, e_not, e_ands, e_ors, e_cmp, e_chn, e_ite, e_idxv, e_idx, e_slc, e_rev, e_cal, e_new, e_mth, e_app, e_att, e_len, e_blt1, e_lenE, e_blt2, e_smt, e_pop, e_pop0, e_isi, a_one, a_more, o_one, o_more, k_nil, k_cons, l_nil, l_io, l_cons, io_lst, i_nil, i_io, i_cons, out_ok, out_ok1, out_exn, mthR_ins, new_exn, hasM_ins, x_skip, x_seq, x_exp, x_asg, x_sat, sat_obj, x_apd, isLst_lst, x_ite, x_whl, x_for, t_rng, t_it, rng_some, x_ret, r_nil, r_var, r_e, ret_int, ret_str, ret_bl, ret_non, ret_tup, ret_ins, ret_lst, ret_lstF, x_rai, x_try, x_brk, x_cnt, h_ret, h_inc, h_nil, inc_int, conD_bl, conD_int, conD_str, conD_non, lift_ok, b_int, b_add, b_sub, b_mul, b_fdiv, b_mod, cr_ok, cr_exn, i_add, i_sub, n_int, n_ins, not_bl, eqO_ok, neO_ok, c_eq_ins, c_eq_int, c_eq_str, c_eq_bl, c_ne_ins, c_ne_int, c_ne_str, c_ne_bl, c_lt, c_le, c_gt, c_ge, c_is_bl, c_isn_bl, c_is_non, c_isn_non, c_in, c_notin, fz_int, fz_str, fz_bl, fz_scr, fz_nil, fz_tup, fz_ins, fz_lst, fz_lstF, zs_nil, zs_cons, len_lst, len_tup, len_scr, s_ins, s_str, strO_ok, strO_exn, s_abs, items_lst, items_tup, isi_int, isi_bl, isi_str, isi_non, isi_tup, isi_lst, isi_ins, fin_ret, fin_nxt, fin_exn, fin_ret0, fin_nxt0, wN_nxt, wN_cnt, put_nam, wT_ok, callR_eq, eq_self, beq_self_eq_true, Res.bind, Res.bindS, Rs.bind, tst, Rs.lift, reduceCtorEq, ne_eq, not_false_eq_true, implies_true, ite_true, ite_false, Bool.false_eq_true, decide_true, decide_false, Bool.not_true, Bool.not_false, List.length_cons, List.length_nil, List.cons_append, List.nil_append, reduceIte, start0, List.map_cons, List.map_nil, List.any_cons, List.any_nil, tyD, Bool.or_true, Bool.or_false, Bool.true_or, Bool.false_or, Nat.reduceAdd, Nat.reduceSub, List.drop_succ_cons, List.drop_nil, List.drop_zero, List.replicate_succ, List.replicate_zero, List.append_nil, Option.map_none, Option.map_some, isNon, isStr, Option.isSome_some, Option.isSome_none, forall_const, false_or, or_false, or_true, true_or, not_true_eq_false, and_self, and_true, true_and, hb, hn, decide_true, decide_false, blt2, Int.natAbs_neg, i_div _ _ (q _), h.fl, List.getElem?_cons_zero, List.getElem?_cons_succ, e1, e2]
theorem ratio_init1 (n : Nat) (a : Int) : callN N P (n + 1) (mfid 3 mInit) [.obj 3 [], .int a] = callN N P (n + 1) (mfid 3 mInit) [.obj 3 [], .int a, .int 1] := by
  rw [callE h.init 2 rfl rfl, callE h.init 3 rfl rfl]
  rfl
theorem ratio_new (n : Nat) (a b : Int) (hb : b ≠ 0) (hs : b.natAbs < 2 ^ lim9) : newR N (callN N P (n + 1)) 3 [.int a, .int b] = .ok (rt (Rat.divInt a b)) := by
  rw [newR_eq, ratio_init h n a b hb hs, new_ok _ _ _ (by rw [h.fl]; rfl)]
theorem ratio_new1 (n : Nat) (a : Int) : newR N (callN N P (n + 1)) 3 [.int a] = .ok (rt a) := by
  rw [newR_eq, ratio_init1 h, ratio_init h n a 1 (by decide) one_lt9, new_ok _ _ _ (by rw [h.fl]; rfl)]
  have : Rat.divInt a 1 = (a : Rat) := by
    have := Rat.divInt_ofNat a 1
    simpa [Rat.mkRat_one] using this
  rw [this]
theorem ratio_new0 (n : Nat) (a : Int) : newR N (callN N P (n + 1)) 3 [.int a, .int 0] = .exn xZero := by
  rw [newR_eq, ratio_init0 h, new_exn]
theorem ratio_n (x y : D) : field N (.ins 3 [x, y]) 0 = .ok x := by
  show (match (N.fl 3).idxOf? 0 with | some j => _ | none => _) = _
  rw [h.fl]
  rfl
theorem ratio_d (x y : D) : field N (.ins 3 [x, y]) 1 = .ok y := by
  show (match (N.fl 3).idxOf? 1 with | some j => _ | none => _) = _
  rw [h.fl]
  rfl
end
theorem Bnd.mono {k l : Nat} {q : Rat} (b : Bnd k q) (h : k ≤ l) : Bnd l q :=
  ⟨Nat.lt_of_lt_of_le b.1 (Nat.pow_le_pow_right (by decide) h), Nat.lt_of_lt_of_le b.2 (Nat.pow_le_pow_right (by decide) h)⟩
theorem divInt_le (a b : Int) (hb : b ≠ 0) : (Rat.divInt a b).num.natAbs ≤ a.natAbs ∧ (Rat.divInt a b).den ≤ b.natAbs := by
  constructor
  · rw [Rat.num_divInt]
    refine Nat.le_trans (Int.natAbs_ediv_le_natAbs _ _) ?_
    rw [Int.natAbs_mul]
    have : b.sign.natAbs = 1 := by rw [Int.natAbs_sign, if_neg hb]
    rw [this, Nat.one_mul]
    exact Nat.le_refl _
  · rw [Rat.den_divInt, if_neg hb]
    exact Nat.div_le_self _ _
theorem Bnd.divInt {a b : Int} {k : Nat} (hb : b ≠ 0) (h1 : a.natAbs < 2 ^ k) (h2 : b.natAbs < 2 ^ k) : Bnd k (Rat.divInt a b) := by
  have := divInt_le a b hb
  exact ⟨by omega, by omega⟩
theorem pow_add2 (k l : Nat) : 2 ^ (k + l) = 2 ^ k * 2 ^ l := Nat.pow_add _ _ _
theorem lt_mul2 {a b k l : Nat} (h1 : a < 2 ^ k) (h2 : b < 2 ^ l) : a * b < 2 ^ (k + l) := by
  rw [pow_add2]
  exact Nat.mul_lt_mul'' h1 h2
theorem add_eq (p q : Rat) : p + q = Rat.divInt (p.num * q.den + q.num * p.den) (p.den * q.den) := by
  rw [Rat.add_def', ← Int.natCast_mul, Rat.divInt_ofNat]
theorem sub_eq (p q : Rat) : p - q = Rat.divInt (p.num * q.den - q.num * p.den) (p.den * q.den) := by
  rw [Rat.sub_def', ← Int.natCast_mul, Rat.divInt_ofNat]
theorem mul_eq (p q : Rat) : p * q = Rat.divInt (p.num * q.num) (p.den * q.den) := by
  rw [Rat.mul_def', ← Int.natCast_mul, Rat.divInt_ofNat]
theorem neg_eq (p : Rat) : -p = Rat.divInt (-p.num) p.den := by
  rw [Rat.divInt_ofNat, ← Rat.neg_mkRat, Rat.mkRat_self]
theorem dd (p q : Rat) : (p.den : Int) * q.den ≠ 0 := by
  have := p.den_nz
  have := q.den_nz
  exact Int.mul_ne_zero (by omega) (by omega)
theorem Bnd.add {k l : Nat} {p q : Rat} (a : Bnd k p) (b : Bnd l q) : Bnd (k + l + 1) (p + q) := by
  rw [add_eq]
  have h1 := lt_mul2 a.1 b.2
  have h2 := lt_mul2 b.1 a.2
  have h3 := lt_mul2 a.2 b.2
  rw [Nat.add_comm l k] at h2
  refine Bnd.divInt (dd p q) ?_ ?_
  · refine Nat.lt_of_le_of_lt (Int.natAbs_add_le _ _) ?_
    rw [Int.natAbs_mul, Int.natAbs_mul, Int.natAbs_natCast, Int.natAbs_natCast, Nat.pow_succ]
    omega
  · rw [Int.natAbs_mul, Int.natAbs_natCast, Int.natAbs_natCast, Nat.pow_succ]
    omega
theorem Bnd.neg {k : Nat} {p : Rat} (a : Bnd k p) : Bnd k (-p) := ⟨by simpa using a.1, by simpa using a.2⟩
theorem Bnd.sub {k l : Nat} {p q : Rat} (a : Bnd k p) (b : Bnd l q) : Bnd (k + l + 1) (p - q) := by
  rw [Rat.sub_eq_add_neg]
  exact a.add b.neg
theorem Bnd.mul {k l : Nat} {p q : Rat} (a : Bnd k p) (b : Bnd l q) : Bnd (k + l) (p * q) := by
  rw [mul_eq]
  refine Bnd.divInt (dd p q) ?_ ?_
  · rw [Int.natAbs_mul]; exact lt_mul2 a.1 b.1
  · rw [Int.natAbs_mul, Int.natAbs_natCast, Int.natAbs_natCast]; exact lt_mul2 a.2 b.2
theorem Bnd.inv {k : Nat} {p : Rat} (a : Bnd k p) (hk : 0 < k) : Bnd k p⁻¹ := by
  constructor
  · rw [Rat.num_inv, Int.natAbs_mul, Int.natAbs_natCast]
    have := a.2
    by_cases z : p.num = 0
    · simp [z, Nat.pow_pos]
    · rw [Int.natAbs_sign, if_neg z]; omega
  · rw [Rat.den_inv]
    have := a.1
    split
    · exact Nat.one_lt_two_pow (by omega)
    · exact this
theorem Bnd.pos {k : Nat} {p : Rat} (a : Bnd k p) : 0 < k := by
  rcases Nat.eq_zero_or_pos k with z | z
  · subst z
    have := a.2
    have := p.den_pos
    omega
  · exact z
theorem mulOk_nd {k l : Nat} {p q : Rat} (a : Bnd k p) (b : Bnd l q) (h : k + l ≤ 100000000) : mulOk p.num q.den = true ∧ mulOk q.num p.den = true ∧ mulOk p.den q.den = true ∧ mulOk p.num q.num = true := by
  have := a.pos
  have := b.pos
  refine ⟨mulOk_of a.1 (by simpa using b.2) (by omega) (by omega) h, mulOk_of b.1 (by simpa using a.2) (by omega) (by omega) (by omega), mulOk_of (by simpa using a.2) (by simpa using b.2) (by omega) (by omega) h, mulOk_of a.1 b.1 (by omega) (by omega) h⟩
section
variable {N : Nm} {P : Nat → Option Fd} (h : HR N P)
include h
theorem ratio_eq (n : Nat) (p q : Rat) : callN N P (n + 1) (mfid 3 mEq) [rt p, rt q] = .ok (.bl (decide (p = q))) [] := by
  rw [callE h.eq 2 rfl rfl]
  have e : decide (p = q) = (decide (p.num = q.num) && decide ((p.den : Int) = q.den)) := by
    rw [Bool.eq_iff_iff]
    simp only [decide_eq_true_eq, Bool.and_eq_true]
    exact ⟨fun z => by subst z; exact ⟨rfl, rfl⟩, fun ⟨z1, z2⟩ => Rat.ext z1 (by omega)⟩
  rw [e]
  by_cases z : p.num = q.num <;>
  simp only [f_Ratio_eq, c_Ratio_eq, rd0, rn0, st0, rd1, rn1, st1, rd2, rn2, st2, rd3, rn3, st3, rd4, rn4, st4, rd5, rn5, st5, rd6, rn6, st6, rd7, rn7, st7, rd8, rn8, st8, rd9, rn9, st9, rd10, rn10, st10, rd11, rn11, st11, rd12, rn12, st12, rd13, rn13, st13, rd14, rn14, st14, rd15, rn15, st15, rd16, rn16, st16, rd17, rn17, st17, rd18, rn18, st18, rd19, rn19, st19, rd20, rn20, st20, rd21, rn21, st21, rd22, rn22, st22, rd23, rn23, st23, rd24, rn24, st24, rd25, rn25, st25, e_int, e_str, e_bl, e_non, e_var, v_int, v_str, v_bl, v_non, v_tup, v_ins, v_scr, v_lst, v_lstF, e_tup, e_lst, e_neg, e_bin, e_not, e_ands, e_ors, e_cmp, e_chn, e_ite, e_idxv, e_idx, e_slc, e_rev, e_cal, e_new, e_mth, e_app, e_att, e_len, e_blt1, e_lenE, e_blt2, e_smt, e_pop, e_pop0, e_isi, a_one, a_more, o_one, o_more, k_nil, k_cons, l_nil, l_io, l_cons, io_lst, i_nil, i_io, i_cons, out_ok, out_ok1, out_exn, mthR_ins, new_exn, hasM_ins, x_skip, x_seq, x_exp, x_asg, x_sat, sat_obj, x_apd, isLst_lst, x_ite, x_whl, x_for, t_rng, t_it, rng_some, x_ret, r_nil, r_var, r_e, ret_int, ret_str, ret_bl, ret_non, ret_tup, ret_ins, ret_lst, ret_lstF, x_rai, x_try, x_brk, x_cnt, h_ret, h_inc, h_nil, inc_int, conD_bl, conD_int, conD_str, conD_non, lift_ok, b_int, b_add, b_sub, b_mul, b_fdiv, b_mod, cr_ok, cr_exn, i_add, i_sub, n_int, n_ins, not_bl, eqO_ok, neO_ok, c_eq_ins, c_eq_int, c_eq_str, c_eq_bl, c_ne_ins, c_ne_int, c_ne_str, c_ne_bl, c_lt, c_le, c_gt, c_ge, c_is_bl, c_isn_bl, c_is_non, c_isn_non, c_in, c_notin, fz_int, fz_str, fz_bl, fz_scr, fz_nil, fz_tup, fz_ins, fz_lst, fz_lstF, zs_nil, zs_cons, len_lst, len_tup, len_scr, s_ins, s_str, strO_ok, strO_exn, s_abs, items_lst, items_tup, isi_int, isi_bl, isi_str, isi_non, isi_tup, isi_lst, isi_ins, fin_ret, fin_nxt, fin_exn, fin_ret0, fin_nxt0, wN_nxt, wN_cnt, put_nam, wT_ok, callR_eq, eq_self, beq_self_eq_true, Res.bind, Res.bindS, Rs.bind, tst, Rs.lift, reduceCtorEq, ne_eq, not_false_eq_true, implies_true, ite_true, ite_false, Bool.false_eq_true, decide_true, decide_false, Bool.not_true, Bool.not_false, List.length_cons, List.length_nil, List.cons_append, List.nil_append, reduceIte, start0, List.map_cons, List.map_nil, List.any_cons, List.any_nil, tyD, Bool.or_true, Bool.or_false, Bool.true_or, Bool.false_or, Nat.reduceAdd, Nat.reduceSub, List.drop_succ_cons, List.drop_nil, List.drop_zero, List.replicate_succ, List.replicate_zero, List.append_nil, Option.map_none, Option.map_some, isNon, isStr, Option.isSome_some, Option.isSome_none, forall_const, false_or, or_false, or_true, true_or, not_true_eq_false, and_self, and_true, true_and, ratio_n h, ratio_d h, z, beq_self_eq_true, Bool.and_self, Bool.true_and, Bool.false_and]
theorem ratio_eqi (n : Nat) (p : Rat) (i : Int) : callN N P (n + 1) (mfid 3 mEq) [rt p, .int i] = .ok (.bl false) [] := by
  rw [callE h.eq 2 rfl rfl]
  simp only [f_Ratio_eq, c_Ratio_eq, rd0, rn0, st0, rd1, rn1, st1, rd2, rn2, st2, rd3, rn3, st3, rd4, rn4, st4, rd5, rn5, st5, rd6, rn6, st6, rd7, rn7, st7, rd8, rn8, st8, rd9, rn9, st9, rd10, rn10, st10, rd11, rn11, st11, rd12, rn12, st12, rd13, rn13, st13, rd14, rn14, st14, rd15, rn15, st15, rd16, rn16, st16, rd17, rn17, st17, rd18, rn18, st18, rd19, rn19, st19, rd20, rn20, st20, rd21, rn21, st21, rd22, rn22, st22, rd23, rn23, st23, rd24, rn24, st24, rd25, rn25, st25, e_int, e_str, e_bl, e_non, e_var, v_int, v_str, v_bl, v_non, v_tup, v_ins, v_scr, v_lst, v_lstF, e_tup, e_lst, e_neg, e_bin, e_not, e_ands, e_ors, e_cmp, e_chn, e_ite, e_idxv, e_idx, e_slc, e_rev, e_cal, e_new, e_mth, e_app, e_att, e_len, e_blt1, e_lenE, e_blt2, e_smt, e_pop, e_pop0, e_isi, a_one, a_more, o_one, o_more, k_nil, k_cons, l_nil, l_io, l_cons, io_lst, i_nil, i_io, i_cons, out_ok, out_ok1, out_exn, mthR_ins, new_exn, hasM_ins, x_skip, x_seq, x_exp, x_asg, x_sat, sat_obj, x_apd, isLst_lst, x_ite, x_whl, x_for, t_rng, t_it, rng_some, x_ret, r_nil, r_var, r_e, ret_int, ret_str, ret_bl, ret_non, ret_tup, ret_ins, ret_lst, ret_lstF, x_rai, x_try, x_brk, x_cnt, h_ret, h_inc, h_nil, inc_int, conD_bl, conD_int, conD_str, conD_non, lift_ok, b_int, b_add, b_sub, b_mul, b_fdiv, b_mod, cr_ok, cr_exn, i_add, i_sub, n_int, n_ins, not_bl, eqO_ok, neO_ok, c_eq_ins, c_eq_int, c_eq_str, c_eq_bl, c_ne_ins, c_ne_int, c_ne_str, c_ne_bl, c_lt, c_le, c_gt, c_ge, c_is_bl, c_isn_bl, c_is_non, c_isn_non, c_in, c_notin, fz_int, fz_str, fz_bl, fz_scr, fz_nil, fz_tup, fz_ins, fz_lst, fz_lstF, zs_nil, zs_cons, len_lst, len_tup, len_scr, s_ins, s_str, strO_ok, strO_exn, s_abs, items_lst, items_tup, isi_int, isi_bl, isi_str, isi_non, isi_tup, isi_lst, isi_ins, fin_ret, fin_nxt, fin_exn, fin_ret0, fin_nxt0, wN_nxt, wN_cnt, put_nam, wT_ok, callR_eq, eq_self, beq_self_eq_true, Res.bind, Res.bindS, Rs.bind, tst, Rs.lift, reduceCtorEq, ne_eq, not_false_eq_true, implies_true, ite_true, ite_false, Bool.false_eq_true, decide_true, decide_false, Bool.not_true, Bool.not_false, List.length_cons, List.length_nil, List.cons_append, List.nil_append, reduceIte, start0, List.map_cons, List.map_nil, List.any_cons, List.any_nil, tyD, Bool.or_true, Bool.or_false, Bool.true_or, Bool.false_or, Nat.reduceAdd, Nat.reduceSub, List.drop_succ_cons, List.drop_nil, List.drop_zero, List.replicate_succ, List.replicate_zero, List.append_nil, Option.map_none, Option.map_some, isNon, isStr, Option.isSome_some, Option.isSome_none, forall_const, false_or, or_false, or_true, true_or, not_true_eq_false, and_self, and_true, true_and]
theorem ratio_add {k l : Nat} (n : Nat) (p q : Rat) (a : Bnd k p) (b : Bnd l q) (hk : k + l ≤ lim9) : callN N P (n + 2) (mfid 3 mAdd) [rt p, rt q] = .ok (rt (p + q)) [] := by
  rw [callE h.add 2 rfl rfl]
  obtain ⟨m1, m2, m3, m4⟩ := mulOk_nd a b (by unfold lim9 at hk; omega)
  have hd : ((p.den : Int) * q.den).natAbs < 2 ^ lim9 := by
    rw [Int.natAbs_mul, Int.natAbs_natCast, Int.natAbs_natCast]
    exact Nat.lt_of_lt_of_le (lt_mul2 a.2 b.2) (Nat.pow_le_pow_right (by decide) hk)
  rw [add_eq]
  simp only [f_Ratio_add, c_Ratio_add, rd0, rn0, st0, rd1, rn1, st1, rd2, rn2, st2, rd3, rn3, st3, rd4, rn4, st4, rd5, rn5, st5, rd6, rn6, st6, rd7, rn7, st7, rd8, rn8, st8, rd9, rn9, st9, rd10, rn10, st10, rd11, rn11, st11, rd12, rn12, st12, rd13, rn13, st13, rd14, rn14, st14, rd15, rn15, st15, rd16, rn16, st16, rd17, rn17, st17, rd18, rn18, st18, rd19, rn19, st19, rd20, rn20, st20, rd21, rn21, st21, rd22, rn22, st22, rd23, rn23, st23, rd24, rn24, st24, rd25, rn25, st25, e_int, e_str, e_bl, e_non, e_var, v_int, v_str, v_bl, v_non, v_tup, v_ins, v_scr, v_lst, v_lstF, e_tup, e_lst, e_neg, e_bin, e_not, e_ands, e_ors, e_cmp, e_chn, e_ite, e_idxv, e_idx, e_slc, e_rev, e_cal, e_new, e_mth, e_app, e_att, e_len, e_blt1, e_lenE, e_blt2, e_smt, e_pop, e_pop0, e_isi, a_one, a_more, o_one, o_more, k_nil, k_cons, l_nil, l_io, l_cons, io_lst, i_nil, i_io, i_cons, out_ok, out_ok1, out_exn, mthR_ins, new_exn, hasM_ins, x_skip, x_seq, x_exp, x_asg, x_sat, sat_obj, x_apd, isLst_lst, x_ite, x_whl, x_for, t_rng, t_it, rng_some, x_ret, r_nil, r_var, r_e, ret_int, ret_str, ret_bl, ret_non, ret_tup, ret_ins, ret_lst, ret_lstF, x_rai, x_try, x_brk, x_cnt, h_ret, h_inc, h_nil, inc_int, conD_bl, conD_int, conD_str, conD_non, lift_ok, b_int, b_add, b_sub, b_mul, b_fdiv, b_mod, cr_ok, cr_exn, i_add, i_sub, n_int, n_ins, not_bl, eqO_ok, neO_ok, c_eq_ins, c_eq_int, c_eq_str, c_eq_bl, c_ne_ins, c_ne_int, c_ne_str, c_ne_bl, c_lt, c_le, c_gt, c_ge, c_is_bl, c_isn_bl, c_is_non, c_isn_non, c_in, c_notin, fz_int, fz_str, fz_bl, fz_scr, fz_nil, fz_tup, fz_ins, fz_lst, fz_lstF, zs_nil, zs_cons, len_lst, len_tup, len_scr, s_ins, s_str, strO_ok, strO_exn, s_abs, items_lst, items_tup, isi_int, isi_bl, isi_str, isi_non, isi_tup, isi_lst, isi_ins, fin_ret, fin_nxt, fin_exn, fin_ret0, fin_nxt0, wN_nxt, wN_cnt, put_nam, wT_ok, callR_eq, eq_self, beq_self_eq_true, Res.bind, Res.bindS, Rs.bind, tst, Rs.lift, reduceCtorEq, ne_eq, not_false_eq_true, implies_true, ite_true, ite_false, Bool.false_eq_true, decide_true, decide_false, Bool.not_true, Bool.not_false, List.length_cons, List.length_nil, List.cons_append, List.nil_append, reduceIte, start0, List.map_cons, List.map_nil, List.any_cons, List.any_nil, tyD, Bool.or_true, Bool.or_false, Bool.true_or, Bool.false_or, Nat.reduceAdd, Nat.reduceSub, List.drop_succ_cons, List.drop_nil, List.drop_zero, List.replicate_succ, List.replicate_zero, List.append_nil, Option.map_none, Option.map_some, isNon, isStr, Option.isSome_some, Option.isSome_none, forall_const, false_or, or_false, or_true, true_or, not_true_eq_false, and_self, and_true, true_and, ratio_n h, ratio_d h, i_mul _ _ m1, i_mul _ _ m2, i_mul _ _ m3, ratio_new h n _ _ (dd p q) hd]
theorem ratio_sub {k l : Nat} (n : Nat) (p q : Rat) (a : Bnd k p) (b : Bnd l q) (hk : k + l ≤ lim9) : callN N P (n + 2) (mfid 3 mSub) [rt p, rt q] = .ok (rt (p - q)) [] := by
  rw [callE h.sub 2 rfl rfl]
  obtain ⟨m1, m2, m3, m4⟩ := mulOk_nd a b (by unfold lim9 at hk; omega)
  have hd : ((p.den : Int) * q.den).natAbs < 2 ^ lim9 := by
    rw [Int.natAbs_mul, Int.natAbs_natCast, Int.natAbs_natCast]
    exact Nat.lt_of_lt_of_le (lt_mul2 a.2 b.2) (Nat.pow_le_pow_right (by decide) hk)
  rw [sub_eq]
  simp only [f_Ratio_sub, c_Ratio_sub, rd0, rn0, st0, rd1, rn1, st1, rd2, rn2, st2, rd3, rn3, st3, rd4, rn4, st4, rd5, rn5, st5, rd6, rn6, st6, rd7, rn7, st7, rd8, rn8, st8, rd9, rn9, st9, rd10, rn10, st10, rd11, rn11, st11, rd12, rn12, st12, rd13, rn13, st13, rd14, rn14, st14, rd15, rn15, st15, rd16, rn16, st16, rd17, rn17, st17, rd18, rn18, st18, rd19, rn19, st19, rd20, rn20, st20, rd21, rn21, st21, rd22, rn22, st22, rd23, rn23, st23, rd24, rn24, st24, rd25, rn25, st25, e_int, e_str, e_bl, e_non, e_var, v_int, v_str, v_bl, v_non, v_tup, v_ins, v_scr, v_lst, v_lstF, e_tup, e_lst, e_neg, e_bin, e_not, e_ands, e_ors, e_cmp, e_chn, e_ite, e_idxv, e_idx, e_slc, e_rev, e_cal, e_new, e_mth, e_app, e_att, e_len, e_blt1, e_lenE, e_blt2, e_smt, e_pop, e_pop0, e_isi, a_one, a_more, o_one, o_more, k_nil, k_cons, l_nil, l_io, l_cons, io_lst, i_nil, i_io, i_cons, out_ok, out_ok1, out_exn, mthR_ins, new_exn, hasM_ins, x_skip, x_seq, x_exp, x_asg, x_sat, sat_obj, x_apd, isLst_lst, x_ite, x_whl, x_for, t_rng, t_it, rng_some, x_ret, r_nil, r_var, r_e, ret_int, ret_str, ret_bl, ret_non, ret_tup, ret_ins, ret_lst, ret_lstF, x_rai, x_try, x_brk, x_cnt, h_ret, h_inc, h_nil, inc_int, conD_bl, conD_int, conD_str, conD_non, lift_ok, b_int, b_add, b_sub, b_mul, b_fdiv, b_mod, cr_ok, cr_exn, i_add, i_sub, n_int, n_ins, not_bl, eqO_ok, neO_ok, c_eq_ins, c_eq_int, c_eq_str, c_eq_bl, c_ne_ins, c_ne_int, c_ne_str, c_ne_bl, c_lt, c_le, c_gt, c_ge, c_is_bl, c_isn_bl, c_is_non, c_isn_non, c_in, c_notin, fz_int, fz_str, fz_bl, fz_scr, fz_nil, fz_tup, fz_ins, fz_lst, fz_lstF, zs_nil, zs_cons, len_lst, len_tup, len_scr, s_ins, s_str, strO_ok, strO_exn, s_abs, items_lst, items_tup, isi_int, isi_bl, isi_str, isi_non, isi_tup, isi_lst, isi_ins, fin_ret, fin_nxt, fin_exn, fin_ret0, fin_nxt0, wN_nxt, wN_cnt, put_nam, wT_ok, callR_eq, eq_self, beq_self_eq_true, Res.bind, Res.bindS, Rs.bind, tst, Rs.lift, reduceCtorEq, ne_eq, not_false_eq_true, implies_true, ite_true, ite_false, Bool.false_eq_true, decide_true, decide_false, Bool.not_true, Bool.not_false, List.length_cons, List.length_nil, List.cons_append, List.nil_append, reduceIte, start0, List.map_cons, List.map_nil, List.any_cons, List.any_nil, tyD, Bool.or_true, Bool.or_false, Bool.true_or, Bool.false_or, Nat.reduceAdd, Nat.reduceSub, List.drop_succ_cons, List.drop_nil, List.drop_zero, List.replicate_succ, List.replicate_zero, List.append_nil, Option.map_none, Option.map_some, isNon, isStr, Option.isSome_some, Option.isSome_none, forall_const, false_or, or_false, or_true, true_or, not_true_eq_false, and_self, and_true, true_and, ratio_n h, ratio_d h, i_mul _ _ m1, i_mul _ _ m2, i_mul _ _ m3, ratio_new h n _ _ (dd p q) hd]
theorem ratio_mul {k l : Nat} (n : Nat) (p q : Rat) (a : Bnd k p) (b : Bnd l q) (hk : k + l ≤ lim9) : callN N P (n + 2) (mfid 3 mMul) [rt p, rt q] = .ok (rt (p * q)) [] := by
  rw [callE h.mul 2 rfl rfl]
  obtain ⟨m1, m2, m3, m4⟩ := mulOk_nd a b (by unfold lim9 at hk; omega)
  have hd : ((p.den : Int) * q.den).natAbs < 2 ^ lim9 := by
    rw [Int.natAbs_mul, Int.natAbs_natCast, Int.natAbs_natCast]
    exact Nat.lt_of_lt_of_le (lt_mul2 a.2 b.2) (Nat.pow_le_pow_right (by decide) hk)
  rw [mul_eq]
  simp only [f_Ratio_mul, c_Ratio_mul, rd0, rn0, st0, rd1, rn1, st1, rd2, rn2, st2, rd3, rn3, st3, rd4, rn4, st4, rd5, rn5, st5, rd6, rn6, st6, rd7, rn7, st7, rd8, rn8, st8, rd9, rn9, st9, rd10, rn10, st10, rd11, rn11, st11, rd12, rn12, st12, rd13, rn13, st13, rd14, rn14, st14, rd15, rn15, st15, rd16, rn16, st16, rd17, rn17, st17, rd18, rn18, st18, rd19, rn19, st19, rd20, rn20, st20, rd21, rn21, st21, rd22, rn22, st22, rd23, rn23, st23, rd24, rn24, st24, rd25, rn25, st25, e_int, e_str, e_bl, e_non, e_var, v_int, v_str, v_bl, v_non, v_tup, v_ins, v_scr, v_lst, v_lstF, e_tup, e_lst, e_neg, e_bin, e_not, e_ands, e_ors, e_cmp, e_chn, e_ite, e_idxv, e_idx, e_slc, e_rev, e_cal, e_new, e_mth, e_app, e_att, e_len, e_blt1, e_lenE, e_blt2, e_smt, e_pop, e_pop0, e_isi, a_one, a_more, o_one, o_more, k_nil, k_cons, l_nil, l_io, l_cons, io_lst, i_nil, i_io, i_cons, out_ok, out_ok1, out_exn, mthR_ins, new_exn, hasM_ins, x_skip, x_seq, x_exp, x_asg, x_sat, sat_obj, x_apd, isLst_lst, x_ite, x_whl, x_for, t_rng, t_it, rng_some, x_ret, r_nil, r_var, r_e, ret_int, ret_str, ret_bl, ret_non, ret_tup, ret_ins, ret_lst, ret_lstF, x_rai, x_try, x_brk, x_cnt, h_ret, h_inc, h_nil, inc_int, conD_bl, conD_int, conD_str, conD_non, lift_ok, b_int, b_add, b_sub, b_mul, b_fdiv, b_mod, cr_ok, cr_exn, i_add, i_sub, n_int, n_ins, not_bl, eqO_ok, neO_ok, c_eq_ins, c_eq_int, c_eq_str, c_eq_bl, c_ne_ins, c_ne_int, c_ne_str, c_ne_bl, c_lt, c_le, c_gt, c_ge, c_is_bl, c_isn_bl, c_is_non, c_isn_non, c_in, c_notin, fz_int, fz_str, fz_bl, fz_scr, fz_nil, fz_tup, fz_ins, fz_lst, fz_lstF, zs_nil, zs_cons, len_lst, len_tup, len_scr, s_ins, s_str, strO_ok, strO_exn, s_abs, items_lst, items_tup, isi_int, isi_bl, isi_str, isi_non, isi_tup, isi_lst, isi_ins, fin_ret, fin_nxt, fin_exn, fin_ret0, fin_nxt0, wN_nxt, wN_cnt, put_nam, wT_ok, callR_eq, eq_self, beq_self_eq_true, Res.bind, Res.bindS, Rs.bind, tst, Rs.lift, reduceCtorEq, ne_eq, not_false_eq_true, implies_true, ite_true, ite_false, Bool.false_eq_true, decide_true, decide_false, Bool.not_true, Bool.not_false, List.length_cons, List.length_nil, List.cons_append, List.nil_append, reduceIte, start0, List.map_cons, List.map_nil, List.any_cons, List.any_nil, tyD, Bool.or_true, Bool.or_false, Bool.true_or, Bool.false_or, Nat.reduceAdd, Nat.reduceSub, List.drop_succ_cons, List.drop_nil, List.drop_zero, List.replicate_succ, List.replicate_zero, List.append_nil, Option.map_none, Option.map_some, isNon, isStr, Option.isSome_some, Option.isSome_none, forall_const, false_or, or_false, or_true, true_or, not_true_eq_false, and_self, and_true, true_and, ratio_n h, ratio_d h, i_mul _ _ m3, i_mul _ _ m4, ratio_new h n _ _ (dd p q) hd]
omit h in
theorem den_ne (p : Rat) : (p.den : Int) ≠ 0 := by
  have := p.den_nz
  omega
theorem ratio_neg {k : Nat} (n : Nat) (p : Rat) (a : Bnd k p) (hk : k ≤ lim9) : callN N P (n + 2) (mfid 3 mNeg) [rt p] = .ok (rt (-p)) [] := by
  rw [callE h.neg 1 rfl rfl]
  have hd : ((p.den : Int)).natAbs < 2 ^ lim9 := by
    rw [Int.natAbs_natCast]
    exact Nat.lt_of_lt_of_le a.2 (Nat.pow_le_pow_right (by decide) hk)
  rw [neg_eq]
  simp only [f_Ratio_neg, c_Ratio_neg, rd0, rn0, st0, rd1, rn1, st1, rd2, rn2, st2, rd3, rn3, st3, rd4, rn4, st4, rd5, rn5, st5, rd6, rn6, st6, rd7, rn7, st7, rd8, rn8, st8, rd9, rn9, st9, rd10, rn10, st10, rd11, rn11, st11, rd12, rn12, st12, rd13, rn13, st13, rd14, rn14, st14, rd15, rn15, st15, rd16, rn16, st16, rd17, rn17, st17, rd18, rn18, st18, rd19, rn19, st19, rd20, rn20, st20, rd21, rn21, st21, rd22, rn22, st22, rd23, rn23, st23, rd24, rn24, st24, rd25, rn25, st25, e_int, e_str, e_bl, e_non, e_var, v_int, v_str, v_bl, v_non, v_tup, v_ins, v_scr, v_lst, v_lstF, e_tup, e_lst, e_neg, e_bin, e_not, e_ands, e_ors, e_cmp, e_chn, e_ite, e_idxv, e_idx, e_slc, e_rev, e_cal, e_new, e_mth, e_app, e_att, e_len, e_blt1, e_lenE, e_blt2, e_smt, e_pop, e_pop0, e_isi, a_one, a_more, o_one, o_more, k_nil, k_cons, l_nil, l_io, l_cons, io_lst, i_nil, i_io, i_cons, out_ok, out_ok1, out_exn, mthR_ins, new_exn, hasM_ins, x_skip, x_seq, x_exp, x_asg, x_sat, sat_obj, x_apd, isLst_lst, x_ite, x_whl, x_for, t_rng, t_it, rng_some, x_ret, r_nil, r_var, r_e, ret_int, ret_str, ret_bl, ret_non, ret_tup, ret_ins, ret_lst, ret_lstF, x_rai, x_try, x_brk, x_cnt, h_ret, h_inc, h_nil, inc_int, conD_bl, conD_int, conD_str, conD_non, lift_ok, b_int, b_add, b_sub, b_mul, b_fdiv, b_mod, cr_ok, cr_exn, i_add, i_sub, n_int, n_ins, not_bl, eqO_ok, neO_ok, c_eq_ins, c_eq_int, c_eq_str, c_eq_bl, c_ne_ins, c_ne_int, c_ne_str, c_ne_bl, c_lt, c_le, c_gt, c_ge, c_is_bl, c_isn_bl, c_is_non, c_isn_non, c_in, c_notin, fz_int, fz_str, fz_bl, fz_scr, fz_nil, fz_tup, fz_ins, fz_lst, fz_lstF, zs_nil, zs_cons, len_lst, len_tup, len_scr, s_ins, s_str, strO_ok, strO_exn, s_abs, items_lst, items_tup, isi_int, isi_bl, isi_str, isi_non, isi_tup, isi_lst, isi_ins, fin_ret, fin_nxt, fin_exn, fin_ret0, fin_nxt0, wN_nxt, wN_cnt, put_nam, wT_ok, callR_eq, eq_self, beq_self_eq_true, Res.bind, Res.bindS, Rs.bind, tst, Rs.lift, reduceCtorEq, ne_eq, not_false_eq_true, implies_true, ite_true, ite_false, Bool.false_eq_true, decide_true, decide_false, Bool.not_true, Bool.not_false, List.length_cons, List.length_nil, List.cons_append, List.nil_append, reduceIte, start0, List.map_cons, List.map_nil, List.any_cons, List.any_nil, tyD, Bool.or_true, Bool.or_false, Bool.true_or, Bool.false_or, Nat.reduceAdd, Nat.reduceSub, List.drop_succ_cons, List.drop_nil, List.drop_zero, List.replicate_succ, List.replicate_zero, List.append_nil, Option.map_none, Option.map_some, isNon, isStr, Option.isSome_some, Option.isSome_none, forall_const, false_or, or_false, or_true, true_or, not_true_eq_false, and_self, and_true, true_and, ratio_n h, ratio_d h, ratio_new h n _ _ (den_ne p) hd]
theorem ratio_bad (n : Nat) (p : Rat) (c : Nat) (l : List D) (hc : c ≠ 3) : callN N P (n + 1) (mfid 3 mAdd) [rt p, .ins c l] = .exn xMal ∧ callN N P (n + 1) (mfid 3 mSub) [rt p, .ins c l] = .exn xMal ∧ callN N P (n + 1) (mfid 3 mMul) [rt p, .ins c l] = .exn xMal := by
  have e : decide (c = 3) = false := decide_eq_false hc
  refine ⟨?_, ?_, ?_⟩
  · rw [callE h.add 2 rfl rfl]
    simp only [f_Ratio_add, c_Ratio_add, rd0, rn0, st0, rd1, rn1, st1, rd2, rn2, st2, rd3, rn3, st3, rd4, rn4, st4, rd5, rn5, st5, rd6, rn6, st6, rd7, rn7, st7, rd8, rn8, st8, rd9, rn9, st9, rd10, rn10, st10, rd11, rn11, st11, rd12, rn12, st12, rd13, rn13, st13, rd14, rn14, st14, rd15, rn15, st15, rd16, rn16, st16, rd17, rn17, st17, rd18, rn18, st18, rd19, rn19, st19, rd20, rn20, st20, rd21, rn21, st21, rd22, rn22, st22, rd23, rn23, st23, rd24, rn24, st24, rd25, rn25, st25, e_int, e_str, e_bl, e_non, e_var, v_int, v_str, v_bl, v_non, v_tup, v_ins, v_scr, v_lst, v_lstF, e_tup, e_lst, e_neg, e_bin, e_not, e_ands, e_ors, e_cmp, e_chn, e_ite, e_idxv, e_idx, e_slc, e_rev, e_cal, e_new, e_mth, e_app, e_att, e_len, e_blt1, e_lenE, e_blt2, e_smt, e_pop, e_pop0, e_isi, a_one, a_more, o_one, o_more, k_nil, k_cons, l_nil, l_io, l_cons, io_lst, i_nil, i_io, i_cons, out_ok, out_ok1, out_exn, mthR_ins, new_exn, hasM_ins, x_skip, x_seq, x_exp, x_asg, x_sat, sat_obj, x_apd, isLst_lst, x_ite, x_whl, x_for, t_rng, t_it, rng_some, x_ret, r_nil, r_var, r_e, ret_int, ret_str, ret_bl, ret_non, ret_tup, ret_ins, ret_lst, ret_lstF, x_rai, x_try, x_brk, x_cnt, h_ret, h_inc, h_nil, inc_int, conD_bl, conD_int, conD_str, conD_non, lift_ok, b_int, b_add, b_sub, b_mul, b_fdiv, b_mod, cr_ok, cr_exn, i_add, i_sub, n_int, n_ins, not_bl, eqO_ok, neO_ok, c_eq_ins, c_eq_int, c_eq_str, c_eq_bl, c_ne_ins, c_ne_int, c_ne_str, c_ne_bl, c_lt, c_le, c_gt, c_ge, c_is_bl, c_isn_bl, c_is_non, c_isn_non, c_in, c_notin, fz_int, fz_str, fz_bl, fz_scr, fz_nil, fz_tup, fz_ins, fz_lst, fz_lstF, zs_nil, zs_cons, len_lst, len_tup, len_scr, s_ins, s_str, strO_ok, strO_exn, s_abs, items_lst, items_tup, isi_int, isi_bl, isi_str, isi_non, isi_tup, isi_lst, isi_ins, fin_ret, fin_nxt, fin_exn, fin_ret0, fin_nxt0, wN_nxt, wN_cnt, put_nam, wT_ok, callR_eq, eq_self, beq_self_eq_true, Res.bind, Res.bindS, Rs.bind, tst, Rs.lift, reduceCtorEq, ne_eq, not_false_eq_true, implies_true, ite_true, ite_false, Bool.false_eq_true, decide_true, decide_false, Bool.not_true, Bool.not_false, List.length_cons, List.length_nil, List.cons_append, List.nil_append, reduceIte, start0, List.map_cons, List.map_nil, List.any_cons, List.any_nil, tyD, Bool.or_true, Bool.or_false, Bool.true_or, Bool.false_or, Nat.reduceAdd, Nat.reduceSub, List.drop_succ_cons, List.drop_nil, List.drop_zero, List.replicate_succ, List.replicate_zero, List.append_nil, Option.map_none, Option.map_some, isNon, isStr, Option.isSome_some, Option.isSome_none, forall_const, false_or, or_false, or_true, true_or, not_true_eq_false, and_self, and_true, true_and, e, h.x2]
  · rw [callE h.sub 2 rfl rfl]
    simp only [f_Ratio_sub, c_Ratio_sub, rd0, rn0, st0, rd1, rn1, st1, rd2, rn2, st2, rd3, rn3, st3, rd4, rn4, st4, rd5, rn5, st5, rd6, rn6, st6, rd7, rn7, st7, rd8, rn8, st8, rd9, rn9, st9, rd10, rn10, st10, rd11, rn11, st11, rd12, rn12, st12, rd13, rn13, st13, rd14, rn14, st14, rd15, rn15, st15, rd16, rn16, st16, rd17, rn17, st17, rd18, rn18, st18, rd19, rn19, st19, rd20, rn20, st20, rd21, rn21, st21, rd22, rn22, st22, rd23, rn23, st23, rd24, rn24, st24, rd25, rn25, st25, e_int, e_str, e_bl, e_non, e_var, v_int, v_str, v_bl, v_non, v_tup, v_ins, v_scr, v_lst, v_lstF, e_tup, e_lst, e_neg, e_bin, e_not, e_ands, e_ors, e_cmp, e_chn, e_ite, e_idxv, e_idx, e_slc, e_rev, e_cal, e_new, e_mth, e_app, e_att, e_len, e_blt1, e_lenE, e_blt2, e_smt, e_pop, e_pop0, e_isi, a_one, a_more, o_one, o_more, k_nil, k_cons, l_nil, l_io, l_cons, io_lst, i_nil, i_io, i_cons, out_ok, out_ok1, out_exn, mthR_ins, new_exn, hasM_ins, x_skip, x_seq, x_exp, x_asg, x_sat, sat_obj, x_apd, isLst_lst, x_ite, x_whl, x_for, t_rng, t_it, rng_some, x_ret, r_nil, r_var, r_e, ret_int, ret_str, ret_bl, ret_non, ret_tup, ret_ins, ret_lst, ret_lstF, x_rai, x_try, x_brk, x_cnt, h_ret, h_inc, h_nil, inc_int, conD_bl, conD_int, conD_str, conD_non, lift_ok, b_int, b_add, b_sub, b_mul, b_fdiv, b_mod, cr_ok, cr_exn, i_add, i_sub, n_int, n_ins, not_bl, eqO_ok, neO_ok, c_eq_ins, c_eq_int, c_eq_str, c_eq_bl, c_ne_ins, c_ne_int, c_ne_str, c_ne_bl, c_lt, c_le, c_gt, c_ge, c_is_bl, c_isn_bl, c_is_non, c_isn_non, c_in, c_notin, fz_int, fz_str, fz_bl, fz_scr, fz_nil, fz_tup, fz_ins, fz_lst, fz_lstF, zs_nil, zs_cons, len_lst, len_tup, len_scr, s_ins, s_str, strO_ok, strO_exn, s_abs, items_lst, items_tup, isi_int, isi_bl, isi_str, isi_non, isi_tup, isi_lst, isi_ins, fin_ret, fin_nxt, fin_exn, fin_ret0, fin_nxt0, wN_nxt, wN_cnt, put_nam, wT_ok, callR_eq, eq_self, beq_self_eq_true, Res.bind, Res.bindS, Rs.bind, tst, Rs.lift, reduceCtorEq, ne_eq, not_false_eq_true, implies_true, ite_true, ite_false, Bool.false_eq_true, decide_true, decide_false, Bool.not_true, Bool.not_false, List.length_cons, List.length_nil, List.cons_append, List.nil_append, reduceIte, start0, List.map_cons, List.map_nil, List.any_cons, List.any_nil, tyD, Bool.or_true, Bool.or_false, Bool.true_or, Bool.false_or, Nat.reduceAdd, Nat.reduceSub, List.drop_succ_cons, List.drop_nil, List.drop_zero, List.replicate_succ, List.replicate_zero, List.append_nil, Option.map_none, Option.map_some, isNon, isStr, Option.isSome_some, Option.isSome_none, forall_const, false_or, or_false, or_true, true_or, not_true_eq_false, and_self, and_true, true_and, e, h.x2]
  · rw [callE h.mul 2 rfl rfl]
    simp only [f_Ratio_mul, c_Ratio_mul, rd0, rn0, st0, rd1, rn1, st1, rd2, rn2, st2, rd3, rn3, st3, rd4, rn4, st4, rd5, rn5, st5, rd6, rn6, st6, rd7, rn7, st7, rd8, rn8, st8, rd9, rn9, st9, rd10, rn10, st10, rd11, rn11, st11, rd12, rn12, st12, rd13, rn13, st13, rd14, rn14, st14, rd15, rn15, st15, rd16, rn16, st16, rd17, rn17, st17, rd18, rn18, st18, rd19, rn19, st19, rd20, rn20, st20, rd21, rn21, st21, rd22, rn22, st22, rd23, rn23, st23, rd24, rn24, st24, rd25, rn25, st25, e_int, e_str, e_bl, e_non, e_var, v_int, v_str, v_bl, v_non, v_tup, v_ins, v_scr, v_lst, v_lstF, e_tup, e_lst, e_neg, e_bin, e_not, e_ands, e_ors, e_cmp, e_chn, e_ite, e_idxv, e_idx, e_slc, e_rev, e_cal, e_new, e_mth, e_app, e_att, e_len, e_blt1, e_lenE, e_blt2, e_smt, e_pop, e_pop0, e_isi, a_one, a_more, o_one, o_more, k_nil, k_cons, l_nil, l_io, l_cons, io_lst, i_nil, i_io, i_cons, out_ok, out_ok1, out_exn, mthR_ins, new_exn, hasM_ins, x_skip, x_seq, x_exp, x_asg, x_sat, sat_obj, x_apd, isLst_lst, x_ite, x_whl, x_for, t_rng, t_it, rng_some, x_ret, r_nil, r_var, r_e, ret_int, ret_str, ret_bl, ret_non, ret_tup, ret_ins, ret_lst, ret_lstF, x_rai, x_try, x_brk, x_cnt, h_ret, h_inc, h_nil, inc_int, conD_bl, conD_int, conD_str, conD_non, lift_ok, b_int, b_add, b_sub, b_mul, b_fdiv, b_mod, cr_ok, cr_exn, i_add, i_sub, n_int, n_ins, not_bl, eqO_ok, neO_ok, c_eq_ins, c_eq_int, c_eq_str, c_eq_bl, c_ne_ins, c_ne_int, c_ne_str, c_ne_bl, c_lt, c_le, c_gt, c_ge, c_is_bl, c_isn_bl, c_is_non, c_isn_non, c_in, c_notin, fz_int, fz_str, fz_bl, fz_scr, fz_nil, fz_tup, fz_ins, fz_lst, fz_lstF, zs_nil, zs_cons, len_lst, len_tup, len_scr, s_ins, s_str, strO_ok, strO_exn, s_abs, items_lst, items_tup, isi_int, isi_bl, isi_str, isi_non, isi_tup, isi_lst, isi_ins, fin_ret, fin_nxt, fin_exn, fin_ret0, fin_nxt0, wN_nxt, wN_cnt, put_nam, wT_ok, callR_eq, eq_self, beq_self_eq_true, Res.bind, Res.bindS, Rs.bind, tst, Rs.lift, reduceCtorEq, ne_eq, not_false_eq_true, implies_true, ite_true, ite_false, Bool.false_eq_true, decide_true, decide_false, Bool.not_true, Bool.not_false, List.length_cons, List.length_nil, List.cons_append, List.nil_append, reduceIte, start0, List.map_cons, List.map_nil, List.any_cons, List.any_nil, tyD, Bool.or_true, Bool.or_false, Bool.true_or, Bool.false_or, Nat.reduceAdd, Nat.reduceSub, List.drop_succ_cons, List.drop_nil, List.drop_zero, List.replicate_succ, List.replicate_zero, List.append_nil, Option.map_none, Option.map_some, isNon, isStr, Option.isSome_some, Option.isSome_none, forall_const, false_or, or_false, or_true, true_or, not_true_eq_false, and_self, and_true, true_and, e, h.x2]
end
end Z

namespace Z
open PySem L2
def Nums (l : List Int) : Prop := ∀ x ∈ l, 0 ≤ x ∧ x < 1009
theorem Nums.snoc {l : List Int} {x : Int} (h : Nums l) (hx : 0 ≤ x ∧ x < 1009) : Nums (l ++ [x]) := by
  intro y hy
  rcases List.mem_append.mp hy with z | z
  · exact h y z
  · rw [List.mem_singleton.mp z]; exact hx
theorem m1009 (c : Int) : 0 ≤ c.fmod 1009 ∧ c.fmod 1009 < 1009 := ⟨Int.fmod_nonneg_of_pos _ (by decide), Int.fmod_lt_of_pos _ (by decide)⟩
theorem mulOk_r (i j : Int) (h : decide (j.natAbs < 2 ^ 64) = true) : mulOk i j = true := by
  unfold mulOk
  rw [h]
  simp
theorem mulOk_l (i j : Int) (h : decide (i.natAbs < 2 ^ 64) = true) : mulOk i j = true := by
  unfold mulOk
  rw [h]
  simp
theorem divOk_s (i j : Int) (h : (decide (j ≠ 0) && decide (j.natAbs.log2 < 8000)) = true) : divOk i j = true := by
  simp only [Bool.and_eq_true, decide_eq_true_eq] at h
  unfold divOk Builtin.divisionGoesByPylong
  have e : (j == 0) = false := by simpa using h.1
  simp only [e, decide_eq_true h.1, Bool.true_and, Bool.not_eq_true', Bool.and_eq_false_iff, decide_eq_false_iff_not]
  left
  simp only [Bool.false_eq_true, if_false]
  omega
theorem snocI (l : List Int) (x : Int) : l.map D.int ++ [D.int x] = (l ++ [x]).map D.int := by simp
theorem item_scr (ns : List Int) (k : Nat) (h : k < ns.length) : idxV (some (.scr ns)) (.int k) = .ok (.int ns[k]) := by
  show idxD (.scr ns) (.int k) = _
  unfold idxD item ixN
  simp [h, isF]
structure HL (N : Nm) (P : Nat → Option Fd) : Prop where
  num : P 500 = some f_law_numbers
  nxt : P 501 = some f_law_next
section
variable {N : Nm} {P : Nat → Option Fd} (h : HL N P)
theorem p1018 : intD .Pow 10 18 = .ok (.int 1000000000000000000) := by rfl
theorem num_in1 {C : Calls} (s k i m : Option D) (B : Nat) (hB : B < lim) (r : List D) (l : List Int) (c : Int) (t : Option D) (hl : Nums l) (hr : l.length + r.length ≤ B) :
    ∃ l' c' t', loopF (Tg.put (.nam 4)) (fun e => exec N C b1_law_numbers e) r [s, some (.lst true (l.map .int)), k, some (.int c), t, i, m] = .nxt [s, some (.lst true (l'.map .int)), k, some (.int c'), t', i, m] ∧ Nums l' ∧ l'.length ≤ B := by
  obtain ⟨e', h1, l', c', t', rfl, h2, h3⟩ := for_nxt (N := N) (C := C) (put := Tg.put (.nam 4)) (b := b1_law_numbers) (fun r e => ∃ l c t, e = [s, some (.lst true (l.map .int)), k, some (.int c), t, i, m] ∧ Nums l ∧ l.length + r.length ≤ B) (fun d r e q => by
    obtain ⟨l, c, t, rfl, hl, hr⟩ := q
    simp only [List.length_cons] at hr
    have hlen : (l.map D.int).length < lim := by simp; omega
    by_cases z : 0 < c
    · refine ⟨_, [s, some (.lst true ((l ++ [c.fmod 1009]).map .int)), k, some (.int (c.fdiv 1009)), some d, i, m], rfl, ?_, _, _, _, rfl, hl.snoc (m1009 c), by simp; omega⟩
      simp only [b1_law_numbers, rd0, rn0, st0, rd1, rn1, st1, rd2, rn2, st2, rd3, rn3, st3, rd4, rn4, st4, rd5, rn5, st5, rd6, rn6, st6, rd7, rn7, st7, rd8, rn8, st8, rd9, rn9, st9, rd10, rn10, st10, rd11, rn11, st11, rd12, rn12, st12, rd13, rn13, st13, rd14, rn14, st14, rd15, rn15, st15, rd16, rn16, st16, rd17, rn17, st17, rd18, rn18, st18, rd19, rn19, st19, rd20, rn20, st20, rd21, rn21, st21, rd22, rn22, st22, rd23, rn23, st23, rd24, rn24, st24, rd25, rn25, st25, e_int, e_str, e_bl, e_non, e_var, v_int, v_str, v_bl, v_non, v_tup, v_ins, v_scr, v_lst, v_lstF, e_tup, e_lst, e_neg, e_bin, e_not, e_ands, e_ors, e_cmp, e_chn, e_ite, e_idxv, e_idx, e_slc, e_rev, e_cal, e_new, e_mth, e_app, e_att, e_len, e_blt1, e_lenE, e_blt2, e_smt, e_pop, e_pop0, e_isi, a_one, a_more, o_one, o_more, k_nil, k_cons, l_nil, l_io, l_cons, io_lst, i_nil, i_io, i_cons, out_ok, out_ok1, out_exn, mthR_ins, new_exn, hasM_ins, x_skip, x_seq, x_exp, x_asg, x_sat, sat_obj, x_apd, isLst_lst, x_ite, x_whl, x_for, t_rng, t_it, rng_some, x_ret, r_nil, r_var, r_e, ret_int, ret_str, ret_bl, ret_non, ret_tup, ret_ins, ret_lst, ret_lstF, x_rai, x_try, x_brk, x_cnt, h_ret, h_inc, h_nil, inc_int, conD_bl, conD_int, conD_str, conD_non, lift_ok, b_int, b_add, b_sub, b_mul, b_fdiv, b_mod, cr_ok, cr_exn, i_add, i_sub, n_int, n_ins, not_bl, eqO_ok, neO_ok, c_eq_ins, c_eq_int, c_eq_str, c_eq_bl, c_ne_ins, c_ne_int, c_ne_str, c_ne_bl, c_lt, c_le, c_gt, c_ge, c_is_bl, c_isn_bl, c_is_non, c_isn_non, c_in, c_notin, fz_int, fz_str, fz_bl, fz_scr, fz_nil, fz_tup, fz_ins, fz_lst, fz_lstF, zs_nil, zs_cons, len_lst, len_tup, len_scr, s_ins, s_str, strO_ok, strO_exn, s_abs, items_lst, items_tup, isi_int, isi_bl, isi_str, isi_non, isi_tup, isi_lst, isi_ins, fin_ret, fin_nxt, fin_exn, fin_ret0, fin_nxt0, wN_nxt, wN_cnt, put_nam, wT_ok, callR_eq, eq_self, beq_self_eq_true, Res.bind, Res.bindS, Rs.bind, tst, Rs.lift, reduceCtorEq, ne_eq, not_false_eq_true, implies_true, ite_true, ite_false, Bool.false_eq_true, decide_true, decide_false, Bool.not_true, Bool.not_false, List.length_cons, List.length_nil, List.cons_append, List.nil_append, reduceIte, start0, List.map_cons, List.map_nil, List.any_cons, List.any_nil, tyD, Bool.or_true, Bool.or_false, Bool.true_or, Bool.false_or, Nat.reduceAdd, Nat.reduceSub, List.drop_succ_cons, List.drop_nil, List.drop_zero, List.replicate_succ, List.replicate_zero, List.append_nil, Option.map_none, Option.map_some, isNon, isStr, Option.isSome_some, Option.isSome_none, forall_const, false_or, or_false, or_true, true_or, not_true_eq_false, and_self, and_true, true_and, z, i_mod _ _ (show (1009 : Int) ≠ 0 by decide), i_div _ _ (divOk_s c 1009 (by decide)), apd_lst _ _ _ _ hlen, snocI]
    · refine ⟨_, [s, some (.lst true (l.map .int)), k, some (.int c), some d, i, m], rfl, ?_, _, _, _, rfl, hl, by omega⟩
      simp only [b1_law_numbers, rd0, rn0, st0, rd1, rn1, st1, rd2, rn2, st2, rd3, rn3, st3, rd4, rn4, st4, rd5, rn5, st5, rd6, rn6, st6, rd7, rn7, st7, rd8, rn8, st8, rd9, rn9, st9, rd10, rn10, st10, rd11, rn11, st11, rd12, rn12, st12, rd13, rn13, st13, rd14, rn14, st14, rd15, rn15, st15, rd16, rn16, st16, rd17, rn17, st17, rd18, rn18, st18, rd19, rn19, st19, rd20, rn20, st20, rd21, rn21, st21, rd22, rn22, st22, rd23, rn23, st23, rd24, rn24, st24, rd25, rn25, st25, e_int, e_str, e_bl, e_non, e_var, v_int, v_str, v_bl, v_non, v_tup, v_ins, v_scr, v_lst, v_lstF, e_tup, e_lst, e_neg, e_bin, e_not, e_ands, e_ors, e_cmp, e_chn, e_ite, e_idxv, e_idx, e_slc, e_rev, e_cal, e_new, e_mth, e_app, e_att, e_len, e_blt1, e_lenE, e_blt2, e_smt, e_pop, e_pop0, e_isi, a_one, a_more, o_one, o_more, k_nil, k_cons, l_nil, l_io, l_cons, io_lst, i_nil, i_io, i_cons, out_ok, out_ok1, out_exn, mthR_ins, new_exn, hasM_ins, x_skip, x_seq, x_exp, x_asg, x_sat, sat_obj, x_apd, isLst_lst, x_ite, x_whl, x_for, t_rng, t_it, rng_some, x_ret, r_nil, r_var, r_e, ret_int, ret_str, ret_bl, ret_non, ret_tup, ret_ins, ret_lst, ret_lstF, x_rai, x_try, x_brk, x_cnt, h_ret, h_inc, h_nil, inc_int, conD_bl, conD_int, conD_str, conD_non, lift_ok, b_int, b_add, b_sub, b_mul, b_fdiv, b_mod, cr_ok, cr_exn, i_add, i_sub, n_int, n_ins, not_bl, eqO_ok, neO_ok, c_eq_ins, c_eq_int, c_eq_str, c_eq_bl, c_ne_ins, c_ne_int, c_ne_str, c_ne_bl, c_lt, c_le, c_gt, c_ge, c_is_bl, c_isn_bl, c_is_non, c_isn_non, c_in, c_notin, fz_int, fz_str, fz_bl, fz_scr, fz_nil, fz_tup, fz_ins, fz_lst, fz_lstF, zs_nil, zs_cons, len_lst, len_tup, len_scr, s_ins, s_str, strO_ok, strO_exn, s_abs, items_lst, items_tup, isi_int, isi_bl, isi_str, isi_non, isi_tup, isi_lst, isi_ins, fin_ret, fin_nxt, fin_exn, fin_ret0, fin_nxt0, wN_nxt, wN_cnt, put_nam, wT_ok, callR_eq, eq_self, beq_self_eq_true, Res.bind, Res.bindS, Rs.bind, tst, Rs.lift, reduceCtorEq, ne_eq, not_false_eq_true, implies_true, ite_true, ite_false, Bool.false_eq_true, decide_true, decide_false, Bool.not_true, Bool.not_false, List.length_cons, List.length_nil, List.cons_append, List.nil_append, reduceIte, start0, List.map_cons, List.map_nil, List.any_cons, List.any_nil, tyD, Bool.or_true, Bool.or_false, Bool.true_or, Bool.false_or, Nat.reduceAdd, Nat.reduceSub, List.drop_succ_cons, List.drop_nil, List.drop_zero, List.replicate_succ, List.replicate_zero, List.append_nil, Option.map_none, Option.map_some, isNon, isStr, Option.isSome_some, Option.isSome_none, forall_const, false_or, or_false, or_true, true_or, not_true_eq_false, and_self, and_true, true_and, z]) r _ ⟨l, c, t, rfl, hl, hr⟩
  exact ⟨l', c', t', h1, h2, by simpa using h3⟩
theorem num_in2 {C : Calls} (s m : Option D) (k : Int) (B : Nat) (hB : B < lim) (r : List D) (hI : ∀ d ∈ r, ∃ j, d = .int j) (l : List Int) (c : Int) (t i : Option D) (hl : Nums l) (hr : l.length + r.length ≤ B) :
    ∃ l' c' i' m', loopF (Tg.put (.nam 5)) (fun e => exec N C b2_law_numbers e) r [s, some (.lst true (l.map .int)), some (.int k), some (.int c), t, i, m] = .nxt [s, some (.lst true (l'.map .int)), some (.int k), some (.int c'), t, i', m'] ∧ Nums l' ∧ l'.length ≤ B := by
  obtain ⟨e', h1, l', c', i', m', rfl, h2, h3, _⟩ := for_wp (N := N) (C := C) (put := Tg.put (.nam 5)) (b := b2_law_numbers) (fun r e => ∃ l c i m, e = [s, some (.lst true (l.map .int)), some (.int k), some (.int c), t, i, m] ∧ Nums l ∧ l.length + r.length ≤ B ∧ ∀ d' ∈ r, ∃ j, d' = .int j) (fun d r e q => by
    obtain ⟨l, c, i, m, rfl, hl, hr, hI⟩ := q
    simp only [List.length_cons] at hr
    have hlen : (l.map D.int).length < lim := by simp; omega
    obtain ⟨j, rfl⟩ := hI d List.mem_cons_self
    refine ⟨_, rfl, ?_⟩
    simp only [b2_law_numbers, rd0, rn0, st0, rd1, rn1, st1, rd2, rn2, st2, rd3, rn3, st3, rd4, rn4, st4, rd5, rn5, st5, rd6, rn6, st6, rd7, rn7, st7, rd8, rn8, st8, rd9, rn9, st9, rd10, rn10, st10, rd11, rn11, st11, rd12, rn12, st12, rd13, rn13, st13, rd14, rn14, st14, rd15, rn15, st15, rd16, rn16, st16, rd17, rn17, st17, rd18, rn18, st18, rd19, rn19, st19, rd20, rn20, st20, rd21, rn21, st21, rd22, rn22, st22, rd23, rn23, st23, rd24, rn24, st24, rd25, rn25, st25, e_int, e_str, e_bl, e_non, e_var, v_int, v_str, v_bl, v_non, v_tup, v_ins, v_scr, v_lst, v_lstF, e_tup, e_lst, e_neg, e_bin, e_not, e_ands, e_ors, e_cmp, e_chn, e_ite, e_idxv, e_idx, e_slc, e_rev, e_cal, e_new, e_mth, e_app, e_att, e_len, e_blt1, e_lenE, e_blt2, e_smt, e_pop, e_pop0, e_isi, a_one, a_more, o_one, o_more, k_nil, k_cons, l_nil, l_io, l_cons, io_lst, i_nil, i_io, i_cons, out_ok, out_ok1, out_exn, mthR_ins, new_exn, hasM_ins, x_skip, x_seq, x_exp, x_asg, x_sat, sat_obj, x_apd, isLst_lst, x_ite, x_whl, x_for, t_rng, t_it, rng_some, x_ret, r_nil, r_var, r_e, ret_int, ret_str, ret_bl, ret_non, ret_tup, ret_ins, ret_lst, ret_lstF, x_rai, x_try, x_brk, x_cnt, h_ret, h_inc, h_nil, inc_int, conD_bl, conD_int, conD_str, conD_non, lift_ok, b_int, b_add, b_sub, b_mul, b_fdiv, b_mod, cr_ok, cr_exn, i_add, i_sub, n_int, n_ins, not_bl, eqO_ok, neO_ok, c_eq_ins, c_eq_int, c_eq_str, c_eq_bl, c_ne_ins, c_ne_int, c_ne_str, c_ne_bl, c_lt, c_le, c_gt, c_ge, c_is_bl, c_isn_bl, c_is_non, c_isn_non, c_in, c_notin, fz_int, fz_str, fz_bl, fz_scr, fz_nil, fz_tup, fz_ins, fz_lst, fz_lstF, zs_nil, zs_cons, len_lst, len_tup, len_scr, s_ins, s_str, strO_ok, strO_exn, s_abs, items_lst, items_tup, isi_int, isi_bl, isi_str, isi_non, isi_tup, isi_lst, isi_ins, fin_ret, fin_nxt, fin_exn, fin_ret0, fin_nxt0, wN_nxt, wN_cnt, put_nam, wT_ok, callR_eq, eq_self, beq_self_eq_true, Res.bind, Res.bindS, Rs.bind, tst, Rs.lift, reduceCtorEq, ne_eq, not_false_eq_true, implies_true, ite_true, ite_false, Bool.false_eq_true, decide_true, decide_false, Bool.not_true, Bool.not_false, List.length_cons, List.length_nil, List.cons_append, List.nil_append, reduceIte, start0, List.map_cons, List.map_nil, List.any_cons, List.any_nil, tyD, Bool.or_true, Bool.or_false, Bool.true_or, Bool.false_or, Nat.reduceAdd, Nat.reduceSub, List.drop_succ_cons, List.drop_nil, List.drop_zero, List.replicate_succ, List.replicate_zero, List.append_nil, Option.map_none, Option.map_some, isNon, isStr, Option.isSome_some, Option.isSome_none, forall_const, false_or, or_false, or_true, true_or, not_true_eq_false, and_self, and_true, true_and, i_mod _ _ (show (1009 : Int) ≠ 0 by decide), i_mod _ _ (show (2147483647 : Int) ≠ 0 by decide), i_mod _ _ (show (2147483629 : Int) ≠ 0 by decide), i_div _ _ (divOk_s _ 65536 (by decide)), i_mul _ _ (mulOk_r _ 48271 (by decide)), i_mul _ _ (mulOk_r _ 16807 (by decide)), i_mul _ _ (mulOk_l 69621 _ (by decide)), apd_lst _ _ _ _ hlen, snocI]
    exact ⟨_, _, _, _, rfl, hl.snoc (m1009 _), by simp; omega, fun d hd => hI d (List.mem_cons_of_mem _ hd)⟩) r _ ⟨l, c, i, m, rfl, hl, hr, hI⟩
  exact ⟨l', c', i', m', h1, h2, by simpa using h3⟩
theorem rng_ints (n : Nat) : ∀ d ∈ (List.range n).map (fun (k : Nat) => D.int k), ∃ j, d = .int j := by
  intro d hd
  obtain ⟨k, _, rfl⟩ := List.mem_map.mp hd
  exact ⟨k, rfl⟩
include h
theorem numbers_ok (n : Nat) (ns : List Int) (hn : ns.length ≤ 63) : ∃ l, Nums l ∧ callN N P (n + 1) 500 [.scr ns] = .ok (.lst true (l.map .int)) [] := by
  rw [callE h.num 1 rfl rfl]
  obtain ⟨e', h1, l', a, b, c, i, m, rfl, h2, _⟩ := for_wp (N := N) (C := callN N P n) (put := Tg.put (.nam 2)) (b := b3_law_numbers) (fun r e => ∃ l a b c i m, e = [some (.scr ns), some (.lst true (l.map .int)), a, b, c, i, m] ∧ Nums l ∧ l.length + 60 * r.length ≤ 3780 ∧ ∀ d' ∈ r, ∃ j : Nat, d' = .int j ∧ j < ns.length) (fun d r e q => by
    obtain ⟨l, a, b, c, i, m, rfl, hl, hr, hI⟩ := q
    simp only [List.length_cons] at hr
    obtain ⟨j, rfl, hj⟩ := hI d List.mem_cons_self
    refine ⟨_, rfl, ?_⟩
    by_cases z : 1000000000000000000 ≤ (if ns[j] < 0 then -ns[j] else ns[j])
    · obtain ⟨l', c', t', q1, q2, q3⟩ := num_in1 (N := N) (C := callN N P n) (some (.scr ns)) (some (.int j)) i m (l.length + 60) (by unfold lim; omega) ((List.range 60).map (fun (k : Nat) => D.int k)) l (if ns[j] < 0 then -ns[j] else ns[j]) c hl (by simp)
      simp only [b3_law_numbers, rd0, rn0, st0, rd1, rn1, st1, rd2, rn2, st2, rd3, rn3, st3, rd4, rn4, st4, rd5, rn5, st5, rd6, rn6, st6, rd7, rn7, st7, rd8, rn8, st8, rd9, rn9, st9, rd10, rn10, st10, rd11, rn11, st11, rd12, rn12, st12, rd13, rn13, st13, rd14, rn14, st14, rd15, rn15, st15, rd16, rn16, st16, rd17, rn17, st17, rd18, rn18, st18, rd19, rn19, st19, rd20, rn20, st20, rd21, rn21, st21, rd22, rn22, st22, rd23, rn23, st23, rd24, rn24, st24, rd25, rn25, st25, e_int, e_str, e_bl, e_non, e_var, v_int, v_str, v_bl, v_non, v_tup, v_ins, v_scr, v_lst, v_lstF, e_tup, e_lst, e_neg, e_bin, e_not, e_ands, e_ors, e_cmp, e_chn, e_ite, e_idxv, e_idx, e_slc, e_rev, e_cal, e_new, e_mth, e_app, e_att, e_len, e_blt1, e_lenE, e_blt2, e_smt, e_pop, e_pop0, e_isi, a_one, a_more, o_one, o_more, k_nil, k_cons, l_nil, l_io, l_cons, io_lst, i_nil, i_io, i_cons, out_ok, out_ok1, out_exn, mthR_ins, new_exn, hasM_ins, x_skip, x_seq, x_exp, x_asg, x_sat, sat_obj, x_apd, isLst_lst, x_ite, x_whl, x_for, t_rng, t_it, rng_some, x_ret, r_nil, r_var, r_e, ret_int, ret_str, ret_bl, ret_non, ret_tup, ret_ins, ret_lst, ret_lstF, x_rai, x_try, x_brk, x_cnt, h_ret, h_inc, h_nil, inc_int, conD_bl, conD_int, conD_str, conD_non, lift_ok, b_int, b_add, b_sub, b_mul, b_fdiv, b_mod, cr_ok, cr_exn, i_add, i_sub, n_int, n_ins, not_bl, eqO_ok, neO_ok, c_eq_ins, c_eq_int, c_eq_str, c_eq_bl, c_ne_ins, c_ne_int, c_ne_str, c_ne_bl, c_lt, c_le, c_gt, c_ge, c_is_bl, c_isn_bl, c_is_non, c_isn_non, c_in, c_notin, fz_int, fz_str, fz_bl, fz_scr, fz_nil, fz_tup, fz_ins, fz_lst, fz_lstF, zs_nil, zs_cons, len_lst, len_tup, len_scr, s_ins, s_str, strO_ok, strO_exn, s_abs, items_lst, items_tup, isi_int, isi_bl, isi_str, isi_non, isi_tup, isi_lst, isi_ins, fin_ret, fin_nxt, fin_exn, fin_ret0, fin_nxt0, wN_nxt, wN_cnt, put_nam, wT_ok, callR_eq, eq_self, beq_self_eq_true, Res.bind, Res.bindS, Rs.bind, tst, Rs.lift, reduceCtorEq, ne_eq, not_false_eq_true, implies_true, ite_true, ite_false, Bool.false_eq_true, decide_true, decide_false, Bool.not_true, Bool.not_false, List.length_cons, List.length_nil, List.cons_append, List.nil_append, reduceIte, start0, List.map_cons, List.map_nil, List.any_cons, List.any_nil, tyD, Bool.or_true, Bool.or_false, Bool.true_or, Bool.false_or, Nat.reduceAdd, Nat.reduceSub, List.drop_succ_cons, List.drop_nil, List.drop_zero, List.replicate_succ, List.replicate_zero, List.append_nil, Option.map_none, Option.map_some, isNon, isStr, Option.isSome_some, Option.isSome_none, forall_const, false_or, or_false, or_true, true_or, not_true_eq_false, and_self, and_true, true_and, item_scr ns j hj, blt1, absD, p1018, z, x_for, rng_one 60 (by decide), Int.toNat, q1]
      exact ⟨l', _, _, _, _, _, rfl, q2, by omega, fun d hd => hI d (List.mem_cons_of_mem _ hd)⟩
    · obtain ⟨l', c', i', m', q1, q2, q3⟩ := num_in2 (N := N) (C := callN N P n) (some (.scr ns)) m (j : Int) (l.length + 5) (by unfold lim; omega) ((List.range 5).map (fun (k : Nat) => D.int k)) (rng_ints 5) l (if ns[j] < 0 then -ns[j] else ns[j]) c i hl (by simp)
      simp only [b3_law_numbers, rd0, rn0, st0, rd1, rn1, st1, rd2, rn2, st2, rd3, rn3, st3, rd4, rn4, st4, rd5, rn5, st5, rd6, rn6, st6, rd7, rn7, st7, rd8, rn8, st8, rd9, rn9, st9, rd10, rn10, st10, rd11, rn11, st11, rd12, rn12, st12, rd13, rn13, st13, rd14, rn14, st14, rd15, rn15, st15, rd16, rn16, st16, rd17, rn17, st17, rd18, rn18, st18, rd19, rn19, st19, rd20, rn20, st20, rd21, rn21, st21, rd22, rn22, st22, rd23, rn23, st23, rd24, rn24, st24, rd25, rn25, st25, e_int, e_str, e_bl, e_non, e_var, v_int, v_str, v_bl, v_non, v_tup, v_ins, v_scr, v_lst, v_lstF, e_tup, e_lst, e_neg, e_bin, e_not, e_ands, e_ors, e_cmp, e_chn, e_ite, e_idxv, e_idx, e_slc, e_rev, e_cal, e_new, e_mth, e_app, e_att, e_len, e_blt1, e_lenE, e_blt2, e_smt, e_pop, e_pop0, e_isi, a_one, a_more, o_one, o_more, k_nil, k_cons, l_nil, l_io, l_cons, io_lst, i_nil, i_io, i_cons, out_ok, out_ok1, out_exn, mthR_ins, new_exn, hasM_ins, x_skip, x_seq, x_exp, x_asg, x_sat, sat_obj, x_apd, isLst_lst, x_ite, x_whl, x_for, t_rng, t_it, rng_some, x_ret, r_nil, r_var, r_e, ret_int, ret_str, ret_bl, ret_non, ret_tup, ret_ins, ret_lst, ret_lstF, x_rai, x_try, x_brk, x_cnt, h_ret, h_inc, h_nil, inc_int, conD_bl, conD_int, conD_str, conD_non, lift_ok, b_int, b_add, b_sub, b_mul, b_fdiv, b_mod, cr_ok, cr_exn, i_add, i_sub, n_int, n_ins, not_bl, eqO_ok, neO_ok, c_eq_ins, c_eq_int, c_eq_str, c_eq_bl, c_ne_ins, c_ne_int, c_ne_str, c_ne_bl, c_lt, c_le, c_gt, c_ge, c_is_bl, c_isn_bl, c_is_non, c_isn_non, c_in, c_notin, fz_int, fz_str, fz_bl, fz_scr, fz_nil, fz_tup, fz_ins, fz_lst, fz_lstF, zs_nil, zs_cons, len_lst, len_tup, len_scr, s_ins, s_str, strO_ok, strO_exn, s_abs, items_lst, items_tup, isi_int, isi_bl, isi_str, isi_non, isi_tup, isi_lst, isi_ins, fin_ret, fin_nxt, fin_exn, fin_ret0, fin_nxt0, wN_nxt, wN_cnt, put_nam, wT_ok, callR_eq, eq_self, beq_self_eq_true, Res.bind, Res.bindS, Rs.bind, tst, Rs.lift, reduceCtorEq, ne_eq, not_false_eq_true, implies_true, ite_true, ite_false, Bool.false_eq_true, decide_true, decide_false, Bool.not_true, Bool.not_false, List.length_cons, List.length_nil, List.cons_append, List.nil_append, reduceIte, start0, List.map_cons, List.map_nil, List.any_cons, List.any_nil, tyD, Bool.or_true, Bool.or_false, Bool.true_or, Bool.false_or, Nat.reduceAdd, Nat.reduceSub, List.drop_succ_cons, List.drop_nil, List.drop_zero, List.replicate_succ, List.replicate_zero, List.append_nil, Option.map_none, Option.map_some, isNon, isStr, Option.isSome_some, Option.isSome_none, forall_const, false_or, or_false, or_true, true_or, not_true_eq_false, and_self, and_true, true_and, item_scr ns j hj, blt1, absD, p1018, z, x_for, rng_one 5 (by decide), Int.toNat, q1]
      exact ⟨l', _, _, _, _, _, rfl, q2, by omega, fun d hd => hI d (List.mem_cons_of_mem _ hd)⟩) ((List.range ns.length).map (fun (k : Nat) => D.int k)) _ ⟨[], none, none, none, none, none, rfl, fun _ h => (nomatch h), by simp; omega, fun d hd => by
    obtain ⟨k, hk, rfl⟩ := List.mem_map.mp hd
    exact ⟨k, rfl, List.mem_range.mp hk⟩⟩
  refine ⟨l', h2, ?_⟩
  have e0 : ¬ ((63 : Int) < (ns.length : Int)) := by omega
  have hb : (ns.length : Int) < 4611686018427387904 ∧ -4611686018427387904 ≤ (ns.length : Int) := by omega
  simp only [List.map_nil] at h1
  simp only [f_law_numbers, c_law_numbers, rd0, rn0, st0, rd1, rn1, st1, rd2, rn2, st2, rd3, rn3, st3, rd4, rn4, st4, rd5, rn5, st5, rd6, rn6, st6, rd7, rn7, st7, rd8, rn8, st8, rd9, rn9, st9, rd10, rn10, st10, rd11, rn11, st11, rd12, rn12, st12, rd13, rn13, st13, rd14, rn14, st14, rd15, rn15, st15, rd16, rn16, st16, rd17, rn17, st17, rd18, rn18, st18, rd19, rn19, st19, rd20, rn20, st20, rd21, rn21, st21, rd22, rn22, st22, rd23, rn23, st23, rd24, rn24, st24, rd25, rn25, st25, e_int, e_str, e_bl, e_non, e_var, v_int, v_str, v_bl, v_non, v_tup, v_ins, v_scr, v_lst, v_lstF, e_tup, e_lst, e_neg, e_bin, e_not, e_ands, e_ors, e_cmp, e_chn, e_ite, e_idxv, e_idx, e_slc, e_rev, e_cal, e_new, e_mth, e_app, e_att, e_len, e_blt1, e_lenE, e_blt2, e_smt, e_pop, e_pop0, e_isi, a_one, a_more, o_one, o_more, k_nil, k_cons, l_nil, l_io, l_cons, io_lst, i_nil, i_io, i_cons, out_ok, out_ok1, out_exn, mthR_ins, new_exn, hasM_ins, x_skip, x_seq, x_exp, x_asg, x_sat, sat_obj, x_apd, isLst_lst, x_ite, x_whl, x_for, t_rng, t_it, rng_some, x_ret, r_nil, r_var, r_e, ret_int, ret_str, ret_bl, ret_non, ret_tup, ret_ins, ret_lst, ret_lstF, x_rai, x_try, x_brk, x_cnt, h_ret, h_inc, h_nil, inc_int, conD_bl, conD_int, conD_str, conD_non, lift_ok, b_int, b_add, b_sub, b_mul, b_fdiv, b_mod, cr_ok, cr_exn, i_add, i_sub, n_int, n_ins, not_bl, eqO_ok, neO_ok, c_eq_ins, c_eq_int, c_eq_str, c_eq_bl, c_ne_ins, c_ne_int, c_ne_str, c_ne_bl, c_lt, c_le, c_gt, c_ge, c_is_bl, c_isn_bl, c_is_non, c_isn_non, c_in, c_notin, fz_int, fz_str, fz_bl, fz_scr, fz_nil, fz_tup, fz_ins, fz_lst, fz_lstF, zs_nil, zs_cons, len_lst, len_tup, len_scr, s_ins, s_str, strO_ok, strO_exn, s_abs, items_lst, items_tup, isi_int, isi_bl, isi_str, isi_non, isi_tup, isi_lst, isi_ins, fin_ret, fin_nxt, fin_exn, fin_ret0, fin_nxt0, wN_nxt, wN_cnt, put_nam, wT_ok, callR_eq, eq_self, beq_self_eq_true, Res.bind, Res.bindS, Rs.bind, tst, Rs.lift, reduceCtorEq, ne_eq, not_false_eq_true, implies_true, ite_true, ite_false, Bool.false_eq_true, decide_true, decide_false, Bool.not_true, Bool.not_false, List.length_cons, List.length_nil, List.cons_append, List.nil_append, reduceIte, start0, List.map_cons, List.map_nil, List.any_cons, List.any_nil, tyD, Bool.or_true, Bool.or_false, Bool.true_or, Bool.false_or, Nat.reduceAdd, Nat.reduceSub, List.drop_succ_cons, List.drop_nil, List.drop_zero, List.replicate_succ, List.replicate_zero, List.append_nil, Option.map_none, Option.map_some, isNon, isStr, Option.isSome_some, Option.isSome_none, forall_const, false_or, or_false, or_true, true_or, not_true_eq_false, and_self, and_true, true_and, x_for, blt2, e0, rng_one _ hb, Int.toNat_natCast, h1]
theorem next_ok (n : Nat) (l : List Int) (m : Int) (hl : Nums l) (hm : 0 < m) : ∃ x l', 0 ≤ x ∧ x < m ∧ Nums l' ∧ callN N P (n + 1) 501 [.lst true (l.map .int), .int m] = .ok (.int x) [.lst true (l'.map .int)] := by
  cases l with
  | nil =>
    refine ⟨0, [], by omega, hm, fun _ h => (nomatch h), ?_⟩
    rw [callE h.nxt 2 rfl rfl]
    rfl
  | cons a l =>
    refine ⟨a.fmod m, l, Int.fmod_nonneg_of_pos _ hm, Int.fmod_lt_of_pos _ hm, fun x hx => hl x (List.mem_cons_of_mem _ hx), ?_⟩
    rw [callE h.nxt 2 rfl rfl]
    have z : m ≠ 0 := by omega
    have z2 : ¬ (((l.length : Int) + 1) = 0) := by omega
    simp only [f_law_next, c_law_next, rd0, rn0, st0, rd1, rn1, st1, rd2, rn2, st2, rd3, rn3, st3, rd4, rn4, st4, rd5, rn5, st5, rd6, rn6, st6, rd7, rn7, st7, rd8, rn8, st8, rd9, rn9, st9, rd10, rn10, st10, rd11, rn11, st11, rd12, rn12, st12, rd13, rn13, st13, rd14, rn14, st14, rd15, rn15, st15, rd16, rn16, st16, rd17, rn17, st17, rd18, rn18, st18, rd19, rn19, st19, rd20, rn20, st20, rd21, rn21, st21, rd22, rn22, st22, rd23, rn23, st23, rd24, rn24, st24, rd25, rn25, st25, e_int, e_str, e_bl, e_non, e_var, v_int, v_str, v_bl, v_non, v_tup, v_ins, v_scr, v_lst, v_lstF, e_tup, e_lst, e_neg, e_bin, e_not, e_ands, e_ors, e_cmp, e_chn, e_ite, e_idxv, e_idx, e_slc, e_rev, e_cal, e_new, e_mth, e_app, e_att, e_len, e_blt1, e_lenE, e_blt2, e_smt, e_pop, e_pop0, e_isi, a_one, a_more, o_one, o_more, k_nil, k_cons, l_nil, l_io, l_cons, io_lst, i_nil, i_io, i_cons, out_ok, out_ok1, out_exn, mthR_ins, new_exn, hasM_ins, x_skip, x_seq, x_exp, x_asg, x_sat, sat_obj, x_apd, isLst_lst, x_ite, x_whl, x_for, t_rng, t_it, rng_some, x_ret, r_nil, r_var, r_e, ret_int, ret_str, ret_bl, ret_non, ret_tup, ret_ins, ret_lst, ret_lstF, x_rai, x_try, x_brk, x_cnt, h_ret, h_inc, h_nil, inc_int, conD_bl, conD_int, conD_str, conD_non, lift_ok, b_int, b_add, b_sub, b_mul, b_fdiv, b_mod, cr_ok, cr_exn, i_add, i_sub, n_int, n_ins, not_bl, eqO_ok, neO_ok, c_eq_ins, c_eq_int, c_eq_str, c_eq_bl, c_ne_ins, c_ne_int, c_ne_str, c_ne_bl, c_lt, c_le, c_gt, c_ge, c_is_bl, c_isn_bl, c_is_non, c_isn_non, c_in, c_notin, fz_int, fz_str, fz_bl, fz_scr, fz_nil, fz_tup, fz_ins, fz_lst, fz_lstF, zs_nil, zs_cons, len_lst, len_tup, len_scr, s_ins, s_str, strO_ok, strO_exn, s_abs, items_lst, items_tup, isi_int, isi_bl, isi_str, isi_non, isi_tup, isi_lst, isi_ins, fin_ret, fin_nxt, fin_exn, fin_ret0, fin_nxt0, wN_nxt, wN_cnt, put_nam, wT_ok, callR_eq, eq_self, beq_self_eq_true, Res.bind, Res.bindS, Rs.bind, tst, Rs.lift, reduceCtorEq, ne_eq, not_false_eq_true, implies_true, ite_true, ite_false, Bool.false_eq_true, decide_true, decide_false, Bool.not_true, Bool.not_false, List.length_cons, List.length_nil, List.cons_append, List.nil_append, reduceIte, start0, List.map_cons, List.map_nil, List.any_cons, List.any_nil, tyD, Bool.or_true, Bool.or_false, Bool.true_or, Bool.false_or, Nat.reduceAdd, Nat.reduceSub, List.drop_succ_cons, List.drop_nil, List.drop_zero, List.replicate_succ, List.replicate_zero, List.append_nil, Option.map_none, Option.map_some, isNon, isStr, Option.isSome_some, Option.isSome_none, forall_const, false_or, or_false, or_true, true_or, not_true_eq_false, and_self, and_true, true_and, i_mod _ _ z, pop0R, len_lst, List.length_map, Int.natCast_add, Int.natCast_one, z2]
end
end Z

namespace Z
open PySem L2
/-- an integer's text -/
abbrev tx_ (i : Int) : Str := Str.ofString (toString i)
theorem ofS_app (a b : String) : Str.ofString (a ++ b) = Str.ofString a ++ Str.ofString b := by
  rw [Str.ofString_eq_toList, Str.ofString_eq_toList, Str.ofString_eq_toList]
  show _ = Str.mk (_ ++ _)
  simp
theorem tx_len (i : Int) (k : Nat) (h : i.natAbs < 2 ^ k) (hk : 0 < k) : (tx_ i).length ≤ k + 1 := by
  show (Str.ofString (toString i)).length ≤ k + 1
  rw [PyProof.Rows.ofString_len]
  cases i with
  | ofNat m =>
    have := (Nat.length_repr_le_iff (k := k) (n := m) hk).mpr (Nat.lt_of_lt_of_le h (Nat.pow_le_pow_left (by decide) k))
    show m.repr.length ≤ _
    omega
  | negSucc m =>
    have := (Nat.length_repr_le_iff (k := k) (n := m + 1) hk).mpr (Nat.lt_of_lt_of_le h (Nat.pow_le_pow_left (by decide) k))
    show ("-" ++ (m + 1).repr).length ≤ _
    rw [String.length_append]
    have e : "-".length = 1 := rfl
    omega
theorem tx_neg (i : Int) (h : i < 0) : Str.ofString "-" ++ tx_ (-i) = tx_ i := by
  cases i with
  | ofNat m => exact absurd h (Int.not_lt.mpr (Int.natCast_nonneg m))
  | negSucc m => exact (ofS_app "-" (toString (m + 1))).symm
theorem p1050 : intD .Pow 10 50 = .ok (.int 100000000000000000000000000000000000000000000000000) := by rfl
structure HW (N : Nm) (P : Nat → Option Fd) : Prop where
  wi : P 0 = some f_written_integer
  isint : P 1 = some f_is_integer
section
variable {N : Nm} {P : Nat → Option Fd} (h : HW N P)
include h
theorem isint_int (n : Nat) (i : Int) : callN N P (n + 1) 1 [.int i] = .ok (.bl true) [] := by
  rw [callE h.isint 1 rfl rfl]; rfl
theorem isint_bl (n : Nat) (i : Bool) : callN N P (n + 1) 1 [.bl i] = .ok (.bl false) [] := by
  rw [callE h.isint 1 rfl rfl]; rfl
theorem isint_non (n : Nat) : callN N P (n + 1) 1 [.non] = .ok (.bl false) [] := by
  rw [callE h.isint 1 rfl rfl]; rfl
theorem isint_str (n : Nat) (i : Str) : callN N P (n + 1) 1 [.str i] = .ok (.bl false) [] := by
  rw [callE h.isint 1 rfl rfl]; rfl
theorem isint_ins (n c : Nat) (l : List D) : callN N P (n + 1) 1 [.ins c l] = .ok (.bl false) [] := by
  rw [callE h.isint 1 rfl rfl]
  simp only [f_is_integer, c_is_integer, rd0, rn0, st0, rd1, rn1, st1, rd2, rn2, st2, rd3, rn3, st3, rd4, rn4, st4, rd5, rn5, st5, rd6, rn6, st6, rd7, rn7, st7, rd8, rn8, st8, rd9, rn9, st9, rd10, rn10, st10, rd11, rn11, st11, rd12, rn12, st12, rd13, rn13, st13, rd14, rn14, st14, rd15, rn15, st15, rd16, rn16, st16, rd17, rn17, st17, rd18, rn18, st18, rd19, rn19, st19, rd20, rn20, st20, rd21, rn21, st21, rd22, rn22, st22, rd23, rn23, st23, rd24, rn24, st24, rd25, rn25, st25, e_int, e_str, e_bl, e_non, e_var, v_int, v_str, v_bl, v_non, v_tup, v_ins, v_scr, v_lst, v_lstF, e_tup, e_lst, e_neg, e_bin, e_not, e_ands, e_ors, e_cmp, e_chn, e_ite, e_idxv, e_idx, e_slc, e_rev, e_cal, e_new, e_mth, e_app, e_att, e_len, e_blt1, e_lenE, e_blt2, e_smt, e_pop, e_pop0, e_isi, a_one, a_more, o_one, o_more, k_nil, k_cons, l_nil, l_io, l_cons, io_lst, i_nil, i_io, i_cons, out_ok, out_ok1, out_exn, mthR_ins, new_exn, hasM_ins, x_skip, x_seq, x_exp, x_asg, x_sat, sat_obj, x_apd, isLst_lst, x_ite, x_whl, x_for, t_rng, t_it, rng_some, x_ret, r_nil, r_var, r_e, ret_int, ret_str, ret_bl, ret_non, ret_tup, ret_ins, ret_lst, ret_lstF, x_rai, x_try, x_brk, x_cnt, h_ret, h_inc, h_nil, inc_int, conD_bl, conD_int, conD_str, conD_non, lift_ok, b_int, b_add, b_sub, b_mul, b_fdiv, b_mod, cr_ok, cr_exn, i_add, i_sub, n_int, n_ins, not_bl, eqO_ok, neO_ok, c_eq_ins, c_eq_int, c_eq_str, c_eq_bl, c_ne_ins, c_ne_int, c_ne_str, c_ne_bl, c_lt, c_le, c_gt, c_ge, c_is_bl, c_isn_bl, c_is_non, c_isn_non, c_in, c_notin, fz_int, fz_str, fz_bl, fz_scr, fz_nil, fz_tup, fz_ins, fz_lst, fz_lstF, zs_nil, zs_cons, len_lst, len_tup, len_scr, s_ins, s_str, strO_ok, strO_exn, s_abs, items_lst, items_tup, isi_int, isi_bl, isi_str, isi_non, isi_tup, isi_lst, isi_ins, fin_ret, fin_nxt, fin_exn, fin_ret0, fin_nxt0, wN_nxt, wN_cnt, put_nam, wT_ok, callR_eq, eq_self, beq_self_eq_true, Res.bind, Res.bindS, Rs.bind, tst, Rs.lift, reduceCtorEq, ne_eq, not_false_eq_true, implies_true, ite_true, ite_false, Bool.false_eq_true, decide_true, decide_false, Bool.not_true, Bool.not_false, List.length_cons, List.length_nil, List.cons_append, List.nil_append, reduceIte, start0, List.map_cons, List.map_nil, List.any_cons, List.any_nil, tyD, Bool.or_true, Bool.or_false, Bool.true_or, Bool.false_or, Nat.reduceAdd, Nat.reduceSub, List.drop_succ_cons, List.drop_nil, List.drop_zero, List.replicate_succ, List.replicate_zero, List.append_nil, Option.map_none, Option.map_some, isNon, isStr, Option.isSome_some, Option.isSome_none, forall_const, false_or, or_false, or_true, true_or, not_true_eq_false, and_self, and_true, true_and]
theorem isint_tup (n : Nat) (l : List D) : callN N P (n + 1) 1 [.tup l] = .ok (.bl false) [] := by
  rw [callE h.isint 1 rfl rfl]
  simp only [f_is_integer, c_is_integer, rd0, rn0, st0, rd1, rn1, st1, rd2, rn2, st2, rd3, rn3, st3, rd4, rn4, st4, rd5, rn5, st5, rd6, rn6, st6, rd7, rn7, st7, rd8, rn8, st8, rd9, rn9, st9, rd10, rn10, st10, rd11, rn11, st11, rd12, rn12, st12, rd13, rn13, st13, rd14, rn14, st14, rd15, rn15, st15, rd16, rn16, st16, rd17, rn17, st17, rd18, rn18, st18, rd19, rn19, st19, rd20, rn20, st20, rd21, rn21, st21, rd22, rn22, st22, rd23, rn23, st23, rd24, rn24, st24, rd25, rn25, st25, e_int, e_str, e_bl, e_non, e_var, v_int, v_str, v_bl, v_non, v_tup, v_ins, v_scr, v_lst, v_lstF, e_tup, e_lst, e_neg, e_bin, e_not, e_ands, e_ors, e_cmp, e_chn, e_ite, e_idxv, e_idx, e_slc, e_rev, e_cal, e_new, e_mth, e_app, e_att, e_len, e_blt1, e_lenE, e_blt2, e_smt, e_pop, e_pop0, e_isi, a_one, a_more, o_one, o_more, k_nil, k_cons, l_nil, l_io, l_cons, io_lst, i_nil, i_io, i_cons, out_ok, out_ok1, out_exn, mthR_ins, new_exn, hasM_ins, x_skip, x_seq, x_exp, x_asg, x_sat, sat_obj, x_apd, isLst_lst, x_ite, x_whl, x_for, t_rng, t_it, rng_some, x_ret, r_nil, r_var, r_e, ret_int, ret_str, ret_bl, ret_non, ret_tup, ret_ins, ret_lst, ret_lstF, x_rai, x_try, x_brk, x_cnt, h_ret, h_inc, h_nil, inc_int, conD_bl, conD_int, conD_str, conD_non, lift_ok, b_int, b_add, b_sub, b_mul, b_fdiv, b_mod, cr_ok, cr_exn, i_add, i_sub, n_int, n_ins, not_bl, eqO_ok, neO_ok, c_eq_ins, c_eq_int, c_eq_str, c_eq_bl, c_ne_ins, c_ne_int, c_ne_str, c_ne_bl, c_lt, c_le, c_gt, c_ge, c_is_bl, c_isn_bl, c_is_non, c_isn_non, c_in, c_notin, fz_int, fz_str, fz_bl, fz_scr, fz_nil, fz_tup, fz_ins, fz_lst, fz_lstF, zs_nil, zs_cons, len_lst, len_tup, len_scr, s_ins, s_str, strO_ok, strO_exn, s_abs, items_lst, items_tup, isi_int, isi_bl, isi_str, isi_non, isi_tup, isi_lst, isi_ins, fin_ret, fin_nxt, fin_exn, fin_ret0, fin_nxt0, wN_nxt, wN_cnt, put_nam, wT_ok, callR_eq, eq_self, beq_self_eq_true, Res.bind, Res.bindS, Rs.bind, tst, Rs.lift, reduceCtorEq, ne_eq, not_false_eq_true, implies_true, ite_true, ite_false, Bool.false_eq_true, decide_true, decide_false, Bool.not_true, Bool.not_false, List.length_cons, List.length_nil, List.cons_append, List.nil_append, reduceIte, start0, List.map_cons, List.map_nil, List.any_cons, List.any_nil, tyD, Bool.or_true, Bool.or_false, Bool.true_or, Bool.false_or, Nat.reduceAdd, Nat.reduceSub, List.drop_succ_cons, List.drop_nil, List.drop_zero, List.replicate_succ, List.replicate_zero, List.append_nil, Option.map_none, Option.map_some, isNon, isStr, Option.isSome_some, Option.isSome_none, forall_const, false_or, or_false, or_true, true_or, not_true_eq_false, and_self, and_true, true_and]
theorem isint_lst (n : Nat) (l : List D) : callN N P (n + 1) 1 [.lst false l] = .ok (.bl false) [] := by
  rw [callE h.isint 1 rfl rfl]
  simp only [f_is_integer, c_is_integer, rd0, rn0, st0, rd1, rn1, st1, rd2, rn2, st2, rd3, rn3, st3, rd4, rn4, st4, rd5, rn5, st5, rd6, rn6, st6, rd7, rn7, st7, rd8, rn8, st8, rd9, rn9, st9, rd10, rn10, st10, rd11, rn11, st11, rd12, rn12, st12, rd13, rn13, st13, rd14, rn14, st14, rd15, rn15, st15, rd16, rn16, st16, rd17, rn17, st17, rd18, rn18, st18, rd19, rn19, st19, rd20, rn20, st20, rd21, rn21, st21, rd22, rn22, st22, rd23, rn23, st23, rd24, rn24, st24, rd25, rn25, st25, e_int, e_str, e_bl, e_non, e_var, v_int, v_str, v_bl, v_non, v_tup, v_ins, v_scr, v_lst, v_lstF, e_tup, e_lst, e_neg, e_bin, e_not, e_ands, e_ors, e_cmp, e_chn, e_ite, e_idxv, e_idx, e_slc, e_rev, e_cal, e_new, e_mth, e_app, e_att, e_len, e_blt1, e_lenE, e_blt2, e_smt, e_pop, e_pop0, e_isi, a_one, a_more, o_one, o_more, k_nil, k_cons, l_nil, l_io, l_cons, io_lst, i_nil, i_io, i_cons, out_ok, out_ok1, out_exn, mthR_ins, new_exn, hasM_ins, x_skip, x_seq, x_exp, x_asg, x_sat, sat_obj, x_apd, isLst_lst, x_ite, x_whl, x_for, t_rng, t_it, rng_some, x_ret, r_nil, r_var, r_e, ret_int, ret_str, ret_bl, ret_non, ret_tup, ret_ins, ret_lst, ret_lstF, x_rai, x_try, x_brk, x_cnt, h_ret, h_inc, h_nil, inc_int, conD_bl, conD_int, conD_str, conD_non, lift_ok, b_int, b_add, b_sub, b_mul, b_fdiv, b_mod, cr_ok, cr_exn, i_add, i_sub, n_int, n_ins, not_bl, eqO_ok, neO_ok, c_eq_ins, c_eq_int, c_eq_str, c_eq_bl, c_ne_ins, c_ne_int, c_ne_str, c_ne_bl, c_lt, c_le, c_gt, c_ge, c_is_bl, c_isn_bl, c_is_non, c_isn_non, c_in, c_notin, fz_int, fz_str, fz_bl, fz_scr, fz_nil, fz_tup, fz_ins, fz_lst, fz_lstF, zs_nil, zs_cons, len_lst, len_tup, len_scr, s_ins, s_str, strO_ok, strO_exn, s_abs, items_lst, items_tup, isi_int, isi_bl, isi_str, isi_non, isi_tup, isi_lst, isi_ins, fin_ret, fin_nxt, fin_exn, fin_ret0, fin_nxt0, wN_nxt, wN_cnt, put_nam, wT_ok, callR_eq, eq_self, beq_self_eq_true, Res.bind, Res.bindS, Rs.bind, tst, Rs.lift, reduceCtorEq, ne_eq, not_false_eq_true, implies_true, ite_true, ite_false, Bool.false_eq_true, decide_true, decide_false, Bool.not_true, Bool.not_false, List.length_cons, List.length_nil, List.cons_append, List.nil_append, reduceIte, start0, List.map_cons, List.map_nil, List.any_cons, List.any_nil, tyD, Bool.or_true, Bool.or_false, Bool.true_or, Bool.false_or, Nat.reduceAdd, Nat.reduceSub, List.drop_succ_cons, List.drop_nil, List.drop_zero, List.replicate_succ, List.replicate_zero, List.append_nil, Option.map_none, Option.map_some, isNon, isStr, Option.isSome_some, Option.isSome_none, forall_const, false_or, or_false, or_true, true_or, not_true_eq_false, and_self, and_true, true_and]
theorem wi_pos (n : Nat) (i : Int) (h0 : 0 ≤ i) (h1 : i < 100000000000000000000000000000000000000000000000000) : callN N P (n + 1) 0 [.int i] = .ok (.str (tx_ i)) [] := by
  rw [callE h.wi 1 rfl rfl]
  have z : ¬ i < 0 := by omega
  have z1 : ¬ 100000000000000000000000000000000000000000000000000 ≤ i := by omega
  have z3 : i.natAbs < 2 ^ 200 := by omega
  have z2 : i.natAbs.log2 < 1920 := by
    have := log_lt z3 (by decide)
    omega
  have w : whlR N (callN N P n) [some (.int i), some (.lst true [])] (.cmp .GtE (.var 0) (.bin .Pow (.con (.int 10)) (.con (.int 50)))) b1_written_integer = .nxt [some (.int i), some (.lst true [])] := whl_end (by simp only [rd0, rn0, st0, rd1, rn1, st1, rd2, rn2, st2, rd3, rn3, st3, rd4, rn4, st4, rd5, rn5, st5, rd6, rn6, st6, rd7, rn7, st7, rd8, rn8, st8, rd9, rn9, st9, rd10, rn10, st10, rd11, rn11, st11, rd12, rn12, st12, rd13, rn13, st13, rd14, rn14, st14, rd15, rn15, st15, rd16, rn16, st16, rd17, rn17, st17, rd18, rn18, st18, rd19, rn19, st19, rd20, rn20, st20, rd21, rn21, st21, rd22, rn22, st22, rd23, rn23, st23, rd24, rn24, st24, rd25, rn25, st25, e_int, e_str, e_bl, e_non, e_var, v_int, v_str, v_bl, v_non, v_tup, v_ins, v_scr, v_lst, v_lstF, e_tup, e_lst, e_neg, e_bin, e_not, e_ands, e_ors, e_cmp, e_chn, e_ite, e_idxv, e_idx, e_slc, e_rev, e_cal, e_new, e_mth, e_app, e_att, e_len, e_blt1, e_lenE, e_blt2, e_smt, e_pop, e_pop0, e_isi, a_one, a_more, o_one, o_more, k_nil, k_cons, l_nil, l_io, l_cons, io_lst, i_nil, i_io, i_cons, out_ok, out_ok1, out_exn, mthR_ins, new_exn, hasM_ins, x_skip, x_seq, x_exp, x_asg, x_sat, sat_obj, x_apd, isLst_lst, x_ite, x_whl, x_for, t_rng, t_it, rng_some, x_ret, r_nil, r_var, r_e, ret_int, ret_str, ret_bl, ret_non, ret_tup, ret_ins, ret_lst, ret_lstF, x_rai, x_try, x_brk, x_cnt, h_ret, h_inc, h_nil, inc_int, conD_bl, conD_int, conD_str, conD_non, lift_ok, b_int, b_add, b_sub, b_mul, b_fdiv, b_mod, cr_ok, cr_exn, i_add, i_sub, n_int, n_ins, not_bl, eqO_ok, neO_ok, c_eq_ins, c_eq_int, c_eq_str, c_eq_bl, c_ne_ins, c_ne_int, c_ne_str, c_ne_bl, c_lt, c_le, c_gt, c_ge, c_is_bl, c_isn_bl, c_is_non, c_isn_non, c_in, c_notin, fz_int, fz_str, fz_bl, fz_scr, fz_nil, fz_tup, fz_ins, fz_lst, fz_lstF, zs_nil, zs_cons, len_lst, len_tup, len_scr, s_ins, s_str, strO_ok, strO_exn, s_abs, items_lst, items_tup, isi_int, isi_bl, isi_str, isi_non, isi_tup, isi_lst, isi_ins, fin_ret, fin_nxt, fin_exn, fin_ret0, fin_nxt0, wN_nxt, wN_cnt, put_nam, wT_ok, callR_eq, eq_self, beq_self_eq_true, Res.bind, Res.bindS, Rs.bind, tst, Rs.lift, reduceCtorEq, ne_eq, not_false_eq_true, implies_true, ite_true, ite_false, Bool.false_eq_true, decide_true, decide_false, Bool.not_true, Bool.not_false, List.length_cons, List.length_nil, List.cons_append, List.nil_append, reduceIte, start0, List.map_cons, List.map_nil, List.any_cons, List.any_nil, tyD, Bool.or_true, Bool.or_false, Bool.true_or, Bool.false_or, Nat.reduceAdd, Nat.reduceSub, List.drop_succ_cons, List.drop_nil, List.drop_zero, List.replicate_succ, List.replicate_zero, List.append_nil, Option.map_none, Option.map_some, isNon, isStr, Option.isSome_some, Option.isSome_none, forall_const, false_or, or_false, or_true, true_or, not_true_eq_false, and_self, and_true, true_and, p1050, z1])
  have q : ∀ e, apdR 1 (.str (tx_ i)) e (some (.lst true [])) = .nxt (e.set 1 (some (.lst true [.str (tx_ i)]))) := fun e => apd_lst _ _ _ _ (by unfold lim; simp)
  have q2 : smtD .join (.str (Str.ofString "")) [.lst true [.str (tx_ i)]] = .ok (.str (tx_ i)) := by
    have : ((tx_ i).length + 0) + 1 * 0 ≤ lim := by
      have := tx_len i 200 z3 (by decide)
      unfold lim
      omega
    exact if_pos this
  simp only [f_written_integer, c_written_integer, rd0, rn0, st0, rd1, rn1, st1, rd2, rn2, st2, rd3, rn3, st3, rd4, rn4, st4, rd5, rn5, st5, rd6, rn6, st6, rd7, rn7, st7, rd8, rn8, st8, rd9, rn9, st9, rd10, rn10, st10, rd11, rn11, st11, rd12, rn12, st12, rd13, rn13, st13, rd14, rn14, st14, rd15, rn15, st15, rd16, rn16, st16, rd17, rn17, st17, rd18, rn18, st18, rd19, rn19, st19, rd20, rn20, st20, rd21, rn21, st21, rd22, rn22, st22, rd23, rn23, st23, rd24, rn24, st24, rd25, rn25, st25, e_int, e_str, e_bl, e_non, e_var, v_int, v_str, v_bl, v_non, v_tup, v_ins, v_scr, v_lst, v_lstF, e_tup, e_lst, e_neg, e_bin, e_not, e_ands, e_ors, e_cmp, e_chn, e_ite, e_idxv, e_idx, e_slc, e_rev, e_cal, e_new, e_mth, e_app, e_att, e_len, e_blt1, e_lenE, e_blt2, e_smt, e_pop, e_pop0, e_isi, a_one, a_more, o_one, o_more, k_nil, k_cons, l_nil, l_io, l_cons, io_lst, i_nil, i_io, i_cons, out_ok, out_ok1, out_exn, mthR_ins, new_exn, hasM_ins, x_skip, x_seq, x_exp, x_asg, x_sat, sat_obj, x_apd, isLst_lst, x_ite, x_whl, x_for, t_rng, t_it, rng_some, x_ret, r_nil, r_var, r_e, ret_int, ret_str, ret_bl, ret_non, ret_tup, ret_ins, ret_lst, ret_lstF, x_rai, x_try, x_brk, x_cnt, h_ret, h_inc, h_nil, inc_int, conD_bl, conD_int, conD_str, conD_non, lift_ok, b_int, b_add, b_sub, b_mul, b_fdiv, b_mod, cr_ok, cr_exn, i_add, i_sub, n_int, n_ins, not_bl, eqO_ok, neO_ok, c_eq_ins, c_eq_int, c_eq_str, c_eq_bl, c_ne_ins, c_ne_int, c_ne_str, c_ne_bl, c_lt, c_le, c_gt, c_ge, c_is_bl, c_isn_bl, c_is_non, c_isn_non, c_in, c_notin, fz_int, fz_str, fz_bl, fz_scr, fz_nil, fz_tup, fz_ins, fz_lst, fz_lstF, zs_nil, zs_cons, len_lst, len_tup, len_scr, s_ins, s_str, strO_ok, strO_exn, s_abs, items_lst, items_tup, isi_int, isi_bl, isi_str, isi_non, isi_tup, isi_lst, isi_ins, fin_ret, fin_nxt, fin_exn, fin_ret0, fin_nxt0, wN_nxt, wN_cnt, put_nam, wT_ok, callR_eq, eq_self, beq_self_eq_true, Res.bind, Res.bindS, Rs.bind, tst, Rs.lift, reduceCtorEq, ne_eq, not_false_eq_true, implies_true, ite_true, ite_false, Bool.false_eq_true, decide_true, decide_false, Bool.not_true, Bool.not_false, List.length_cons, List.length_nil, List.cons_append, List.nil_append, reduceIte, start0, List.map_cons, List.map_nil, List.any_cons, List.any_nil, tyD, Bool.or_true, Bool.or_false, Bool.true_or, Bool.false_or, Nat.reduceAdd, Nat.reduceSub, List.drop_succ_cons, List.drop_nil, List.drop_zero, List.replicate_succ, List.replicate_zero, List.append_nil, Option.map_none, Option.map_some, isNon, isStr, Option.isSome_some, Option.isSome_none, forall_const, false_or, or_false, or_true, true_or, not_true_eq_false, and_self, and_true, true_and, z, w, blt1, strD, z2, q, rever, List.all_cons, List.all_nil, isF, List.reverse_cons, List.reverse_nil, Bool.and_true, q2]
theorem wi_ok (n : Nat) (i : Int) (h1 : i.natAbs < 100000000000000000000000000000000000000000000000000) : callN N P (n + 2) 0 [.int i] = .ok (.str (tx_ i)) [] := by
  by_cases z : i < 0
  · rw [callE h.wi 1 rfl rfl]
    have w := wi_pos h n (-i) (by omega) (by omega)
    have q : binD (callN N P (n + 1)) .Add (.str (Str.ofString "-")) (.str (tx_ (-i))) = .ok (.str (tx_ i)) := by
      rw [b_str, tx_neg i z]
      have := tx_len (-i) 200 (by omega) (by decide)
      show 1 + (tx_ (-i)).length ≤ lim
      unfold lim
      omega
    simp only [f_written_integer, c_written_integer, rd0, rn0, st0, rd1, rn1, st1, rd2, rn2, st2, rd3, rn3, st3, rd4, rn4, st4, rd5, rn5, st5, rd6, rn6, st6, rd7, rn7, st7, rd8, rn8, st8, rd9, rn9, st9, rd10, rn10, st10, rd11, rn11, st11, rd12, rn12, st12, rd13, rn13, st13, rd14, rn14, st14, rd15, rn15, st15, rd16, rn16, st16, rd17, rn17, st17, rd18, rn18, st18, rd19, rn19, st19, rd20, rn20, st20, rd21, rn21, st21, rd22, rn22, st22, rd23, rn23, st23, rd24, rn24, st24, rd25, rn25, st25, e_int, e_str, e_bl, e_non, e_var, v_int, v_str, v_bl, v_non, v_tup, v_ins, v_scr, v_lst, v_lstF, e_tup, e_lst, e_neg, e_bin, e_not, e_ands, e_ors, e_cmp, e_chn, e_ite, e_idxv, e_idx, e_slc, e_rev, e_cal, e_new, e_mth, e_app, e_att, e_len, e_blt1, e_lenE, e_blt2, e_smt, e_pop, e_pop0, e_isi, a_one, a_more, o_one, o_more, k_nil, k_cons, l_nil, l_io, l_cons, io_lst, i_nil, i_io, i_cons, out_ok, out_ok1, out_exn, mthR_ins, new_exn, hasM_ins, x_skip, x_seq, x_exp, x_asg, x_sat, sat_obj, x_apd, isLst_lst, x_ite, x_whl, x_for, t_rng, t_it, rng_some, x_ret, r_nil, r_var, r_e, ret_int, ret_str, ret_bl, ret_non, ret_tup, ret_ins, ret_lst, ret_lstF, x_rai, x_try, x_brk, x_cnt, h_ret, h_inc, h_nil, inc_int, conD_bl, conD_int, conD_str, conD_non, lift_ok, b_int, b_add, b_sub, b_mul, b_fdiv, b_mod, cr_ok, cr_exn, i_add, i_sub, n_int, n_ins, not_bl, eqO_ok, neO_ok, c_eq_ins, c_eq_int, c_eq_str, c_eq_bl, c_ne_ins, c_ne_int, c_ne_str, c_ne_bl, c_lt, c_le, c_gt, c_ge, c_is_bl, c_isn_bl, c_is_non, c_isn_non, c_in, c_notin, fz_int, fz_str, fz_bl, fz_scr, fz_nil, fz_tup, fz_ins, fz_lst, fz_lstF, zs_nil, zs_cons, len_lst, len_tup, len_scr, s_ins, s_str, strO_ok, strO_exn, s_abs, items_lst, items_tup, isi_int, isi_bl, isi_str, isi_non, isi_tup, isi_lst, isi_ins, fin_ret, fin_nxt, fin_exn, fin_ret0, fin_nxt0, wN_nxt, wN_cnt, put_nam, wT_ok, callR_eq, eq_self, beq_self_eq_true, Res.bind, Res.bindS, Rs.bind, tst, Rs.lift, reduceCtorEq, ne_eq, not_false_eq_true, implies_true, ite_true, ite_false, Bool.false_eq_true, decide_true, decide_false, Bool.not_true, Bool.not_false, List.length_cons, List.length_nil, List.cons_append, List.nil_append, reduceIte, start0, List.map_cons, List.map_nil, List.any_cons, List.any_nil, tyD, Bool.or_true, Bool.or_false, Bool.true_or, Bool.false_or, Nat.reduceAdd, Nat.reduceSub, List.drop_succ_cons, List.drop_nil, List.drop_zero, List.replicate_succ, List.replicate_zero, List.append_nil, Option.map_none, Option.map_some, isNon, isStr, Option.isSome_some, Option.isSome_none, forall_const, false_or, or_false, or_true, true_or, not_true_eq_false, and_self, and_true, true_and, z, w, q]
  · exact wi_pos h (n + 1) i (by omega) (by omega)
end
structure HR2 (N : Nm) (P : Nat → Option Fd) : Prop where
  str : P (mfid 3 mStr) = some f_Ratio_str
  isz : P (mfid 3 11) = some f_Ratio_is_zero
  inv : P (mfid 3 12) = some f_Ratio_inverse
  over : P (mfid 3 13) = some f_Ratio_over
  h11 : N.has 3 11 = true
  h12 : N.has 3 12 = true
  h13 : N.has 3 13 = true
section
variable {N : Nm} {P : Nat → Option Fd} (h : HR N P) (h2 : HR2 N P)
include h h2
theorem ratio_isz (n : Nat) (p : Rat) : callN N P (n + 1) (mfid 3 11) [rt p] = .ok (.bl (decide (p = 0))) [] := by
  rw [callE h2.isz 1 rfl rfl]
  have e : decide (p = 0) = decide (p.num = 0) := by
    rw [Bool.eq_iff_iff]
    simp only [decide_eq_true_eq]
    exact Rat.num_eq_zero.symm
  rw [e]
  simp only [f_Ratio_is_zero, c_Ratio_is_zero, rd0, rn0, st0, rd1, rn1, st1, rd2, rn2, st2, rd3, rn3, st3, rd4, rn4, st4, rd5, rn5, st5, rd6, rn6, st6, rd7, rn7, st7, rd8, rn8, st8, rd9, rn9, st9, rd10, rn10, st10, rd11, rn11, st11, rd12, rn12, st12, rd13, rn13, st13, rd14, rn14, st14, rd15, rn15, st15, rd16, rn16, st16, rd17, rn17, st17, rd18, rn18, st18, rd19, rn19, st19, rd20, rn20, st20, rd21, rn21, st21, rd22, rn22, st22, rd23, rn23, st23, rd24, rn24, st24, rd25, rn25, st25, e_int, e_str, e_bl, e_non, e_var, v_int, v_str, v_bl, v_non, v_tup, v_ins, v_scr, v_lst, v_lstF, e_tup, e_lst, e_neg, e_bin, e_not, e_ands, e_ors, e_cmp, e_chn, e_ite, e_idxv, e_idx, e_slc, e_rev, e_cal, e_new, e_mth, e_app, e_att, e_len, e_blt1, e_lenE, e_blt2, e_smt, e_pop, e_pop0, e_isi, a_one, a_more, o_one, o_more, k_nil, k_cons, l_nil, l_io, l_cons, io_lst, i_nil, i_io, i_cons, out_ok, out_ok1, out_exn, mthR_ins, new_exn, hasM_ins, x_skip, x_seq, x_exp, x_asg, x_sat, sat_obj, x_apd, isLst_lst, x_ite, x_whl, x_for, t_rng, t_it, rng_some, x_ret, r_nil, r_var, r_e, ret_int, ret_str, ret_bl, ret_non, ret_tup, ret_ins, ret_lst, ret_lstF, x_rai, x_try, x_brk, x_cnt, h_ret, h_inc, h_nil, inc_int, conD_bl, conD_int, conD_str, conD_non, lift_ok, b_int, b_add, b_sub, b_mul, b_fdiv, b_mod, cr_ok, cr_exn, i_add, i_sub, n_int, n_ins, not_bl, eqO_ok, neO_ok, c_eq_ins, c_eq_int, c_eq_str, c_eq_bl, c_ne_ins, c_ne_int, c_ne_str, c_ne_bl, c_lt, c_le, c_gt, c_ge, c_is_bl, c_isn_bl, c_is_non, c_isn_non, c_in, c_notin, fz_int, fz_str, fz_bl, fz_scr, fz_nil, fz_tup, fz_ins, fz_lst, fz_lstF, zs_nil, zs_cons, len_lst, len_tup, len_scr, s_ins, s_str, strO_ok, strO_exn, s_abs, items_lst, items_tup, isi_int, isi_bl, isi_str, isi_non, isi_tup, isi_lst, isi_ins, fin_ret, fin_nxt, fin_exn, fin_ret0, fin_nxt0, wN_nxt, wN_cnt, put_nam, wT_ok, callR_eq, eq_self, beq_self_eq_true, Res.bind, Res.bindS, Rs.bind, tst, Rs.lift, reduceCtorEq, ne_eq, not_false_eq_true, implies_true, ite_true, ite_false, Bool.false_eq_true, decide_true, decide_false, Bool.not_true, Bool.not_false, List.length_cons, List.length_nil, List.cons_append, List.nil_append, reduceIte, start0, List.map_cons, List.map_nil, List.any_cons, List.any_nil, tyD, Bool.or_true, Bool.or_false, Bool.true_or, Bool.false_or, Nat.reduceAdd, Nat.reduceSub, List.drop_succ_cons, List.drop_nil, List.drop_zero, List.replicate_succ, List.replicate_zero, List.append_nil, Option.map_none, Option.map_some, isNon, isStr, Option.isSome_some, Option.isSome_none, forall_const, false_or, or_false, or_true, true_or, not_true_eq_false, and_self, and_true, true_and, ratio_n h]
theorem ratio_inv {k : Nat} (n : Nat) (p : Rat) (hp : p ≠ 0) (a : Bnd k p) (hk : k ≤ lim9) : callN N P (n + 2) (mfid 3 12) [rt p] = .ok (rt p⁻¹) [] := by
  rw [callE h2.inv 1 rfl rfl]
  have hn : p.num ≠ 0 := fun z => hp (Rat.num_eq_zero.mp z)
  have hd : p.num.natAbs < 2 ^ lim9 := Nat.lt_of_lt_of_le a.1 (Nat.pow_le_pow_right (by decide) hk)
  rw [Rat.inv_def]
  simp only [f_Ratio_inverse, c_Ratio_inverse, rd0, rn0, st0, rd1, rn1, st1, rd2, rn2, st2, rd3, rn3, st3, rd4, rn4, st4, rd5, rn5, st5, rd6, rn6, st6, rd7, rn7, st7, rd8, rn8, st8, rd9, rn9, st9, rd10, rn10, st10, rd11, rn11, st11, rd12, rn12, st12, rd13, rn13, st13, rd14, rn14, st14, rd15, rn15, st15, rd16, rn16, st16, rd17, rn17, st17, rd18, rn18, st18, rd19, rn19, st19, rd20, rn20, st20, rd21, rn21, st21, rd22, rn22, st22, rd23, rn23, st23, rd24, rn24, st24, rd25, rn25, st25, e_int, e_str, e_bl, e_non, e_var, v_int, v_str, v_bl, v_non, v_tup, v_ins, v_scr, v_lst, v_lstF, e_tup, e_lst, e_neg, e_bin, e_not, e_ands, e_ors, e_cmp, e_chn, e_ite, e_idxv, e_idx, e_slc, e_rev, e_cal, e_new, e_mth, e_app, e_att, e_len, e_blt1, e_lenE, e_blt2, e_smt, e_pop, e_pop0, e_isi, a_one, a_more, o_one, o_more, k_nil, k_cons, l_nil, l_io, l_cons, io_lst, i_nil, i_io, i_cons, out_ok, out_ok1, out_exn, mthR_ins, new_exn, hasM_ins, x_skip, x_seq, x_exp, x_asg, x_sat, sat_obj, x_apd, isLst_lst, x_ite, x_whl, x_for, t_rng, t_it, rng_some, x_ret, r_nil, r_var, r_e, ret_int, ret_str, ret_bl, ret_non, ret_tup, ret_ins, ret_lst, ret_lstF, x_rai, x_try, x_brk, x_cnt, h_ret, h_inc, h_nil, inc_int, conD_bl, conD_int, conD_str, conD_non, lift_ok, b_int, b_add, b_sub, b_mul, b_fdiv, b_mod, cr_ok, cr_exn, i_add, i_sub, n_int, n_ins, not_bl, eqO_ok, neO_ok, c_eq_ins, c_eq_int, c_eq_str, c_eq_bl, c_ne_ins, c_ne_int, c_ne_str, c_ne_bl, c_lt, c_le, c_gt, c_ge, c_is_bl, c_isn_bl, c_is_non, c_isn_non, c_in, c_notin, fz_int, fz_str, fz_bl, fz_scr, fz_nil, fz_tup, fz_ins, fz_lst, fz_lstF, zs_nil, zs_cons, len_lst, len_tup, len_scr, s_ins, s_str, strO_ok, strO_exn, s_abs, items_lst, items_tup, isi_int, isi_bl, isi_str, isi_non, isi_tup, isi_lst, isi_ins, fin_ret, fin_nxt, fin_exn, fin_ret0, fin_nxt0, wN_nxt, wN_cnt, put_nam, wT_ok, callR_eq, eq_self, beq_self_eq_true, Res.bind, Res.bindS, Rs.bind, tst, Rs.lift, reduceCtorEq, ne_eq, not_false_eq_true, implies_true, ite_true, ite_false, Bool.false_eq_true, decide_true, decide_false, Bool.not_true, Bool.not_false, List.length_cons, List.length_nil, List.cons_append, List.nil_append, reduceIte, start0, List.map_cons, List.map_nil, List.any_cons, List.any_nil, tyD, Bool.or_true, Bool.or_false, Bool.true_or, Bool.false_or, Nat.reduceAdd, Nat.reduceSub, List.drop_succ_cons, List.drop_nil, List.drop_zero, List.replicate_succ, List.replicate_zero, List.append_nil, Option.map_none, Option.map_some, isNon, isStr, Option.isSome_some, Option.isSome_none, forall_const, false_or, or_false, or_true, true_or, not_true_eq_false, and_self, and_true, true_and, ratio_n h, ratio_d h, ratio_new h n _ _ hn hd]
theorem ratio_inv0 (n : Nat) : callN N P (n + 2) (mfid 3 12) [rt 0] = .exn xZero := by
  rw [callE h2.inv 1 rfl rfl]
  simp only [f_Ratio_inverse, c_Ratio_inverse, rd0, rn0, st0, rd1, rn1, st1, rd2, rn2, st2, rd3, rn3, st3, rd4, rn4, st4, rd5, rn5, st5, rd6, rn6, st6, rd7, rn7, st7, rd8, rn8, st8, rd9, rn9, st9, rd10, rn10, st10, rd11, rn11, st11, rd12, rn12, st12, rd13, rn13, st13, rd14, rn14, st14, rd15, rn15, st15, rd16, rn16, st16, rd17, rn17, st17, rd18, rn18, st18, rd19, rn19, st19, rd20, rn20, st20, rd21, rn21, st21, rd22, rn22, st22, rd23, rn23, st23, rd24, rn24, st24, rd25, rn25, st25, e_int, e_str, e_bl, e_non, e_var, v_int, v_str, v_bl, v_non, v_tup, v_ins, v_scr, v_lst, v_lstF, e_tup, e_lst, e_neg, e_bin, e_not, e_ands, e_ors, e_cmp, e_chn, e_ite, e_idxv, e_idx, e_slc, e_rev, e_cal, e_new, e_mth, e_app, e_att, e_len, e_blt1, e_lenE, e_blt2, e_smt, e_pop, e_pop0, e_isi, a_one, a_more, o_one, o_more, k_nil, k_cons, l_nil, l_io, l_cons, io_lst, i_nil, i_io, i_cons, out_ok, out_ok1, out_exn, mthR_ins, new_exn, hasM_ins, x_skip, x_seq, x_exp, x_asg, x_sat, sat_obj, x_apd, isLst_lst, x_ite, x_whl, x_for, t_rng, t_it, rng_some, x_ret, r_nil, r_var, r_e, ret_int, ret_str, ret_bl, ret_non, ret_tup, ret_ins, ret_lst, ret_lstF, x_rai, x_try, x_brk, x_cnt, h_ret, h_inc, h_nil, inc_int, conD_bl, conD_int, conD_str, conD_non, lift_ok, b_int, b_add, b_sub, b_mul, b_fdiv, b_mod, cr_ok, cr_exn, i_add, i_sub, n_int, n_ins, not_bl, eqO_ok, neO_ok, c_eq_ins, c_eq_int, c_eq_str, c_eq_bl, c_ne_ins, c_ne_int, c_ne_str, c_ne_bl, c_lt, c_le, c_gt, c_ge, c_is_bl, c_isn_bl, c_is_non, c_isn_non, c_in, c_notin, fz_int, fz_str, fz_bl, fz_scr, fz_nil, fz_tup, fz_ins, fz_lst, fz_lstF, zs_nil, zs_cons, len_lst, len_tup, len_scr, s_ins, s_str, strO_ok, strO_exn, s_abs, items_lst, items_tup, isi_int, isi_bl, isi_str, isi_non, isi_tup, isi_lst, isi_ins, fin_ret, fin_nxt, fin_exn, fin_ret0, fin_nxt0, wN_nxt, wN_cnt, put_nam, wT_ok, callR_eq, eq_self, beq_self_eq_true, Res.bind, Res.bindS, Rs.bind, tst, Rs.lift, reduceCtorEq, ne_eq, not_false_eq_true, implies_true, ite_true, ite_false, Bool.false_eq_true, decide_true, decide_false, Bool.not_true, Bool.not_false, List.length_cons, List.length_nil, List.cons_append, List.nil_append, reduceIte, start0, List.map_cons, List.map_nil, List.any_cons, List.any_nil, tyD, Bool.or_true, Bool.or_false, Bool.true_or, Bool.false_or, Nat.reduceAdd, Nat.reduceSub, List.drop_succ_cons, List.drop_nil, List.drop_zero, List.replicate_succ, List.replicate_zero, List.append_nil, Option.map_none, Option.map_some, isNon, isStr, Option.isSome_some, Option.isSome_none, forall_const, false_or, or_false, or_true, true_or, not_true_eq_false, and_self, and_true, true_and, ratio_n h, ratio_d h, Rat.zero_num, Rat.zero_den, ratio_new0 h]
theorem ratio_over {k l : Nat} (n : Nat) (p q : Rat) (hq : q ≠ 0) (a : Bnd k p) (b : Bnd l q) (hk : k + l ≤ lim9) : callN N P (n + 3) (mfid 3 13) [rt p, rt q] = .ok (rt (p * q⁻¹)) [] := by
  rw [callE h2.over 2 rfl rfl]
  have i := ratio_inv h h2 n q hq b (by omega)
  have m := ratio_mul h n p q⁻¹ a (b.inv b.pos) hk
  simp only [f_Ratio_over, c_Ratio_over, rd0, rn0, st0, rd1, rn1, st1, rd2, rn2, st2, rd3, rn3, st3, rd4, rn4, st4, rd5, rn5, st5, rd6, rn6, st6, rd7, rn7, st7, rd8, rn8, st8, rd9, rn9, st9, rd10, rn10, st10, rd11, rn11, st11, rd12, rn12, st12, rd13, rn13, st13, rd14, rn14, st14, rd15, rn15, st15, rd16, rn16, st16, rd17, rn17, st17, rd18, rn18, st18, rd19, rn19, st19, rd20, rn20, st20, rd21, rn21, st21, rd22, rn22, st22, rd23, rn23, st23, rd24, rn24, st24, rd25, rn25, st25, e_int, e_str, e_bl, e_non, e_var, v_int, v_str, v_bl, v_non, v_tup, v_ins, v_scr, v_lst, v_lstF, e_tup, e_lst, e_neg, e_bin, e_not, e_ands, e_ors, e_cmp, e_chn, e_ite, e_idxv, e_idx, e_slc, e_rev, e_cal, e_new, e_mth, e_app, e_att, e_len, e_blt1, e_lenE, e_blt2, e_smt, e_pop, e_pop0, e_isi, a_one, a_more, o_one, o_more, k_nil, k_cons, l_nil, l_io, l_cons, io_lst, i_nil, i_io, i_cons, out_ok, out_ok1, out_exn, mthR_ins, new_exn, hasM_ins, x_skip, x_seq, x_exp, x_asg, x_sat, sat_obj, x_apd, isLst_lst, x_ite, x_whl, x_for, t_rng, t_it, rng_some, x_ret, r_nil, r_var, r_e, ret_int, ret_str, ret_bl, ret_non, ret_tup, ret_ins, ret_lst, ret_lstF, x_rai, x_try, x_brk, x_cnt, h_ret, h_inc, h_nil, inc_int, conD_bl, conD_int, conD_str, conD_non, lift_ok, b_int, b_add, b_sub, b_mul, b_fdiv, b_mod, cr_ok, cr_exn, i_add, i_sub, n_int, n_ins, not_bl, eqO_ok, neO_ok, c_eq_ins, c_eq_int, c_eq_str, c_eq_bl, c_ne_ins, c_ne_int, c_ne_str, c_ne_bl, c_lt, c_le, c_gt, c_ge, c_is_bl, c_isn_bl, c_is_non, c_isn_non, c_in, c_notin, fz_int, fz_str, fz_bl, fz_scr, fz_nil, fz_tup, fz_ins, fz_lst, fz_lstF, zs_nil, zs_cons, len_lst, len_tup, len_scr, s_ins, s_str, strO_ok, strO_exn, s_abs, items_lst, items_tup, isi_int, isi_bl, isi_str, isi_non, isi_tup, isi_lst, isi_ins, fin_ret, fin_nxt, fin_exn, fin_ret0, fin_nxt0, wN_nxt, wN_cnt, put_nam, wT_ok, callR_eq, eq_self, beq_self_eq_true, Res.bind, Res.bindS, Rs.bind, tst, Rs.lift, reduceCtorEq, ne_eq, not_false_eq_true, implies_true, ite_true, ite_false, Bool.false_eq_true, decide_true, decide_false, Bool.not_true, Bool.not_false, List.length_cons, List.length_nil, List.cons_append, List.nil_append, reduceIte, start0, List.map_cons, List.map_nil, List.any_cons, List.any_nil, tyD, Bool.or_true, Bool.or_false, Bool.true_or, Bool.false_or, Nat.reduceAdd, Nat.reduceSub, List.drop_succ_cons, List.drop_nil, List.drop_zero, List.replicate_succ, List.replicate_zero, List.append_nil, Option.map_none, Option.map_some, isNon, isStr, Option.isSome_some, Option.isSome_none, forall_const, false_or, or_false, or_true, true_or, not_true_eq_false, and_self, and_true, true_and, h2.h12, i, m]
theorem ratio_over0 (n : Nat) (p : Rat) : callN N P (n + 3) (mfid 3 13) [rt p, rt 0] = .exn xZero := by
  rw [callE h2.over 2 rfl rfl]
  have i := ratio_inv0 h h2 n
  simp only [f_Ratio_over, c_Ratio_over, rd0, rn0, st0, rd1, rn1, st1, rd2, rn2, st2, rd3, rn3, st3, rd4, rn4, st4, rd5, rn5, st5, rd6, rn6, st6, rd7, rn7, st7, rd8, rn8, st8, rd9, rn9, st9, rd10, rn10, st10, rd11, rn11, st11, rd12, rn12, st12, rd13, rn13, st13, rd14, rn14, st14, rd15, rn15, st15, rd16, rn16, st16, rd17, rn17, st17, rd18, rn18, st18, rd19, rn19, st19, rd20, rn20, st20, rd21, rn21, st21, rd22, rn22, st22, rd23, rn23, st23, rd24, rn24, st24, rd25, rn25, st25, e_int, e_str, e_bl, e_non, e_var, v_int, v_str, v_bl, v_non, v_tup, v_ins, v_scr, v_lst, v_lstF, e_tup, e_lst, e_neg, e_bin, e_not, e_ands, e_ors, e_cmp, e_chn, e_ite, e_idxv, e_idx, e_slc, e_rev, e_cal, e_new, e_mth, e_app, e_att, e_len, e_blt1, e_lenE, e_blt2, e_smt, e_pop, e_pop0, e_isi, a_one, a_more, o_one, o_more, k_nil, k_cons, l_nil, l_io, l_cons, io_lst, i_nil, i_io, i_cons, out_ok, out_ok1, out_exn, mthR_ins, new_exn, hasM_ins, x_skip, x_seq, x_exp, x_asg, x_sat, sat_obj, x_apd, isLst_lst, x_ite, x_whl, x_for, t_rng, t_it, rng_some, x_ret, r_nil, r_var, r_e, ret_int, ret_str, ret_bl, ret_non, ret_tup, ret_ins, ret_lst, ret_lstF, x_rai, x_try, x_brk, x_cnt, h_ret, h_inc, h_nil, inc_int, conD_bl, conD_int, conD_str, conD_non, lift_ok, b_int, b_add, b_sub, b_mul, b_fdiv, b_mod, cr_ok, cr_exn, i_add, i_sub, n_int, n_ins, not_bl, eqO_ok, neO_ok, c_eq_ins, c_eq_int, c_eq_str, c_eq_bl, c_ne_ins, c_ne_int, c_ne_str, c_ne_bl, c_lt, c_le, c_gt, c_ge, c_is_bl, c_isn_bl, c_is_non, c_isn_non, c_in, c_notin, fz_int, fz_str, fz_bl, fz_scr, fz_nil, fz_tup, fz_ins, fz_lst, fz_lstF, zs_nil, zs_cons, len_lst, len_tup, len_scr, s_ins, s_str, strO_ok, strO_exn, s_abs, items_lst, items_tup, isi_int, isi_bl, isi_str, isi_non, isi_tup, isi_lst, isi_ins, fin_ret, fin_nxt, fin_exn, fin_ret0, fin_nxt0, wN_nxt, wN_cnt, put_nam, wT_ok, callR_eq, eq_self, beq_self_eq_true, Res.bind, Res.bindS, Rs.bind, tst, Rs.lift, reduceCtorEq, ne_eq, not_false_eq_true, implies_true, ite_true, ite_false, Bool.false_eq_true, decide_true, decide_false, Bool.not_true, Bool.not_false, List.length_cons, List.length_nil, List.cons_append, List.nil_append, reduceIte, start0, List.map_cons, List.map_nil, List.any_cons, List.any_nil, tyD, Bool.or_true, Bool.or_false, Bool.true_or, Bool.false_or, Nat.reduceAdd, Nat.reduceSub, List.drop_succ_cons, List.drop_nil, List.drop_zero, List.replicate_succ, List.replicate_zero, List.append_nil, Option.map_none, Option.map_some, isNon, isStr, Option.isSome_some, Option.isSome_none, forall_const, false_or, or_false, or_true, true_or, not_true_eq_false, and_self, and_true, true_and, h2.h12, i]
/-- a rational number's text -/
def rtx (p : Rat) : Str := if p.den = 1 then tx_ p.num else tx_ p.num ++ Str.ofString "/" ++ tx_ p.den
theorem ratio_str (hw : HW N P) (n : Nat) (p : Rat) (a : Bnd 160 p) : callN N P (n + 3) (mfid 3 mStr) [rt p] = .ok (.str (rtx p)) [] := by
  rw [callE h2.str 1 rfl rfl]
  have a1 : p.num.natAbs < 100000000000000000000000000000000000000000000000000 := Nat.lt_trans a.1 (by decide)
  have a2 : (p.den : Int).natAbs < 100000000000000000000000000000000000000000000000000 := Nat.lt_trans a.2 (by decide)
  have w1 := wi_ok hw n p.num a1
  have w2 := wi_ok hw n p.den a2
  have l1 := tx_len p.num 160 a.1 (by decide)
  have l2 := tx_len p.den 160 a.2 (by decide)
  unfold rtx
  by_cases z : p.den = 1
  · have z' : (p.den : Int) = 1 := by omega
    have q : smtD .join (.str (Str.ofString "")) [.lst true [.str (tx_ p.num)]] = .ok (.str (tx_ p.num)) := by
      have : ((tx_ p.num).length + 0) + 1 * 0 ≤ lim := by unfold lim; omega
      exact if_pos this
    rw [if_pos z]
    simp only [f_Ratio_str, c_Ratio_str, rd0, rn0, st0, rd1, rn1, st1, rd2, rn2, st2, rd3, rn3, st3, rd4, rn4, st4, rd5, rn5, st5, rd6, rn6, st6, rd7, rn7, st7, rd8, rn8, st8, rd9, rn9, st9, rd10, rn10, st10, rd11, rn11, st11, rd12, rn12, st12, rd13, rn13, st13, rd14, rn14, st14, rd15, rn15, st15, rd16, rn16, st16, rd17, rn17, st17, rd18, rn18, st18, rd19, rn19, st19, rd20, rn20, st20, rd21, rn21, st21, rd22, rn22, st22, rd23, rn23, st23, rd24, rn24, st24, rd25, rn25, st25, e_int, e_str, e_bl, e_non, e_var, v_int, v_str, v_bl, v_non, v_tup, v_ins, v_scr, v_lst, v_lstF, e_tup, e_lst, e_neg, e_bin, e_not, e_ands, e_ors, e_cmp, e_chn, e_ite, e_idxv, e_idx, e_slc, e_rev, e_cal, e_new, e_mth, e_app, e_att, e_len, e_blt1, e_lenE, e_blt2, e_smt, e_pop, e_pop0, e_isi, a_one, a_more, o_one, o_more, k_nil, k_cons, l_nil, l_io, l_cons, io_lst, i_nil, i_io, i_cons, out_ok, out_ok1, out_exn, mthR_ins, new_exn, hasM_ins, x_skip, x_seq, x_exp, x_asg, x_sat, sat_obj, x_apd, isLst_lst, x_ite, x_whl, x_for, t_rng, t_it, rng_some, x_ret, r_nil, r_var, r_e, ret_int, ret_str, ret_bl, ret_non, ret_tup, ret_ins, ret_lst, ret_lstF, x_rai, x_try, x_brk, x_cnt, h_ret, h_inc, h_nil, inc_int, conD_bl, conD_int, conD_str, conD_non, lift_ok, b_int, b_add, b_sub, b_mul, b_fdiv, b_mod, cr_ok, cr_exn, i_add, i_sub, n_int, n_ins, not_bl, eqO_ok, neO_ok, c_eq_ins, c_eq_int, c_eq_str, c_eq_bl, c_ne_ins, c_ne_int, c_ne_str, c_ne_bl, c_lt, c_le, c_gt, c_ge, c_is_bl, c_isn_bl, c_is_non, c_isn_non, c_in, c_notin, fz_int, fz_str, fz_bl, fz_scr, fz_nil, fz_tup, fz_ins, fz_lst, fz_lstF, zs_nil, zs_cons, len_lst, len_tup, len_scr, s_ins, s_str, strO_ok, strO_exn, s_abs, items_lst, items_tup, isi_int, isi_bl, isi_str, isi_non, isi_tup, isi_lst, isi_ins, fin_ret, fin_nxt, fin_exn, fin_ret0, fin_nxt0, wN_nxt, wN_cnt, put_nam, wT_ok, callR_eq, eq_self, beq_self_eq_true, Res.bind, Res.bindS, Rs.bind, tst, Rs.lift, reduceCtorEq, ne_eq, not_false_eq_true, implies_true, ite_true, ite_false, Bool.false_eq_true, decide_true, decide_false, Bool.not_true, Bool.not_false, List.length_cons, List.length_nil, List.cons_append, List.nil_append, reduceIte, start0, List.map_cons, List.map_nil, List.any_cons, List.any_nil, tyD, Bool.or_true, Bool.or_false, Bool.true_or, Bool.false_or, Nat.reduceAdd, Nat.reduceSub, List.drop_succ_cons, List.drop_nil, List.drop_zero, List.replicate_succ, List.replicate_zero, List.append_nil, Option.map_none, Option.map_some, isNon, isStr, Option.isSome_some, Option.isSome_none, forall_const, false_or, or_false, or_true, true_or, not_true_eq_false, and_self, and_true, true_and, ratio_n h, ratio_d h, z', w1, q]
  · have z' : ¬ (p.den : Int) = 1 := by omega
    have q : smtD .join (.str (Str.ofString "/")) [.lst true [.str (tx_ p.num), .str (tx_ p.den)]] = .ok (.str (tx_ p.num ++ Str.ofString "/" ++ tx_ p.den)) := by
      have : ((tx_ p.num).length + ((tx_ p.den).length + 0)) + 2 * 1 ≤ lim := by unfold lim; omega
      exact if_pos this
    rw [if_neg z]
    simp only [f_Ratio_str, c_Ratio_str, rd0, rn0, st0, rd1, rn1, st1, rd2, rn2, st2, rd3, rn3, st3, rd4, rn4, st4, rd5, rn5, st5, rd6, rn6, st6, rd7, rn7, st7, rd8, rn8, st8, rd9, rn9, st9, rd10, rn10, st10, rd11, rn11, st11, rd12, rn12, st12, rd13, rn13, st13, rd14, rn14, st14, rd15, rn15, st15, rd16, rn16, st16, rd17, rn17, st17, rd18, rn18, st18, rd19, rn19, st19, rd20, rn20, st20, rd21, rn21, st21, rd22, rn22, st22, rd23, rn23, st23, rd24, rn24, st24, rd25, rn25, st25, e_int, e_str, e_bl, e_non, e_var, v_int, v_str, v_bl, v_non, v_tup, v_ins, v_scr, v_lst, v_lstF, e_tup, e_lst, e_neg, e_bin, e_not, e_ands, e_ors, e_cmp, e_chn, e_ite, e_idxv, e_idx, e_slc, e_rev, e_cal, e_new, e_mth, e_app, e_att, e_len, e_blt1, e_lenE, e_blt2, e_smt, e_pop, e_pop0, e_isi, a_one, a_more, o_one, o_more, k_nil, k_cons, l_nil, l_io, l_cons, io_lst, i_nil, i_io, i_cons, out_ok, out_ok1, out_exn, mthR_ins, new_exn, hasM_ins, x_skip, x_seq, x_exp, x_asg, x_sat, sat_obj, x_apd, isLst_lst, x_ite, x_whl, x_for, t_rng, t_it, rng_some, x_ret, r_nil, r_var, r_e, ret_int, ret_str, ret_bl, ret_non, ret_tup, ret_ins, ret_lst, ret_lstF, x_rai, x_try, x_brk, x_cnt, h_ret, h_inc, h_nil, inc_int, conD_bl, conD_int, conD_str, conD_non, lift_ok, b_int, b_add, b_sub, b_mul, b_fdiv, b_mod, cr_ok, cr_exn, i_add, i_sub, n_int, n_ins, not_bl, eqO_ok, neO_ok, c_eq_ins, c_eq_int, c_eq_str, c_eq_bl, c_ne_ins, c_ne_int, c_ne_str, c_ne_bl, c_lt, c_le, c_gt, c_ge, c_is_bl, c_isn_bl, c_is_non, c_isn_non, c_in, c_notin, fz_int, fz_str, fz_bl, fz_scr, fz_nil, fz_tup, fz_ins, fz_lst, fz_lstF, zs_nil, zs_cons, len_lst, len_tup, len_scr, s_ins, s_str, strO_ok, strO_exn, s_abs, items_lst, items_tup, isi_int, isi_bl, isi_str, isi_non, isi_tup, isi_lst, isi_ins, fin_ret, fin_nxt, fin_exn, fin_ret0, fin_nxt0, wN_nxt, wN_cnt, put_nam, wT_ok, callR_eq, eq_self, beq_self_eq_true, Res.bind, Res.bindS, Rs.bind, tst, Rs.lift, reduceCtorEq, ne_eq, not_false_eq_true, implies_true, ite_true, ite_false, Bool.false_eq_true, decide_true, decide_false, Bool.not_true, Bool.not_false, List.length_cons, List.length_nil, List.cons_append, List.nil_append, reduceIte, start0, List.map_cons, List.map_nil, List.any_cons, List.any_nil, tyD, Bool.or_true, Bool.or_false, Bool.true_or, Bool.false_or, Nat.reduceAdd, Nat.reduceSub, List.drop_succ_cons, List.drop_nil, List.drop_zero, List.replicate_succ, List.replicate_zero, List.append_nil, Option.map_none, Option.map_some, isNon, isStr, Option.isSome_some, Option.isSome_none, forall_const, false_or, or_false, or_true, true_or, not_true_eq_false, and_self, and_true, true_and, ratio_n h, ratio_d h, z', w1, w2, q]
end
end Z

namespace Z
open PySem L2
def prs : List Int := [2, 3, 5, 7, 11, 13, 17, 19, 23, 29, 31]
theorem prs_pos {p : Int} (h : p ∈ prs) : 2 ≤ p ∧ p ≤ 31 := by
  have : ∀ x ∈ prs, 2 ≤ x ∧ x ≤ 31 := by decide
  exact this p h
abbrev rs (p a : Int) : D := .ins 4 [.int p, .int a]
structure HS (N : Nm) (P : Nat → Option Fd) : Prop where
  fl : N.fl 4 = [2, 0]
  x1 : N.xf 1 = none
  x2 : N.xf 2 = none
  gl : N.gl 1 = some (.tup (prs.map .int))
  issp : P 2 = some f_is_small_prime
  init : P (mfid 4 mInit) = some f_Residue_init
  eq : P (mfid 4 mEq) = some f_Residue_eq
  add : P (mfid 4 mAdd) = some f_Residue_add
  sub : P (mfid 4 mSub) = some f_Residue_sub
  mul : P (mfid 4 mMul) = some f_Residue_mul
  neg : P (mfid 4 mNeg) = some f_Residue_neg
theorem in_prs (p : Int) : inR (.int p) (.tup (prs.map .int)) = .ok (decide (p ∈ prs)) := by
  show (if kin (.int p) (prs.map .int) then Rs.ok (inD (.int p) (prs.map .int)) else Rs.stuck) = _
  rw [if_pos (by rfl)]
  simp [prs, inD, Bool.or_assoc]
theorem fm {a p : Int} (h : 0 < p) : a.fmod p = a % p := Int.fmod_eq_emod_of_nonneg _ (by omega)
section
variable {N : Nm} {P : Nat → Option Fd} (hw : HW N P) (h : HS N P)
include hw h
omit hw in
theorem glo_prs (C : Calls) (e : Env) : evE N C (.glo 1) e = .ok (.tup (prs.map .int)) e := by
  rw [e_glo, h.gl]
theorem issp_int (n : Nat) (p : Int) : callN N P (n + 2) 2 [.int p] = .ok (.bl (decide (p ∈ prs))) [] := by
  rw [callE h.issp 1 rfl rfl]
  simp only [f_is_small_prime, c_is_small_prime, rd0, rn0, st0, rd1, rn1, st1, rd2, rn2, st2, rd3, rn3, st3, rd4, rn4, st4, rd5, rn5, st5, rd6, rn6, st6, rd7, rn7, st7, rd8, rn8, st8, rd9, rn9, st9, rd10, rn10, st10, rd11, rn11, st11, rd12, rn12, st12, rd13, rn13, st13, rd14, rn14, st14, rd15, rn15, st15, rd16, rn16, st16, rd17, rn17, st17, rd18, rn18, st18, rd19, rn19, st19, rd20, rn20, st20, rd21, rn21, st21, rd22, rn22, st22, rd23, rn23, st23, rd24, rn24, st24, rd25, rn25, st25, e_int, e_str, e_bl, e_non, e_var, v_int, v_str, v_bl, v_non, v_tup, v_ins, v_scr, v_lst, v_lstF, e_tup, e_lst, e_neg, e_bin, e_not, e_ands, e_ors, e_cmp, e_chn, e_ite, e_idxv, e_idx, e_slc, e_rev, e_cal, e_new, e_mth, e_app, e_att, e_len, e_blt1, e_lenE, e_blt2, e_smt, e_pop, e_pop0, e_isi, a_one, a_more, o_one, o_more, k_nil, k_cons, l_nil, l_io, l_cons, io_lst, i_nil, i_io, i_cons, out_ok, out_ok1, out_exn, mthR_ins, new_exn, hasM_ins, x_skip, x_seq, x_exp, x_asg, x_sat, sat_obj, x_apd, isLst_lst, x_ite, x_whl, x_for, t_rng, t_it, rng_some, x_ret, r_nil, r_var, r_e, ret_int, ret_str, ret_bl, ret_non, ret_tup, ret_ins, ret_lst, ret_lstF, x_rai, x_try, x_brk, x_cnt, h_ret, h_inc, h_nil, inc_int, conD_bl, conD_int, conD_str, conD_non, lift_ok, b_int, b_add, b_sub, b_mul, b_fdiv, b_mod, cr_ok, cr_exn, i_add, i_sub, n_int, n_ins, not_bl, eqO_ok, neO_ok, c_eq_ins, c_eq_int, c_eq_str, c_eq_bl, c_ne_ins, c_ne_int, c_ne_str, c_ne_bl, c_lt, c_le, c_gt, c_ge, c_is_bl, c_isn_bl, c_is_non, c_isn_non, c_in, c_notin, fz_int, fz_str, fz_bl, fz_scr, fz_nil, fz_tup, fz_ins, fz_lst, fz_lstF, zs_nil, zs_cons, len_lst, len_tup, len_scr, s_ins, s_str, strO_ok, strO_exn, s_abs, items_lst, items_tup, isi_int, isi_bl, isi_str, isi_non, isi_tup, isi_lst, isi_ins, fin_ret, fin_nxt, fin_exn, fin_ret0, fin_nxt0, wN_nxt, wN_cnt, put_nam, wT_ok, callR_eq, eq_self, beq_self_eq_true, Res.bind, Res.bindS, Rs.bind, tst, Rs.lift, reduceCtorEq, ne_eq, not_false_eq_true, implies_true, ite_true, ite_false, Bool.false_eq_true, decide_true, decide_false, Bool.not_true, Bool.not_false, List.length_cons, List.length_nil, List.cons_append, List.nil_append, reduceIte, start0, List.map_cons, List.map_nil, List.any_cons, List.any_nil, tyD, Bool.or_true, Bool.or_false, Bool.true_or, Bool.false_or, Nat.reduceAdd, Nat.reduceSub, List.drop_succ_cons, List.drop_nil, List.drop_zero, List.replicate_succ, List.replicate_zero, List.append_nil, Option.map_none, Option.map_some, isNon, isStr, Option.isSome_some, Option.isSome_none, forall_const, false_or, or_false, or_true, true_or, not_true_eq_false, and_self, and_true, true_and, isint_int hw, glo_prs h, in_prs]
omit hw in
theorem res_p (x y : D) : field N (.ins 4 [x, y]) 2 = .ok x := by
  show (match (N.fl 4).idxOf? 2 with | some j => _ | none => _) = _
  rw [h.fl]
  rfl
omit hw in
theorem res_n (x y : D) : field N (.ins 4 [x, y]) 0 = .ok y := by
  show (match (N.fl 4).idxOf? 0 with | some j => _ | none => _) = _
  rw [h.fl]
  rfl
theorem res_init (n : Nat) (p a : Int) (hp : p ∈ prs) : callN N P (n + 3) (mfid 4 mInit) [.obj 4 [], .int p, .int a] = .ok .non [.obj 4 [.int p, .int (a % p)]] := by
  rw [callE h.init 3 rfl rfl]
  have p0 := prs_pos hp
  have pz : p ≠ 0 := by omega
  have e := fm (a := a) (p := p) (by omega)
  simp only [f_Residue_init, c_Residue_init, rd0, rn0, st0, rd1, rn1, st1, rd2, rn2, st2, rd3, rn3, st3, rd4, rn4, st4, rd5, rn5, st5, rd6, rn6, st6, rd7, rn7, st7, rd8, rn8, st8, rd9, rn9, st9, rd10, rn10, st10, rd11, rn11, st11, rd12, rn12, st12, rd13, rn13, st13, rd14, rn14, st14, rd15, rn15, st15, rd16, rn16, st16, rd17, rn17, st17, rd18, rn18, st18, rd19, rn19, st19, rd20, rn20, st20, rd21, rn21, st21, rd22, rn22, st22, rd23, rn23, st23, rd24, rn24, st24, rd25, rn25, st25, e_int, e_str, e_bl, e_non, e_var, v_int, v_str, v_bl, v_non, v_tup, v_ins, v_scr, v_lst, v_lstF, e_tup, e_lst, e_neg, e_bin, e_not, e_ands, e_ors, e_cmp, e_chn, e_ite, e_idxv, e_idx, e_slc, e_rev, e_cal, e_new, e_mth, e_app, e_att, e_len, e_blt1, e_lenE, e_blt2, e_smt, e_pop, e_pop0, e_isi, a_one, a_more, o_one, o_more, k_nil, k_cons, l_nil, l_io, l_cons, io_lst, i_nil, i_io, i_cons, out_ok, out_ok1, out_exn, mthR_ins, new_exn, hasM_ins, x_skip, x_seq, x_exp, x_asg, x_sat, sat_obj, x_apd, isLst_lst, x_ite, x_whl, x_for, t_rng, t_it, rng_some, x_ret, r_nil, r_var, r_e, ret_int, ret_str, ret_bl, ret_non, ret_tup, ret_ins, ret_lst, ret_lstF, x_rai, x_try, x_brk, x_cnt, h_ret, h_inc, h_nil, inc_int, conD_bl, conD_int, conD_str, conD_non, lift_ok, b_int, b_add, b_sub, b_mul, b_fdiv, b_mod, cr_ok, cr_exn, i_add, i_sub, n_int, n_ins, not_bl, eqO_ok, neO_ok, c_eq_ins, c_eq_int, c_eq_str, c_eq_bl, c_ne_ins, c_ne_int, c_ne_str, c_ne_bl, c_lt, c_le, c_gt, c_ge, c_is_bl, c_isn_bl, c_is_non, c_isn_non, c_in, c_notin, fz_int, fz_str, fz_bl, fz_scr, fz_nil, fz_tup, fz_ins, fz_lst, fz_lstF, zs_nil, zs_cons, len_lst, len_tup, len_scr, s_ins, s_str, strO_ok, strO_exn, s_abs, items_lst, items_tup, isi_int, isi_bl, isi_str, isi_non, isi_tup, isi_lst, isi_ins, fin_ret, fin_nxt, fin_exn, fin_ret0, fin_nxt0, wN_nxt, wN_cnt, put_nam, wT_ok, callR_eq, eq_self, beq_self_eq_true, Res.bind, Res.bindS, Rs.bind, tst, Rs.lift, reduceCtorEq, ne_eq, not_false_eq_true, implies_true, ite_true, ite_false, Bool.false_eq_true, decide_true, decide_false, Bool.not_true, Bool.not_false, List.length_cons, List.length_nil, List.cons_append, List.nil_append, reduceIte, start0, List.map_cons, List.map_nil, List.any_cons, List.any_nil, tyD, Bool.or_true, Bool.or_false, Bool.true_or, Bool.false_or, Nat.reduceAdd, Nat.reduceSub, List.drop_succ_cons, List.drop_nil, List.drop_zero, List.replicate_succ, List.replicate_zero, List.append_nil, Option.map_none, Option.map_some, isNon, isStr, Option.isSome_some, Option.isSome_none, forall_const, false_or, or_false, or_true, true_or, not_true_eq_false, and_self, and_true, true_and, issp_int hw h, isint_int hw, hp, h.fl, List.getElem?_cons_zero, List.getElem?_cons_succ, i_mod _ _ pz, e]
theorem res_bad (n : Nat) (p a : Int) (hp : p ∉ prs) : callN N P (n + 3) (mfid 4 mInit) [.obj 4 [], .int p, .int a] = .exn xMal := by
  rw [callE h.init 3 rfl rfl]
  simp only [f_Residue_init, c_Residue_init, rd0, rn0, st0, rd1, rn1, st1, rd2, rn2, st2, rd3, rn3, st3, rd4, rn4, st4, rd5, rn5, st5, rd6, rn6, st6, rd7, rn7, st7, rd8, rn8, st8, rd9, rn9, st9, rd10, rn10, st10, rd11, rn11, st11, rd12, rn12, st12, rd13, rn13, st13, rd14, rn14, st14, rd15, rn15, st15, rd16, rn16, st16, rd17, rn17, st17, rd18, rn18, st18, rd19, rn19, st19, rd20, rn20, st20, rd21, rn21, st21, rd22, rn22, st22, rd23, rn23, st23, rd24, rn24, st24, rd25, rn25, st25, e_int, e_str, e_bl, e_non, e_var, v_int, v_str, v_bl, v_non, v_tup, v_ins, v_scr, v_lst, v_lstF, e_tup, e_lst, e_neg, e_bin, e_not, e_ands, e_ors, e_cmp, e_chn, e_ite, e_idxv, e_idx, e_slc, e_rev, e_cal, e_new, e_mth, e_app, e_att, e_len, e_blt1, e_lenE, e_blt2, e_smt, e_pop, e_pop0, e_isi, a_one, a_more, o_one, o_more, k_nil, k_cons, l_nil, l_io, l_cons, io_lst, i_nil, i_io, i_cons, out_ok, out_ok1, out_exn, mthR_ins, new_exn, hasM_ins, x_skip, x_seq, x_exp, x_asg, x_sat, sat_obj, x_apd, isLst_lst, x_ite, x_whl, x_for, t_rng, t_it, rng_some, x_ret, r_nil, r_var, r_e, ret_int, ret_str, ret_bl, ret_non, ret_tup, ret_ins, ret_lst, ret_lstF, x_rai, x_try, x_brk, x_cnt, h_ret, h_inc, h_nil, inc_int, conD_bl, conD_int, conD_str, conD_non, lift_ok, b_int, b_add, b_sub, b_mul, b_fdiv, b_mod, cr_ok, cr_exn, i_add, i_sub, n_int, n_ins, not_bl, eqO_ok, neO_ok, c_eq_ins, c_eq_int, c_eq_str, c_eq_bl, c_ne_ins, c_ne_int, c_ne_str, c_ne_bl, c_lt, c_le, c_gt, c_ge, c_is_bl, c_isn_bl, c_is_non, c_isn_non, c_in, c_notin, fz_int, fz_str, fz_bl, fz_scr, fz_nil, fz_tup, fz_ins, fz_lst, fz_lstF, zs_nil, zs_cons, len_lst, len_tup, len_scr, s_ins, s_str, strO_ok, strO_exn, s_abs, items_lst, items_tup, isi_int, isi_bl, isi_str, isi_non, isi_tup, isi_lst, isi_ins, fin_ret, fin_nxt, fin_exn, fin_ret0, fin_nxt0, wN_nxt, wN_cnt, put_nam, wT_ok, callR_eq, eq_self, beq_self_eq_true, Res.bind, Res.bindS, Rs.bind, tst, Rs.lift, reduceCtorEq, ne_eq, not_false_eq_true, implies_true, ite_true, ite_false, Bool.false_eq_true, decide_true, decide_false, Bool.not_true, Bool.not_false, List.length_cons, List.length_nil, List.cons_append, List.nil_append, reduceIte, start0, List.map_cons, List.map_nil, List.any_cons, List.any_nil, tyD, Bool.or_true, Bool.or_false, Bool.true_or, Bool.false_or, Nat.reduceAdd, Nat.reduceSub, List.drop_succ_cons, List.drop_nil, List.drop_zero, List.replicate_succ, List.replicate_zero, List.append_nil, Option.map_none, Option.map_some, isNon, isStr, Option.isSome_some, Option.isSome_none, forall_const, false_or, or_false, or_true, true_or, not_true_eq_false, and_self, and_true, true_and, issp_int hw h, hp, h.x2]
theorem res_new (n : Nat) (p a : Int) (hp : p ∈ prs) : newR N (callN N P (n + 3)) 4 [.int p, .int a] = .ok (rs p (a % p)) := by
  rw [newR_eq, res_init hw h n p a hp, new_ok _ _ _ (by rw [h.fl]; rfl)]
theorem res_newB (n : Nat) (p a : Int) (hp : p ∉ prs) : newR N (callN N P (n + 3)) 4 [.int p, .int a] = .exn xMal := by
  rw [newR_eq, res_bad hw h n p a hp, new_exn]
omit hw in
theorem res_eq (n : Nat) (p a q b : Int) : callN N P (n + 1) (mfid 4 mEq) [rs p a, rs q b] = .ok (.bl (decide (p = q) && decide (a = b))) [] := by
  rw [callE h.eq 2 rfl rfl]
  by_cases z : p = q <;>
  simp only [f_Residue_eq, c_Residue_eq, rd0, rn0, st0, rd1, rn1, st1, rd2, rn2, st2, rd3, rn3, st3, rd4, rn4, st4, rd5, rn5, st5, rd6, rn6, st6, rd7, rn7, st7, rd8, rn8, st8, rd9, rn9, st9, rd10, rn10, st10, rd11, rn11, st11, rd12, rn12, st12, rd13, rn13, st13, rd14, rn14, st14, rd15, rn15, st15, rd16, rn16, st16, rd17, rn17, st17, rd18, rn18, st18, rd19, rn19, st19, rd20, rn20, st20, rd21, rn21, st21, rd22, rn22, st22, rd23, rn23, st23, rd24, rn24, st24, rd25, rn25, st25, e_int, e_str, e_bl, e_non, e_var, v_int, v_str, v_bl, v_non, v_tup, v_ins, v_scr, v_lst, v_lstF, e_tup, e_lst, e_neg, e_bin, e_not, e_ands, e_ors, e_cmp, e_chn, e_ite, e_idxv, e_idx, e_slc, e_rev, e_cal, e_new, e_mth, e_app, e_att, e_len, e_blt1, e_lenE, e_blt2, e_smt, e_pop, e_pop0, e_isi, a_one, a_more, o_one, o_more, k_nil, k_cons, l_nil, l_io, l_cons, io_lst, i_nil, i_io, i_cons, out_ok, out_ok1, out_exn, mthR_ins, new_exn, hasM_ins, x_skip, x_seq, x_exp, x_asg, x_sat, sat_obj, x_apd, isLst_lst, x_ite, x_whl, x_for, t_rng, t_it, rng_some, x_ret, r_nil, r_var, r_e, ret_int, ret_str, ret_bl, ret_non, ret_tup, ret_ins, ret_lst, ret_lstF, x_rai, x_try, x_brk, x_cnt, h_ret, h_inc, h_nil, inc_int, conD_bl, conD_int, conD_str, conD_non, lift_ok, b_int, b_add, b_sub, b_mul, b_fdiv, b_mod, cr_ok, cr_exn, i_add, i_sub, n_int, n_ins, not_bl, eqO_ok, neO_ok, c_eq_ins, c_eq_int, c_eq_str, c_eq_bl, c_ne_ins, c_ne_int, c_ne_str, c_ne_bl, c_lt, c_le, c_gt, c_ge, c_is_bl, c_isn_bl, c_is_non, c_isn_non, c_in, c_notin, fz_int, fz_str, fz_bl, fz_scr, fz_nil, fz_tup, fz_ins, fz_lst, fz_lstF, zs_nil, zs_cons, len_lst, len_tup, len_scr, s_ins, s_str, strO_ok, strO_exn, s_abs, items_lst, items_tup, isi_int, isi_bl, isi_str, isi_non, isi_tup, isi_lst, isi_ins, fin_ret, fin_nxt, fin_exn, fin_ret0, fin_nxt0, wN_nxt, wN_cnt, put_nam, wT_ok, callR_eq, eq_self, beq_self_eq_true, Res.bind, Res.bindS, Rs.bind, tst, Rs.lift, reduceCtorEq, ne_eq, not_false_eq_true, implies_true, ite_true, ite_false, Bool.false_eq_true, decide_true, decide_false, Bool.not_true, Bool.not_false, List.length_cons, List.length_nil, List.cons_append, List.nil_append, reduceIte, start0, List.map_cons, List.map_nil, List.any_cons, List.any_nil, tyD, Bool.or_true, Bool.or_false, Bool.true_or, Bool.false_or, Nat.reduceAdd, Nat.reduceSub, List.drop_succ_cons, List.drop_nil, List.drop_zero, List.replicate_succ, List.replicate_zero, List.append_nil, Option.map_none, Option.map_some, isNon, isStr, Option.isSome_some, Option.isSome_none, forall_const, false_or, or_false, or_true, true_or, not_true_eq_false, and_self, and_true, true_and, res_p h, res_n h, z, Bool.true_and, Bool.false_and]
omit hw in
theorem res_eqi (n : Nat) (p a i : Int) : callN N P (n + 1) (mfid 4 mEq) [rs p a, .int i] = .ok (.bl false) [] := by
  rw [callE h.eq 2 rfl rfl]
  simp only [f_Residue_eq, c_Residue_eq, rd0, rn0, st0, rd1, rn1, st1, rd2, rn2, st2, rd3, rn3, st3, rd4, rn4, st4, rd5, rn5, st5, rd6, rn6, st6, rd7, rn7, st7, rd8, rn8, st8, rd9, rn9, st9, rd10, rn10, st10, rd11, rn11, st11, rd12, rn12, st12, rd13, rn13, st13, rd14, rn14, st14, rd15, rn15, st15, rd16, rn16, st16, rd17, rn17, st17, rd18, rn18, st18, rd19, rn19, st19, rd20, rn20, st20, rd21, rn21, st21, rd22, rn22, st22, rd23, rn23, st23, rd24, rn24, st24, rd25, rn25, st25, e_int, e_str, e_bl, e_non, e_var, v_int, v_str, v_bl, v_non, v_tup, v_ins, v_scr, v_lst, v_lstF, e_tup, e_lst, e_neg, e_bin, e_not, e_ands, e_ors, e_cmp, e_chn, e_ite, e_idxv, e_idx, e_slc, e_rev, e_cal, e_new, e_mth, e_app, e_att, e_len, e_blt1, e_lenE, e_blt2, e_smt, e_pop, e_pop0, e_isi, a_one, a_more, o_one, o_more, k_nil, k_cons, l_nil, l_io, l_cons, io_lst, i_nil, i_io, i_cons, out_ok, out_ok1, out_exn, mthR_ins, new_exn, hasM_ins, x_skip, x_seq, x_exp, x_asg, x_sat, sat_obj, x_apd, isLst_lst, x_ite, x_whl, x_for, t_rng, t_it, rng_some, x_ret, r_nil, r_var, r_e, ret_int, ret_str, ret_bl, ret_non, ret_tup, ret_ins, ret_lst, ret_lstF, x_rai, x_try, x_brk, x_cnt, h_ret, h_inc, h_nil, inc_int, conD_bl, conD_int, conD_str, conD_non, lift_ok, b_int, b_add, b_sub, b_mul, b_fdiv, b_mod, cr_ok, cr_exn, i_add, i_sub, n_int, n_ins, not_bl, eqO_ok, neO_ok, c_eq_ins, c_eq_int, c_eq_str, c_eq_bl, c_ne_ins, c_ne_int, c_ne_str, c_ne_bl, c_lt, c_le, c_gt, c_ge, c_is_bl, c_isn_bl, c_is_non, c_isn_non, c_in, c_notin, fz_int, fz_str, fz_bl, fz_scr, fz_nil, fz_tup, fz_ins, fz_lst, fz_lstF, zs_nil, zs_cons, len_lst, len_tup, len_scr, s_ins, s_str, strO_ok, strO_exn, s_abs, items_lst, items_tup, isi_int, isi_bl, isi_str, isi_non, isi_tup, isi_lst, isi_ins, fin_ret, fin_nxt, fin_exn, fin_ret0, fin_nxt0, wN_nxt, wN_cnt, put_nam, wT_ok, callR_eq, eq_self, beq_self_eq_true, Res.bind, Res.bindS, Rs.bind, tst, Rs.lift, reduceCtorEq, ne_eq, not_false_eq_true, implies_true, ite_true, ite_false, Bool.false_eq_true, decide_true, decide_false, Bool.not_true, Bool.not_false, List.length_cons, List.length_nil, List.cons_append, List.nil_append, reduceIte, start0, List.map_cons, List.map_nil, List.any_cons, List.any_nil, tyD, Bool.or_true, Bool.or_false, Bool.true_or, Bool.false_or, Nat.reduceAdd, Nat.reduceSub, List.drop_succ_cons, List.drop_nil, List.drop_zero, List.replicate_succ, List.replicate_zero, List.append_nil, Option.map_none, Option.map_some, isNon, isStr, Option.isSome_some, Option.isSome_none, forall_const, false_or, or_false, or_true, true_or, not_true_eq_false, and_self, and_true, true_and]
theorem res_add (n : Nat) (p a b : Int) (hp : p ∈ prs) : callN N P (n + 4) (mfid 4 mAdd) [rs p a, rs p b] = .ok (rs p ((a + b) % p)) [] := by
  rw [callE h.add 2 rfl rfl]
  simp only [f_Residue_add, c_Residue_add, rd0, rn0, st0, rd1, rn1, st1, rd2, rn2, st2, rd3, rn3, st3, rd4, rn4, st4, rd5, rn5, st5, rd6, rn6, st6, rd7, rn7, st7, rd8, rn8, st8, rd9, rn9, st9, rd10, rn10, st10, rd11, rn11, st11, rd12, rn12, st12, rd13, rn13, st13, rd14, rn14, st14, rd15, rn15, st15, rd16, rn16, st16, rd17, rn17, st17, rd18, rn18, st18, rd19, rn19, st19, rd20, rn20, st20, rd21, rn21, st21, rd22, rn22, st22, rd23, rn23, st23, rd24, rn24, st24, rd25, rn25, st25, e_int, e_str, e_bl, e_non, e_var, v_int, v_str, v_bl, v_non, v_tup, v_ins, v_scr, v_lst, v_lstF, e_tup, e_lst, e_neg, e_bin, e_not, e_ands, e_ors, e_cmp, e_chn, e_ite, e_idxv, e_idx, e_slc, e_rev, e_cal, e_new, e_mth, e_app, e_att, e_len, e_blt1, e_lenE, e_blt2, e_smt, e_pop, e_pop0, e_isi, a_one, a_more, o_one, o_more, k_nil, k_cons, l_nil, l_io, l_cons, io_lst, i_nil, i_io, i_cons, out_ok, out_ok1, out_exn, mthR_ins, new_exn, hasM_ins, x_skip, x_seq, x_exp, x_asg, x_sat, sat_obj, x_apd, isLst_lst, x_ite, x_whl, x_for, t_rng, t_it, rng_some, x_ret, r_nil, r_var, r_e, ret_int, ret_str, ret_bl, ret_non, ret_tup, ret_ins, ret_lst, ret_lstF, x_rai, x_try, x_brk, x_cnt, h_ret, h_inc, h_nil, inc_int, conD_bl, conD_int, conD_str, conD_non, lift_ok, b_int, b_add, b_sub, b_mul, b_fdiv, b_mod, cr_ok, cr_exn, i_add, i_sub, n_int, n_ins, not_bl, eqO_ok, neO_ok, c_eq_ins, c_eq_int, c_eq_str, c_eq_bl, c_ne_ins, c_ne_int, c_ne_str, c_ne_bl, c_lt, c_le, c_gt, c_ge, c_is_bl, c_isn_bl, c_is_non, c_isn_non, c_in, c_notin, fz_int, fz_str, fz_bl, fz_scr, fz_nil, fz_tup, fz_ins, fz_lst, fz_lstF, zs_nil, zs_cons, len_lst, len_tup, len_scr, s_ins, s_str, strO_ok, strO_exn, s_abs, items_lst, items_tup, isi_int, isi_bl, isi_str, isi_non, isi_tup, isi_lst, isi_ins, fin_ret, fin_nxt, fin_exn, fin_ret0, fin_nxt0, wN_nxt, wN_cnt, put_nam, wT_ok, callR_eq, eq_self, beq_self_eq_true, Res.bind, Res.bindS, Rs.bind, tst, Rs.lift, reduceCtorEq, ne_eq, not_false_eq_true, implies_true, ite_true, ite_false, Bool.false_eq_true, decide_true, decide_false, Bool.not_true, Bool.not_false, List.length_cons, List.length_nil, List.cons_append, List.nil_append, reduceIte, start0, List.map_cons, List.map_nil, List.any_cons, List.any_nil, tyD, Bool.or_true, Bool.or_false, Bool.true_or, Bool.false_or, Nat.reduceAdd, Nat.reduceSub, List.drop_succ_cons, List.drop_nil, List.drop_zero, List.replicate_succ, List.replicate_zero, List.append_nil, Option.map_none, Option.map_some, isNon, isStr, Option.isSome_some, Option.isSome_none, forall_const, false_or, or_false, or_true, true_or, not_true_eq_false, and_self, and_true, true_and, res_p h, res_n h, res_new hw h n _ _ hp]
theorem res_sub (n : Nat) (p a b : Int) (hp : p ∈ prs) : callN N P (n + 4) (mfid 4 mSub) [rs p a, rs p b] = .ok (rs p ((a - b) % p)) [] := by
  rw [callE h.sub 2 rfl rfl]
  simp only [f_Residue_sub, c_Residue_sub, rd0, rn0, st0, rd1, rn1, st1, rd2, rn2, st2, rd3, rn3, st3, rd4, rn4, st4, rd5, rn5, st5, rd6, rn6, st6, rd7, rn7, st7, rd8, rn8, st8, rd9, rn9, st9, rd10, rn10, st10, rd11, rn11, st11, rd12, rn12, st12, rd13, rn13, st13, rd14, rn14, st14, rd15, rn15, st15, rd16, rn16, st16, rd17, rn17, st17, rd18, rn18, st18, rd19, rn19, st19, rd20, rn20, st20, rd21, rn21, st21, rd22, rn22, st22, rd23, rn23, st23, rd24, rn24, st24, rd25, rn25, st25, e_int, e_str, e_bl, e_non, e_var, v_int, v_str, v_bl, v_non, v_tup, v_ins, v_scr, v_lst, v_lstF, e_tup, e_lst, e_neg, e_bin, e_not, e_ands, e_ors, e_cmp, e_chn, e_ite, e_idxv, e_idx, e_slc, e_rev, e_cal, e_new, e_mth, e_app, e_att, e_len, e_blt1, e_lenE, e_blt2, e_smt, e_pop, e_pop0, e_isi, a_one, a_more, o_one, o_more, k_nil, k_cons, l_nil, l_io, l_cons, io_lst, i_nil, i_io, i_cons, out_ok, out_ok1, out_exn, mthR_ins, new_exn, hasM_ins, x_skip, x_seq, x_exp, x_asg, x_sat, sat_obj, x_apd, isLst_lst, x_ite, x_whl, x_for, t_rng, t_it, rng_some, x_ret, r_nil, r_var, r_e, ret_int, ret_str, ret_bl, ret_non, ret_tup, ret_ins, ret_lst, ret_lstF, x_rai, x_try, x_brk, x_cnt, h_ret, h_inc, h_nil, inc_int, conD_bl, conD_int, conD_str, conD_non, lift_ok, b_int, b_add, b_sub, b_mul, b_fdiv, b_mod, cr_ok, cr_exn, i_add, i_sub, n_int, n_ins, not_bl, eqO_ok, neO_ok, c_eq_ins, c_eq_int, c_eq_str, c_eq_bl, c_ne_ins, c_ne_int, c_ne_str, c_ne_bl, c_lt, c_le, c_gt, c_ge, c_is_bl, c_isn_bl, c_is_non, c_isn_non, c_in, c_notin, fz_int, fz_str, fz_bl, fz_scr, fz_nil, fz_tup, fz_ins, fz_lst, fz_lstF, zs_nil, zs_cons, len_lst, len_tup, len_scr, s_ins, s_str, strO_ok, strO_exn, s_abs, items_lst, items_tup, isi_int, isi_bl, isi_str, isi_non, isi_tup, isi_lst, isi_ins, fin_ret, fin_nxt, fin_exn, fin_ret0, fin_nxt0, wN_nxt, wN_cnt, put_nam, wT_ok, callR_eq, eq_self, beq_self_eq_true, Res.bind, Res.bindS, Rs.bind, tst, Rs.lift, reduceCtorEq, ne_eq, not_false_eq_true, implies_true, ite_true, ite_false, Bool.false_eq_true, decide_true, decide_false, Bool.not_true, Bool.not_false, List.length_cons, List.length_nil, List.cons_append, List.nil_append, reduceIte, start0, List.map_cons, List.map_nil, List.any_cons, List.any_nil, tyD, Bool.or_true, Bool.or_false, Bool.true_or, Bool.false_or, Nat.reduceAdd, Nat.reduceSub, List.drop_succ_cons, List.drop_nil, List.drop_zero, List.replicate_succ, List.replicate_zero, List.append_nil, Option.map_none, Option.map_some, isNon, isStr, Option.isSome_some, Option.isSome_none, forall_const, false_or, or_false, or_true, true_or, not_true_eq_false, and_self, and_true, true_and, res_p h, res_n h, res_new hw h n _ _ hp]
theorem mulOk_p {p a b : Int} (hp : p ∈ prs) (ha : 0 ≤ a ∧ a < p) : mulOk a b = true := by
  have := prs_pos hp
  refine mulOk_l a b (decide_eq_true ?_)
  have : a.natAbs < 31 := by omega
  exact Nat.lt_of_lt_of_le this (by decide)
theorem res_mul (n : Nat) (p a b : Int) (hp : p ∈ prs) (ha : 0 ≤ a ∧ a < p) : callN N P (n + 4) (mfid 4 mMul) [rs p a, rs p b] = .ok (rs p ((a * b) % p)) [] := by
  rw [callE h.mul 2 rfl rfl]
  simp only [f_Residue_mul, c_Residue_mul, rd0, rn0, st0, rd1, rn1, st1, rd2, rn2, st2, rd3, rn3, st3, rd4, rn4, st4, rd5, rn5, st5, rd6, rn6, st6, rd7, rn7, st7, rd8, rn8, st8, rd9, rn9, st9, rd10, rn10, st10, rd11, rn11, st11, rd12, rn12, st12, rd13, rn13, st13, rd14, rn14, st14, rd15, rn15, st15, rd16, rn16, st16, rd17, rn17, st17, rd18, rn18, st18, rd19, rn19, st19, rd20, rn20, st20, rd21, rn21, st21, rd22, rn22, st22, rd23, rn23, st23, rd24, rn24, st24, rd25, rn25, st25, e_int, e_str, e_bl, e_non, e_var, v_int, v_str, v_bl, v_non, v_tup, v_ins, v_scr, v_lst, v_lstF, e_tup, e_lst, e_neg, e_bin, e_not, e_ands, e_ors, e_cmp, e_chn, e_ite, e_idxv, e_idx, e_slc, e_rev, e_cal, e_new, e_mth, e_app, e_att, e_len, e_blt1, e_lenE, e_blt2, e_smt, e_pop, e_pop0, e_isi, a_one, a_more, o_one, o_more, k_nil, k_cons, l_nil, l_io, l_cons, io_lst, i_nil, i_io, i_cons, out_ok, out_ok1, out_exn, mthR_ins, new_exn, hasM_ins, x_skip, x_seq, x_exp, x_asg, x_sat, sat_obj, x_apd, isLst_lst, x_ite, x_whl, x_for, t_rng, t_it, rng_some, x_ret, r_nil, r_var, r_e, ret_int, ret_str, ret_bl, ret_non, ret_tup, ret_ins, ret_lst, ret_lstF, x_rai, x_try, x_brk, x_cnt, h_ret, h_inc, h_nil, inc_int, conD_bl, conD_int, conD_str, conD_non, lift_ok, b_int, b_add, b_sub, b_mul, b_fdiv, b_mod, cr_ok, cr_exn, i_add, i_sub, n_int, n_ins, not_bl, eqO_ok, neO_ok, c_eq_ins, c_eq_int, c_eq_str, c_eq_bl, c_ne_ins, c_ne_int, c_ne_str, c_ne_bl, c_lt, c_le, c_gt, c_ge, c_is_bl, c_isn_bl, c_is_non, c_isn_non, c_in, c_notin, fz_int, fz_str, fz_bl, fz_scr, fz_nil, fz_tup, fz_ins, fz_lst, fz_lstF, zs_nil, zs_cons, len_lst, len_tup, len_scr, s_ins, s_str, strO_ok, strO_exn, s_abs, items_lst, items_tup, isi_int, isi_bl, isi_str, isi_non, isi_tup, isi_lst, isi_ins, fin_ret, fin_nxt, fin_exn, fin_ret0, fin_nxt0, wN_nxt, wN_cnt, put_nam, wT_ok, callR_eq, eq_self, beq_self_eq_true, Res.bind, Res.bindS, Rs.bind, tst, Rs.lift, reduceCtorEq, ne_eq, not_false_eq_true, implies_true, ite_true, ite_false, Bool.false_eq_true, decide_true, decide_false, Bool.not_true, Bool.not_false, List.length_cons, List.length_nil, List.cons_append, List.nil_append, reduceIte, start0, List.map_cons, List.map_nil, List.any_cons, List.any_nil, tyD, Bool.or_true, Bool.or_false, Bool.true_or, Bool.false_or, Nat.reduceAdd, Nat.reduceSub, List.drop_succ_cons, List.drop_nil, List.drop_zero, List.replicate_succ, List.replicate_zero, List.append_nil, Option.map_none, Option.map_some, isNon, isStr, Option.isSome_some, Option.isSome_none, forall_const, false_or, or_false, or_true, true_or, not_true_eq_false, and_self, and_true, true_and, res_p h, res_n h, res_new hw h n _ _ hp, i_mul _ _ (mulOk_p hw h hp ha)]
theorem res_neg (n : Nat) (p a : Int) (hp : p ∈ prs) : callN N P (n + 4) (mfid 4 mNeg) [rs p a] = .ok (rs p ((-a) % p)) [] := by
  rw [callE h.neg 1 rfl rfl]
  simp only [f_Residue_neg, c_Residue_neg, rd0, rn0, st0, rd1, rn1, st1, rd2, rn2, st2, rd3, rn3, st3, rd4, rn4, st4, rd5, rn5, st5, rd6, rn6, st6, rd7, rn7, st7, rd8, rn8, st8, rd9, rn9, st9, rd10, rn10, st10, rd11, rn11, st11, rd12, rn12, st12, rd13, rn13, st13, rd14, rn14, st14, rd15, rn15, st15, rd16, rn16, st16, rd17, rn17, st17, rd18, rn18, st18, rd19, rn19, st19, rd20, rn20, st20, rd21, rn21, st21, rd22, rn22, st22, rd23, rn23, st23, rd24, rn24, st24, rd25, rn25, st25, e_int, e_str, e_bl, e_non, e_var, v_int, v_str, v_bl, v_non, v_tup, v_ins, v_scr, v_lst, v_lstF, e_tup, e_lst, e_neg, e_bin, e_not, e_ands, e_ors, e_cmp, e_chn, e_ite, e_idxv, e_idx, e_slc, e_rev, e_cal, e_new, e_mth, e_app, e_att, e_len, e_blt1, e_lenE, e_blt2, e_smt, e_pop, e_pop0, e_isi, a_one, a_more, o_one, o_more, k_nil, k_cons, l_nil, l_io, l_cons, io_lst, i_nil, i_io, i_cons, out_ok, out_ok1, out_exn, mthR_ins, new_exn, hasM_ins, x_skip, x_seq, x_exp, x_asg, x_sat, sat_obj, x_apd, isLst_lst, x_ite, x_whl, x_for, t_rng, t_it, rng_some, x_ret, r_nil, r_var, r_e, ret_int, ret_str, ret_bl, ret_non, ret_tup, ret_ins, ret_lst, ret_lstF, x_rai, x_try, x_brk, x_cnt, h_ret, h_inc, h_nil, inc_int, conD_bl, conD_int, conD_str, conD_non, lift_ok, b_int, b_add, b_sub, b_mul, b_fdiv, b_mod, cr_ok, cr_exn, i_add, i_sub, n_int, n_ins, not_bl, eqO_ok, neO_ok, c_eq_ins, c_eq_int, c_eq_str, c_eq_bl, c_ne_ins, c_ne_int, c_ne_str, c_ne_bl, c_lt, c_le, c_gt, c_ge, c_is_bl, c_isn_bl, c_is_non, c_isn_non, c_in, c_notin, fz_int, fz_str, fz_bl, fz_scr, fz_nil, fz_tup, fz_ins, fz_lst, fz_lstF, zs_nil, zs_cons, len_lst, len_tup, len_scr, s_ins, s_str, strO_ok, strO_exn, s_abs, items_lst, items_tup, isi_int, isi_bl, isi_str, isi_non, isi_tup, isi_lst, isi_ins, fin_ret, fin_nxt, fin_exn, fin_ret0, fin_nxt0, wN_nxt, wN_cnt, put_nam, wT_ok, callR_eq, eq_self, beq_self_eq_true, Res.bind, Res.bindS, Rs.bind, tst, Rs.lift, reduceCtorEq, ne_eq, not_false_eq_true, implies_true, ite_true, ite_false, Bool.false_eq_true, decide_true, decide_false, Bool.not_true, Bool.not_false, List.length_cons, List.length_nil, List.cons_append, List.nil_append, reduceIte, start0, List.map_cons, List.map_nil, List.any_cons, List.any_nil, tyD, Bool.or_true, Bool.or_false, Bool.true_or, Bool.false_or, Nat.reduceAdd, Nat.reduceSub, List.drop_succ_cons, List.drop_nil, List.drop_zero, List.replicate_succ, List.replicate_zero, List.append_nil, Option.map_none, Option.map_some, isNon, isStr, Option.isSome_some, Option.isSome_none, forall_const, false_or, or_false, or_true, true_or, not_true_eq_false, and_self, and_true, true_and, res_p h, res_n h, res_new hw h n _ _ hp]
end
theorem b_diff {C : Calls} (o : Operator) (m : Nat) (c c' : Nat) (l l' io : List D) (d : D) (h1 : c' ≠ c) (h2 : opM o = some m) (h3 : C (mfid c' m) [.ins c' l', .ins c' l'] = .ok d io) : binD C o (.ins c l) (.ins c' l') = (C (mfid c m) [.ins c l, .ins c' l']).rs := by
  rw [b_ins, h2]
  simp only [if_neg h1, h3]
structure HP (N : Nm) (P : Nat → Option Fd) : Prop where
  pow : P (mfid 3 14) = some f_Ratio_power
  h14 : N.has 3 14 = true
theorem Bnd.one : Bnd 1 (1 : Rat) := ⟨by decide, by decide⟩
theorem inv_pow (p : Rat) (m : Nat) : (p⁻¹) ^ m = (p ^ m)⁻¹ := by
  induction m with
  | zero => rw [Rat.pow_zero, Rat.pow_zero, Rat.inv_eq_of_mul_eq_one (Rat.mul_one 1)]
  | succ m ih => rw [Rat.pow_succ, Rat.pow_succ, ih, Rat.inv_mul_rev, Rat.mul_comm]
theorem Bnd.pow {k : Nat} {p : Rat} (a : Bnd k p) (m : Nat) : Bnd (1 + m * k) (p ^ m) := by
  induction m with
  | zero => rw [Rat.pow_zero, Nat.zero_mul]; exact Bnd.one
  | succ m ih =>
    rw [Rat.pow_succ, Nat.succ_mul, ← Nat.add_assoc]
    exact ih.mul a
section
variable {N : Nm} {P : Nat → Option Fd} (h : HR N P) (h2 : HR2 N P) (h3 : HP N P)
include h h2 h3
omit h2 h3 in
theorem pow_loop (n : Nat) {k : Nat} (p : Rat) (a : Bnd k p) (x y : Option D) (r : List D) (i : Option D) (hk : 1 + r.length * k ≤ lim9) :
    ∃ i', loopF (Tg.put (.nam 4)) (fun e => exec N (callN N P (n + 2)) b1_Ratio_power e) r [x, y, some (rt p), some (rt 1), i] = .nxt [x, y, some (rt p), some (rt (p ^ r.length)), i'] := by
  obtain ⟨e', h1, j, i', rfl, hj⟩ := for_wp (N := N) (C := callN N P (n + 2)) (put := Tg.put (.nam 4)) (b := b1_Ratio_power) (fun r' e => ∃ (j : Nat) (i : Option D), e = [x, y, some (rt p), some (rt (p ^ j)), i] ∧ j + r'.length = r.length) (fun d r' e q => by
    obtain ⟨j, i, rfl, hj⟩ := q
    refine ⟨_, rfl, ?_⟩
    simp only [List.length_cons] at hj
    have hb : 1 + j * k + k ≤ lim9 := by
      refine Nat.le_trans ?_ hk
      rw [Nat.add_assoc, ← Nat.succ_mul]
      exact Nat.add_le_add_left (Nat.mul_le_mul_right _ (by omega)) _
    have m := ratio_mul h n (p ^ j) p (a.pow j) a hb
    simp only [b1_Ratio_power, rd0, rn0, st0, rd1, rn1, st1, rd2, rn2, st2, rd3, rn3, st3, rd4, rn4, st4, rd5, rn5, st5, rd6, rn6, st6, rd7, rn7, st7, rd8, rn8, st8, rd9, rn9, st9, rd10, rn10, st10, rd11, rn11, st11, rd12, rn12, st12, rd13, rn13, st13, rd14, rn14, st14, rd15, rn15, st15, rd16, rn16, st16, rd17, rn17, st17, rd18, rn18, st18, rd19, rn19, st19, rd20, rn20, st20, rd21, rn21, st21, rd22, rn22, st22, rd23, rn23, st23, rd24, rn24, st24, rd25, rn25, st25, e_int, e_str, e_bl, e_non, e_var, v_int, v_str, v_bl, v_non, v_tup, v_ins, v_scr, v_lst, v_lstF, e_tup, e_lst, e_neg, e_bin, e_not, e_ands, e_ors, e_cmp, e_chn, e_ite, e_idxv, e_idx, e_slc, e_rev, e_cal, e_new, e_mth, e_app, e_att, e_len, e_blt1, e_lenE, e_blt2, e_smt, e_pop, e_pop0, e_isi, a_one, a_more, o_one, o_more, k_nil, k_cons, l_nil, l_io, l_cons, io_lst, i_nil, i_io, i_cons, out_ok, out_ok1, out_exn, mthR_ins, new_exn, hasM_ins, x_skip, x_seq, x_exp, x_asg, x_sat, sat_obj, x_apd, isLst_lst, x_ite, x_whl, x_for, t_rng, t_it, rng_some, x_ret, r_nil, r_var, r_e, ret_int, ret_str, ret_bl, ret_non, ret_tup, ret_ins, ret_lst, ret_lstF, x_rai, x_try, x_brk, x_cnt, h_ret, h_inc, h_nil, inc_int, conD_bl, conD_int, conD_str, conD_non, lift_ok, b_int, b_add, b_sub, b_mul, b_fdiv, b_mod, cr_ok, cr_exn, i_add, i_sub, n_int, n_ins, not_bl, eqO_ok, neO_ok, c_eq_ins, c_eq_int, c_eq_str, c_eq_bl, c_ne_ins, c_ne_int, c_ne_str, c_ne_bl, c_lt, c_le, c_gt, c_ge, c_is_bl, c_isn_bl, c_is_non, c_isn_non, c_in, c_notin, fz_int, fz_str, fz_bl, fz_scr, fz_nil, fz_tup, fz_ins, fz_lst, fz_lstF, zs_nil, zs_cons, len_lst, len_tup, len_scr, s_ins, s_str, strO_ok, strO_exn, s_abs, items_lst, items_tup, isi_int, isi_bl, isi_str, isi_non, isi_tup, isi_lst, isi_ins, fin_ret, fin_nxt, fin_exn, fin_ret0, fin_nxt0, wN_nxt, wN_cnt, put_nam, wT_ok, callR_eq, eq_self, beq_self_eq_true, Res.bind, Res.bindS, Rs.bind, tst, Rs.lift, reduceCtorEq, ne_eq, not_false_eq_true, implies_true, ite_true, ite_false, Bool.false_eq_true, decide_true, decide_false, Bool.not_true, Bool.not_false, List.length_cons, List.length_nil, List.cons_append, List.nil_append, reduceIte, start0, List.map_cons, List.map_nil, List.any_cons, List.any_nil, tyD, Bool.or_true, Bool.or_false, Bool.true_or, Bool.false_or, Nat.reduceAdd, Nat.reduceSub, List.drop_succ_cons, List.drop_nil, List.drop_zero, List.replicate_succ, List.replicate_zero, List.append_nil, Option.map_none, Option.map_some, isNon, isStr, Option.isSome_some, Option.isSome_none, forall_const, false_or, or_false, or_true, true_or, not_true_eq_false, and_self, and_true, true_and, m]
    exact ⟨j + 1, _, by rw [Rat.pow_succ], by omega⟩) r [x, y, some (rt p), some (rt 1), i] ⟨0, i, by rw [Rat.pow_zero], by omega⟩
  have : j = r.length := by simpa using hj
  exact ⟨i', by rw [h1, this]⟩
theorem ratio_pow (n : Nat) {k : Nat} (p : Rat) (a : Bnd k p) (m : Int) (hm : m.natAbs < 1000000) (hp : 0 ≤ m ∨ p ≠ 0) (hk : 1 + m.natAbs * k ≤ lim9) (hk2 : k ≤ lim9) :
    callN N P (n + 3) (mfid 3 14) [rt p, .int m] = .ok (rt (if m < 0 then (p ^ m.natAbs)⁻¹ else p ^ m.natAbs)) [] := by
  rw [callE h3.pow 2 rfl rfl]
  by_cases z : m < 0
  · have hp : p ≠ 0 := by rcases hp with q | q; omega; exact q
    have i := ratio_inv h h2 n p hp a hk2
    have e : (-m).toNat = m.natAbs := by omega
    obtain ⟨i', l⟩ := pow_loop h n p⁻¹ (a.inv a.pos) (some (rt p)) (some (.int (-m))) ((List.range m.natAbs).map (fun (k : Nat) => D.int k)) none (by simpa using hk)
    simp only [List.length_map, List.length_range, inv_pow] at l
    have o := ratio_new1 h (n + 1) 1
    have rg := rng_one (-m) (by omega)
    rw [e] at rg
    simp only [f_Ratio_power, c_Ratio_power, rd0, rn0, st0, rd1, rn1, st1, rd2, rn2, st2, rd3, rn3, st3, rd4, rn4, st4, rd5, rn5, st5, rd6, rn6, st6, rd7, rn7, st7, rd8, rn8, st8, rd9, rn9, st9, rd10, rn10, st10, rd11, rn11, st11, rd12, rn12, st12, rd13, rn13, st13, rd14, rn14, st14, rd15, rn15, st15, rd16, rn16, st16, rd17, rn17, st17, rd18, rn18, st18, rd19, rn19, st19, rd20, rn20, st20, rd21, rn21, st21, rd22, rn22, st22, rd23, rn23, st23, rd24, rn24, st24, rd25, rn25, st25, e_int, e_str, e_bl, e_non, e_var, v_int, v_str, v_bl, v_non, v_tup, v_ins, v_scr, v_lst, v_lstF, e_tup, e_lst, e_neg, e_bin, e_not, e_ands, e_ors, e_cmp, e_chn, e_ite, e_idxv, e_idx, e_slc, e_rev, e_cal, e_new, e_mth, e_app, e_att, e_len, e_blt1, e_lenE, e_blt2, e_smt, e_pop, e_pop0, e_isi, a_one, a_more, o_one, o_more, k_nil, k_cons, l_nil, l_io, l_cons, io_lst, i_nil, i_io, i_cons, out_ok, out_ok1, out_exn, mthR_ins, new_exn, hasM_ins, x_skip, x_seq, x_exp, x_asg, x_sat, sat_obj, x_apd, isLst_lst, x_ite, x_whl, x_for, t_rng, t_it, rng_some, x_ret, r_nil, r_var, r_e, ret_int, ret_str, ret_bl, ret_non, ret_tup, ret_ins, ret_lst, ret_lstF, x_rai, x_try, x_brk, x_cnt, h_ret, h_inc, h_nil, inc_int, conD_bl, conD_int, conD_str, conD_non, lift_ok, b_int, b_add, b_sub, b_mul, b_fdiv, b_mod, cr_ok, cr_exn, i_add, i_sub, n_int, n_ins, not_bl, eqO_ok, neO_ok, c_eq_ins, c_eq_int, c_eq_str, c_eq_bl, c_ne_ins, c_ne_int, c_ne_str, c_ne_bl, c_lt, c_le, c_gt, c_ge, c_is_bl, c_isn_bl, c_is_non, c_isn_non, c_in, c_notin, fz_int, fz_str, fz_bl, fz_scr, fz_nil, fz_tup, fz_ins, fz_lst, fz_lstF, zs_nil, zs_cons, len_lst, len_tup, len_scr, s_ins, s_str, strO_ok, strO_exn, s_abs, items_lst, items_tup, isi_int, isi_bl, isi_str, isi_non, isi_tup, isi_lst, isi_ins, fin_ret, fin_nxt, fin_exn, fin_ret0, fin_nxt0, wN_nxt, wN_cnt, put_nam, wT_ok, callR_eq, eq_self, beq_self_eq_true, Res.bind, Res.bindS, Rs.bind, tst, Rs.lift, reduceCtorEq, ne_eq, not_false_eq_true, implies_true, ite_true, ite_false, Bool.false_eq_true, decide_true, decide_false, Bool.not_true, Bool.not_false, List.length_cons, List.length_nil, List.cons_append, List.nil_append, reduceIte, start0, List.map_cons, List.map_nil, List.any_cons, List.any_nil, tyD, Bool.or_true, Bool.or_false, Bool.true_or, Bool.false_or, Nat.reduceAdd, Nat.reduceSub, List.drop_succ_cons, List.drop_nil, List.drop_zero, List.replicate_succ, List.replicate_zero, List.append_nil, Option.map_none, Option.map_some, isNon, isStr, Option.isSome_some, Option.isSome_none, forall_const, false_or, or_false, or_true, true_or, not_true_eq_false, and_self, and_true, true_and, z, h2.h12, i, o, x_for, rg, Rat.intCast_one, l]
  · have e : m.toNat = m.natAbs := by omega
    obtain ⟨i', l⟩ := pow_loop h n p a (some (rt p)) (some (.int m)) ((List.range m.natAbs).map (fun (k : Nat) => D.int k)) none (by simpa using hk)
    simp only [List.length_map, List.length_range] at l
    have o := ratio_new1 h (n + 1) 1
    have rg := rng_one m (by omega)
    rw [e] at rg
    simp only [f_Ratio_power, c_Ratio_power, rd0, rn0, st0, rd1, rn1, st1, rd2, rn2, st2, rd3, rn3, st3, rd4, rn4, st4, rd5, rn5, st5, rd6, rn6, st6, rd7, rn7, st7, rd8, rn8, st8, rd9, rn9, st9, rd10, rn10, st10, rd11, rn11, st11, rd12, rn12, st12, rd13, rn13, st13, rd14, rn14, st14, rd15, rn15, st15, rd16, rn16, st16, rd17, rn17, st17, rd18, rn18, st18, rd19, rn19, st19, rd20, rn20, st20, rd21, rn21, st21, rd22, rn22, st22, rd23, rn23, st23, rd24, rn24, st24, rd25, rn25, st25, e_int, e_str, e_bl, e_non, e_var, v_int, v_str, v_bl, v_non, v_tup, v_ins, v_scr, v_lst, v_lstF, e_tup, e_lst, e_neg, e_bin, e_not, e_ands, e_ors, e_cmp, e_chn, e_ite, e_idxv, e_idx, e_slc, e_rev, e_cal, e_new, e_mth, e_app, e_att, e_len, e_blt1, e_lenE, e_blt2, e_smt, e_pop, e_pop0, e_isi, a_one, a_more, o_one, o_more, k_nil, k_cons, l_nil, l_io, l_cons, io_lst, i_nil, i_io, i_cons, out_ok, out_ok1, out_exn, mthR_ins, new_exn, hasM_ins, x_skip, x_seq, x_exp, x_asg, x_sat, sat_obj, x_apd, isLst_lst, x_ite, x_whl, x_for, t_rng, t_it, rng_some, x_ret, r_nil, r_var, r_e, ret_int, ret_str, ret_bl, ret_non, ret_tup, ret_ins, ret_lst, ret_lstF, x_rai, x_try, x_brk, x_cnt, h_ret, h_inc, h_nil, inc_int, conD_bl, conD_int, conD_str, conD_non, lift_ok, b_int, b_add, b_sub, b_mul, b_fdiv, b_mod, cr_ok, cr_exn, i_add, i_sub, n_int, n_ins, not_bl, eqO_ok, neO_ok, c_eq_ins, c_eq_int, c_eq_str, c_eq_bl, c_ne_ins, c_ne_int, c_ne_str, c_ne_bl, c_lt, c_le, c_gt, c_ge, c_is_bl, c_isn_bl, c_is_non, c_isn_non, c_in, c_notin, fz_int, fz_str, fz_bl, fz_scr, fz_nil, fz_tup, fz_ins, fz_lst, fz_lstF, zs_nil, zs_cons, len_lst, len_tup, len_scr, s_ins, s_str, strO_ok, strO_exn, s_abs, items_lst, items_tup, isi_int, isi_bl, isi_str, isi_non, isi_tup, isi_lst, isi_ins, fin_ret, fin_nxt, fin_exn, fin_ret0, fin_nxt0, wN_nxt, wN_cnt, put_nam, wT_ok, callR_eq, eq_self, beq_self_eq_true, Res.bind, Res.bindS, Rs.bind, tst, Rs.lift, reduceCtorEq, ne_eq, not_false_eq_true, implies_true, ite_true, ite_false, Bool.false_eq_true, decide_true, decide_false, Bool.not_true, Bool.not_false, List.length_cons, List.length_nil, List.cons_append, List.nil_append, reduceIte, start0, List.map_cons, List.map_nil, List.any_cons, List.any_nil, tyD, Bool.or_true, Bool.or_false, Bool.true_or, Bool.false_or, Nat.reduceAdd, Nat.reduceSub, List.drop_succ_cons, List.drop_nil, List.drop_zero, List.replicate_succ, List.replicate_zero, List.append_nil, Option.map_none, Option.map_some, isNon, isStr, Option.isSome_some, Option.isSome_none, forall_const, false_or, or_false, or_true, true_or, not_true_eq_false, and_self, and_true, true_and, z, o, x_for, rg, Rat.intCast_one, l]
theorem ratio_pow0 (n : Nat) (m : Int) (hm : m < 0) : callN N P (n + 3) (mfid 3 14) [rt 0, .int m] = .exn xZero := by
  rw [callE h3.pow 2 rfl rfl]
  have i := ratio_inv0 h h2 n
  simp only [f_Ratio_power, c_Ratio_power, rd0, rn0, st0, rd1, rn1, st1, rd2, rn2, st2, rd3, rn3, st3, rd4, rn4, st4, rd5, rn5, st5, rd6, rn6, st6, rd7, rn7, st7, rd8, rn8, st8, rd9, rn9, st9, rd10, rn10, st10, rd11, rn11, st11, rd12, rn12, st12, rd13, rn13, st13, rd14, rn14, st14, rd15, rn15, st15, rd16, rn16, st16, rd17, rn17, st17, rd18, rn18, st18, rd19, rn19, st19, rd20, rn20, st20, rd21, rn21, st21, rd22, rn22, st22, rd23, rn23, st23, rd24, rn24, st24, rd25, rn25, st25, e_int, e_str, e_bl, e_non, e_var, v_int, v_str, v_bl, v_non, v_tup, v_ins, v_scr, v_lst, v_lstF, e_tup, e_lst, e_neg, e_bin, e_not, e_ands, e_ors, e_cmp, e_chn, e_ite, e_idxv, e_idx, e_slc, e_rev, e_cal, e_new, e_mth, e_app, e_att, e_len, e_blt1, e_lenE, e_blt2, e_smt, e_pop, e_pop0, e_isi, a_one, a_more, o_one, o_more, k_nil, k_cons, l_nil, l_io, l_cons, io_lst, i_nil, i_io, i_cons, out_ok, out_ok1, out_exn, mthR_ins, new_exn, hasM_ins, x_skip, x_seq, x_exp, x_asg, x_sat, sat_obj, x_apd, isLst_lst, x_ite, x_whl, x_for, t_rng, t_it, rng_some, x_ret, r_nil, r_var, r_e, ret_int, ret_str, ret_bl, ret_non, ret_tup, ret_ins, ret_lst, ret_lstF, x_rai, x_try, x_brk, x_cnt, h_ret, h_inc, h_nil, inc_int, conD_bl, conD_int, conD_str, conD_non, lift_ok, b_int, b_add, b_sub, b_mul, b_fdiv, b_mod, cr_ok, cr_exn, i_add, i_sub, n_int, n_ins, not_bl, eqO_ok, neO_ok, c_eq_ins, c_eq_int, c_eq_str, c_eq_bl, c_ne_ins, c_ne_int, c_ne_str, c_ne_bl, c_lt, c_le, c_gt, c_ge, c_is_bl, c_isn_bl, c_is_non, c_isn_non, c_in, c_notin, fz_int, fz_str, fz_bl, fz_scr, fz_nil, fz_tup, fz_ins, fz_lst, fz_lstF, zs_nil, zs_cons, len_lst, len_tup, len_scr, s_ins, s_str, strO_ok, strO_exn, s_abs, items_lst, items_tup, isi_int, isi_bl, isi_str, isi_non, isi_tup, isi_lst, isi_ins, fin_ret, fin_nxt, fin_exn, fin_ret0, fin_nxt0, wN_nxt, wN_cnt, put_nam, wT_ok, callR_eq, eq_self, beq_self_eq_true, Res.bind, Res.bindS, Rs.bind, tst, Rs.lift, reduceCtorEq, ne_eq, not_false_eq_true, implies_true, ite_true, ite_false, Bool.false_eq_true, decide_true, decide_false, Bool.not_true, Bool.not_false, List.length_cons, List.length_nil, List.cons_append, List.nil_append, reduceIte, start0, List.map_cons, List.map_nil, List.any_cons, List.any_nil, tyD, Bool.or_true, Bool.or_false, Bool.true_or, Bool.false_or, Nat.reduceAdd, Nat.reduceSub, List.drop_succ_cons, List.drop_nil, List.drop_zero, List.replicate_succ, List.replicate_zero, List.append_nil, Option.map_none, Option.map_some, isNon, isStr, Option.isSome_some, Option.isSome_none, forall_const, false_or, or_false, or_true, true_or, not_true_eq_false, and_self, and_true, true_and, hm, h2.h12, i]
end
end Z

namespace Z
open PySem L2
theorem emm (x y p : Int) : (x % p * y) % p = (x * y) % p := by
  rw [Int.mul_emod, Int.emod_emod_of_dvd _ (Int.dvd_refl p), ← Int.mul_emod]
theorem emm' (x y p : Int) : (x * (y % p)) % p = (x * y) % p := by
  rw [Int.mul_comm, emm, Int.mul_comm]
theorem eea (x y p : Int) : (x % p + y) % p = (x + y) % p := by simp
/-- the turns of the loop in inverse -/
def itz (p a : Int) : Nat → Int
  | 0 => 1
  | j + 1 => (itz p a j * a) % p
def ivz (p a : Int) : Int := itz p a (p - 2).toNat % p
theorem ivz_tab : ∀ p ∈ prs, ∀ a ∈ List.range 31, 0 < a → (a : Int) < p → (ivz p a * a) % p = 1 := by decide +kernel
theorem ivz_ok {p a : Int} (hp : p ∈ prs) (h0 : 0 < a) (h1 : a < p) : (ivz p a * a) % p = 1 := by
  have := prs_pos hp
  have h := ivz_tab p hp a.toNat (List.mem_range.mpr (by omega)) (by omega) (by omega)
  have e : (a.toNat : Int) = a := by omega
  rwa [e] at h
theorem mod_pos {p a : Int} (hp : p ∈ prs) : 0 ≤ a % p ∧ a % p < p := by
  have := prs_pos hp
  exact ⟨Int.emod_nonneg _ (by omega), Int.emod_lt_of_pos _ (by omega)⟩
theorem mod_id {p a : Int} (h : 0 ≤ a ∧ a < p) : a % p = a := Int.emod_eq_of_lt h.1 h.2
theorem ivz_pos {p : Int} (a : Int) (hp : p ∈ prs) : 0 ≤ ivz p a ∧ ivz p a < p := mod_pos hp
structure HS2 (N : Nm) (P : Nat → Option Fd) : Prop where
  str : P (mfid 4 mStr) = some f_Residue_str
  isz : P (mfid 4 11) = some f_Residue_is_zero
  inv : P (mfid 4 12) = some f_Residue_inverse
  over : P (mfid 4 13) = some f_Residue_over
  h11 : N.has 4 11 = true
  h12 : N.has 4 12 = true
  h13 : N.has 4 13 = true
structure HSP (N : Nm) (P : Nat → Option Fd) : Prop where
  pow : P (mfid 4 14) = some f_Residue_power
  h14 : N.has 4 14 = true
section
variable {N : Nm} {P : Nat → Option Fd} (hw : HW N P) (h : HS N P) (h2 : HS2 N P)
include hw h h2
omit hw in
theorem res_isz (n : Nat) (p a : Int) : callN N P (n + 1) (mfid 4 11) [rs p a] = .ok (.bl (decide (a = 0))) [] := by
  rw [callE h2.isz 1 rfl rfl]
  simp only [f_Residue_is_zero, c_Residue_is_zero, rd0, rn0, st0, rd1, rn1, st1, rd2, rn2, st2, rd3, rn3, st3, rd4, rn4, st4, rd5, rn5, st5, rd6, rn6, st6, rd7, rn7, st7, rd8, rn8, st8, rd9, rn9, st9, rd10, rn10, st10, rd11, rn11, st11, rd12, rn12, st12, rd13, rn13, st13, rd14, rn14, st14, rd15, rn15, st15, rd16, rn16, st16, rd17, rn17, st17, rd18, rn18, st18, rd19, rn19, st19, rd20, rn20, st20, rd21, rn21, st21, rd22, rn22, st22, rd23, rn23, st23, rd24, rn24, st24, rd25, rn25, st25, e_int, e_str, e_bl, e_non, e_var, v_int, v_str, v_bl, v_non, v_tup, v_ins, v_scr, v_lst, v_lstF, e_tup, e_lst, e_neg, e_bin, e_not, e_ands, e_ors, e_cmp, e_chn, e_ite, e_idxv, e_idx, e_slc, e_rev, e_cal, e_new, e_mth, e_app, e_att, e_len, e_blt1, e_lenE, e_blt2, e_smt, e_pop, e_pop0, e_isi, a_one, a_more, o_one, o_more, k_nil, k_cons, l_nil, l_io, l_cons, io_lst, i_nil, i_io, i_cons, out_ok, out_ok1, out_exn, mthR_ins, new_exn, hasM_ins, x_skip, x_seq, x_exp, x_asg, x_sat, sat_obj, x_apd, isLst_lst, x_ite, x_whl, x_for, t_rng, t_it, rng_some, x_ret, r_nil, r_var, r_e, ret_int, ret_str, ret_bl, ret_non, ret_tup, ret_ins, ret_lst, ret_lstF, x_rai, x_try, x_brk, x_cnt, h_ret, h_inc, h_nil, inc_int, conD_bl, conD_int, conD_str, conD_non, lift_ok, b_int, b_add, b_sub, b_mul, b_fdiv, b_mod, cr_ok, cr_exn, i_add, i_sub, n_int, n_ins, not_bl, eqO_ok, neO_ok, c_eq_ins, c_eq_int, c_eq_str, c_eq_bl, c_ne_ins, c_ne_int, c_ne_str, c_ne_bl, c_lt, c_le, c_gt, c_ge, c_is_bl, c_isn_bl, c_is_non, c_isn_non, c_in, c_notin, fz_int, fz_str, fz_bl, fz_scr, fz_nil, fz_tup, fz_ins, fz_lst, fz_lstF, zs_nil, zs_cons, len_lst, len_tup, len_scr, s_ins, s_str, strO_ok, strO_exn, s_abs, items_lst, items_tup, isi_int, isi_bl, isi_str, isi_non, isi_tup, isi_lst, isi_ins, fin_ret, fin_nxt, fin_exn, fin_ret0, fin_nxt0, wN_nxt, wN_cnt, put_nam, wT_ok, callR_eq, eq_self, beq_self_eq_true, Res.bind, Res.bindS, Rs.bind, tst, Rs.lift, reduceCtorEq, ne_eq, not_false_eq_true, implies_true, ite_true, ite_false, Bool.false_eq_true, decide_true, decide_false, Bool.not_true, Bool.not_false, List.length_cons, List.length_nil, List.cons_append, List.nil_append, reduceIte, start0, List.map_cons, List.map_nil, List.any_cons, List.any_nil, tyD, Bool.or_true, Bool.or_false, Bool.true_or, Bool.false_or, Nat.reduceAdd, Nat.reduceSub, List.drop_succ_cons, List.drop_nil, List.drop_zero, List.replicate_succ, List.replicate_zero, List.append_nil, Option.map_none, Option.map_some, isNon, isStr, Option.isSome_some, Option.isSome_none, forall_const, false_or, or_false, or_true, true_or, not_true_eq_false, and_self, and_true, true_and, res_n h]
theorem small_log {p a : Int} (hp : p ∈ prs) (ha : 0 ≤ a ∧ a < p) : a.natAbs.log2 < 1920 := by
  have := prs_pos hp
  by_cases z : a.natAbs = 0
  · rw [z]; decide
  · have : a.natAbs.log2 < 5 := (Nat.log2_lt z).mpr (by omega)
    omega
theorem res_str (n : Nat) (p a : Int) (hp : p ∈ prs) (ha : 0 ≤ a ∧ a < p) : callN N P (n + 1) (mfid 4 mStr) [rs p a] = .ok (.str (tx_ a)) [] := by
  rw [callE h2.str 1 rfl rfl]
  simp only [f_Residue_str, c_Residue_str, rd0, rn0, st0, rd1, rn1, st1, rd2, rn2, st2, rd3, rn3, st3, rd4, rn4, st4, rd5, rn5, st5, rd6, rn6, st6, rd7, rn7, st7, rd8, rn8, st8, rd9, rn9, st9, rd10, rn10, st10, rd11, rn11, st11, rd12, rn12, st12, rd13, rn13, st13, rd14, rn14, st14, rd15, rn15, st15, rd16, rn16, st16, rd17, rn17, st17, rd18, rn18, st18, rd19, rn19, st19, rd20, rn20, st20, rd21, rn21, st21, rd22, rn22, st22, rd23, rn23, st23, rd24, rn24, st24, rd25, rn25, st25, e_int, e_str, e_bl, e_non, e_var, v_int, v_str, v_bl, v_non, v_tup, v_ins, v_scr, v_lst, v_lstF, e_tup, e_lst, e_neg, e_bin, e_not, e_ands, e_ors, e_cmp, e_chn, e_ite, e_idxv, e_idx, e_slc, e_rev, e_cal, e_new, e_mth, e_app, e_att, e_len, e_blt1, e_lenE, e_blt2, e_smt, e_pop, e_pop0, e_isi, a_one, a_more, o_one, o_more, k_nil, k_cons, l_nil, l_io, l_cons, io_lst, i_nil, i_io, i_cons, out_ok, out_ok1, out_exn, mthR_ins, new_exn, hasM_ins, x_skip, x_seq, x_exp, x_asg, x_sat, sat_obj, x_apd, isLst_lst, x_ite, x_whl, x_for, t_rng, t_it, rng_some, x_ret, r_nil, r_var, r_e, ret_int, ret_str, ret_bl, ret_non, ret_tup, ret_ins, ret_lst, ret_lstF, x_rai, x_try, x_brk, x_cnt, h_ret, h_inc, h_nil, inc_int, conD_bl, conD_int, conD_str, conD_non, lift_ok, b_int, b_add, b_sub, b_mul, b_fdiv, b_mod, cr_ok, cr_exn, i_add, i_sub, n_int, n_ins, not_bl, eqO_ok, neO_ok, c_eq_ins, c_eq_int, c_eq_str, c_eq_bl, c_ne_ins, c_ne_int, c_ne_str, c_ne_bl, c_lt, c_le, c_gt, c_ge, c_is_bl, c_isn_bl, c_is_non, c_isn_non, c_in, c_notin, fz_int, fz_str, fz_bl, fz_scr, fz_nil, fz_tup, fz_ins, fz_lst, fz_lstF, zs_nil, zs_cons, len_lst, len_tup, len_scr, s_ins, s_str, strO_ok, strO_exn, s_abs, items_lst, items_tup, isi_int, isi_bl, isi_str, isi_non, isi_tup, isi_lst, isi_ins, fin_ret, fin_nxt, fin_exn, fin_ret0, fin_nxt0, wN_nxt, wN_cnt, put_nam, wT_ok, callR_eq, eq_self, beq_self_eq_true, Res.bind, Res.bindS, Rs.bind, tst, Rs.lift, reduceCtorEq, ne_eq, not_false_eq_true, implies_true, ite_true, ite_false, Bool.false_eq_true, decide_true, decide_false, Bool.not_true, Bool.not_false, List.length_cons, List.length_nil, List.cons_append, List.nil_append, reduceIte, start0, List.map_cons, List.map_nil, List.any_cons, List.any_nil, tyD, Bool.or_true, Bool.or_false, Bool.true_or, Bool.false_or, Nat.reduceAdd, Nat.reduceSub, List.drop_succ_cons, List.drop_nil, List.drop_zero, List.replicate_succ, List.replicate_zero, List.append_nil, Option.map_none, Option.map_some, isNon, isStr, Option.isSome_some, Option.isSome_none, forall_const, false_or, or_false, or_true, true_or, not_true_eq_false, and_self, and_true, true_and, res_n h, s_int _ _ (small_log hw h h2 hp ha)]
theorem itz_small {p a : Int} (hp : p ∈ prs) (j : Nat) : (itz p a j).natAbs < 2 ^ 64 := by
  have := prs_pos hp
  cases j with
  | zero => show (1 : Int).natAbs < 2 ^ 64; decide
  | succ j =>
    have := mod_pos (a := itz p a j * a) hp
    show ((itz p a j * a) % p).natAbs < 2 ^ 64
    omega
theorem res_inv (n : Nat) (p a : Int) (hp : p ∈ prs) (h0 : 0 < a) (h1 : a < p) : callN N P (n + 4) (mfid 4 12) [rs p a] = .ok (rs p (ivz p a)) [] := by
  rw [callE h2.inv 1 rfl rfl]
  have p0 := prs_pos hp
  have pz : p ≠ 0 := by omega
  have az : ¬ a = 0 := by omega
  obtain ⟨e', l, j, i', rfl, hj⟩ := for_wp (N := N) (C := callN N P (n + 3)) (put := Tg.put (.nam 2)) (b := b1_Residue_inverse) (fun r' e => ∃ (j : Nat) (i : Option D), e = [some (rs p a), some (.int (itz p a j)), i] ∧ j + r'.length = (p - 2).toNat) (fun d r' e q => by
    obtain ⟨j, i, rfl, hj⟩ := q
    refine ⟨_, rfl, ?_⟩
    simp only [List.length_cons] at hj
    have m := i_mul (itz p a j) a (mulOk_l _ _ (decide_eq_true (itz_small hw h h2 hp j)))
    simp only [b1_Residue_inverse, rd0, rn0, st0, rd1, rn1, st1, rd2, rn2, st2, rd3, rn3, st3, rd4, rn4, st4, rd5, rn5, st5, rd6, rn6, st6, rd7, rn7, st7, rd8, rn8, st8, rd9, rn9, st9, rd10, rn10, st10, rd11, rn11, st11, rd12, rn12, st12, rd13, rn13, st13, rd14, rn14, st14, rd15, rn15, st15, rd16, rn16, st16, rd17, rn17, st17, rd18, rn18, st18, rd19, rn19, st19, rd20, rn20, st20, rd21, rn21, st21, rd22, rn22, st22, rd23, rn23, st23, rd24, rn24, st24, rd25, rn25, st25, e_int, e_str, e_bl, e_non, e_var, v_int, v_str, v_bl, v_non, v_tup, v_ins, v_scr, v_lst, v_lstF, e_tup, e_lst, e_neg, e_bin, e_not, e_ands, e_ors, e_cmp, e_chn, e_ite, e_idxv, e_idx, e_slc, e_rev, e_cal, e_new, e_mth, e_app, e_att, e_len, e_blt1, e_lenE, e_blt2, e_smt, e_pop, e_pop0, e_isi, a_one, a_more, o_one, o_more, k_nil, k_cons, l_nil, l_io, l_cons, io_lst, i_nil, i_io, i_cons, out_ok, out_ok1, out_exn, mthR_ins, new_exn, hasM_ins, x_skip, x_seq, x_exp, x_asg, x_sat, sat_obj, x_apd, isLst_lst, x_ite, x_whl, x_for, t_rng, t_it, rng_some, x_ret, r_nil, r_var, r_e, ret_int, ret_str, ret_bl, ret_non, ret_tup, ret_ins, ret_lst, ret_lstF, x_rai, x_try, x_brk, x_cnt, h_ret, h_inc, h_nil, inc_int, conD_bl, conD_int, conD_str, conD_non, lift_ok, b_int, b_add, b_sub, b_mul, b_fdiv, b_mod, cr_ok, cr_exn, i_add, i_sub, n_int, n_ins, not_bl, eqO_ok, neO_ok, c_eq_ins, c_eq_int, c_eq_str, c_eq_bl, c_ne_ins, c_ne_int, c_ne_str, c_ne_bl, c_lt, c_le, c_gt, c_ge, c_is_bl, c_isn_bl, c_is_non, c_isn_non, c_in, c_notin, fz_int, fz_str, fz_bl, fz_scr, fz_nil, fz_tup, fz_ins, fz_lst, fz_lstF, zs_nil, zs_cons, len_lst, len_tup, len_scr, s_ins, s_str, strO_ok, strO_exn, s_abs, items_lst, items_tup, isi_int, isi_bl, isi_str, isi_non, isi_tup, isi_lst, isi_ins, fin_ret, fin_nxt, fin_exn, fin_ret0, fin_nxt0, wN_nxt, wN_cnt, put_nam, wT_ok, callR_eq, eq_self, beq_self_eq_true, Res.bind, Res.bindS, Rs.bind, tst, Rs.lift, reduceCtorEq, ne_eq, not_false_eq_true, implies_true, ite_true, ite_false, Bool.false_eq_true, decide_true, decide_false, Bool.not_true, Bool.not_false, List.length_cons, List.length_nil, List.cons_append, List.nil_append, reduceIte, start0, List.map_cons, List.map_nil, List.any_cons, List.any_nil, tyD, Bool.or_true, Bool.or_false, Bool.true_or, Bool.false_or, Nat.reduceAdd, Nat.reduceSub, List.drop_succ_cons, List.drop_nil, List.drop_zero, List.replicate_succ, List.replicate_zero, List.append_nil, Option.map_none, Option.map_some, isNon, isStr, Option.isSome_some, Option.isSome_none, forall_const, false_or, or_false, or_true, true_or, not_true_eq_false, and_self, and_true, true_and, res_n h, res_p h, m, i_mod _ _ pz, fm (show (0 : Int) < p by omega)]
    exact ⟨j + 1, _, rfl, by omega⟩) ((List.range (p - 2).toNat).map (fun (k : Nat) => D.int k)) [some (rs p a), some (.int 1), none] ⟨0, none, rfl, by simp⟩
  have ej : j = (p - 2).toNat := by simpa using hj
  subst ej
  simp only [f_Residue_inverse, c_Residue_inverse, rd0, rn0, st0, rd1, rn1, st1, rd2, rn2, st2, rd3, rn3, st3, rd4, rn4, st4, rd5, rn5, st5, rd6, rn6, st6, rd7, rn7, st7, rd8, rn8, st8, rd9, rn9, st9, rd10, rn10, st10, rd11, rn11, st11, rd12, rn12, st12, rd13, rn13, st13, rd14, rn14, st14, rd15, rn15, st15, rd16, rn16, st16, rd17, rn17, st17, rd18, rn18, st18, rd19, rn19, st19, rd20, rn20, st20, rd21, rn21, st21, rd22, rn22, st22, rd23, rn23, st23, rd24, rn24, st24, rd25, rn25, st25, e_int, e_str, e_bl, e_non, e_var, v_int, v_str, v_bl, v_non, v_tup, v_ins, v_scr, v_lst, v_lstF, e_tup, e_lst, e_neg, e_bin, e_not, e_ands, e_ors, e_cmp, e_chn, e_ite, e_idxv, e_idx, e_slc, e_rev, e_cal, e_new, e_mth, e_app, e_att, e_len, e_blt1, e_lenE, e_blt2, e_smt, e_pop, e_pop0, e_isi, a_one, a_more, o_one, o_more, k_nil, k_cons, l_nil, l_io, l_cons, io_lst, i_nil, i_io, i_cons, out_ok, out_ok1, out_exn, mthR_ins, new_exn, hasM_ins, x_skip, x_seq, x_exp, x_asg, x_sat, sat_obj, x_apd, isLst_lst, x_ite, x_whl, x_for, t_rng, t_it, rng_some, x_ret, r_nil, r_var, r_e, ret_int, ret_str, ret_bl, ret_non, ret_tup, ret_ins, ret_lst, ret_lstF, x_rai, x_try, x_brk, x_cnt, h_ret, h_inc, h_nil, inc_int, conD_bl, conD_int, conD_str, conD_non, lift_ok, b_int, b_add, b_sub, b_mul, b_fdiv, b_mod, cr_ok, cr_exn, i_add, i_sub, n_int, n_ins, not_bl, eqO_ok, neO_ok, c_eq_ins, c_eq_int, c_eq_str, c_eq_bl, c_ne_ins, c_ne_int, c_ne_str, c_ne_bl, c_lt, c_le, c_gt, c_ge, c_is_bl, c_isn_bl, c_is_non, c_isn_non, c_in, c_notin, fz_int, fz_str, fz_bl, fz_scr, fz_nil, fz_tup, fz_ins, fz_lst, fz_lstF, zs_nil, zs_cons, len_lst, len_tup, len_scr, s_ins, s_str, strO_ok, strO_exn, s_abs, items_lst, items_tup, isi_int, isi_bl, isi_str, isi_non, isi_tup, isi_lst, isi_ins, fin_ret, fin_nxt, fin_exn, fin_ret0, fin_nxt0, wN_nxt, wN_cnt, put_nam, wT_ok, callR_eq, eq_self, beq_self_eq_true, Res.bind, Res.bindS, Rs.bind, tst, Rs.lift, reduceCtorEq, ne_eq, not_false_eq_true, implies_true, ite_true, ite_false, Bool.false_eq_true, decide_true, decide_false, Bool.not_true, Bool.not_false, List.length_cons, List.length_nil, List.cons_append, List.nil_append, reduceIte, start0, List.map_cons, List.map_nil, List.any_cons, List.any_nil, tyD, Bool.or_true, Bool.or_false, Bool.true_or, Bool.false_or, Nat.reduceAdd, Nat.reduceSub, List.drop_succ_cons, List.drop_nil, List.drop_zero, List.replicate_succ, List.replicate_zero, List.append_nil, Option.map_none, Option.map_some, isNon, isStr, Option.isSome_some, Option.isSome_none, forall_const, false_or, or_false, or_true, true_or, not_true_eq_false, and_self, and_true, true_and, res_n h, res_p h, az, x_for, rng_one (p - 2) (by omega), l, res_new hw h n _ _ hp]
  rfl
theorem res_inv0 (n : Nat) (p : Int) : callN N P (n + 1) (mfid 4 12) [rs p 0] = .exn xZero := by
  rw [callE h2.inv 1 rfl rfl]
  simp only [f_Residue_inverse, c_Residue_inverse, rd0, rn0, st0, rd1, rn1, st1, rd2, rn2, st2, rd3, rn3, st3, rd4, rn4, st4, rd5, rn5, st5, rd6, rn6, st6, rd7, rn7, st7, rd8, rn8, st8, rd9, rn9, st9, rd10, rn10, st10, rd11, rn11, st11, rd12, rn12, st12, rd13, rn13, st13, rd14, rn14, st14, rd15, rn15, st15, rd16, rn16, st16, rd17, rn17, st17, rd18, rn18, st18, rd19, rn19, st19, rd20, rn20, st20, rd21, rn21, st21, rd22, rn22, st22, rd23, rn23, st23, rd24, rn24, st24, rd25, rn25, st25, e_int, e_str, e_bl, e_non, e_var, v_int, v_str, v_bl, v_non, v_tup, v_ins, v_scr, v_lst, v_lstF, e_tup, e_lst, e_neg, e_bin, e_not, e_ands, e_ors, e_cmp, e_chn, e_ite, e_idxv, e_idx, e_slc, e_rev, e_cal, e_new, e_mth, e_app, e_att, e_len, e_blt1, e_lenE, e_blt2, e_smt, e_pop, e_pop0, e_isi, a_one, a_more, o_one, o_more, k_nil, k_cons, l_nil, l_io, l_cons, io_lst, i_nil, i_io, i_cons, out_ok, out_ok1, out_exn, mthR_ins, new_exn, hasM_ins, x_skip, x_seq, x_exp, x_asg, x_sat, sat_obj, x_apd, isLst_lst, x_ite, x_whl, x_for, t_rng, t_it, rng_some, x_ret, r_nil, r_var, r_e, ret_int, ret_str, ret_bl, ret_non, ret_tup, ret_ins, ret_lst, ret_lstF, x_rai, x_try, x_brk, x_cnt, h_ret, h_inc, h_nil, inc_int, conD_bl, conD_int, conD_str, conD_non, lift_ok, b_int, b_add, b_sub, b_mul, b_fdiv, b_mod, cr_ok, cr_exn, i_add, i_sub, n_int, n_ins, not_bl, eqO_ok, neO_ok, c_eq_ins, c_eq_int, c_eq_str, c_eq_bl, c_ne_ins, c_ne_int, c_ne_str, c_ne_bl, c_lt, c_le, c_gt, c_ge, c_is_bl, c_isn_bl, c_is_non, c_isn_non, c_in, c_notin, fz_int, fz_str, fz_bl, fz_scr, fz_nil, fz_tup, fz_ins, fz_lst, fz_lstF, zs_nil, zs_cons, len_lst, len_tup, len_scr, s_ins, s_str, strO_ok, strO_exn, s_abs, items_lst, items_tup, isi_int, isi_bl, isi_str, isi_non, isi_tup, isi_lst, isi_ins, fin_ret, fin_nxt, fin_exn, fin_ret0, fin_nxt0, wN_nxt, wN_cnt, put_nam, wT_ok, callR_eq, eq_self, beq_self_eq_true, Res.bind, Res.bindS, Rs.bind, tst, Rs.lift, reduceCtorEq, ne_eq, not_false_eq_true, implies_true, ite_true, ite_false, Bool.false_eq_true, decide_true, decide_false, Bool.not_true, Bool.not_false, List.length_cons, List.length_nil, List.cons_append, List.nil_append, reduceIte, start0, List.map_cons, List.map_nil, List.any_cons, List.any_nil, tyD, Bool.or_true, Bool.or_false, Bool.true_or, Bool.false_or, Nat.reduceAdd, Nat.reduceSub, List.drop_succ_cons, List.drop_nil, List.drop_zero, List.replicate_succ, List.replicate_zero, List.append_nil, Option.map_none, Option.map_some, isNon, isStr, Option.isSome_some, Option.isSome_none, forall_const, false_or, or_false, or_true, true_or, not_true_eq_false, and_self, and_true, true_and, res_n h, h.x1]
theorem res_over (n : Nat) (p a b : Int) (hp : p ∈ prs) (ha : 0 ≤ a ∧ a < p) (h0 : 0 < b) (h1 : b < p) : callN N P (n + 5) (mfid 4 13) [rs p a, rs p b] = .ok (rs p ((a * ivz p b) % p)) [] := by
  rw [callE h2.over 2 rfl rfl]
  have i := res_inv hw h h2 n p b hp h0 h1
  have m := res_mul hw h n p a (ivz p b) hp ha
  simp only [f_Residue_over, c_Residue_over, rd0, rn0, st0, rd1, rn1, st1, rd2, rn2, st2, rd3, rn3, st3, rd4, rn4, st4, rd5, rn5, st5, rd6, rn6, st6, rd7, rn7, st7, rd8, rn8, st8, rd9, rn9, st9, rd10, rn10, st10, rd11, rn11, st11, rd12, rn12, st12, rd13, rn13, st13, rd14, rn14, st14, rd15, rn15, st15, rd16, rn16, st16, rd17, rn17, st17, rd18, rn18, st18, rd19, rn19, st19, rd20, rn20, st20, rd21, rn21, st21, rd22, rn22, st22, rd23, rn23, st23, rd24, rn24, st24, rd25, rn25, st25, e_int, e_str, e_bl, e_non, e_var, v_int, v_str, v_bl, v_non, v_tup, v_ins, v_scr, v_lst, v_lstF, e_tup, e_lst, e_neg, e_bin, e_not, e_ands, e_ors, e_cmp, e_chn, e_ite, e_idxv, e_idx, e_slc, e_rev, e_cal, e_new, e_mth, e_app, e_att, e_len, e_blt1, e_lenE, e_blt2, e_smt, e_pop, e_pop0, e_isi, a_one, a_more, o_one, o_more, k_nil, k_cons, l_nil, l_io, l_cons, io_lst, i_nil, i_io, i_cons, out_ok, out_ok1, out_exn, mthR_ins, new_exn, hasM_ins, x_skip, x_seq, x_exp, x_asg, x_sat, sat_obj, x_apd, isLst_lst, x_ite, x_whl, x_for, t_rng, t_it, rng_some, x_ret, r_nil, r_var, r_e, ret_int, ret_str, ret_bl, ret_non, ret_tup, ret_ins, ret_lst, ret_lstF, x_rai, x_try, x_brk, x_cnt, h_ret, h_inc, h_nil, inc_int, conD_bl, conD_int, conD_str, conD_non, lift_ok, b_int, b_add, b_sub, b_mul, b_fdiv, b_mod, cr_ok, cr_exn, i_add, i_sub, n_int, n_ins, not_bl, eqO_ok, neO_ok, c_eq_ins, c_eq_int, c_eq_str, c_eq_bl, c_ne_ins, c_ne_int, c_ne_str, c_ne_bl, c_lt, c_le, c_gt, c_ge, c_is_bl, c_isn_bl, c_is_non, c_isn_non, c_in, c_notin, fz_int, fz_str, fz_bl, fz_scr, fz_nil, fz_tup, fz_ins, fz_lst, fz_lstF, zs_nil, zs_cons, len_lst, len_tup, len_scr, s_ins, s_str, strO_ok, strO_exn, s_abs, items_lst, items_tup, isi_int, isi_bl, isi_str, isi_non, isi_tup, isi_lst, isi_ins, fin_ret, fin_nxt, fin_exn, fin_ret0, fin_nxt0, wN_nxt, wN_cnt, put_nam, wT_ok, callR_eq, eq_self, beq_self_eq_true, Res.bind, Res.bindS, Rs.bind, tst, Rs.lift, reduceCtorEq, ne_eq, not_false_eq_true, implies_true, ite_true, ite_false, Bool.false_eq_true, decide_true, decide_false, Bool.not_true, Bool.not_false, List.length_cons, List.length_nil, List.cons_append, List.nil_append, reduceIte, start0, List.map_cons, List.map_nil, List.any_cons, List.any_nil, tyD, Bool.or_true, Bool.or_false, Bool.true_or, Bool.false_or, Nat.reduceAdd, Nat.reduceSub, List.drop_succ_cons, List.drop_nil, List.drop_zero, List.replicate_succ, List.replicate_zero, List.append_nil, Option.map_none, Option.map_some, isNon, isStr, Option.isSome_some, Option.isSome_none, forall_const, false_or, or_false, or_true, true_or, not_true_eq_false, and_self, and_true, true_and, h2.h12, i, m]
theorem res_over0 (n : Nat) (p a : Int) : callN N P (n + 2) (mfid 4 13) [rs p a, rs p 0] = .exn xZero := by
  rw [callE h2.over 2 rfl rfl]
  have i := res_inv0 hw h h2 n p
  simp only [f_Residue_over, c_Residue_over, rd0, rn0, st0, rd1, rn1, st1, rd2, rn2, st2, rd3, rn3, st3, rd4, rn4, st4, rd5, rn5, st5, rd6, rn6, st6, rd7, rn7, st7, rd8, rn8, st8, rd9, rn9, st9, rd10, rn10, st10, rd11, rn11, st11, rd12, rn12, st12, rd13, rn13, st13, rd14, rn14, st14, rd15, rn15, st15, rd16, rn16, st16, rd17, rn17, st17, rd18, rn18, st18, rd19, rn19, st19, rd20, rn20, st20, rd21, rn21, st21, rd22, rn22, st22, rd23, rn23, st23, rd24, rn24, st24, rd25, rn25, st25, e_int, e_str, e_bl, e_non, e_var, v_int, v_str, v_bl, v_non, v_tup, v_ins, v_scr, v_lst, v_lstF, e_tup, e_lst, e_neg, e_bin, e_not, e_ands, e_ors, e_cmp, e_chn, e_ite, e_idxv, e_idx, e_slc, e_rev, e_cal, e_new, e_mth, e_app, e_att, e_len, e_blt1, e_lenE, e_blt2, e_smt, e_pop, e_pop0, e_isi, a_one, a_more, o_one, o_more, k_nil, k_cons, l_nil, l_io, l_cons, io_lst, i_nil, i_io, i_cons, out_ok, out_ok1, out_exn, mthR_ins, new_exn, hasM_ins, x_skip, x_seq, x_exp, x_asg, x_sat, sat_obj, x_apd, isLst_lst, x_ite, x_whl, x_for, t_rng, t_it, rng_some, x_ret, r_nil, r_var, r_e, ret_int, ret_str, ret_bl, ret_non, ret_tup, ret_ins, ret_lst, ret_lstF, x_rai, x_try, x_brk, x_cnt, h_ret, h_inc, h_nil, inc_int, conD_bl, conD_int, conD_str, conD_non, lift_ok, b_int, b_add, b_sub, b_mul, b_fdiv, b_mod, cr_ok, cr_exn, i_add, i_sub, n_int, n_ins, not_bl, eqO_ok, neO_ok, c_eq_ins, c_eq_int, c_eq_str, c_eq_bl, c_ne_ins, c_ne_int, c_ne_str, c_ne_bl, c_lt, c_le, c_gt, c_ge, c_is_bl, c_isn_bl, c_is_non, c_isn_non, c_in, c_notin, fz_int, fz_str, fz_bl, fz_scr, fz_nil, fz_tup, fz_ins, fz_lst, fz_lstF, zs_nil, zs_cons, len_lst, len_tup, len_scr, s_ins, s_str, strO_ok, strO_exn, s_abs, items_lst, items_tup, isi_int, isi_bl, isi_str, isi_non, isi_tup, isi_lst, isi_ins, fin_ret, fin_nxt, fin_exn, fin_ret0, fin_nxt0, wN_nxt, wN_cnt, put_nam, wT_ok, callR_eq, eq_self, beq_self_eq_true, Res.bind, Res.bindS, Rs.bind, tst, Rs.lift, reduceCtorEq, ne_eq, not_false_eq_true, implies_true, ite_true, ite_false, Bool.false_eq_true, decide_true, decide_false, Bool.not_true, Bool.not_false, List.length_cons, List.length_nil, List.cons_append, List.nil_append, reduceIte, start0, List.map_cons, List.map_nil, List.any_cons, List.any_nil, tyD, Bool.or_true, Bool.or_false, Bool.true_or, Bool.false_or, Nat.reduceAdd, Nat.reduceSub, List.drop_succ_cons, List.drop_nil, List.drop_zero, List.replicate_succ, List.replicate_zero, List.append_nil, Option.map_none, Option.map_some, isNon, isStr, Option.isSome_some, Option.isSome_none, forall_const, false_or, or_false, or_true, true_or, not_true_eq_false, and_self, and_true, true_and, h2.h12, i]
omit h2 in
theorem res_bad3 (n : Nat) (p a q b : Int) (hpq : p ≠ q) : callN N P (n + 1) (mfid 4 mAdd) [rs p a, rs q b] = .exn xMal ∧ callN N P (n + 1) (mfid 4 mSub) [rs p a, rs q b] = .exn xMal ∧ callN N P (n + 1) (mfid 4 mMul) [rs p a, rs q b] = .exn xMal := by
  refine ⟨?_, ?_, ?_⟩
  · rw [callE h.add 2 rfl rfl]
    simp only [f_Residue_add, c_Residue_add, rd0, rn0, st0, rd1, rn1, st1, rd2, rn2, st2, rd3, rn3, st3, rd4, rn4, st4, rd5, rn5, st5, rd6, rn6, st6, rd7, rn7, st7, rd8, rn8, st8, rd9, rn9, st9, rd10, rn10, st10, rd11, rn11, st11, rd12, rn12, st12, rd13, rn13, st13, rd14, rn14, st14, rd15, rn15, st15, rd16, rn16, st16, rd17, rn17, st17, rd18, rn18, st18, rd19, rn19, st19, rd20, rn20, st20, rd21, rn21, st21, rd22, rn22, st22, rd23, rn23, st23, rd24, rn24, st24, rd25, rn25, st25, e_int, e_str, e_bl, e_non, e_var, v_int, v_str, v_bl, v_non, v_tup, v_ins, v_scr, v_lst, v_lstF, e_tup, e_lst, e_neg, e_bin, e_not, e_ands, e_ors, e_cmp, e_chn, e_ite, e_idxv, e_idx, e_slc, e_rev, e_cal, e_new, e_mth, e_app, e_att, e_len, e_blt1, e_lenE, e_blt2, e_smt, e_pop, e_pop0, e_isi, a_one, a_more, o_one, o_more, k_nil, k_cons, l_nil, l_io, l_cons, io_lst, i_nil, i_io, i_cons, out_ok, out_ok1, out_exn, mthR_ins, new_exn, hasM_ins, x_skip, x_seq, x_exp, x_asg, x_sat, sat_obj, x_apd, isLst_lst, x_ite, x_whl, x_for, t_rng, t_it, rng_some, x_ret, r_nil, r_var, r_e, ret_int, ret_str, ret_bl, ret_non, ret_tup, ret_ins, ret_lst, ret_lstF, x_rai, x_try, x_brk, x_cnt, h_ret, h_inc, h_nil, inc_int, conD_bl, conD_int, conD_str, conD_non, lift_ok, b_int, b_add, b_sub, b_mul, b_fdiv, b_mod, cr_ok, cr_exn, i_add, i_sub, n_int, n_ins, not_bl, eqO_ok, neO_ok, c_eq_ins, c_eq_int, c_eq_str, c_eq_bl, c_ne_ins, c_ne_int, c_ne_str, c_ne_bl, c_lt, c_le, c_gt, c_ge, c_is_bl, c_isn_bl, c_is_non, c_isn_non, c_in, c_notin, fz_int, fz_str, fz_bl, fz_scr, fz_nil, fz_tup, fz_ins, fz_lst, fz_lstF, zs_nil, zs_cons, len_lst, len_tup, len_scr, s_ins, s_str, strO_ok, strO_exn, s_abs, items_lst, items_tup, isi_int, isi_bl, isi_str, isi_non, isi_tup, isi_lst, isi_ins, fin_ret, fin_nxt, fin_exn, fin_ret0, fin_nxt0, wN_nxt, wN_cnt, put_nam, wT_ok, callR_eq, eq_self, beq_self_eq_true, Res.bind, Res.bindS, Rs.bind, tst, Rs.lift, reduceCtorEq, ne_eq, not_false_eq_true, implies_true, ite_true, ite_false, Bool.false_eq_true, decide_true, decide_false, Bool.not_true, Bool.not_false, List.length_cons, List.length_nil, List.cons_append, List.nil_append, reduceIte, start0, List.map_cons, List.map_nil, List.any_cons, List.any_nil, tyD, Bool.or_true, Bool.or_false, Bool.true_or, Bool.false_or, Nat.reduceAdd, Nat.reduceSub, List.drop_succ_cons, List.drop_nil, List.drop_zero, List.replicate_succ, List.replicate_zero, List.append_nil, Option.map_none, Option.map_some, isNon, isStr, Option.isSome_some, Option.isSome_none, forall_const, false_or, or_false, or_true, true_or, not_true_eq_false, and_self, and_true, true_and, res_p h, hpq, h.x2]
  · rw [callE h.sub 2 rfl rfl]
    simp only [f_Residue_sub, c_Residue_sub, rd0, rn0, st0, rd1, rn1, st1, rd2, rn2, st2, rd3, rn3, st3, rd4, rn4, st4, rd5, rn5, st5, rd6, rn6, st6, rd7, rn7, st7, rd8, rn8, st8, rd9, rn9, st9, rd10, rn10, st10, rd11, rn11, st11, rd12, rn12, st12, rd13, rn13, st13, rd14, rn14, st14, rd15, rn15, st15, rd16, rn16, st16, rd17, rn17, st17, rd18, rn18, st18, rd19, rn19, st19, rd20, rn20, st20, rd21, rn21, st21, rd22, rn22, st22, rd23, rn23, st23, rd24, rn24, st24, rd25, rn25, st25, e_int, e_str, e_bl, e_non, e_var, v_int, v_str, v_bl, v_non, v_tup, v_ins, v_scr, v_lst, v_lstF, e_tup, e_lst, e_neg, e_bin, e_not, e_ands, e_ors, e_cmp, e_chn, e_ite, e_idxv, e_idx, e_slc, e_rev, e_cal, e_new, e_mth, e_app, e_att, e_len, e_blt1, e_lenE, e_blt2, e_smt, e_pop, e_pop0, e_isi, a_one, a_more, o_one, o_more, k_nil, k_cons, l_nil, l_io, l_cons, io_lst, i_nil, i_io, i_cons, out_ok, out_ok1, out_exn, mthR_ins, new_exn, hasM_ins, x_skip, x_seq, x_exp, x_asg, x_sat, sat_obj, x_apd, isLst_lst, x_ite, x_whl, x_for, t_rng, t_it, rng_some, x_ret, r_nil, r_var, r_e, ret_int, ret_str, ret_bl, ret_non, ret_tup, ret_ins, ret_lst, ret_lstF, x_rai, x_try, x_brk, x_cnt, h_ret, h_inc, h_nil, inc_int, conD_bl, conD_int, conD_str, conD_non, lift_ok, b_int, b_add, b_sub, b_mul, b_fdiv, b_mod, cr_ok, cr_exn, i_add, i_sub, n_int, n_ins, not_bl, eqO_ok, neO_ok, c_eq_ins, c_eq_int, c_eq_str, c_eq_bl, c_ne_ins, c_ne_int, c_ne_str, c_ne_bl, c_lt, c_le, c_gt, c_ge, c_is_bl, c_isn_bl, c_is_non, c_isn_non, c_in, c_notin, fz_int, fz_str, fz_bl, fz_scr, fz_nil, fz_tup, fz_ins, fz_lst, fz_lstF, zs_nil, zs_cons, len_lst, len_tup, len_scr, s_ins, s_str, strO_ok, strO_exn, s_abs, items_lst, items_tup, isi_int, isi_bl, isi_str, isi_non, isi_tup, isi_lst, isi_ins, fin_ret, fin_nxt, fin_exn, fin_ret0, fin_nxt0, wN_nxt, wN_cnt, put_nam, wT_ok, callR_eq, eq_self, beq_self_eq_true, Res.bind, Res.bindS, Rs.bind, tst, Rs.lift, reduceCtorEq, ne_eq, not_false_eq_true, implies_true, ite_true, ite_false, Bool.false_eq_true, decide_true, decide_false, Bool.not_true, Bool.not_false, List.length_cons, List.length_nil, List.cons_append, List.nil_append, reduceIte, start0, List.map_cons, List.map_nil, List.any_cons, List.any_nil, tyD, Bool.or_true, Bool.or_false, Bool.true_or, Bool.false_or, Nat.reduceAdd, Nat.reduceSub, List.drop_succ_cons, List.drop_nil, List.drop_zero, List.replicate_succ, List.replicate_zero, List.append_nil, Option.map_none, Option.map_some, isNon, isStr, Option.isSome_some, Option.isSome_none, forall_const, false_or, or_false, or_true, true_or, not_true_eq_false, and_self, and_true, true_and, res_p h, hpq, h.x2]
  · rw [callE h.mul 2 rfl rfl]
    simp only [f_Residue_mul, c_Residue_mul, rd0, rn0, st0, rd1, rn1, st1, rd2, rn2, st2, rd3, rn3, st3, rd4, rn4, st4, rd5, rn5, st5, rd6, rn6, st6, rd7, rn7, st7, rd8, rn8, st8, rd9, rn9, st9, rd10, rn10, st10, rd11, rn11, st11, rd12, rn12, st12, rd13, rn13, st13, rd14, rn14, st14, rd15, rn15, st15, rd16, rn16, st16, rd17, rn17, st17, rd18, rn18, st18, rd19, rn19, st19, rd20, rn20, st20, rd21, rn21, st21, rd22, rn22, st22, rd23, rn23, st23, rd24, rn24, st24, rd25, rn25, st25, e_int, e_str, e_bl, e_non, e_var, v_int, v_str, v_bl, v_non, v_tup, v_ins, v_scr, v_lst, v_lstF, e_tup, e_lst, e_neg, e_bin, e_not, e_ands, e_ors, e_cmp, e_chn, e_ite, e_idxv, e_idx, e_slc, e_rev, e_cal, e_new, e_mth, e_app, e_att, e_len, e_blt1, e_lenE, e_blt2, e_smt, e_pop, e_pop0, e_isi, a_one, a_more, o_one, o_more, k_nil, k_cons, l_nil, l_io, l_cons, io_lst, i_nil, i_io, i_cons, out_ok, out_ok1, out_exn, mthR_ins, new_exn, hasM_ins, x_skip, x_seq, x_exp, x_asg, x_sat, sat_obj, x_apd, isLst_lst, x_ite, x_whl, x_for, t_rng, t_it, rng_some, x_ret, r_nil, r_var, r_e, ret_int, ret_str, ret_bl, ret_non, ret_tup, ret_ins, ret_lst, ret_lstF, x_rai, x_try, x_brk, x_cnt, h_ret, h_inc, h_nil, inc_int, conD_bl, conD_int, conD_str, conD_non, lift_ok, b_int, b_add, b_sub, b_mul, b_fdiv, b_mod, cr_ok, cr_exn, i_add, i_sub, n_int, n_ins, not_bl, eqO_ok, neO_ok, c_eq_ins, c_eq_int, c_eq_str, c_eq_bl, c_ne_ins, c_ne_int, c_ne_str, c_ne_bl, c_lt, c_le, c_gt, c_ge, c_is_bl, c_isn_bl, c_is_non, c_isn_non, c_in, c_notin, fz_int, fz_str, fz_bl, fz_scr, fz_nil, fz_tup, fz_ins, fz_lst, fz_lstF, zs_nil, zs_cons, len_lst, len_tup, len_scr, s_ins, s_str, strO_ok, strO_exn, s_abs, items_lst, items_tup, isi_int, isi_bl, isi_str, isi_non, isi_tup, isi_lst, isi_ins, fin_ret, fin_nxt, fin_exn, fin_ret0, fin_nxt0, wN_nxt, wN_cnt, put_nam, wT_ok, callR_eq, eq_self, beq_self_eq_true, Res.bind, Res.bindS, Rs.bind, tst, Rs.lift, reduceCtorEq, ne_eq, not_false_eq_true, implies_true, ite_true, ite_false, Bool.false_eq_true, decide_true, decide_false, Bool.not_true, Bool.not_false, List.length_cons, List.length_nil, List.cons_append, List.nil_append, reduceIte, start0, List.map_cons, List.map_nil, List.any_cons, List.any_nil, tyD, Bool.or_true, Bool.or_false, Bool.true_or, Bool.false_or, Nat.reduceAdd, Nat.reduceSub, List.drop_succ_cons, List.drop_nil, List.drop_zero, List.replicate_succ, List.replicate_zero, List.append_nil, Option.map_none, Option.map_some, isNon, isStr, Option.isSome_some, Option.isSome_none, forall_const, false_or, or_false, or_true, true_or, not_true_eq_false, and_self, and_true, true_and, res_p h, hpq, h.x2]
omit h2 in
theorem res_badC (n : Nat) (p a : Int) (c : Nat) (l : List D) (hc : c ≠ 4) : callN N P (n + 1) (mfid 4 mAdd) [rs p a, .ins c l] = .exn xMal ∧ callN N P (n + 1) (mfid 4 mSub) [rs p a, .ins c l] = .exn xMal ∧ callN N P (n + 1) (mfid 4 mMul) [rs p a, .ins c l] = .exn xMal := by
  have e : decide (c = 4) = false := decide_eq_false hc
  refine ⟨?_, ?_, ?_⟩
  · rw [callE h.add 2 rfl rfl]
    simp only [f_Residue_add, c_Residue_add, rd0, rn0, st0, rd1, rn1, st1, rd2, rn2, st2, rd3, rn3, st3, rd4, rn4, st4, rd5, rn5, st5, rd6, rn6, st6, rd7, rn7, st7, rd8, rn8, st8, rd9, rn9, st9, rd10, rn10, st10, rd11, rn11, st11, rd12, rn12, st12, rd13, rn13, st13, rd14, rn14, st14, rd15, rn15, st15, rd16, rn16, st16, rd17, rn17, st17, rd18, rn18, st18, rd19, rn19, st19, rd20, rn20, st20, rd21, rn21, st21, rd22, rn22, st22, rd23, rn23, st23, rd24, rn24, st24, rd25, rn25, st25, e_int, e_str, e_bl, e_non, e_var, v_int, v_str, v_bl, v_non, v_tup, v_ins, v_scr, v_lst, v_lstF, e_tup, e_lst, e_neg, e_bin, e_not, e_ands, e_ors, e_cmp, e_chn, e_ite, e_idxv, e_idx, e_slc, e_rev, e_cal, e_new, e_mth, e_app, e_att, e_len, e_blt1, e_lenE, e_blt2, e_smt, e_pop, e_pop0, e_isi, a_one, a_more, o_one, o_more, k_nil, k_cons, l_nil, l_io, l_cons, io_lst, i_nil, i_io, i_cons, out_ok, out_ok1, out_exn, mthR_ins, new_exn, hasM_ins, x_skip, x_seq, x_exp, x_asg, x_sat, sat_obj, x_apd, isLst_lst, x_ite, x_whl, x_for, t_rng, t_it, rng_some, x_ret, r_nil, r_var, r_e, ret_int, ret_str, ret_bl, ret_non, ret_tup, ret_ins, ret_lst, ret_lstF, x_rai, x_try, x_brk, x_cnt, h_ret, h_inc, h_nil, inc_int, conD_bl, conD_int, conD_str, conD_non, lift_ok, b_int, b_add, b_sub, b_mul, b_fdiv, b_mod, cr_ok, cr_exn, i_add, i_sub, n_int, n_ins, not_bl, eqO_ok, neO_ok, c_eq_ins, c_eq_int, c_eq_str, c_eq_bl, c_ne_ins, c_ne_int, c_ne_str, c_ne_bl, c_lt, c_le, c_gt, c_ge, c_is_bl, c_isn_bl, c_is_non, c_isn_non, c_in, c_notin, fz_int, fz_str, fz_bl, fz_scr, fz_nil, fz_tup, fz_ins, fz_lst, fz_lstF, zs_nil, zs_cons, len_lst, len_tup, len_scr, s_ins, s_str, strO_ok, strO_exn, s_abs, items_lst, items_tup, isi_int, isi_bl, isi_str, isi_non, isi_tup, isi_lst, isi_ins, fin_ret, fin_nxt, fin_exn, fin_ret0, fin_nxt0, wN_nxt, wN_cnt, put_nam, wT_ok, callR_eq, eq_self, beq_self_eq_true, Res.bind, Res.bindS, Rs.bind, tst, Rs.lift, reduceCtorEq, ne_eq, not_false_eq_true, implies_true, ite_true, ite_false, Bool.false_eq_true, decide_true, decide_false, Bool.not_true, Bool.not_false, List.length_cons, List.length_nil, List.cons_append, List.nil_append, reduceIte, start0, List.map_cons, List.map_nil, List.any_cons, List.any_nil, tyD, Bool.or_true, Bool.or_false, Bool.true_or, Bool.false_or, Nat.reduceAdd, Nat.reduceSub, List.drop_succ_cons, List.drop_nil, List.drop_zero, List.replicate_succ, List.replicate_zero, List.append_nil, Option.map_none, Option.map_some, isNon, isStr, Option.isSome_some, Option.isSome_none, forall_const, false_or, or_false, or_true, true_or, not_true_eq_false, and_self, and_true, true_and, e, h.x2]
  · rw [callE h.sub 2 rfl rfl]
    simp only [f_Residue_sub, c_Residue_sub, rd0, rn0, st0, rd1, rn1, st1, rd2, rn2, st2, rd3, rn3, st3, rd4, rn4, st4, rd5, rn5, st5, rd6, rn6, st6, rd7, rn7, st7, rd8, rn8, st8, rd9, rn9, st9, rd10, rn10, st10, rd11, rn11, st11, rd12, rn12, st12, rd13, rn13, st13, rd14, rn14, st14, rd15, rn15, st15, rd16, rn16, st16, rd17, rn17, st17, rd18, rn18, st18, rd19, rn19, st19, rd20, rn20, st20, rd21, rn21, st21, rd22, rn22, st22, rd23, rn23, st23, rd24, rn24, st24, rd25, rn25, st25, e_int, e_str, e_bl, e_non, e_var, v_int, v_str, v_bl, v_non, v_tup, v_ins, v_scr, v_lst, v_lstF, e_tup, e_lst, e_neg, e_bin, e_not, e_ands, e_ors, e_cmp, e_chn, e_ite, e_idxv, e_idx, e_slc, e_rev, e_cal, e_new, e_mth, e_app, e_att, e_len, e_blt1, e_lenE, e_blt2, e_smt, e_pop, e_pop0, e_isi, a_one, a_more, o_one, o_more, k_nil, k_cons, l_nil, l_io, l_cons, io_lst, i_nil, i_io, i_cons, out_ok, out_ok1, out_exn, mthR_ins, new_exn, hasM_ins, x_skip, x_seq, x_exp, x_asg, x_sat, sat_obj, x_apd, isLst_lst, x_ite, x_whl, x_for, t_rng, t_it, rng_some, x_ret, r_nil, r_var, r_e, ret_int, ret_str, ret_bl, ret_non, ret_tup, ret_ins, ret_lst, ret_lstF, x_rai, x_try, x_brk, x_cnt, h_ret, h_inc, h_nil, inc_int, conD_bl, conD_int, conD_str, conD_non, lift_ok, b_int, b_add, b_sub, b_mul, b_fdiv, b_mod, cr_ok, cr_exn, i_add, i_sub, n_int, n_ins, not_bl, eqO_ok, neO_ok, c_eq_ins, c_eq_int, c_eq_str, c_eq_bl, c_ne_ins, c_ne_int, c_ne_str, c_ne_bl, c_lt, c_le, c_gt, c_ge, c_is_bl, c_isn_bl, c_is_non, c_isn_non, c_in, c_notin, fz_int, fz_str, fz_bl, fz_scr, fz_nil, fz_tup, fz_ins, fz_lst, fz_lstF, zs_nil, zs_cons, len_lst, len_tup, len_scr, s_ins, s_str, strO_ok, strO_exn, s_abs, items_lst, items_tup, isi_int, isi_bl, isi_str, isi_non, isi_tup, isi_lst, isi_ins, fin_ret, fin_nxt, fin_exn, fin_ret0, fin_nxt0, wN_nxt, wN_cnt, put_nam, wT_ok, callR_eq, eq_self, beq_self_eq_true, Res.bind, Res.bindS, Rs.bind, tst, Rs.lift, reduceCtorEq, ne_eq, not_false_eq_true, implies_true, ite_true, ite_false, Bool.false_eq_true, decide_true, decide_false, Bool.not_true, Bool.not_false, List.length_cons, List.length_nil, List.cons_append, List.nil_append, reduceIte, start0, List.map_cons, List.map_nil, List.any_cons, List.any_nil, tyD, Bool.or_true, Bool.or_false, Bool.true_or, Bool.false_or, Nat.reduceAdd, Nat.reduceSub, List.drop_succ_cons, List.drop_nil, List.drop_zero, List.replicate_succ, List.replicate_zero, List.append_nil, Option.map_none, Option.map_some, isNon, isStr, Option.isSome_some, Option.isSome_none, forall_const, false_or, or_false, or_true, true_or, not_true_eq_false, and_self, and_true, true_and, e, h.x2]
  · rw [callE h.mul 2 rfl rfl]
    simp only [f_Residue_mul, c_Residue_mul, rd0, rn0, st0, rd1, rn1, st1, rd2, rn2, st2, rd3, rn3, st3, rd4, rn4, st4, rd5, rn5, st5, rd6, rn6, st6, rd7, rn7, st7, rd8, rn8, st8, rd9, rn9, st9, rd10, rn10, st10, rd11, rn11, st11, rd12, rn12, st12, rd13, rn13, st13, rd14, rn14, st14, rd15, rn15, st15, rd16, rn16, st16, rd17, rn17, st17, rd18, rn18, st18, rd19, rn19, st19, rd20, rn20, st20, rd21, rn21, st21, rd22, rn22, st22, rd23, rn23, st23, rd24, rn24, st24, rd25, rn25, st25, e_int, e_str, e_bl, e_non, e_var, v_int, v_str, v_bl, v_non, v_tup, v_ins, v_scr, v_lst, v_lstF, e_tup, e_lst, e_neg, e_bin, e_not, e_ands, e_ors, e_cmp, e_chn, e_ite, e_idxv, e_idx, e_slc, e_rev, e_cal, e_new, e_mth, e_app, e_att, e_len, e_blt1, e_lenE, e_blt2, e_smt, e_pop, e_pop0, e_isi, a_one, a_more, o_one, o_more, k_nil, k_cons, l_nil, l_io, l_cons, io_lst, i_nil, i_io, i_cons, out_ok, out_ok1, out_exn, mthR_ins, new_exn, hasM_ins, x_skip, x_seq, x_exp, x_asg, x_sat, sat_obj, x_apd, isLst_lst, x_ite, x_whl, x_for, t_rng, t_it, rng_some, x_ret, r_nil, r_var, r_e, ret_int, ret_str, ret_bl, ret_non, ret_tup, ret_ins, ret_lst, ret_lstF, x_rai, x_try, x_brk, x_cnt, h_ret, h_inc, h_nil, inc_int, conD_bl, conD_int, conD_str, conD_non, lift_ok, b_int, b_add, b_sub, b_mul, b_fdiv, b_mod, cr_ok, cr_exn, i_add, i_sub, n_int, n_ins, not_bl, eqO_ok, neO_ok, c_eq_ins, c_eq_int, c_eq_str, c_eq_bl, c_ne_ins, c_ne_int, c_ne_str, c_ne_bl, c_lt, c_le, c_gt, c_ge, c_is_bl, c_isn_bl, c_is_non, c_isn_non, c_in, c_notin, fz_int, fz_str, fz_bl, fz_scr, fz_nil, fz_tup, fz_ins, fz_lst, fz_lstF, zs_nil, zs_cons, len_lst, len_tup, len_scr, s_ins, s_str, strO_ok, strO_exn, s_abs, items_lst, items_tup, isi_int, isi_bl, isi_str, isi_non, isi_tup, isi_lst, isi_ins, fin_ret, fin_nxt, fin_exn, fin_ret0, fin_nxt0, wN_nxt, wN_cnt, put_nam, wT_ok, callR_eq, eq_self, beq_self_eq_true, Res.bind, Res.bindS, Rs.bind, tst, Rs.lift, reduceCtorEq, ne_eq, not_false_eq_true, implies_true, ite_true, ite_false, Bool.false_eq_true, decide_true, decide_false, Bool.not_true, Bool.not_false, List.length_cons, List.length_nil, List.cons_append, List.nil_append, reduceIte, start0, List.map_cons, List.map_nil, List.any_cons, List.any_nil, tyD, Bool.or_true, Bool.or_false, Bool.true_or, Bool.false_or, Nat.reduceAdd, Nat.reduceSub, List.drop_succ_cons, List.drop_nil, List.drop_zero, List.replicate_succ, List.replicate_zero, List.append_nil, Option.map_none, Option.map_some, isNon, isStr, Option.isSome_some, Option.isSome_none, forall_const, false_or, or_false, or_true, true_or, not_true_eq_false, and_self, and_true, true_and, e, h.x2]
variable (h3 : HSP N P)
include h3
omit h2 h3 in
theorem rpow_loop (n : Nat) (p a : Int) (hp : p ∈ prs) (x y : Option D) (r : List D) (i : Option D) :
    ∃ i', loopF (Tg.put (.nam 4)) (fun e => exec N (callN N P (n + 4)) b1_Residue_power e) r [x, y, some (rs p a), some (rs p (1 % p)), i] = .nxt [x, y, some (rs p a), some (rs p (a ^ r.length % p)), i'] := by
  obtain ⟨e', h1, j, i', rfl, hj⟩ := for_wp (N := N) (C := callN N P (n + 4)) (put := Tg.put (.nam 4)) (b := b1_Residue_power) (fun r' e => ∃ (j : Nat) (i : Option D), e = [x, y, some (rs p a), some (rs p (a ^ j % p)), i] ∧ j + r'.length = r.length) (fun d r' e q => by
    obtain ⟨j, i, rfl, hj⟩ := q
    refine ⟨_, rfl, ?_⟩
    simp only [List.length_cons] at hj
    have m := res_mul hw h n p (a ^ j % p) a hp (mod_pos hp)
    simp only [b1_Residue_power, rd0, rn0, st0, rd1, rn1, st1, rd2, rn2, st2, rd3, rn3, st3, rd4, rn4, st4, rd5, rn5, st5, rd6, rn6, st6, rd7, rn7, st7, rd8, rn8, st8, rd9, rn9, st9, rd10, rn10, st10, rd11, rn11, st11, rd12, rn12, st12, rd13, rn13, st13, rd14, rn14, st14, rd15, rn15, st15, rd16, rn16, st16, rd17, rn17, st17, rd18, rn18, st18, rd19, rn19, st19, rd20, rn20, st20, rd21, rn21, st21, rd22, rn22, st22, rd23, rn23, st23, rd24, rn24, st24, rd25, rn25, st25, e_int, e_str, e_bl, e_non, e_var, v_int, v_str, v_bl, v_non, v_tup, v_ins, v_scr, v_lst, v_lstF, e_tup, e_lst, e_neg, e_bin, e_not, e_ands, e_ors, e_cmp, e_chn, e_ite, e_idxv, e_idx, e_slc, e_rev, e_cal, e_new, e_mth, e_app, e_att, e_len, e_blt1, e_lenE, e_blt2, e_smt, e_pop, e_pop0, e_isi, a_one, a_more, o_one, o_more, k_nil, k_cons, l_nil, l_io, l_cons, io_lst, i_nil, i_io, i_cons, out_ok, out_ok1, out_exn, mthR_ins, new_exn, hasM_ins, x_skip, x_seq, x_exp, x_asg, x_sat, sat_obj, x_apd, isLst_lst, x_ite, x_whl, x_for, t_rng, t_it, rng_some, x_ret, r_nil, r_var, r_e, ret_int, ret_str, ret_bl, ret_non, ret_tup, ret_ins, ret_lst, ret_lstF, x_rai, x_try, x_brk, x_cnt, h_ret, h_inc, h_nil, inc_int, conD_bl, conD_int, conD_str, conD_non, lift_ok, b_int, b_add, b_sub, b_mul, b_fdiv, b_mod, cr_ok, cr_exn, i_add, i_sub, n_int, n_ins, not_bl, eqO_ok, neO_ok, c_eq_ins, c_eq_int, c_eq_str, c_eq_bl, c_ne_ins, c_ne_int, c_ne_str, c_ne_bl, c_lt, c_le, c_gt, c_ge, c_is_bl, c_isn_bl, c_is_non, c_isn_non, c_in, c_notin, fz_int, fz_str, fz_bl, fz_scr, fz_nil, fz_tup, fz_ins, fz_lst, fz_lstF, zs_nil, zs_cons, len_lst, len_tup, len_scr, s_ins, s_str, strO_ok, strO_exn, s_abs, items_lst, items_tup, isi_int, isi_bl, isi_str, isi_non, isi_tup, isi_lst, isi_ins, fin_ret, fin_nxt, fin_exn, fin_ret0, fin_nxt0, wN_nxt, wN_cnt, put_nam, wT_ok, callR_eq, eq_self, beq_self_eq_true, Res.bind, Res.bindS, Rs.bind, tst, Rs.lift, reduceCtorEq, ne_eq, not_false_eq_true, implies_true, ite_true, ite_false, Bool.false_eq_true, decide_true, decide_false, Bool.not_true, Bool.not_false, List.length_cons, List.length_nil, List.cons_append, List.nil_append, reduceIte, start0, List.map_cons, List.map_nil, List.any_cons, List.any_nil, tyD, Bool.or_true, Bool.or_false, Bool.true_or, Bool.false_or, Nat.reduceAdd, Nat.reduceSub, List.drop_succ_cons, List.drop_nil, List.drop_zero, List.replicate_succ, List.replicate_zero, List.append_nil, Option.map_none, Option.map_some, isNon, isStr, Option.isSome_some, Option.isSome_none, forall_const, false_or, or_false, or_true, true_or, not_true_eq_false, and_self, and_true, true_and, m]
    exact ⟨j + 1, _, by rw [emm, Int.pow_succ], by omega⟩) r [x, y, some (rs p a), some (rs p (1 % p)), i] ⟨0, i, by rw [Int.pow_zero], by omega⟩
  have : j = r.length := by simpa using hj
  exact ⟨i', by rw [h1, this]⟩
theorem res_pow (n : Nat) (p a : Int) (hp : p ∈ prs) (ha : 0 ≤ a ∧ a < p) (m : Int) (hm : m.natAbs < 1000000) (hz : 0 ≤ m ∨ a ≠ 0) :
    callN N P (n + 5) (mfid 4 14) [rs p a, .int m] = .ok (rs p ((if m < 0 then ivz p a else a) ^ m.natAbs % p)) [] := by
  rw [callE h3.pow 2 rfl rfl]
  have o := res_new hw h (n + 1) p 1 hp
  by_cases z : m < 0
  · have hz : a ≠ 0 := by rcases hz with q | q; omega; exact q
    have i := res_inv hw h h2 n p a hp (by omega) ha.2
    have e : (-m).toNat = m.natAbs := by omega
    obtain ⟨i', l⟩ := rpow_loop hw h n p (ivz p a) hp (some (rs p a)) (some (.int (-m))) ((List.range m.natAbs).map (fun (k : Nat) => D.int k)) none
    simp only [List.length_map, List.length_range] at l
    have rg := rng_one (-m) (by omega)
    rw [e] at rg
    simp only [f_Residue_power, c_Residue_power, rd0, rn0, st0, rd1, rn1, st1, rd2, rn2, st2, rd3, rn3, st3, rd4, rn4, st4, rd5, rn5, st5, rd6, rn6, st6, rd7, rn7, st7, rd8, rn8, st8, rd9, rn9, st9, rd10, rn10, st10, rd11, rn11, st11, rd12, rn12, st12, rd13, rn13, st13, rd14, rn14, st14, rd15, rn15, st15, rd16, rn16, st16, rd17, rn17, st17, rd18, rn18, st18, rd19, rn19, st19, rd20, rn20, st20, rd21, rn21, st21, rd22, rn22, st22, rd23, rn23, st23, rd24, rn24, st24, rd25, rn25, st25, e_int, e_str, e_bl, e_non, e_var, v_int, v_str, v_bl, v_non, v_tup, v_ins, v_scr, v_lst, v_lstF, e_tup, e_lst, e_neg, e_bin, e_not, e_ands, e_ors, e_cmp, e_chn, e_ite, e_idxv, e_idx, e_slc, e_rev, e_cal, e_new, e_mth, e_app, e_att, e_len, e_blt1, e_lenE, e_blt2, e_smt, e_pop, e_pop0, e_isi, a_one, a_more, o_one, o_more, k_nil, k_cons, l_nil, l_io, l_cons, io_lst, i_nil, i_io, i_cons, out_ok, out_ok1, out_exn, mthR_ins, new_exn, hasM_ins, x_skip, x_seq, x_exp, x_asg, x_sat, sat_obj, x_apd, isLst_lst, x_ite, x_whl, x_for, t_rng, t_it, rng_some, x_ret, r_nil, r_var, r_e, ret_int, ret_str, ret_bl, ret_non, ret_tup, ret_ins, ret_lst, ret_lstF, x_rai, x_try, x_brk, x_cnt, h_ret, h_inc, h_nil, inc_int, conD_bl, conD_int, conD_str, conD_non, lift_ok, b_int, b_add, b_sub, b_mul, b_fdiv, b_mod, cr_ok, cr_exn, i_add, i_sub, n_int, n_ins, not_bl, eqO_ok, neO_ok, c_eq_ins, c_eq_int, c_eq_str, c_eq_bl, c_ne_ins, c_ne_int, c_ne_str, c_ne_bl, c_lt, c_le, c_gt, c_ge, c_is_bl, c_isn_bl, c_is_non, c_isn_non, c_in, c_notin, fz_int, fz_str, fz_bl, fz_scr, fz_nil, fz_tup, fz_ins, fz_lst, fz_lstF, zs_nil, zs_cons, len_lst, len_tup, len_scr, s_ins, s_str, strO_ok, strO_exn, s_abs, items_lst, items_tup, isi_int, isi_bl, isi_str, isi_non, isi_tup, isi_lst, isi_ins, fin_ret, fin_nxt, fin_exn, fin_ret0, fin_nxt0, wN_nxt, wN_cnt, put_nam, wT_ok, callR_eq, eq_self, beq_self_eq_true, Res.bind, Res.bindS, Rs.bind, tst, Rs.lift, reduceCtorEq, ne_eq, not_false_eq_true, implies_true, ite_true, ite_false, Bool.false_eq_true, decide_true, decide_false, Bool.not_true, Bool.not_false, List.length_cons, List.length_nil, List.cons_append, List.nil_append, reduceIte, start0, List.map_cons, List.map_nil, List.any_cons, List.any_nil, tyD, Bool.or_true, Bool.or_false, Bool.true_or, Bool.false_or, Nat.reduceAdd, Nat.reduceSub, List.drop_succ_cons, List.drop_nil, List.drop_zero, List.replicate_succ, List.replicate_zero, List.append_nil, Option.map_none, Option.map_some, isNon, isStr, Option.isSome_some, Option.isSome_none, forall_const, false_or, or_false, or_true, true_or, not_true_eq_false, and_self, and_true, true_and, z, h2.h12, i, o, x_for, rg, res_p h, l]
  · have e : m.toNat = m.natAbs := by omega
    obtain ⟨i', l⟩ := rpow_loop hw h n p a hp (some (rs p a)) (some (.int m)) ((List.range m.natAbs).map (fun (k : Nat) => D.int k)) none
    simp only [List.length_map, List.length_range] at l
    have rg := rng_one m (by omega)
    rw [e] at rg
    simp only [f_Residue_power, c_Residue_power, rd0, rn0, st0, rd1, rn1, st1, rd2, rn2, st2, rd3, rn3, st3, rd4, rn4, st4, rd5, rn5, st5, rd6, rn6, st6, rd7, rn7, st7, rd8, rn8, st8, rd9, rn9, st9, rd10, rn10, st10, rd11, rn11, st11, rd12, rn12, st12, rd13, rn13, st13, rd14, rn14, st14, rd15, rn15, st15, rd16, rn16, st16, rd17, rn17, st17, rd18, rn18, st18, rd19, rn19, st19, rd20, rn20, st20, rd21, rn21, st21, rd22, rn22, st22, rd23, rn23, st23, rd24, rn24, st24, rd25, rn25, st25, e_int, e_str, e_bl, e_non, e_var, v_int, v_str, v_bl, v_non, v_tup, v_ins, v_scr, v_lst, v_lstF, e_tup, e_lst, e_neg, e_bin, e_not, e_ands, e_ors, e_cmp, e_chn, e_ite, e_idxv, e_idx, e_slc, e_rev, e_cal, e_new, e_mth, e_app, e_att, e_len, e_blt1, e_lenE, e_blt2, e_smt, e_pop, e_pop0, e_isi, a_one, a_more, o_one, o_more, k_nil, k_cons, l_nil, l_io, l_cons, io_lst, i_nil, i_io, i_cons, out_ok, out_ok1, out_exn, mthR_ins, new_exn, hasM_ins, x_skip, x_seq, x_exp, x_asg, x_sat, sat_obj, x_apd, isLst_lst, x_ite, x_whl, x_for, t_rng, t_it, rng_some, x_ret, r_nil, r_var, r_e, ret_int, ret_str, ret_bl, ret_non, ret_tup, ret_ins, ret_lst, ret_lstF, x_rai, x_try, x_brk, x_cnt, h_ret, h_inc, h_nil, inc_int, conD_bl, conD_int, conD_str, conD_non, lift_ok, b_int, b_add, b_sub, b_mul, b_fdiv, b_mod, cr_ok, cr_exn, i_add, i_sub, n_int, n_ins, not_bl, eqO_ok, neO_ok, c_eq_ins, c_eq_int, c_eq_str, c_eq_bl, c_ne_ins, c_ne_int, c_ne_str, c_ne_bl, c_lt, c_le, c_gt, c_ge, c_is_bl, c_isn_bl, c_is_non, c_isn_non, c_in, c_notin, fz_int, fz_str, fz_bl, fz_scr, fz_nil, fz_tup, fz_ins, fz_lst, fz_lstF, zs_nil, zs_cons, len_lst, len_tup, len_scr, s_ins, s_str, strO_ok, strO_exn, s_abs, items_lst, items_tup, isi_int, isi_bl, isi_str, isi_non, isi_tup, isi_lst, isi_ins, fin_ret, fin_nxt, fin_exn, fin_ret0, fin_nxt0, wN_nxt, wN_cnt, put_nam, wT_ok, callR_eq, eq_self, beq_self_eq_true, Res.bind, Res.bindS, Rs.bind, tst, Rs.lift, reduceCtorEq, ne_eq, not_false_eq_true, implies_true, ite_true, ite_false, Bool.false_eq_true, decide_true, decide_false, Bool.not_true, Bool.not_false, List.length_cons, List.length_nil, List.cons_append, List.nil_append, reduceIte, start0, List.map_cons, List.map_nil, List.any_cons, List.any_nil, tyD, Bool.or_true, Bool.or_false, Bool.true_or, Bool.false_or, Nat.reduceAdd, Nat.reduceSub, List.drop_succ_cons, List.drop_nil, List.drop_zero, List.replicate_succ, List.replicate_zero, List.append_nil, Option.map_none, Option.map_some, isNon, isStr, Option.isSome_some, Option.isSome_none, forall_const, false_or, or_false, or_true, true_or, not_true_eq_false, and_self, and_true, true_and, z, o, x_for, rg, res_p h, l]
theorem res_pow0 (n : Nat) (p m : Int) (hm : m < 0) : callN N P (n + 2) (mfid 4 14) [rs p 0, .int m] = .exn xZero := by
  rw [callE h3.pow 2 rfl rfl]
  have i := res_inv0 hw h h2 n p
  simp only [f_Residue_power, c_Residue_power, rd0, rn0, st0, rd1, rn1, st1, rd2, rn2, st2, rd3, rn3, st3, rd4, rn4, st4, rd5, rn5, st5, rd6, rn6, st6, rd7, rn7, st7, rd8, rn8, st8, rd9, rn9, st9, rd10, rn10, st10, rd11, rn11, st11, rd12, rn12, st12, rd13, rn13, st13, rd14, rn14, st14, rd15, rn15, st15, rd16, rn16, st16, rd17, rn17, st17, rd18, rn18, st18, rd19, rn19, st19, rd20, rn20, st20, rd21, rn21, st21, rd22, rn22, st22, rd23, rn23, st23, rd24, rn24, st24, rd25, rn25, st25, e_int, e_str, e_bl, e_non, e_var, v_int, v_str, v_bl, v_non, v_tup, v_ins, v_scr, v_lst, v_lstF, e_tup, e_lst, e_neg, e_bin, e_not, e_ands, e_ors, e_cmp, e_chn, e_ite, e_idxv, e_idx, e_slc, e_rev, e_cal, e_new, e_mth, e_app, e_att, e_len, e_blt1, e_lenE, e_blt2, e_smt, e_pop, e_pop0, e_isi, a_one, a_more, o_one, o_more, k_nil, k_cons, l_nil, l_io, l_cons, io_lst, i_nil, i_io, i_cons, out_ok, out_ok1, out_exn, mthR_ins, new_exn, hasM_ins, x_skip, x_seq, x_exp, x_asg, x_sat, sat_obj, x_apd, isLst_lst, x_ite, x_whl, x_for, t_rng, t_it, rng_some, x_ret, r_nil, r_var, r_e, ret_int, ret_str, ret_bl, ret_non, ret_tup, ret_ins, ret_lst, ret_lstF, x_rai, x_try, x_brk, x_cnt, h_ret, h_inc, h_nil, inc_int, conD_bl, conD_int, conD_str, conD_non, lift_ok, b_int, b_add, b_sub, b_mul, b_fdiv, b_mod, cr_ok, cr_exn, i_add, i_sub, n_int, n_ins, not_bl, eqO_ok, neO_ok, c_eq_ins, c_eq_int, c_eq_str, c_eq_bl, c_ne_ins, c_ne_int, c_ne_str, c_ne_bl, c_lt, c_le, c_gt, c_ge, c_is_bl, c_isn_bl, c_is_non, c_isn_non, c_in, c_notin, fz_int, fz_str, fz_bl, fz_scr, fz_nil, fz_tup, fz_ins, fz_lst, fz_lstF, zs_nil, zs_cons, len_lst, len_tup, len_scr, s_ins, s_str, strO_ok, strO_exn, s_abs, items_lst, items_tup, isi_int, isi_bl, isi_str, isi_non, isi_tup, isi_lst, isi_ins, fin_ret, fin_nxt, fin_exn, fin_ret0, fin_nxt0, wN_nxt, wN_cnt, put_nam, wT_ok, callR_eq, eq_self, beq_self_eq_true, Res.bind, Res.bindS, Rs.bind, tst, Rs.lift, reduceCtorEq, ne_eq, not_false_eq_true, implies_true, ite_true, ite_false, Bool.false_eq_true, decide_true, decide_false, Bool.not_true, Bool.not_false, List.length_cons, List.length_nil, List.cons_append, List.nil_append, reduceIte, start0, List.map_cons, List.map_nil, List.any_cons, List.any_nil, tyD, Bool.or_true, Bool.or_false, Bool.true_or, Bool.false_or, Nat.reduceAdd, Nat.reduceSub, List.drop_succ_cons, List.drop_nil, List.drop_zero, List.replicate_succ, List.replicate_zero, List.append_nil, Option.map_none, Option.map_some, isNon, isStr, Option.isSome_some, Option.isSome_none, forall_const, false_or, or_false, or_true, true_or, not_true_eq_false, and_self, and_true, true_and, hm, h2.h12, i]
end
end Z

namespace Z
open PySem PySem.Spec PyProof.Rows L2
def top (i : Nat) : Stmt := PySem.Challenge.pw_similarforms_k01_residues.main.body.getD i (.Pass ⟨0, 0, 0, 0⟩)
def bodyOf : Stmt → List Stmt
  | .ClassDef (body := b) .. => b
  | _ => []
def mtd (i j : Nat) : Stmt := (bodyOf (top i)).getD j (.Pass ⟨0, 0, 0, 0⟩)
def x_written_integer : Dx := ⟨f_written_integer, ⟨("written_integer", none), "written_integer", "written_integer", defArgs (top 7), defBody (top 7), defScope (top 7), [], []⟩, ["n"], ["n", "pieces"]⟩
def x_is_integer : Dx := ⟨f_is_integer, ⟨("is_integer", none), "is_integer", "is_integer", defArgs (top 8), defBody (top 8), defScope (top 8), [], []⟩, ["value"], ["value"]⟩
def x_is_small_prime : Dx := ⟨f_is_small_prime, ⟨("is_small_prime", none), "is_small_prime", "is_small_prime", defArgs (top 12), defBody (top 12), defScope (top 12), [], []⟩, ["value"], ["value"]⟩
def x_law_numbers : Dx := ⟨f_law_numbers, ⟨("_law_numbers", none), "_law_numbers", "_law_numbers", defArgs (top 15), defBody (top 15), defScope (top 15), [], []⟩, ["_law_script"], ["_law_script", "_law_found", "_law_k", "_law_cell", "_law_turn", "_law_i", "_law_mixed_here"]⟩
def x_law_next : Dx := ⟨f_law_next, ⟨("_law_next", none), "_law_next", "_law_next", defArgs (top 16), defBody (top 16), defScope (top 16), [], []⟩, ["_law_numbers_here", "_law_many"], ["_law_numbers_here", "_law_many"]⟩
def c_law_refuses : CS :=
 .seq (.try (.seq (.exp (.new 4 (.cons (.var 0) (.cons (.var 1) (.nil)))))
  (.seq (.ret (.con (.bool false)))
  (.skip)))
 (.hret [2] ((.bool true)) (.hnil)))
  (.skip)
def f_law_refuses : Fd := ⟨2, 2, [], [], c_law_refuses⟩

def x_law_refuses : Dx := ⟨f_law_refuses, ⟨("_law_refuses", none), "_law_refuses", "_law_refuses", defArgs (top 17), defBody (top 17), defScope (top 17), [], []⟩, ["_law_p", "_law_n"], ["_law_p", "_law_n"]⟩
def c_law_divides : CS :=
 .seq (.asg 2 (.con (.int 0)))
  (.seq (.try (.seq (.exp (.mth 12 (.var 0) (.nil)))
  (.skip))
 (.hinc [1] 2 1 (.hnil)))
  (.seq (.try (.seq (.exp (.mth 13 (.var 0) (.cons (.var 0) (.nil))))
  (.skip))
 (.hinc [1] 2 1 (.hnil)))
  (.seq (.try (.seq (.exp (.mth 14 (.var 0) (.cons (.bin .Sub (.neg (.con (.int 1))) (.var 1)) (.nil))))
  (.skip))
 (.hinc [1] 2 1 (.hnil)))
  (.seq (.ret (.cmp .Eq (.var 2) (.con (.int 3))))
  (.skip)))))
def f_law_divides : Fd := ⟨2, 3, [], [], c_law_divides⟩

def x_law_divides : Dx := ⟨f_law_divides, ⟨("_law_divides", none), "_law_divides", "_law_divides", defArgs (top 18), defBody (top 18), defScope (top 18), [], []⟩, ["_law_x", "_law_k"], ["_law_x", "_law_k", "_law_told"]⟩
def c_law_mixed : CS :=
 .seq (.asg 2 (.con (.int 0)))
  (.seq (.try (.seq (.exp (.bin .Add (.var 0) (.var 1)))
  (.skip))
 (.hinc [2] 2 1 (.hnil)))
  (.seq (.try (.seq (.exp (.bin .Sub (.var 0) (.var 1)))
  (.skip))
 (.hinc [2] 2 1 (.hnil)))
  (.seq (.try (.seq (.exp (.bin .Mult (.var 0) (.var 1)))
  (.skip))
 (.hinc [2] 2 1 (.hnil)))
  (.seq (.ret (.cmp .Eq (.var 2) (.con (.int 3))))
  (.skip)))))
def f_law_mixed : Fd := ⟨2, 3, [], [], c_law_mixed⟩

def x_law_mixed : Dx := ⟨f_law_mixed, ⟨("_law_mixed", none), "_law_mixed", "_law_mixed", defArgs (top 19), defBody (top 19), defScope (top 19), [], []⟩, ["_law_x", "_law_other"], ["_law_x", "_law_other", "_law_told"]⟩
def b1_law : CS :=
 .seq (.ite (.not (.cal 503 (.cons (.var 12) (.cons (.var 4) (.nil)))))
 (.seq (.ret (.con (.bool false)))
  (.skip))
 (.skip))
  (.skip)
def b2_law : CS :=
 .seq (.asg 9 (.bin .Mod (.bin .Mult (.var 9) (.var 4)) (.var 3)))
  (.skip)
def c_law : CS :=
 .seq (.asg 1 (.cal 500 (.cons (.var 0) (.nil))))
  (.seq (.asg 2 (.lst (.cons (.con (.int 2)) (.cons (.con (.int 3)) (.cons (.con (.int 5)) (.cons (.con (.int 7)) (.cons (.con (.int 11)) (.cons (.con (.int 13)) (.cons (.con (.int 17)) (.cons (.con (.int 19)) (.cons (.con (.int 23)) (.cons (.con (.int 29)) (.cons (.con (.int 31)) (.nil))))))))))))))
  (.seq (.asg 3 (.idx (.var 2) (.cal 501 (.cons (.io 1) (.cons (.con (.int 11)) (.nil))))))
  (.seq (.asg 4 (.bin .Sub (.cal 501 (.cons (.io 1) (.cons (.con (.int 81)) (.nil)))) (.con (.int 40))))
  (.seq (.asg 5 (.bin .Sub (.cal 501 (.cons (.io 1) (.cons (.con (.int 81)) (.nil)))) (.con (.int 40))))
  (.seq (.asg 6 (.new 4 (.cons (.var 3) (.cons (.var 4) (.nil)))))
  (.seq (.asg 7 (.new 4 (.cons (.var 3) (.cons (.var 5) (.nil)))))
  (.seq (.ite (.ors (.cons (.cmp .NotEq (.att (.var 6) 0) (.bin .Mod (.var 4) (.var 3))) (.cons (.cmp .NotEq (.att (.var 6) 2) (.var 3)) (.cons (.cmp .NotEq (.blt .str (.cons (.var 6) (.nil))) (.blt .str (.cons (.bin .Mod (.var 4) (.var 3)) (.nil)))) (.cons (.cmp .NotEq (.mth 11 (.var 6) (.nil)) (.cmp .Eq (.bin .Mod (.var 4) (.var 3)) (.con (.int 0)))) (.nil))))))
 (.seq (.ret (.con (.bool false)))
  (.skip))
 (.skip))
  (.seq (.ite (.ors (.cons (.cmp .NotEq (.att (.bin .Add (.var 6) (.var 7)) 0) (.bin .Mod (.bin .Add (.var 4) (.var 5)) (.var 3))) (.cons (.cmp .NotEq (.att (.bin .Sub (.var 6) (.var 7)) 0) (.bin .Mod (.bin .Sub (.var 4) (.var 5)) (.var 3))) (.cons (.cmp .NotEq (.att (.bin .Mult (.var 6) (.var 7)) 0) (.bin .Mod (.bin .Mult (.var 4) (.var 5)) (.var 3))) (.cons (.cmp .NotEq (.att (.neg (.var 6)) 0) (.bin .Mod (.neg (.var 4)) (.var 3))) (.nil))))))
 (.seq (.ret (.con (.bool false)))
  (.skip))
 (.skip))
  (.seq (.ite (.ors (.cons (.cmp .NotEq (.cmp .Eq (.var 6) (.var 7)) (.cmp .Eq (.bin .Mod (.var 4) (.var 3)) (.bin .Mod (.var 5) (.var 3)))) (.cons (.cmp .IsNot (.cmp .Eq (.var 6) (.var 4)) (.con (.bool false))) (.cons (.cmp .IsNot (.cmp .Eq (.var 6) (.new 3 (.cons (.var 4) (.nil)))) (.con (.bool false))) (.nil)))))
 (.seq (.ret (.con (.bool false)))
  (.skip))
 (.skip))
  (.seq (.asg 8 (.cal 501 (.cons (.io 1) (.cons (.con (.int 5)) (.nil)))))
  (.seq (.asg 9 (.con (.int 1)))
  (.seq (.for (.nam 10) (.rng (.cons (.var 8) (.nil)))
 (b2_law))
  (.seq (.ite (.cmp .NotEq (.att (.mth 14 (.var 6) (.cons (.var 8) (.nil))) 0) (.bin .Mod (.var 9) (.var 3)))
 (.seq (.ret (.con (.bool false)))
  (.skip))
 (.skip))
  (.seq (.ite (.cmp .NotEq (.bin .Mod (.var 4) (.var 3)) (.con (.int 0)))
 (.seq (.ite (.ors (.cons (.cmp .NotEq (.bin .Mod (.bin .Mult (.att (.mth 12 (.var 6) (.nil)) 0) (.var 4)) (.var 3)) (.con (.int 1))) (.cons (.cmp .NotEq (.bin .Mult (.mth 13 (.var 7) (.cons (.var 6) (.nil))) (.var 6)) (.var 7)) (.cons (.cmp .NotEq (.bin .Mult (.mth 14 (.var 6) (.cons (.neg (.var 8)) (.nil))) (.mth 14 (.var 6) (.cons (.var 8) (.nil)))) (.new 4 (.cons (.var 3) (.cons (.con (.int 1)) (.nil))))) (.nil)))))
 (.seq (.ret (.con (.bool false)))
  (.skip))
 (.skip))
  (.skip))
 (.seq (.ite (.not (.cal 506 (.cons (.var 6) (.cons (.var 8) (.nil)))))
 (.seq (.ret (.con (.bool false)))
  (.skip))
 (.skip))
  (.skip)))
  (.seq (.asg 11 (.con (.int 2)))
  (.seq (.ite (.cmp .Eq (.var 3) (.con (.int 2)))
 (.seq (.asg 11 (.con (.int 3)))
  (.skip))
 (.skip))
  (.seq (.ite (.ors (.cons (.not (.cal 504 (.cons (.var 6) (.cons (.new 4 (.cons (.var 11) (.cons (.con (.int 1)) (.nil)))) (.nil))))) (.cons (.not (.cal 504 (.cons (.var 6) (.cons (.new 3 (.cons (.con (.int 1)) (.nil))) (.nil))))) (.nil))))
 (.seq (.ret (.con (.bool false)))
  (.skip))
 (.skip))
  (.seq (.for (.nam 12) (.lst (.cons (.con (.int 0)) (.cons (.con (.int 1)) (.cons (.con (.int 4)) (.cons (.con (.int 33)) (.cons (.con (.int 37)) (.cons (.neg (.con (.int 2))) (.cons (.con .none) (.cons (.con (.str "2")) (.cons (.con (.bool true)) (.nil)))))))))))
 (b1_law))
  (.seq (.ret (.ands (.cons (.cal 503 (.cons (.var 3) (.cons (.con .none) (.nil)))) (.cons (.cal 503 (.cons (.var 3) (.cons (.con (.bool true)) (.nil)))) (.cons (.cal 503 (.cons (.var 3) (.cons (.con (.str "1")) (.nil)))) (.nil))))))
  (.skip))))))))))))))))))))
def f_law : Fd := ⟨1, 13, [], [], c_law⟩

def x_law : Dx := ⟨f_law, ⟨("law", none), "law", "law", defArgs (top 20), defBody (top 20), defScope (top 20), [], []⟩, ["_law_script"], ["_law_script", "_law_numbers_here", "_law_primes", "_law_p", "_law_a", "_law_b", "_law_x", "_law_y", "_law_k", "_law_total", "_law_turn", "_law_q", "_law_value"]⟩
def x_Ratio_init : Dx := ⟨f_Ratio_init, ⟨("Ratio", some "__init__"), "__init__", "Ratio.__init__", defArgs (mtd 9 0), defBody (mtd 9 0), defScope (mtd 9 0), [.int 1], []⟩, ["self", "n", "d"], ["self", "n", "d", "shared"]⟩
def x_Ratio_eq : Dx := ⟨f_Ratio_eq, ⟨("Ratio", some "__eq__"), "__eq__", "Ratio.__eq__", defArgs (mtd 9 1), defBody (mtd 9 1), defScope (mtd 9 1), [], []⟩, ["self", "other"], ["self", "other"]⟩
def x_Ratio_add : Dx := ⟨f_Ratio_add, ⟨("Ratio", some "__add__"), "__add__", "Ratio.__add__", defArgs (mtd 9 2), defBody (mtd 9 2), defScope (mtd 9 2), [], []⟩, ["self", "other"], ["self", "other"]⟩
def x_Ratio_sub : Dx := ⟨f_Ratio_sub, ⟨("Ratio", some "__sub__"), "__sub__", "Ratio.__sub__", defArgs (mtd 9 3), defBody (mtd 9 3), defScope (mtd 9 3), [], []⟩, ["self", "other"], ["self", "other"]⟩
def x_Ratio_mul : Dx := ⟨f_Ratio_mul, ⟨("Ratio", some "__mul__"), "__mul__", "Ratio.__mul__", defArgs (mtd 9 4), defBody (mtd 9 4), defScope (mtd 9 4), [], []⟩, ["self", "other"], ["self", "other"]⟩
def x_Ratio_neg : Dx := ⟨f_Ratio_neg, ⟨("Ratio", some "__neg__"), "__neg__", "Ratio.__neg__", defArgs (mtd 9 5), defBody (mtd 9 5), defScope (mtd 9 5), [], []⟩, ["self"], ["self"]⟩
def x_Ratio_str : Dx := ⟨f_Ratio_str, ⟨("Ratio", some "__str__"), "__str__", "Ratio.__str__", defArgs (mtd 9 6), defBody (mtd 9 6), defScope (mtd 9 6), [], []⟩, ["self"], ["self"]⟩
def x_Ratio_is_zero : Dx := ⟨f_Ratio_is_zero, ⟨("Ratio", some "is_zero"), "is_zero", "Ratio.is_zero", defArgs (mtd 9 7), defBody (mtd 9 7), defScope (mtd 9 7), [], []⟩, ["self"], ["self"]⟩
def x_Ratio_inverse : Dx := ⟨f_Ratio_inverse, ⟨("Ratio", some "inverse"), "inverse", "Ratio.inverse", defArgs (mtd 9 8), defBody (mtd 9 8), defScope (mtd 9 8), [], []⟩, ["self"], ["self"]⟩
def x_Ratio_over : Dx := ⟨f_Ratio_over, ⟨("Ratio", some "over"), "over", "Ratio.over", defArgs (mtd 9 9), defBody (mtd 9 9), defScope (mtd 9 9), [], []⟩, ["self", "other"], ["self", "other"]⟩
def x_Ratio_power : Dx := ⟨f_Ratio_power, ⟨("Ratio", some "power"), "power", "Ratio.power", defArgs (mtd 9 10), defBody (mtd 9 10), defScope (mtd 9 10), [], []⟩, ["self", "k"], ["self", "k", "base", "total", "_"]⟩
def x_Residue_init : Dx := ⟨f_Residue_init, ⟨("Residue", some "__init__"), "__init__", "Residue.__init__", defArgs (mtd 13 0), defBody (mtd 13 0), defScope (mtd 13 0), [], []⟩, ["self", "p", "n"], ["self", "p", "n"]⟩
def x_Residue_eq : Dx := ⟨f_Residue_eq, ⟨("Residue", some "__eq__"), "__eq__", "Residue.__eq__", defArgs (mtd 13 1), defBody (mtd 13 1), defScope (mtd 13 1), [], []⟩, ["self", "other"], ["self", "other"]⟩
def x_Residue_add : Dx := ⟨f_Residue_add, ⟨("Residue", some "__add__"), "__add__", "Residue.__add__", defArgs (mtd 13 2), defBody (mtd 13 2), defScope (mtd 13 2), [], []⟩, ["self", "other"], ["self", "other"]⟩
def x_Residue_sub : Dx := ⟨f_Residue_sub, ⟨("Residue", some "__sub__"), "__sub__", "Residue.__sub__", defArgs (mtd 13 3), defBody (mtd 13 3), defScope (mtd 13 3), [], []⟩, ["self", "other"], ["self", "other"]⟩
def x_Residue_mul : Dx := ⟨f_Residue_mul, ⟨("Residue", some "__mul__"), "__mul__", "Residue.__mul__", defArgs (mtd 13 4), defBody (mtd 13 4), defScope (mtd 13 4), [], []⟩, ["self", "other"], ["self", "other"]⟩
def x_Residue_neg : Dx := ⟨f_Residue_neg, ⟨("Residue", some "__neg__"), "__neg__", "Residue.__neg__", defArgs (mtd 13 5), defBody (mtd 13 5), defScope (mtd 13 5), [], []⟩, ["self"], ["self"]⟩
def x_Residue_str : Dx := ⟨f_Residue_str, ⟨("Residue", some "__str__"), "__str__", "Residue.__str__", defArgs (mtd 13 6), defBody (mtd 13 6), defScope (mtd 13 6), [], []⟩, ["self"], ["self"]⟩
def x_Residue_is_zero : Dx := ⟨f_Residue_is_zero, ⟨("Residue", some "is_zero"), "is_zero", "Residue.is_zero", defArgs (mtd 13 7), defBody (mtd 13 7), defScope (mtd 13 7), [], []⟩, ["self"], ["self"]⟩
def x_Residue_inverse : Dx := ⟨f_Residue_inverse, ⟨("Residue", some "inverse"), "inverse", "Residue.inverse", defArgs (mtd 13 8), defBody (mtd 13 8), defScope (mtd 13 8), [], []⟩, ["self"], ["self", "total", "_"]⟩
def x_Residue_over : Dx := ⟨f_Residue_over, ⟨("Residue", some "over"), "over", "Residue.over", defArgs (mtd 13 9), defBody (mtd 13 9), defScope (mtd 13 9), [], []⟩, ["self", "other"], ["self", "other"]⟩
def x_Residue_power : Dx := ⟨f_Residue_power, ⟨("Residue", some "power"), "power", "Residue.power", defArgs (mtd 13 10), defBody (mtd 13 10), defScope (mtd 13 10), [], []⟩, ["self", "k"], ["self", "k", "base", "total", "_"]⟩
def nFn : Nat → Str := fun i => match i with
  | 0 => "written_integer"
  | 1 => "is_integer"
  | 2 => "is_small_prime"
  | 500 => "_law_numbers"
  | 501 => "_law_next"
  | 503 => "_law_refuses"
  | 506 => "_law_divides"
  | 504 => "_law_mixed"
  | 998 => "law"
  | _ => ""
def nCl : Nat → Str := fun i => match i with
  | 0 => "Fault"
  | 1 => "ZeroDivisor"
  | 2 => "Malformed"
  | 3 => "Ratio"
  | 4 => "Residue"
  | _ => ""
def nFl : Nat → Str := fun i => match i with
  | 1 => "d"
  | 0 => "n"
  | 2 => "p"
  | _ => ""
def nMt : Nat → Str := fun i => match i with
  | 2 => "__add__"
  | 8 => "__call__"
  | 1 => "__eq__"
  | 6 => "__floordiv__"
  | 0 => "__init__"
  | 10 => "__len__"
  | 7 => "__mod__"
  | 4 => "__mul__"
  | 5 => "__neg__"
  | 9 => "__str__"
  | 3 => "__sub__"
  | 12 => "inverse"
  | 11 => "is_zero"
  | 13 => "over"
  | 14 => "power"
  | _ => ""
def nGl : Nat → Str := fun i => match i with
  | 0 => "PIECE"
  | 1 => "PRIMES"
  | _ => ""
def nFs : Nat → List Nat := fun i => match i with
  | 3 => [0, 1]
  | 4 => [2, 0]
  | _ => []
def nSub : Nat → Nat → Bool := fun a b => [(0, 0), (1, 0), (1, 1), (2, 0), (2, 2)].contains (a, b)
def nXf : Nat → Option Nat := fun _ => none
def tx : Tx := ⟨⟨nFn, nCl, nFl, nMt, nGl⟩, ⟨nFs, nSub, fun _ => none, nXf, fun _ _ => false⟩,
  [(0, x_written_integer), (1, x_is_integer), (2, x_is_small_prime), (500, x_law_numbers), (501, x_law_next), (503, x_law_refuses), (506, x_law_divides), (504, x_law_mixed), (998, x_law), (4000, x_Ratio_init), (4001, x_Ratio_eq), (4002, x_Ratio_add), (4003, x_Ratio_sub), (4004, x_Ratio_mul), (4005, x_Ratio_neg), (4009, x_Ratio_str), (4011, x_Ratio_is_zero), (4012, x_Ratio_inverse), (4013, x_Ratio_over), (4014, x_Ratio_power), (5000, x_Residue_init), (5001, x_Residue_eq), (5002, x_Residue_add), (5003, x_Residue_sub), (5004, x_Residue_mul), (5005, x_Residue_neg), (5009, x_Residue_str), (5011, x_Residue_is_zero), (5012, x_Residue_inverse), (5013, x_Residue_over), (5014, x_Residue_power)],
  [3, 4], [0, 1, 2], [.str, .min, .abs, .len, .gcd],
  [(0, .int 50), (1, .tup [.int 2, .int 3, .int 5, .int 7, .int 11, .int 13, .int 17, .int 19, .int 23, .int 29, .int 31])]⟩
abbrev R : PySem.W.OpenRow := PySem.W.OpenLaw.row PySem.Challenge.rw_similarforms_k01_residues
abbrev hk : PySem.W.Hook := hookZ 5 tx
def ob (s : PySem.W.SharedT) : He.AlD × Bool := obK 5 tx (HandSHeadRun.getT s)
theorem ob_eq (s : PySem.W.SharedT) : ob s = hk.obs s.abs := obK_eq (HandSHeadRun.getT_eq s)
theorem tx_ok : txB tx = true := by kernel_rfl
abbrev loose : List Str := ["__name__", "Fault", "ZeroDivisor", "Malformed", "PIECE", "written_integer", "is_integer", "Ratio", "PRIMES", "is_small_prime", "Residue", "_law_numbers", "_law_next", "_law_refuses", "_law_divides", "_law_mixed"]
theorem run (w : World) : HandSHeadRun.RunEqI R (PySem.W.view R.prog [0, 20]) hk ob 6000 loose w := by
  unfold HandSHeadRun.RunEqI
  kernel_rfl
theorem fin (spec : ∀ ns : List Int, ns.length ≤ 63 → callN tx.M tx.P 21 998 [.scr ns] = .ok (.bl true) []) : PySem.Challenge.rw_similarforms_k01_residues.Holds := by
  w_on; o_law
  refine HandSHeadRun.head_imp (r := R) (q := PySem.W.view R.prog [0, 20]) (H := hk) (ob := ob) (M := 6000) (loose := loose) (d := HandSHeadRun.topDef R.prog 20) (kwd := []) ob_eq run
    (by kernel_rfl) (by kernel_rfl) (by kernel_rfl) (by rfl) (by first | assumption | decide +kernel) (by decide +kernel) ⟨rfl, rfl, rfl, rfl, rfl, by decide +kernel⟩ ?hw ?hc
  case hw => w_witness2
  case hc =>
    exact walkZ (l := PySem.Challenge.rw_similarforms_k01_residues) (t := tx) (m := 5) (n := 63) (N := 21) (p := "_law_script") (fd0 := f_law) rfl (by decide) (by kernel_rfl) ⟨rfl, by decide, by decide⟩ rfl rfl rfl rfl rfl (by kernel_rfl) tx_ok spec
end Z

namespace Z
open PySem L2
abbrev M := tx.M
abbrev P := tx.P
theorem hR : HR M P := ⟨rfl, rfl, rfl, rfl, rfl, rfl, rfl, rfl, rfl⟩
theorem hW : HW M P := ⟨rfl, rfl⟩
theorem hL : HL M P := ⟨rfl, rfl⟩
theorem hS : HS M P := ⟨rfl, rfl, rfl, rfl, rfl, rfl, rfl, rfl, rfl, rfl, rfl⟩
theorem hS2 : HS2 M P := ⟨rfl, rfl, rfl, rfl, rfl, rfl, rfl⟩
theorem hSP : HSP M P := ⟨rfl, rfl⟩
theorem p_ref : P 503 = some f_law_refuses := rfl
theorem p_mix : P 504 = some f_law_mixed := rfl
theorem p_div : P 506 = some f_law_divides := rfl
theorem p_law : P 998 = some f_law := rfl
theorem sub11 : M.sub 1 1 = true := rfl
theorem sub22 : M.sub 2 2 = true := rfl
theorem res_eqC (n : Nat) (p a : Int) (c : Nat) (l : List D) (hc : c ≠ 4) : callN M P (n + 1) (mfid 4 mEq) [rs p a, .ins c l] = .ok (.bl false) [] := by
  rw [callE hS.eq 2 rfl rfl]
  have e : decide (c = 4) = false := decide_eq_false hc
  simp only [f_Residue_eq, c_Residue_eq, rd0, rn0, st0, rd1, rn1, st1, rd2, rn2, st2, rd3, rn3, st3, rd4, rn4, st4, rd5, rn5, st5, rd6, rn6, st6, rd7, rn7, st7, rd8, rn8, st8, rd9, rn9, st9, rd10, rn10, st10, rd11, rn11, st11, rd12, rn12, st12, rd13, rn13, st13, rd14, rn14, st14, rd15, rn15, st15, rd16, rn16, st16, rd17, rn17, st17, rd18, rn18, st18, rd19, rn19, st19, rd20, rn20, st20, rd21, rn21, st21, rd22, rn22, st22, rd23, rn23, st23, rd24, rn24, st24, rd25, rn25, st25, e_int, e_str, e_bl, e_non, e_var, v_int, v_str, v_bl, v_non, v_tup, v_ins, v_scr, v_lst, v_lstF, e_tup, e_lst, e_neg, e_bin, e_not, e_ands, e_ors, e_cmp, e_chn, e_ite, e_idxv, e_idx, e_slc, e_rev, e_cal, e_new, e_mth, e_app, e_att, e_len, e_blt1, e_lenE, e_blt2, e_smt, e_pop, e_pop0, e_isi, a_one, a_more, o_one, o_more, k_nil, k_cons, l_nil, l_io, l_cons, io_lst, i_nil, i_io, i_cons, out_ok, out_ok1, out_exn, mthR_ins, new_exn, hasM_ins, x_skip, x_seq, x_exp, x_asg, x_sat, sat_obj, x_apd, isLst_lst, x_ite, x_whl, x_for, t_rng, t_it, rng_some, x_ret, r_nil, r_var, r_e, ret_int, ret_str, ret_bl, ret_non, ret_tup, ret_ins, ret_lst, ret_lstF, x_rai, x_try, x_brk, x_cnt, h_ret, h_inc, h_nil, inc_int, conD_bl, conD_int, conD_str, conD_non, lift_ok, b_int, b_add, b_sub, b_mul, b_fdiv, b_mod, cr_ok, cr_exn, i_add, i_sub, n_int, n_ins, not_bl, eqO_ok, neO_ok, c_eq_ins, c_eq_int, c_eq_str, c_eq_bl, c_ne_ins, c_ne_int, c_ne_str, c_ne_bl, c_lt, c_le, c_gt, c_ge, c_is_bl, c_isn_bl, c_is_non, c_isn_non, c_in, c_notin, fz_int, fz_str, fz_bl, fz_scr, fz_nil, fz_tup, fz_ins, fz_lst, fz_lstF, zs_nil, zs_cons, len_lst, len_tup, len_scr, s_ins, s_str, strO_ok, strO_exn, s_abs, items_lst, items_tup, isi_int, isi_bl, isi_str, isi_non, isi_tup, isi_lst, isi_ins, fin_ret, fin_nxt, fin_exn, fin_ret0, fin_nxt0, wN_nxt, wN_cnt, put_nam, wT_ok, callR_eq, eq_self, beq_self_eq_true, Res.bind, Res.bindS, Rs.bind, tst, Rs.lift, reduceCtorEq, ne_eq, not_false_eq_true, implies_true, ite_true, ite_false, Bool.false_eq_true, decide_true, decide_false, Bool.not_true, Bool.not_false, List.length_cons, List.length_nil, List.cons_append, List.nil_append, reduceIte, start0, List.map_cons, List.map_nil, List.any_cons, List.any_nil, tyD, Bool.or_true, Bool.or_false, Bool.true_or, Bool.false_or, Nat.reduceAdd, Nat.reduceSub, List.drop_succ_cons, List.drop_nil, List.drop_zero, List.replicate_succ, List.replicate_zero, List.append_nil, Option.map_none, Option.map_some, isNon, isStr, Option.isSome_some, Option.isSome_none, forall_const, false_or, or_false, or_true, true_or, not_true_eq_false, and_self, and_true, true_and, e]
theorem issp_no (n : Nat) (d : D) (hd : d = .non ∨ (∃ s, d = .str s) ∨ ∃ b, d = .bl b) : callN M P (n + 2) 2 [d] = .ok (.bl false) [] := by
  rw [callE hS.issp 1 rfl rfl]
  rcases hd with rfl | ⟨s, rfl⟩ | ⟨b, rfl⟩
  · simp only [f_is_small_prime, c_is_small_prime, rd0, rn0, st0, rd1, rn1, st1, rd2, rn2, st2, rd3, rn3, st3, rd4, rn4, st4, rd5, rn5, st5, rd6, rn6, st6, rd7, rn7, st7, rd8, rn8, st8, rd9, rn9, st9, rd10, rn10, st10, rd11, rn11, st11, rd12, rn12, st12, rd13, rn13, st13, rd14, rn14, st14, rd15, rn15, st15, rd16, rn16, st16, rd17, rn17, st17, rd18, rn18, st18, rd19, rn19, st19, rd20, rn20, st20, rd21, rn21, st21, rd22, rn22, st22, rd23, rn23, st23, rd24, rn24, st24, rd25, rn25, st25, e_int, e_str, e_bl, e_non, e_var, v_int, v_str, v_bl, v_non, v_tup, v_ins, v_scr, v_lst, v_lstF, e_tup, e_lst, e_neg, e_bin, e_not, e_ands, e_ors, e_cmp, e_chn, e_ite, e_idxv, e_idx, e_slc, e_rev, e_cal, e_new, e_mth, e_app, e_att, e_len, e_blt1, e_lenE, e_blt2, e_smt, e_pop, e_pop0, e_isi, a_one, a_more, o_one, o_more, k_nil, k_cons, l_nil, l_io, l_cons, io_lst, i_nil, i_io, i_cons, out_ok, out_ok1, out_exn, mthR_ins, new_exn, hasM_ins, x_skip, x_seq, x_exp, x_asg, x_sat, sat_obj, x_apd, isLst_lst, x_ite, x_whl, x_for, t_rng, t_it, rng_some, x_ret, r_nil, r_var, r_e, ret_int, ret_str, ret_bl, ret_non, ret_tup, ret_ins, ret_lst, ret_lstF, x_rai, x_try, x_brk, x_cnt, h_ret, h_inc, h_nil, inc_int, conD_bl, conD_int, conD_str, conD_non, lift_ok, b_int, b_add, b_sub, b_mul, b_fdiv, b_mod, cr_ok, cr_exn, i_add, i_sub, n_int, n_ins, not_bl, eqO_ok, neO_ok, c_eq_ins, c_eq_int, c_eq_str, c_eq_bl, c_ne_ins, c_ne_int, c_ne_str, c_ne_bl, c_lt, c_le, c_gt, c_ge, c_is_bl, c_isn_bl, c_is_non, c_isn_non, c_in, c_notin, fz_int, fz_str, fz_bl, fz_scr, fz_nil, fz_tup, fz_ins, fz_lst, fz_lstF, zs_nil, zs_cons, len_lst, len_tup, len_scr, s_ins, s_str, strO_ok, strO_exn, s_abs, items_lst, items_tup, isi_int, isi_bl, isi_str, isi_non, isi_tup, isi_lst, isi_ins, fin_ret, fin_nxt, fin_exn, fin_ret0, fin_nxt0, wN_nxt, wN_cnt, put_nam, wT_ok, callR_eq, eq_self, beq_self_eq_true, Res.bind, Res.bindS, Rs.bind, tst, Rs.lift, reduceCtorEq, ne_eq, not_false_eq_true, implies_true, ite_true, ite_false, Bool.false_eq_true, decide_true, decide_false, Bool.not_true, Bool.not_false, List.length_cons, List.length_nil, List.cons_append, List.nil_append, reduceIte, start0, List.map_cons, List.map_nil, List.any_cons, List.any_nil, tyD, Bool.or_true, Bool.or_false, Bool.true_or, Bool.false_or, Nat.reduceAdd, Nat.reduceSub, List.drop_succ_cons, List.drop_nil, List.drop_zero, List.replicate_succ, List.replicate_zero, List.append_nil, Option.map_none, Option.map_some, isNon, isStr, Option.isSome_some, Option.isSome_none, forall_const, false_or, or_false, or_true, true_or, not_true_eq_false, and_self, and_true, true_and, isint_non hW]
  · simp only [f_is_small_prime, c_is_small_prime, rd0, rn0, st0, rd1, rn1, st1, rd2, rn2, st2, rd3, rn3, st3, rd4, rn4, st4, rd5, rn5, st5, rd6, rn6, st6, rd7, rn7, st7, rd8, rn8, st8, rd9, rn9, st9, rd10, rn10, st10, rd11, rn11, st11, rd12, rn12, st12, rd13, rn13, st13, rd14, rn14, st14, rd15, rn15, st15, rd16, rn16, st16, rd17, rn17, st17, rd18, rn18, st18, rd19, rn19, st19, rd20, rn20, st20, rd21, rn21, st21, rd22, rn22, st22, rd23, rn23, st23, rd24, rn24, st24, rd25, rn25, st25, e_int, e_str, e_bl, e_non, e_var, v_int, v_str, v_bl, v_non, v_tup, v_ins, v_scr, v_lst, v_lstF, e_tup, e_lst, e_neg, e_bin, e_not, e_ands, e_ors, e_cmp, e_chn, e_ite, e_idxv, e_idx, e_slc, e_rev, e_cal, e_new, e_mth, e_app, e_att, e_len, e_blt1, e_lenE, e_blt2, e_smt, e_pop, e_pop0, e_isi, a_one, a_more, o_one, o_more, k_nil, k_cons, l_nil, l_io, l_cons, io_lst, i_nil, i_io, i_cons, out_ok, out_ok1, out_exn, mthR_ins, new_exn, hasM_ins, x_skip, x_seq, x_exp, x_asg, x_sat, sat_obj, x_apd, isLst_lst, x_ite, x_whl, x_for, t_rng, t_it, rng_some, x_ret, r_nil, r_var, r_e, ret_int, ret_str, ret_bl, ret_non, ret_tup, ret_ins, ret_lst, ret_lstF, x_rai, x_try, x_brk, x_cnt, h_ret, h_inc, h_nil, inc_int, conD_bl, conD_int, conD_str, conD_non, lift_ok, b_int, b_add, b_sub, b_mul, b_fdiv, b_mod, cr_ok, cr_exn, i_add, i_sub, n_int, n_ins, not_bl, eqO_ok, neO_ok, c_eq_ins, c_eq_int, c_eq_str, c_eq_bl, c_ne_ins, c_ne_int, c_ne_str, c_ne_bl, c_lt, c_le, c_gt, c_ge, c_is_bl, c_isn_bl, c_is_non, c_isn_non, c_in, c_notin, fz_int, fz_str, fz_bl, fz_scr, fz_nil, fz_tup, fz_ins, fz_lst, fz_lstF, zs_nil, zs_cons, len_lst, len_tup, len_scr, s_ins, s_str, strO_ok, strO_exn, s_abs, items_lst, items_tup, isi_int, isi_bl, isi_str, isi_non, isi_tup, isi_lst, isi_ins, fin_ret, fin_nxt, fin_exn, fin_ret0, fin_nxt0, wN_nxt, wN_cnt, put_nam, wT_ok, callR_eq, eq_self, beq_self_eq_true, Res.bind, Res.bindS, Rs.bind, tst, Rs.lift, reduceCtorEq, ne_eq, not_false_eq_true, implies_true, ite_true, ite_false, Bool.false_eq_true, decide_true, decide_false, Bool.not_true, Bool.not_false, List.length_cons, List.length_nil, List.cons_append, List.nil_append, reduceIte, start0, List.map_cons, List.map_nil, List.any_cons, List.any_nil, tyD, Bool.or_true, Bool.or_false, Bool.true_or, Bool.false_or, Nat.reduceAdd, Nat.reduceSub, List.drop_succ_cons, List.drop_nil, List.drop_zero, List.replicate_succ, List.replicate_zero, List.append_nil, Option.map_none, Option.map_some, isNon, isStr, Option.isSome_some, Option.isSome_none, forall_const, false_or, or_false, or_true, true_or, not_true_eq_false, and_self, and_true, true_and, isint_str hW]
  · simp only [f_is_small_prime, c_is_small_prime, rd0, rn0, st0, rd1, rn1, st1, rd2, rn2, st2, rd3, rn3, st3, rd4, rn4, st4, rd5, rn5, st5, rd6, rn6, st6, rd7, rn7, st7, rd8, rn8, st8, rd9, rn9, st9, rd10, rn10, st10, rd11, rn11, st11, rd12, rn12, st12, rd13, rn13, st13, rd14, rn14, st14, rd15, rn15, st15, rd16, rn16, st16, rd17, rn17, st17, rd18, rn18, st18, rd19, rn19, st19, rd20, rn20, st20, rd21, rn21, st21, rd22, rn22, st22, rd23, rn23, st23, rd24, rn24, st24, rd25, rn25, st25, e_int, e_str, e_bl, e_non, e_var, v_int, v_str, v_bl, v_non, v_tup, v_ins, v_scr, v_lst, v_lstF, e_tup, e_lst, e_neg, e_bin, e_not, e_ands, e_ors, e_cmp, e_chn, e_ite, e_idxv, e_idx, e_slc, e_rev, e_cal, e_new, e_mth, e_app, e_att, e_len, e_blt1, e_lenE, e_blt2, e_smt, e_pop, e_pop0, e_isi, a_one, a_more, o_one, o_more, k_nil, k_cons, l_nil, l_io, l_cons, io_lst, i_nil, i_io, i_cons, out_ok, out_ok1, out_exn, mthR_ins, new_exn, hasM_ins, x_skip, x_seq, x_exp, x_asg, x_sat, sat_obj, x_apd, isLst_lst, x_ite, x_whl, x_for, t_rng, t_it, rng_some, x_ret, r_nil, r_var, r_e, ret_int, ret_str, ret_bl, ret_non, ret_tup, ret_ins, ret_lst, ret_lstF, x_rai, x_try, x_brk, x_cnt, h_ret, h_inc, h_nil, inc_int, conD_bl, conD_int, conD_str, conD_non, lift_ok, b_int, b_add, b_sub, b_mul, b_fdiv, b_mod, cr_ok, cr_exn, i_add, i_sub, n_int, n_ins, not_bl, eqO_ok, neO_ok, c_eq_ins, c_eq_int, c_eq_str, c_eq_bl, c_ne_ins, c_ne_int, c_ne_str, c_ne_bl, c_lt, c_le, c_gt, c_ge, c_is_bl, c_isn_bl, c_is_non, c_isn_non, c_in, c_notin, fz_int, fz_str, fz_bl, fz_scr, fz_nil, fz_tup, fz_ins, fz_lst, fz_lstF, zs_nil, zs_cons, len_lst, len_tup, len_scr, s_ins, s_str, strO_ok, strO_exn, s_abs, items_lst, items_tup, isi_int, isi_bl, isi_str, isi_non, isi_tup, isi_lst, isi_ins, fin_ret, fin_nxt, fin_exn, fin_ret0, fin_nxt0, wN_nxt, wN_cnt, put_nam, wT_ok, callR_eq, eq_self, beq_self_eq_true, Res.bind, Res.bindS, Rs.bind, tst, Rs.lift, reduceCtorEq, ne_eq, not_false_eq_true, implies_true, ite_true, ite_false, Bool.false_eq_true, decide_true, decide_false, Bool.not_true, Bool.not_false, List.length_cons, List.length_nil, List.cons_append, List.nil_append, reduceIte, start0, List.map_cons, List.map_nil, List.any_cons, List.any_nil, tyD, Bool.or_true, Bool.or_false, Bool.true_or, Bool.false_or, Nat.reduceAdd, Nat.reduceSub, List.drop_succ_cons, List.drop_nil, List.drop_zero, List.replicate_succ, List.replicate_zero, List.append_nil, Option.map_none, Option.map_some, isNon, isStr, Option.isSome_some, Option.isSome_none, forall_const, false_or, or_false, or_true, true_or, not_true_eq_false, and_self, and_true, true_and, isint_bl hW]
theorem res_nopr (n : Nat) (d : D) (hd : d = .non ∨ (∃ s, d = .str s) ∨ ∃ b, d = .bl b) (a : Int) : newR M (callN M P (n + 3)) 4 [d, .int a] = .exn xMal := by
  have i := issp_no n d hd
  rw [newR_eq, callE hS.init 3 rfl rfl]
  rcases hd with rfl | ⟨s, rfl⟩ | ⟨b, rfl⟩ <;> simp only [f_Residue_init, c_Residue_init, rd0, rn0, st0, rd1, rn1, st1, rd2, rn2, st2, rd3, rn3, st3, rd4, rn4, st4, rd5, rn5, st5, rd6, rn6, st6, rd7, rn7, st7, rd8, rn8, st8, rd9, rn9, st9, rd10, rn10, st10, rd11, rn11, st11, rd12, rn12, st12, rd13, rn13, st13, rd14, rn14, st14, rd15, rn15, st15, rd16, rn16, st16, rd17, rn17, st17, rd18, rn18, st18, rd19, rn19, st19, rd20, rn20, st20, rd21, rn21, st21, rd22, rn22, st22, rd23, rn23, st23, rd24, rn24, st24, rd25, rn25, st25, e_int, e_str, e_bl, e_non, e_var, v_int, v_str, v_bl, v_non, v_tup, v_ins, v_scr, v_lst, v_lstF, e_tup, e_lst, e_neg, e_bin, e_not, e_ands, e_ors, e_cmp, e_chn, e_ite, e_idxv, e_idx, e_slc, e_rev, e_cal, e_new, e_mth, e_app, e_att, e_len, e_blt1, e_lenE, e_blt2, e_smt, e_pop, e_pop0, e_isi, a_one, a_more, o_one, o_more, k_nil, k_cons, l_nil, l_io, l_cons, io_lst, i_nil, i_io, i_cons, out_ok, out_ok1, out_exn, mthR_ins, new_exn, hasM_ins, x_skip, x_seq, x_exp, x_asg, x_sat, sat_obj, x_apd, isLst_lst, x_ite, x_whl, x_for, t_rng, t_it, rng_some, x_ret, r_nil, r_var, r_e, ret_int, ret_str, ret_bl, ret_non, ret_tup, ret_ins, ret_lst, ret_lstF, x_rai, x_try, x_brk, x_cnt, h_ret, h_inc, h_nil, inc_int, conD_bl, conD_int, conD_str, conD_non, lift_ok, b_int, b_add, b_sub, b_mul, b_fdiv, b_mod, cr_ok, cr_exn, i_add, i_sub, n_int, n_ins, not_bl, eqO_ok, neO_ok, c_eq_ins, c_eq_int, c_eq_str, c_eq_bl, c_ne_ins, c_ne_int, c_ne_str, c_ne_bl, c_lt, c_le, c_gt, c_ge, c_is_bl, c_isn_bl, c_is_non, c_isn_non, c_in, c_notin, fz_int, fz_str, fz_bl, fz_scr, fz_nil, fz_tup, fz_ins, fz_lst, fz_lstF, zs_nil, zs_cons, len_lst, len_tup, len_scr, s_ins, s_str, strO_ok, strO_exn, s_abs, items_lst, items_tup, isi_int, isi_bl, isi_str, isi_non, isi_tup, isi_lst, isi_ins, fin_ret, fin_nxt, fin_exn, fin_ret0, fin_nxt0, wN_nxt, wN_cnt, put_nam, wT_ok, callR_eq, eq_self, beq_self_eq_true, Res.bind, Res.bindS, Rs.bind, tst, Rs.lift, reduceCtorEq, ne_eq, not_false_eq_true, implies_true, ite_true, ite_false, Bool.false_eq_true, decide_true, decide_false, Bool.not_true, Bool.not_false, List.length_cons, List.length_nil, List.cons_append, List.nil_append, reduceIte, start0, List.map_cons, List.map_nil, List.any_cons, List.any_nil, tyD, Bool.or_true, Bool.or_false, Bool.true_or, Bool.false_or, Nat.reduceAdd, Nat.reduceSub, List.drop_succ_cons, List.drop_nil, List.drop_zero, List.replicate_succ, List.replicate_zero, List.append_nil, Option.map_none, Option.map_some, isNon, isStr, Option.isSome_some, Option.isSome_none, forall_const, false_or, or_false, or_true, true_or, not_true_eq_false, and_self, and_true, true_and, i, hS.x2]
theorem res_noint (n : Nat) (p : Int) (hp : p ∈ prs) (d : D) (hd : d = .non ∨ (∃ s, d = .str s) ∨ ∃ b, d = .bl b) : newR M (callN M P (n + 3)) 4 [.int p, d] = .exn xMal := by
  rw [newR_eq, callE hS.init 3 rfl rfl]
  have i := issp_int hW hS n p
  rw [decide_eq_true hp] at i
  rcases hd with rfl | ⟨s, rfl⟩ | ⟨b, rfl⟩
  · simp only [f_Residue_init, c_Residue_init, rd0, rn0, st0, rd1, rn1, st1, rd2, rn2, st2, rd3, rn3, st3, rd4, rn4, st4, rd5, rn5, st5, rd6, rn6, st6, rd7, rn7, st7, rd8, rn8, st8, rd9, rn9, st9, rd10, rn10, st10, rd11, rn11, st11, rd12, rn12, st12, rd13, rn13, st13, rd14, rn14, st14, rd15, rn15, st15, rd16, rn16, st16, rd17, rn17, st17, rd18, rn18, st18, rd19, rn19, st19, rd20, rn20, st20, rd21, rn21, st21, rd22, rn22, st22, rd23, rn23, st23, rd24, rn24, st24, rd25, rn25, st25, e_int, e_str, e_bl, e_non, e_var, v_int, v_str, v_bl, v_non, v_tup, v_ins, v_scr, v_lst, v_lstF, e_tup, e_lst, e_neg, e_bin, e_not, e_ands, e_ors, e_cmp, e_chn, e_ite, e_idxv, e_idx, e_slc, e_rev, e_cal, e_new, e_mth, e_app, e_att, e_len, e_blt1, e_lenE, e_blt2, e_smt, e_pop, e_pop0, e_isi, a_one, a_more, o_one, o_more, k_nil, k_cons, l_nil, l_io, l_cons, io_lst, i_nil, i_io, i_cons, out_ok, out_ok1, out_exn, mthR_ins, new_exn, hasM_ins, x_skip, x_seq, x_exp, x_asg, x_sat, sat_obj, x_apd, isLst_lst, x_ite, x_whl, x_for, t_rng, t_it, rng_some, x_ret, r_nil, r_var, r_e, ret_int, ret_str, ret_bl, ret_non, ret_tup, ret_ins, ret_lst, ret_lstF, x_rai, x_try, x_brk, x_cnt, h_ret, h_inc, h_nil, inc_int, conD_bl, conD_int, conD_str, conD_non, lift_ok, b_int, b_add, b_sub, b_mul, b_fdiv, b_mod, cr_ok, cr_exn, i_add, i_sub, n_int, n_ins, not_bl, eqO_ok, neO_ok, c_eq_ins, c_eq_int, c_eq_str, c_eq_bl, c_ne_ins, c_ne_int, c_ne_str, c_ne_bl, c_lt, c_le, c_gt, c_ge, c_is_bl, c_isn_bl, c_is_non, c_isn_non, c_in, c_notin, fz_int, fz_str, fz_bl, fz_scr, fz_nil, fz_tup, fz_ins, fz_lst, fz_lstF, zs_nil, zs_cons, len_lst, len_tup, len_scr, s_ins, s_str, strO_ok, strO_exn, s_abs, items_lst, items_tup, isi_int, isi_bl, isi_str, isi_non, isi_tup, isi_lst, isi_ins, fin_ret, fin_nxt, fin_exn, fin_ret0, fin_nxt0, wN_nxt, wN_cnt, put_nam, wT_ok, callR_eq, eq_self, beq_self_eq_true, Res.bind, Res.bindS, Rs.bind, tst, Rs.lift, reduceCtorEq, ne_eq, not_false_eq_true, implies_true, ite_true, ite_false, Bool.false_eq_true, decide_true, decide_false, Bool.not_true, Bool.not_false, List.length_cons, List.length_nil, List.cons_append, List.nil_append, reduceIte, start0, List.map_cons, List.map_nil, List.any_cons, List.any_nil, tyD, Bool.or_true, Bool.or_false, Bool.true_or, Bool.false_or, Nat.reduceAdd, Nat.reduceSub, List.drop_succ_cons, List.drop_nil, List.drop_zero, List.replicate_succ, List.replicate_zero, List.append_nil, Option.map_none, Option.map_some, isNon, isStr, Option.isSome_some, Option.isSome_none, forall_const, false_or, or_false, or_true, true_or, not_true_eq_false, and_self, and_true, true_and, i, isint_non hW, hS.x2]
  · simp only [f_Residue_init, c_Residue_init, rd0, rn0, st0, rd1, rn1, st1, rd2, rn2, st2, rd3, rn3, st3, rd4, rn4, st4, rd5, rn5, st5, rd6, rn6, st6, rd7, rn7, st7, rd8, rn8, st8, rd9, rn9, st9, rd10, rn10, st10, rd11, rn11, st11, rd12, rn12, st12, rd13, rn13, st13, rd14, rn14, st14, rd15, rn15, st15, rd16, rn16, st16, rd17, rn17, st17, rd18, rn18, st18, rd19, rn19, st19, rd20, rn20, st20, rd21, rn21, st21, rd22, rn22, st22, rd23, rn23, st23, rd24, rn24, st24, rd25, rn25, st25, e_int, e_str, e_bl, e_non, e_var, v_int, v_str, v_bl, v_non, v_tup, v_ins, v_scr, v_lst, v_lstF, e_tup, e_lst, e_neg, e_bin, e_not, e_ands, e_ors, e_cmp, e_chn, e_ite, e_idxv, e_idx, e_slc, e_rev, e_cal, e_new, e_mth, e_app, e_att, e_len, e_blt1, e_lenE, e_blt2, e_smt, e_pop, e_pop0, e_isi, a_one, a_more, o_one, o_more, k_nil, k_cons, l_nil, l_io, l_cons, io_lst, i_nil, i_io, i_cons, out_ok, out_ok1, out_exn, mthR_ins, new_exn, hasM_ins, x_skip, x_seq, x_exp, x_asg, x_sat, sat_obj, x_apd, isLst_lst, x_ite, x_whl, x_for, t_rng, t_it, rng_some, x_ret, r_nil, r_var, r_e, ret_int, ret_str, ret_bl, ret_non, ret_tup, ret_ins, ret_lst, ret_lstF, x_rai, x_try, x_brk, x_cnt, h_ret, h_inc, h_nil, inc_int, conD_bl, conD_int, conD_str, conD_non, lift_ok, b_int, b_add, b_sub, b_mul, b_fdiv, b_mod, cr_ok, cr_exn, i_add, i_sub, n_int, n_ins, not_bl, eqO_ok, neO_ok, c_eq_ins, c_eq_int, c_eq_str, c_eq_bl, c_ne_ins, c_ne_int, c_ne_str, c_ne_bl, c_lt, c_le, c_gt, c_ge, c_is_bl, c_isn_bl, c_is_non, c_isn_non, c_in, c_notin, fz_int, fz_str, fz_bl, fz_scr, fz_nil, fz_tup, fz_ins, fz_lst, fz_lstF, zs_nil, zs_cons, len_lst, len_tup, len_scr, s_ins, s_str, strO_ok, strO_exn, s_abs, items_lst, items_tup, isi_int, isi_bl, isi_str, isi_non, isi_tup, isi_lst, isi_ins, fin_ret, fin_nxt, fin_exn, fin_ret0, fin_nxt0, wN_nxt, wN_cnt, put_nam, wT_ok, callR_eq, eq_self, beq_self_eq_true, Res.bind, Res.bindS, Rs.bind, tst, Rs.lift, reduceCtorEq, ne_eq, not_false_eq_true, implies_true, ite_true, ite_false, Bool.false_eq_true, decide_true, decide_false, Bool.not_true, Bool.not_false, List.length_cons, List.length_nil, List.cons_append, List.nil_append, reduceIte, start0, List.map_cons, List.map_nil, List.any_cons, List.any_nil, tyD, Bool.or_true, Bool.or_false, Bool.true_or, Bool.false_or, Nat.reduceAdd, Nat.reduceSub, List.drop_succ_cons, List.drop_nil, List.drop_zero, List.replicate_succ, List.replicate_zero, List.append_nil, Option.map_none, Option.map_some, isNon, isStr, Option.isSome_some, Option.isSome_none, forall_const, false_or, or_false, or_true, true_or, not_true_eq_false, and_self, and_true, true_and, i, isint_str hW, hS.x2]
  · simp only [f_Residue_init, c_Residue_init, rd0, rn0, st0, rd1, rn1, st1, rd2, rn2, st2, rd3, rn3, st3, rd4, rn4, st4, rd5, rn5, st5, rd6, rn6, st6, rd7, rn7, st7, rd8, rn8, st8, rd9, rn9, st9, rd10, rn10, st10, rd11, rn11, st11, rd12, rn12, st12, rd13, rn13, st13, rd14, rn14, st14, rd15, rn15, st15, rd16, rn16, st16, rd17, rn17, st17, rd18, rn18, st18, rd19, rn19, st19, rd20, rn20, st20, rd21, rn21, st21, rd22, rn22, st22, rd23, rn23, st23, rd24, rn24, st24, rd25, rn25, st25, e_int, e_str, e_bl, e_non, e_var, v_int, v_str, v_bl, v_non, v_tup, v_ins, v_scr, v_lst, v_lstF, e_tup, e_lst, e_neg, e_bin, e_not, e_ands, e_ors, e_cmp, e_chn, e_ite, e_idxv, e_idx, e_slc, e_rev, e_cal, e_new, e_mth, e_app, e_att, e_len, e_blt1, e_lenE, e_blt2, e_smt, e_pop, e_pop0, e_isi, a_one, a_more, o_one, o_more, k_nil, k_cons, l_nil, l_io, l_cons, io_lst, i_nil, i_io, i_cons, out_ok, out_ok1, out_exn, mthR_ins, new_exn, hasM_ins, x_skip, x_seq, x_exp, x_asg, x_sat, sat_obj, x_apd, isLst_lst, x_ite, x_whl, x_for, t_rng, t_it, rng_some, x_ret, r_nil, r_var, r_e, ret_int, ret_str, ret_bl, ret_non, ret_tup, ret_ins, ret_lst, ret_lstF, x_rai, x_try, x_brk, x_cnt, h_ret, h_inc, h_nil, inc_int, conD_bl, conD_int, conD_str, conD_non, lift_ok, b_int, b_add, b_sub, b_mul, b_fdiv, b_mod, cr_ok, cr_exn, i_add, i_sub, n_int, n_ins, not_bl, eqO_ok, neO_ok, c_eq_ins, c_eq_int, c_eq_str, c_eq_bl, c_ne_ins, c_ne_int, c_ne_str, c_ne_bl, c_lt, c_le, c_gt, c_ge, c_is_bl, c_isn_bl, c_is_non, c_isn_non, c_in, c_notin, fz_int, fz_str, fz_bl, fz_scr, fz_nil, fz_tup, fz_ins, fz_lst, fz_lstF, zs_nil, zs_cons, len_lst, len_tup, len_scr, s_ins, s_str, strO_ok, strO_exn, s_abs, items_lst, items_tup, isi_int, isi_bl, isi_str, isi_non, isi_tup, isi_lst, isi_ins, fin_ret, fin_nxt, fin_exn, fin_ret0, fin_nxt0, wN_nxt, wN_cnt, put_nam, wT_ok, callR_eq, eq_self, beq_self_eq_true, Res.bind, Res.bindS, Rs.bind, tst, Rs.lift, reduceCtorEq, ne_eq, not_false_eq_true, implies_true, ite_true, ite_false, Bool.false_eq_true, decide_true, decide_false, Bool.not_true, Bool.not_false, List.length_cons, List.length_nil, List.cons_append, List.nil_append, reduceIte, start0, List.map_cons, List.map_nil, List.any_cons, List.any_nil, tyD, Bool.or_true, Bool.or_false, Bool.true_or, Bool.false_or, Nat.reduceAdd, Nat.reduceSub, List.drop_succ_cons, List.drop_nil, List.drop_zero, List.replicate_succ, List.replicate_zero, List.append_nil, Option.map_none, Option.map_some, isNon, isStr, Option.isSome_some, Option.isSome_none, forall_const, false_or, or_false, or_true, true_or, not_true_eq_false, and_self, and_true, true_and, i, isint_bl hW, hS.x2]
theorem refuses_p (n : Nat) (v a : Int) (hv : v ∉ prs) : callN M P (n + 4) 503 [.int v, .int a] = .ok (.bl true) [] := by
  rw [callE p_ref 2 rfl rfl]
  simp only [f_law_refuses, c_law_refuses, rd0, rn0, st0, rd1, rn1, st1, rd2, rn2, st2, rd3, rn3, st3, rd4, rn4, st4, rd5, rn5, st5, rd6, rn6, st6, rd7, rn7, st7, rd8, rn8, st8, rd9, rn9, st9, rd10, rn10, st10, rd11, rn11, st11, rd12, rn12, st12, rd13, rn13, st13, rd14, rn14, st14, rd15, rn15, st15, rd16, rn16, st16, rd17, rn17, st17, rd18, rn18, st18, rd19, rn19, st19, rd20, rn20, st20, rd21, rn21, st21, rd22, rn22, st22, rd23, rn23, st23, rd24, rn24, st24, rd25, rn25, st25, e_int, e_str, e_bl, e_non, e_var, v_int, v_str, v_bl, v_non, v_tup, v_ins, v_scr, v_lst, v_lstF, e_tup, e_lst, e_neg, e_bin, e_not, e_ands, e_ors, e_cmp, e_chn, e_ite, e_idxv, e_idx, e_slc, e_rev, e_cal, e_new, e_mth, e_app, e_att, e_len, e_blt1, e_lenE, e_blt2, e_smt, e_pop, e_pop0, e_isi, a_one, a_more, o_one, o_more, k_nil, k_cons, l_nil, l_io, l_cons, io_lst, i_nil, i_io, i_cons, out_ok, out_ok1, out_exn, mthR_ins, new_exn, hasM_ins, x_skip, x_seq, x_exp, x_asg, x_sat, sat_obj, x_apd, isLst_lst, x_ite, x_whl, x_for, t_rng, t_it, rng_some, x_ret, r_nil, r_var, r_e, ret_int, ret_str, ret_bl, ret_non, ret_tup, ret_ins, ret_lst, ret_lstF, x_rai, x_try, x_brk, x_cnt, h_ret, h_inc, h_nil, inc_int, conD_bl, conD_int, conD_str, conD_non, lift_ok, b_int, b_add, b_sub, b_mul, b_fdiv, b_mod, cr_ok, cr_exn, i_add, i_sub, n_int, n_ins, not_bl, eqO_ok, neO_ok, c_eq_ins, c_eq_int, c_eq_str, c_eq_bl, c_ne_ins, c_ne_int, c_ne_str, c_ne_bl, c_lt, c_le, c_gt, c_ge, c_is_bl, c_isn_bl, c_is_non, c_isn_non, c_in, c_notin, fz_int, fz_str, fz_bl, fz_scr, fz_nil, fz_tup, fz_ins, fz_lst, fz_lstF, zs_nil, zs_cons, len_lst, len_tup, len_scr, s_ins, s_str, strO_ok, strO_exn, s_abs, items_lst, items_tup, isi_int, isi_bl, isi_str, isi_non, isi_tup, isi_lst, isi_ins, fin_ret, fin_nxt, fin_exn, fin_ret0, fin_nxt0, wN_nxt, wN_cnt, put_nam, wT_ok, callR_eq, eq_self, beq_self_eq_true, Res.bind, Res.bindS, Rs.bind, tst, Rs.lift, reduceCtorEq, ne_eq, not_false_eq_true, implies_true, ite_true, ite_false, Bool.false_eq_true, decide_true, decide_false, Bool.not_true, Bool.not_false, List.length_cons, List.length_nil, List.cons_append, List.nil_append, reduceIte, start0, List.map_cons, List.map_nil, List.any_cons, List.any_nil, tyD, Bool.or_true, Bool.or_false, Bool.true_or, Bool.false_or, Nat.reduceAdd, Nat.reduceSub, List.drop_succ_cons, List.drop_nil, List.drop_zero, List.replicate_succ, List.replicate_zero, List.append_nil, Option.map_none, Option.map_some, isNon, isStr, Option.isSome_some, Option.isSome_none, forall_const, false_or, or_false, or_true, true_or, not_true_eq_false, and_self, and_true, true_and, res_newB hW hS n v a hv, sub22]
theorem refuses_d (n : Nat) (d : D) (hd : d = .non ∨ (∃ s, d = .str s) ∨ ∃ b, d = .bl b) (a : Int) : callN M P (n + 4) 503 [d, .int a] = .ok (.bl true) [] := by
  rw [callE p_ref 2 rfl rfl]
  have i := res_nopr n d hd a
  rcases hd with rfl | ⟨s, rfl⟩ | ⟨b, rfl⟩ <;> simp only [f_law_refuses, c_law_refuses, rd0, rn0, st0, rd1, rn1, st1, rd2, rn2, st2, rd3, rn3, st3, rd4, rn4, st4, rd5, rn5, st5, rd6, rn6, st6, rd7, rn7, st7, rd8, rn8, st8, rd9, rn9, st9, rd10, rn10, st10, rd11, rn11, st11, rd12, rn12, st12, rd13, rn13, st13, rd14, rn14, st14, rd15, rn15, st15, rd16, rn16, st16, rd17, rn17, st17, rd18, rn18, st18, rd19, rn19, st19, rd20, rn20, st20, rd21, rn21, st21, rd22, rn22, st22, rd23, rn23, st23, rd24, rn24, st24, rd25, rn25, st25, e_int, e_str, e_bl, e_non, e_var, v_int, v_str, v_bl, v_non, v_tup, v_ins, v_scr, v_lst, v_lstF, e_tup, e_lst, e_neg, e_bin, e_not, e_ands, e_ors, e_cmp, e_chn, e_ite, e_idxv, e_idx, e_slc, e_rev, e_cal, e_new, e_mth, e_app, e_att, e_len, e_blt1, e_lenE, e_blt2, e_smt, e_pop, e_pop0, e_isi, a_one, a_more, o_one, o_more, k_nil, k_cons, l_nil, l_io, l_cons, io_lst, i_nil, i_io, i_cons, out_ok, out_ok1, out_exn, mthR_ins, new_exn, hasM_ins, x_skip, x_seq, x_exp, x_asg, x_sat, sat_obj, x_apd, isLst_lst, x_ite, x_whl, x_for, t_rng, t_it, rng_some, x_ret, r_nil, r_var, r_e, ret_int, ret_str, ret_bl, ret_non, ret_tup, ret_ins, ret_lst, ret_lstF, x_rai, x_try, x_brk, x_cnt, h_ret, h_inc, h_nil, inc_int, conD_bl, conD_int, conD_str, conD_non, lift_ok, b_int, b_add, b_sub, b_mul, b_fdiv, b_mod, cr_ok, cr_exn, i_add, i_sub, n_int, n_ins, not_bl, eqO_ok, neO_ok, c_eq_ins, c_eq_int, c_eq_str, c_eq_bl, c_ne_ins, c_ne_int, c_ne_str, c_ne_bl, c_lt, c_le, c_gt, c_ge, c_is_bl, c_isn_bl, c_is_non, c_isn_non, c_in, c_notin, fz_int, fz_str, fz_bl, fz_scr, fz_nil, fz_tup, fz_ins, fz_lst, fz_lstF, zs_nil, zs_cons, len_lst, len_tup, len_scr, s_ins, s_str, strO_ok, strO_exn, s_abs, items_lst, items_tup, isi_int, isi_bl, isi_str, isi_non, isi_tup, isi_lst, isi_ins, fin_ret, fin_nxt, fin_exn, fin_ret0, fin_nxt0, wN_nxt, wN_cnt, put_nam, wT_ok, callR_eq, eq_self, beq_self_eq_true, Res.bind, Res.bindS, Rs.bind, tst, Rs.lift, reduceCtorEq, ne_eq, not_false_eq_true, implies_true, ite_true, ite_false, Bool.false_eq_true, decide_true, decide_false, Bool.not_true, Bool.not_false, List.length_cons, List.length_nil, List.cons_append, List.nil_append, reduceIte, start0, List.map_cons, List.map_nil, List.any_cons, List.any_nil, tyD, Bool.or_true, Bool.or_false, Bool.true_or, Bool.false_or, Nat.reduceAdd, Nat.reduceSub, List.drop_succ_cons, List.drop_nil, List.drop_zero, List.replicate_succ, List.replicate_zero, List.append_nil, Option.map_none, Option.map_some, isNon, isStr, Option.isSome_some, Option.isSome_none, forall_const, false_or, or_false, or_true, true_or, not_true_eq_false, and_self, and_true, true_and, i, sub22]
theorem refuses_n (n : Nat) (p : Int) (hp : p ∈ prs) (d : D) (hd : d = .non ∨ (∃ s, d = .str s) ∨ ∃ b, d = .bl b) : callN M P (n + 4) 503 [.int p, d] = .ok (.bl true) [] := by
  rw [callE p_ref 2 rfl rfl]
  have i := res_noint n p hp d hd
  rcases hd with rfl | ⟨s, rfl⟩ | ⟨b, rfl⟩ <;> simp only [f_law_refuses, c_law_refuses, rd0, rn0, st0, rd1, rn1, st1, rd2, rn2, st2, rd3, rn3, st3, rd4, rn4, st4, rd5, rn5, st5, rd6, rn6, st6, rd7, rn7, st7, rd8, rn8, st8, rd9, rn9, st9, rd10, rn10, st10, rd11, rn11, st11, rd12, rn12, st12, rd13, rn13, st13, rd14, rn14, st14, rd15, rn15, st15, rd16, rn16, st16, rd17, rn17, st17, rd18, rn18, st18, rd19, rn19, st19, rd20, rn20, st20, rd21, rn21, st21, rd22, rn22, st22, rd23, rn23, st23, rd24, rn24, st24, rd25, rn25, st25, e_int, e_str, e_bl, e_non, e_var, v_int, v_str, v_bl, v_non, v_tup, v_ins, v_scr, v_lst, v_lstF, e_tup, e_lst, e_neg, e_bin, e_not, e_ands, e_ors, e_cmp, e_chn, e_ite, e_idxv, e_idx, e_slc, e_rev, e_cal, e_new, e_mth, e_app, e_att, e_len, e_blt1, e_lenE, e_blt2, e_smt, e_pop, e_pop0, e_isi, a_one, a_more, o_one, o_more, k_nil, k_cons, l_nil, l_io, l_cons, io_lst, i_nil, i_io, i_cons, out_ok, out_ok1, out_exn, mthR_ins, new_exn, hasM_ins, x_skip, x_seq, x_exp, x_asg, x_sat, sat_obj, x_apd, isLst_lst, x_ite, x_whl, x_for, t_rng, t_it, rng_some, x_ret, r_nil, r_var, r_e, ret_int, ret_str, ret_bl, ret_non, ret_tup, ret_ins, ret_lst, ret_lstF, x_rai, x_try, x_brk, x_cnt, h_ret, h_inc, h_nil, inc_int, conD_bl, conD_int, conD_str, conD_non, lift_ok, b_int, b_add, b_sub, b_mul, b_fdiv, b_mod, cr_ok, cr_exn, i_add, i_sub, n_int, n_ins, not_bl, eqO_ok, neO_ok, c_eq_ins, c_eq_int, c_eq_str, c_eq_bl, c_ne_ins, c_ne_int, c_ne_str, c_ne_bl, c_lt, c_le, c_gt, c_ge, c_is_bl, c_isn_bl, c_is_non, c_isn_non, c_in, c_notin, fz_int, fz_str, fz_bl, fz_scr, fz_nil, fz_tup, fz_ins, fz_lst, fz_lstF, zs_nil, zs_cons, len_lst, len_tup, len_scr, s_ins, s_str, strO_ok, strO_exn, s_abs, items_lst, items_tup, isi_int, isi_bl, isi_str, isi_non, isi_tup, isi_lst, isi_ins, fin_ret, fin_nxt, fin_exn, fin_ret0, fin_nxt0, wN_nxt, wN_cnt, put_nam, wT_ok, callR_eq, eq_self, beq_self_eq_true, Res.bind, Res.bindS, Rs.bind, tst, Rs.lift, reduceCtorEq, ne_eq, not_false_eq_true, implies_true, ite_true, ite_false, Bool.false_eq_true, decide_true, decide_false, Bool.not_true, Bool.not_false, List.length_cons, List.length_nil, List.cons_append, List.nil_append, reduceIte, start0, List.map_cons, List.map_nil, List.any_cons, List.any_nil, tyD, Bool.or_true, Bool.or_false, Bool.true_or, Bool.false_or, Nat.reduceAdd, Nat.reduceSub, List.drop_succ_cons, List.drop_nil, List.drop_zero, List.replicate_succ, List.replicate_zero, List.append_nil, Option.map_none, Option.map_some, isNon, isStr, Option.isSome_some, Option.isSome_none, forall_const, false_or, or_false, or_true, true_or, not_true_eq_false, and_self, and_true, true_and, i, sub22]
theorem divides_ok (n : Nat) (p k : Int) (hk : 0 ≤ k) : callN M P (n + 3) 506 [rs p 0, .int k] = .ok (.bl true) [] := by
  rw [callE p_div 2 rfl rfl]
  have i := res_inv0 hW hS hS2 (n + 1) p
  have o := res_over0 hW hS hS2 n p 0
  have w := res_pow0 hW hS hS2 hSP n p (-1 - k) (by omega)
  simp only [f_law_divides, c_law_divides, rd0, rn0, st0, rd1, rn1, st1, rd2, rn2, st2, rd3, rn3, st3, rd4, rn4, st4, rd5, rn5, st5, rd6, rn6, st6, rd7, rn7, st7, rd8, rn8, st8, rd9, rn9, st9, rd10, rn10, st10, rd11, rn11, st11, rd12, rn12, st12, rd13, rn13, st13, rd14, rn14, st14, rd15, rn15, st15, rd16, rn16, st16, rd17, rn17, st17, rd18, rn18, st18, rd19, rn19, st19, rd20, rn20, st20, rd21, rn21, st21, rd22, rn22, st22, rd23, rn23, st23, rd24, rn24, st24, rd25, rn25, st25, e_int, e_str, e_bl, e_non, e_var, v_int, v_str, v_bl, v_non, v_tup, v_ins, v_scr, v_lst, v_lstF, e_tup, e_lst, e_neg, e_bin, e_not, e_ands, e_ors, e_cmp, e_chn, e_ite, e_idxv, e_idx, e_slc, e_rev, e_cal, e_new, e_mth, e_app, e_att, e_len, e_blt1, e_lenE, e_blt2, e_smt, e_pop, e_pop0, e_isi, a_one, a_more, o_one, o_more, k_nil, k_cons, l_nil, l_io, l_cons, io_lst, i_nil, i_io, i_cons, out_ok, out_ok1, out_exn, mthR_ins, new_exn, hasM_ins, x_skip, x_seq, x_exp, x_asg, x_sat, sat_obj, x_apd, isLst_lst, x_ite, x_whl, x_for, t_rng, t_it, rng_some, x_ret, r_nil, r_var, r_e, ret_int, ret_str, ret_bl, ret_non, ret_tup, ret_ins, ret_lst, ret_lstF, x_rai, x_try, x_brk, x_cnt, h_ret, h_inc, h_nil, inc_int, conD_bl, conD_int, conD_str, conD_non, lift_ok, b_int, b_add, b_sub, b_mul, b_fdiv, b_mod, cr_ok, cr_exn, i_add, i_sub, n_int, n_ins, not_bl, eqO_ok, neO_ok, c_eq_ins, c_eq_int, c_eq_str, c_eq_bl, c_ne_ins, c_ne_int, c_ne_str, c_ne_bl, c_lt, c_le, c_gt, c_ge, c_is_bl, c_isn_bl, c_is_non, c_isn_non, c_in, c_notin, fz_int, fz_str, fz_bl, fz_scr, fz_nil, fz_tup, fz_ins, fz_lst, fz_lstF, zs_nil, zs_cons, len_lst, len_tup, len_scr, s_ins, s_str, strO_ok, strO_exn, s_abs, items_lst, items_tup, isi_int, isi_bl, isi_str, isi_non, isi_tup, isi_lst, isi_ins, fin_ret, fin_nxt, fin_exn, fin_ret0, fin_nxt0, wN_nxt, wN_cnt, put_nam, wT_ok, callR_eq, eq_self, beq_self_eq_true, Res.bind, Res.bindS, Rs.bind, tst, Rs.lift, reduceCtorEq, ne_eq, not_false_eq_true, implies_true, ite_true, ite_false, Bool.false_eq_true, decide_true, decide_false, Bool.not_true, Bool.not_false, List.length_cons, List.length_nil, List.cons_append, List.nil_append, reduceIte, start0, List.map_cons, List.map_nil, List.any_cons, List.any_nil, tyD, Bool.or_true, Bool.or_false, Bool.true_or, Bool.false_or, Nat.reduceAdd, Nat.reduceSub, List.drop_succ_cons, List.drop_nil, List.drop_zero, List.replicate_succ, List.replicate_zero, List.append_nil, Option.map_none, Option.map_some, isNon, isStr, Option.isSome_some, Option.isSome_none, forall_const, false_or, or_false, or_true, true_or, not_true_eq_false, and_self, and_true, true_and, i, o, w, hS2.h12, hS2.h13, hSP.h14, sub11]
  rfl
theorem mixed_ok (n : Nat) (p a : Int) (c : Nat) (l : List D) (h1 : binD (callN M P n) .Add (rs p a) (.ins c l) = .exn xMal) (h2 : binD (callN M P n) .Sub (rs p a) (.ins c l) = .exn xMal) (h3 : binD (callN M P n) .Mult (rs p a) (.ins c l) = .exn xMal) :
    callN M P (n + 1) 504 [rs p a, .ins c l] = .ok (.bl true) [] := by
  rw [callE p_mix 2 rfl rfl]
  simp only [f_law_mixed, c_law_mixed, e_bin, x_seq, x_asg, x_exp, x_try, x_skip, x_ret, e_var, start0, List.map_cons, List.map_nil, List.length_cons, List.length_nil, Nat.reduceAdd, Nat.reduceSub, List.drop_nil, List.append_nil, List.replicate_succ, List.replicate_zero, List.cons_append, List.nil_append, e_int, Res.bind, Res.bindS, Rs.lift, rd0, rd1, rd2, st0, st1, st2, v_ins, h1, h2, h3, h_inc, List.any_cons, List.any_nil, Bool.or_false, sub22, inc_int, fin_ret, if_true]
  rfl
theorem mixed_same (n : Nat) (p a q b : Int) (h : p ≠ q) : callN M P (n + 2) 504 [rs p a, rs q b] = .ok (.bl true) [] := by
  obtain ⟨h1, h2, h3⟩ := res_bad3 hW hS n p a q b h
  refine mixed_ok (n + 1) p a 4 _ ?_ ?_ ?_
  · rw [b_add, h1, cr_exn]
  · rw [b_sub, h2, cr_exn]
  · rw [b_mul, h3, cr_exn]
theorem mixed_rat (n : Nat) (p a : Int) : callN M P (n + 5) 504 [rs p a, rt 1] = .ok (.bl true) [] := by
  obtain ⟨h1, h2, h3⟩ := res_badC hW hS (n + 3) p a 3 [.int (1 : Rat).num, .int (1 : Rat).den] (by decide)
  have a1 := b_diff (C := callN M P (n + 4)) .Add mAdd 4 3 [.int p, .int a] [.int (1 : Rat).num, .int (1 : Rat).den] _ _ (by decide) rfl (ratio_add hR (n + 2) 1 1 Bnd.one Bnd.one (by decide))
  have a2 := b_diff (C := callN M P (n + 4)) .Sub mSub 4 3 [.int p, .int a] [.int (1 : Rat).num, .int (1 : Rat).den] _ _ (by decide) rfl (ratio_sub hR (n + 2) 1 1 Bnd.one Bnd.one (by decide))
  have a3 := b_diff (C := callN M P (n + 4)) .Mult mMul 4 3 [.int p, .int a] [.int (1 : Rat).num, .int (1 : Rat).den] _ _ (by decide) rfl (ratio_mul hR (n + 2) 1 1 Bnd.one Bnd.one (by decide))
  rw [h1, cr_exn] at a1
  rw [h2, cr_exn] at a2
  rw [h3, cr_exn] at a3
  exact mixed_ok (n + 4) p a 3 _ a1 a2 a3
theorem prime_at (i : Int) (h0 : 0 ≤ i) (h1 : i < 11) : ∃ p ∈ prs, idxV (some (.lst true [.int 2, .int 3, .int 5, .int 7, .int 11, .int 13, .int 17, .int 19, .int 23, .int 29, .int 31])) (.int i) = .ok (.int p) := by
  have : i = 0 ∨ i = 1 ∨ i = 2 ∨ i = 3 ∨ i = 4 ∨ i = 5 ∨ i = 6 ∨ i = 7 ∨ i = 8 ∨ i = 9 ∨ i = 10 := by omega
  rcases this with h | h | h | h | h | h | h | h | h | h | h <;> subst h <;> exact ⟨_, by decide, rfl⟩
theorem pow_em (a p : Int) (k : Nat) : (a % p) ^ k % p = a ^ k % p := by
  induction k with
  | zero => rw [Int.pow_zero, Int.pow_zero]
  | succ k ih => rw [Int.pow_succ, Int.pow_succ, Int.mul_emod, ih, Int.emod_emod_of_dvd _ (Int.dvd_refl p), ← Int.mul_emod]
theorem neg_em (a p : Int) : (-(a % p)) % p = (-a) % p := by
  have := Int.sub_emod 0 a p
  have h2 := Int.sub_emod 0 (a % p) p
  rw [Int.emod_emod_of_dvd _ (Int.dvd_refl p)] at h2
  simp only [Int.zero_sub] at this h2
  rw [this, h2]
theorem tot_loop (n : Nat) (p a : Int) (hp : p ∈ prs) (sa : a.natAbs < 2 ^ 64) (x0 x1 x2 x5 x6 x7 x8 x10 x11 x12 : Option D) (r : List D) :
    ∃ t i', loopF (Tg.put (.nam 10)) (fun e => exec M (callN M P n) b2_law e) r [x0, x1, x2, some (.int p), some (.int a), x5, x6, x7, x8, some (.int 1), x10, x11, x12] = .nxt [x0, x1, x2, some (.int p), some (.int a), x5, x6, x7, x8, some (.int t), i', x11, x12] ∧ t % p = a ^ r.length % p := by
  have p0 := prs_pos hp
  have pz : p ≠ 0 := by omega
  obtain ⟨e', h1, j, i', t, rfl, hj, ht⟩ := for_wp (N := M) (C := callN M P n) (put := Tg.put (.nam 10)) (b := b2_law) (fun r' e => ∃ (j : Nat) (i : Option D) (t : Int), e = [x0, x1, x2, some (.int p), some (.int a), x5, x6, x7, x8, some (.int t), i, x11, x12] ∧ j + r'.length = r.length ∧ t % p = a ^ j % p) (fun d r' e q => by
    obtain ⟨j, i, t, rfl, hj, ht⟩ := q
    refine ⟨_, rfl, ?_⟩
    simp only [List.length_cons] at hj
    have m := i_mul t a (mulOk_r _ _ (decide_eq_true sa))
    simp only [b2_law, rd0, rn0, st0, rd1, rn1, st1, rd2, rn2, st2, rd3, rn3, st3, rd4, rn4, st4, rd5, rn5, st5, rd6, rn6, st6, rd7, rn7, st7, rd8, rn8, st8, rd9, rn9, st9, rd10, rn10, st10, rd11, rn11, st11, rd12, rn12, st12, rd13, rn13, st13, rd14, rn14, st14, rd15, rn15, st15, rd16, rn16, st16, rd17, rn17, st17, rd18, rn18, st18, rd19, rn19, st19, rd20, rn20, st20, rd21, rn21, st21, rd22, rn22, st22, rd23, rn23, st23, rd24, rn24, st24, rd25, rn25, st25, e_int, e_str, e_bl, e_non, e_var, v_int, v_str, v_bl, v_non, v_tup, v_ins, v_scr, v_lst, v_lstF, e_tup, e_lst, e_neg, e_bin, e_not, e_ands, e_ors, e_cmp, e_chn, e_ite, e_idxv, e_idx, e_slc, e_rev, e_cal, e_new, e_mth, e_app, e_att, e_len, e_blt1, e_lenE, e_blt2, e_smt, e_pop, e_pop0, e_isi, a_one, a_more, o_one, o_more, k_nil, k_cons, l_nil, l_io, l_cons, io_lst, i_nil, i_io, i_cons, out_ok, out_ok1, out_exn, mthR_ins, new_exn, hasM_ins, x_skip, x_seq, x_exp, x_asg, x_sat, sat_obj, x_apd, isLst_lst, x_ite, x_whl, x_for, t_rng, t_it, rng_some, x_ret, r_nil, r_var, r_e, ret_int, ret_str, ret_bl, ret_non, ret_tup, ret_ins, ret_lst, ret_lstF, x_rai, x_try, x_brk, x_cnt, h_ret, h_inc, h_nil, inc_int, conD_bl, conD_int, conD_str, conD_non, lift_ok, b_int, b_add, b_sub, b_mul, b_fdiv, b_mod, cr_ok, cr_exn, i_add, i_sub, n_int, n_ins, not_bl, eqO_ok, neO_ok, c_eq_ins, c_eq_int, c_eq_str, c_eq_bl, c_ne_ins, c_ne_int, c_ne_str, c_ne_bl, c_lt, c_le, c_gt, c_ge, c_is_bl, c_isn_bl, c_is_non, c_isn_non, c_in, c_notin, fz_int, fz_str, fz_bl, fz_scr, fz_nil, fz_tup, fz_ins, fz_lst, fz_lstF, zs_nil, zs_cons, len_lst, len_tup, len_scr, s_ins, s_str, strO_ok, strO_exn, s_abs, items_lst, items_tup, isi_int, isi_bl, isi_str, isi_non, isi_tup, isi_lst, isi_ins, fin_ret, fin_nxt, fin_exn, fin_ret0, fin_nxt0, wN_nxt, wN_cnt, put_nam, wT_ok, callR_eq, eq_self, beq_self_eq_true, Res.bind, Res.bindS, Rs.bind, tst, Rs.lift, reduceCtorEq, ne_eq, not_false_eq_true, implies_true, ite_true, ite_false, Bool.false_eq_true, decide_true, decide_false, Bool.not_true, Bool.not_false, List.length_cons, List.length_nil, List.cons_append, List.nil_append, reduceIte, start0, List.map_cons, List.map_nil, List.any_cons, List.any_nil, tyD, Bool.or_true, Bool.or_false, Bool.true_or, Bool.false_or, Nat.reduceAdd, Nat.reduceSub, List.drop_succ_cons, List.drop_nil, List.drop_zero, List.replicate_succ, List.replicate_zero, List.append_nil, Option.map_none, Option.map_some, isNon, isStr, Option.isSome_some, Option.isSome_none, forall_const, false_or, or_false, or_true, true_or, not_true_eq_false, and_self, and_true, true_and, m, i_mod _ _ pz, fm (show (0 : Int) < p by omega)]
    refine ⟨j + 1, _, _, rfl, by omega, ?_⟩
    rw [Int.emod_emod_of_dvd _ (Int.dvd_refl p), Int.mul_emod, ht, ← Int.mul_emod, Int.pow_succ]) r _ ⟨0, x10, 1, rfl, by omega, by rw [Int.pow_zero]⟩
  have : j = r.length := by simpa using hj
  subst this
  exact ⟨t, i', h1, ht⟩
theorem val_loop (n : Nat) (a : Int) (x0 x1 x2 x3 x5 x6 x7 x8 x9 x10 x11 x12 : Option D) :
    loopF (Tg.put (.nam 12)) (fun e => exec M (callN M P (n + 4)) b1_law e) [.int 0, .int 1, .int 4, .int 33, .int 37, .int (-2), .non, .str (Str.ofString "2"), .bl true] [x0, x1, x2, x3, some (.int a), x5, x6, x7, x8, x9, x10, x11, x12] = .nxt [x0, x1, x2, x3, some (.int a), x5, x6, x7, x8, x9, x10, x11, some (.bl true)] := by
  have w : ∀ v ∈ [(0 : Int), 1, 4, 33, 37, -2], callN M P (n + 4) 503 [.int v, .int a] = .ok (.bl true) [] := fun v hv => by
    refine refuses_p n v a fun z => ?_
    have : ∀ v ∈ [(0 : Int), 1, 4, 33, 37, -2], ¬ v ∈ prs := by decide
    exact this v hv z
  have w0 := w 0 (by decide)
  have w1 := w 1 (by decide)
  have w2 := w 4 (by decide)
  have w3 := w 33 (by decide)
  have w4 := w 37 (by decide)
  have w5 := w (-2) (by decide)
  have v0 := refuses_d n .non (.inl rfl) a
  have v1 := refuses_d n (.str (Str.ofString "2")) (.inr (.inl ⟨_, rfl⟩)) a
  have v2 := refuses_d n (.bl true) (.inr (.inr ⟨_, rfl⟩)) a
  simp only [loopF_cons, loopF_nil, put_nam, b1_law, rd0, rn0, st0, rd1, rn1, st1, rd2, rn2, st2, rd3, rn3, st3, rd4, rn4, st4, rd5, rn5, st5, rd6, rn6, st6, rd7, rn7, st7, rd8, rn8, st8, rd9, rn9, st9, rd10, rn10, st10, rd11, rn11, st11, rd12, rn12, st12, rd13, rn13, st13, rd14, rn14, st14, rd15, rn15, st15, rd16, rn16, st16, rd17, rn17, st17, rd18, rn18, st18, rd19, rn19, st19, rd20, rn20, st20, rd21, rn21, st21, rd22, rn22, st22, rd23, rn23, st23, rd24, rn24, st24, rd25, rn25, st25, e_int, e_str, e_bl, e_non, e_var, v_int, v_str, v_bl, v_non, v_tup, v_ins, v_scr, v_lst, v_lstF, e_tup, e_lst, e_neg, e_bin, e_not, e_ands, e_ors, e_cmp, e_chn, e_ite, e_idxv, e_idx, e_slc, e_rev, e_cal, e_new, e_mth, e_app, e_att, e_len, e_blt1, e_lenE, e_blt2, e_smt, e_pop, e_pop0, e_isi, a_one, a_more, o_one, o_more, k_nil, k_cons, l_nil, l_io, l_cons, io_lst, i_nil, i_io, i_cons, out_ok, out_ok1, out_exn, mthR_ins, new_exn, hasM_ins, x_skip, x_seq, x_exp, x_asg, x_sat, sat_obj, x_apd, isLst_lst, x_ite, x_whl, x_for, t_rng, t_it, rng_some, x_ret, r_nil, r_var, r_e, ret_int, ret_str, ret_bl, ret_non, ret_tup, ret_ins, ret_lst, ret_lstF, x_rai, x_try, x_brk, x_cnt, h_ret, h_inc, h_nil, inc_int, conD_bl, conD_int, conD_str, conD_non, lift_ok, b_int, b_add, b_sub, b_mul, b_fdiv, b_mod, cr_ok, cr_exn, i_add, i_sub, n_int, n_ins, not_bl, eqO_ok, neO_ok, c_eq_ins, c_eq_int, c_eq_str, c_eq_bl, c_ne_ins, c_ne_int, c_ne_str, c_ne_bl, c_lt, c_le, c_gt, c_ge, c_is_bl, c_isn_bl, c_is_non, c_isn_non, c_in, c_notin, fz_int, fz_str, fz_bl, fz_scr, fz_nil, fz_tup, fz_ins, fz_lst, fz_lstF, zs_nil, zs_cons, len_lst, len_tup, len_scr, s_ins, s_str, strO_ok, strO_exn, s_abs, items_lst, items_tup, isi_int, isi_bl, isi_str, isi_non, isi_tup, isi_lst, isi_ins, fin_ret, fin_nxt, fin_exn, fin_ret0, fin_nxt0, wN_nxt, wN_cnt, put_nam, wT_ok, callR_eq, eq_self, beq_self_eq_true, Res.bind, Res.bindS, Rs.bind, tst, Rs.lift, reduceCtorEq, ne_eq, not_false_eq_true, implies_true, ite_true, ite_false, Bool.false_eq_true, decide_true, decide_false, Bool.not_true, Bool.not_false, List.length_cons, List.length_nil, List.cons_append, List.nil_append, reduceIte, start0, List.map_cons, List.map_nil, List.any_cons, List.any_nil, tyD, Bool.or_true, Bool.or_false, Bool.true_or, Bool.false_or, Nat.reduceAdd, Nat.reduceSub, List.drop_succ_cons, List.drop_nil, List.drop_zero, List.replicate_succ, List.replicate_zero, List.append_nil, Option.map_none, Option.map_some, isNon, isStr, Option.isSome_some, Option.isSome_none, forall_const, false_or, or_false, or_true, true_or, not_true_eq_false, and_self, and_true, true_and, w0, w1, w2, w3, w4, w5, v0, v1, v2]
theorem law_ok (n : Nat) (ns : List Int) (hn : ns.length ≤ 63) : callN M P (n + 10) 998 [.scr ns] = .ok (.bl true) [] := by
  obtain ⟨l0, hl0, q0⟩ := numbers_ok hL (n + 8) ns hn
  obtain ⟨p', l1, hp1, hp2, hl1, q1⟩ := next_ok hL (n + 8) l0 11 hl0 (by decide)
  obtain ⟨a', l2, ha1, ha2, hl2, q2⟩ := next_ok hL (n + 8) l1 81 hl1 (by decide)
  obtain ⟨b', l3, hb1, hb2, hl3, q3⟩ := next_ok hL (n + 8) l2 81 hl2 (by decide)
  obtain ⟨k, l4, hk1, hk2, hl4, q4⟩ := next_ok hL (n + 8) l3 5 hl3 (by decide)
  obtain ⟨p, hp, ip⟩ := prime_at p' hp1 hp2
  obtain ⟨a, ea⟩ : ∃ a, a = a' - 40 := ⟨_, rfl⟩
  obtain ⟨b, eb⟩ : ∃ b, b = b' - 40 := ⟨_, rfl⟩
  have p0 := prs_pos hp
  have pz : p ≠ 0 := by omega
  have sa : a.natAbs < 2 ^ 64 := Nat.lt_of_lt_of_le (show a.natAbs < 64 by omega) (by decide)
  have sb : b.natAbs < 2 ^ 64 := Nat.lt_of_lt_of_le (show b.natAbs < 64 by omega) (by decide)
  have md : ∀ i, intD .Mod i p = .ok (.int (i % p)) := fun i => by rw [i_mod _ _ pz, fm (by omega)]
  have mra : ∀ i, intD .Mult i a = .ok (.int (i * a)) := fun i => i_mul _ _ (mulOk_r _ _ (decide_eq_true sa))
  have mrb : ∀ i, intD .Mult i b = .ok (.int (i * b)) := fun i => i_mul _ _ (mulOk_r _ _ (decide_eq_true sb))
  have hA := mod_pos (a := a) hp
  have hB := mod_pos (a := b) hp
  obtain ⟨A, eA⟩ : ∃ A, A = a % p := ⟨_, rfl⟩
  obtain ⟨B, eB⟩ : ∃ B, B = b % p := ⟨_, rfl⟩
  have nx := res_new hW hS (n + 6) p a hp
  have ny := res_new hW hS (n + 6) p b hp
  rw [← eA] at nx hA
  rw [← eB] at ny hB
  have sx := res_str hW hS hS2 (n + 8) p A hp hA
  have sA := s_int (callN M P (n + 9)) A (small_log hW hS hS2 hp hA)
  have isz := res_isz hS hS2 (n + 8) p A
  have oadd := res_add hW hS (n + 5) p A B hp
  have osub := res_sub hW hS (n + 5) p A B hp
  have omul := res_mul hW hS (n + 5) p A B hp hA
  have oneg := res_neg hW hS (n + 5) p A hp
  have e1 : (A + B) % p = (a + b) % p := by rw [eA, eB, ← Int.add_emod]
  have e2 : (A - B) % p = (a - b) % p := by rw [eA, eB, ← Int.sub_emod]
  have e3 : (A * B) % p = (a * b) % p := by rw [eA, eB, ← Int.mul_emod]
  have e4 : (-A) % p = (-a) % p := by rw [eA, neg_em]
  rw [e1] at oadd
  rw [e2] at osub
  rw [e3] at omul
  rw [e4] at oneg
  have exy := res_eq hS (n + 8) p A p B
  have exa := res_eqi hS (n + 8) p A a
  have nr := ratio_new1 hR (n + 8) a
  have exr := res_eqC (n + 8) p A 3 [.int (a : Rat).num, .int (a : Rat).den] (by decide)
  obtain ⟨t, ti, tl, ht⟩ := tot_loop (n + 9) p a hp sa (some (.scr ns)) (some (.lst true (l4.map .int))) (some (.lst true [.int 2, .int 3, .int 5, .int 7, .int 11, .int 13, .int 17, .int 19, .int 23, .int 29, .int 31])) (some (.int b)) (some (rs p A)) (some (rs p B)) (some (.int k)) none none none ((List.range k.toNat).map (fun (k : Nat) => D.int k))
  simp only [List.length_map, List.length_range] at ht
  have rg := rng_one k (by omega)
  have ek : k.natAbs = k.toNat := by omega
  have zk : ¬ k < 0 := by omega
  have pk := res_pow hW hS hS2 hSP (n + 4) p A hp hA k (by omega) (.inl hk1)
  rw [if_neg zk, ek] at pk
  have e5 : A ^ k.toNat % p = t % p := by rw [ht, eA, pow_em]
  rw [e5] at pk
  obtain ⟨q, eq, hq, hpq⟩ : ∃ q, q = (if p = 2 then 3 else 2 : Int) ∧ q ∈ prs ∧ p ≠ q := by
    refine ⟨_, rfl, ?_, ?_⟩
    · split <;> decide
    · split <;> omega
  have nq := res_new hW hS (n + 6) q 1 hq
  have n1 := ratio_new1 hR (n + 8) 1
  have mq := mixed_same (n + 7) p A q (1 % q) hpq
  have mr := mixed_rat (n + 4) p A
  have vl := val_loop (n + 5) a
  have f1 := refuses_n (n + 5) p hp .non (.inl rfl)
  have f2 := refuses_n (n + 5) p hp (.bl true) (.inr (.inr ⟨_, rfl⟩))
  have f3 := refuses_n (n + 5) p hp (.str (Str.ofString "1")) (.inr (.inl ⟨_, rfl⟩))
  rw [callE p_law 1 rfl rfl]
  have zp : (p = 2 ∧ q = 3) ∨ (¬ p = 2 ∧ q = 2) := by
    by_cases z : p = 2
    · rw [if_pos z] at eq; exact .inl ⟨z, eq⟩
    · rw [if_neg z] at eq; exact .inr ⟨z, eq⟩
  by_cases za : A = 0
  · have za' := decide_eq_true za
    have dv : callN M P (n + 9) 506 [rs p A, .int k] = .ok (.bl true) [] := by rw [za]; exact divides_ok (n + 6) p k hk1
    rcases zp with ⟨zp, zq⟩ | ⟨zp, zq⟩
    · have zp' := decide_eq_true zp
      subst zq
      simp only [f_law, c_law, rd0, rn0, st0, rd1, rn1, st1, rd2, rn2, st2, rd3, rn3, st3, rd4, rn4, st4, rd5, rn5, st5, rd6, rn6, st6, rd7, rn7, st7, rd8, rn8, st8, rd9, rn9, st9, rd10, rn10, st10, rd11, rn11, st11, rd12, rn12, st12, rd13, rn13, st13, rd14, rn14, st14, rd15, rn15, st15, rd16, rn16, st16, rd17, rn17, st17, rd18, rn18, st18, rd19, rn19, st19, rd20, rn20, st20, rd21, rn21, st21, rd22, rn22, st22, rd23, rn23, st23, rd24, rn24, st24, rd25, rn25, st25, e_int, e_str, e_bl, e_non, e_var, v_int, v_str, v_bl, v_non, v_tup, v_ins, v_scr, v_lst, v_lstF, e_tup, e_lst, e_neg, e_bin, e_not, e_ands, e_ors, e_cmp, e_chn, e_ite, e_idxv, e_idx, e_slc, e_rev, e_cal, e_new, e_mth, e_app, e_att, e_len, e_blt1, e_lenE, e_blt2, e_smt, e_pop, e_pop0, e_isi, a_one, a_more, o_one, o_more, k_nil, k_cons, l_nil, l_io, l_cons, io_lst, i_nil, i_io, i_cons, out_ok, out_ok1, out_exn, mthR_ins, new_exn, hasM_ins, x_skip, x_seq, x_exp, x_asg, x_sat, sat_obj, x_apd, isLst_lst, x_ite, x_whl, x_for, t_rng, t_it, rng_some, x_ret, r_nil, r_var, r_e, ret_int, ret_str, ret_bl, ret_non, ret_tup, ret_ins, ret_lst, ret_lstF, x_rai, x_try, x_brk, x_cnt, h_ret, h_inc, h_nil, inc_int, conD_bl, conD_int, conD_str, conD_non, lift_ok, b_int, b_add, b_sub, b_mul, b_fdiv, b_mod, cr_ok, cr_exn, i_add, i_sub, n_int, n_ins, not_bl, eqO_ok, neO_ok, c_eq_ins, c_eq_int, c_eq_str, c_eq_bl, c_ne_ins, c_ne_int, c_ne_str, c_ne_bl, c_lt, c_le, c_gt, c_ge, c_is_bl, c_isn_bl, c_is_non, c_isn_non, c_in, c_notin, fz_int, fz_str, fz_bl, fz_scr, fz_nil, fz_tup, fz_ins, fz_lst, fz_lstF, zs_nil, zs_cons, len_lst, len_tup, len_scr, s_ins, s_str, strO_ok, strO_exn, s_abs, items_lst, items_tup, isi_int, isi_bl, isi_str, isi_non, isi_tup, isi_lst, isi_ins, fin_ret, fin_nxt, fin_exn, fin_ret0, fin_nxt0, wN_nxt, wN_cnt, put_nam, wT_ok, callR_eq, eq_self, beq_self_eq_true, Res.bind, Res.bindS, Rs.bind, tst, Rs.lift, reduceCtorEq, ne_eq, not_false_eq_true, implies_true, ite_true, ite_false, Bool.false_eq_true, decide_true, decide_false, Bool.not_true, Bool.not_false, List.length_cons, List.length_nil, List.cons_append, List.nil_append, reduceIte, start0, List.map_cons, List.map_nil, List.any_cons, List.any_nil, tyD, Bool.or_true, Bool.or_false, Bool.true_or, Bool.false_or, Nat.reduceAdd, Nat.reduceSub, List.drop_succ_cons, List.drop_nil, List.drop_zero, List.replicate_succ, List.replicate_zero, List.append_nil, Option.map_none, Option.map_some, isNon, isStr, Option.isSome_some, Option.isSome_none, forall_const, false_or, or_false, or_true, true_or, not_true_eq_false, and_self, and_true, true_and, q0, q1, q2, q3, q4, ip, ← ea, ← eb, nx, ny, res_n hS, res_p hS, md, mra, mrb, ← eA, ← eB, sx, sA, isz, hS2.h11, hS2.h12, hS2.h13, hSP.h14, oadd, osub, omul, oneg, exy, exa, nr, exr, x_for, rg, tl, pk, za', zp', nq, n1, Rat.intCast_one, mq, mr, items_lst, vl, f1, f2, f3, Bool.true_and, dv]
    · have zp' := decide_eq_false zp
      subst zq
      simp only [f_law, c_law, rd0, rn0, st0, rd1, rn1, st1, rd2, rn2, st2, rd3, rn3, st3, rd4, rn4, st4, rd5, rn5, st5, rd6, rn6, st6, rd7, rn7, st7, rd8, rn8, st8, rd9, rn9, st9, rd10, rn10, st10, rd11, rn11, st11, rd12, rn12, st12, rd13, rn13, st13, rd14, rn14, st14, rd15, rn15, st15, rd16, rn16, st16, rd17, rn17, st17, rd18, rn18, st18, rd19, rn19, st19, rd20, rn20, st20, rd21, rn21, st21, rd22, rn22, st22, rd23, rn23, st23, rd24, rn24, st24, rd25, rn25, st25, e_int, e_str, e_bl, e_non, e_var, v_int, v_str, v_bl, v_non, v_tup, v_ins, v_scr, v_lst, v_lstF, e_tup, e_lst, e_neg, e_bin, e_not, e_ands, e_ors, e_cmp, e_chn, e_ite, e_idxv, e_idx, e_slc, e_rev, e_cal, e_new, e_mth, e_app, e_att, e_len, e_blt1, e_lenE, e_blt2, e_smt, e_pop, e_pop0, e_isi, a_one, a_more, o_one, o_more, k_nil, k_cons, l_nil, l_io, l_cons, io_lst, i_nil, i_io, i_cons, out_ok, out_ok1, out_exn, mthR_ins, new_exn, hasM_ins, x_skip, x_seq, x_exp, x_asg, x_sat, sat_obj, x_apd, isLst_lst, x_ite, x_whl, x_for, t_rng, t_it, rng_some, x_ret, r_nil, r_var, r_e, ret_int, ret_str, ret_bl, ret_non, ret_tup, ret_ins, ret_lst, ret_lstF, x_rai, x_try, x_brk, x_cnt, h_ret, h_inc, h_nil, inc_int, conD_bl, conD_int, conD_str, conD_non, lift_ok, b_int, b_add, b_sub, b_mul, b_fdiv, b_mod, cr_ok, cr_exn, i_add, i_sub, n_int, n_ins, not_bl, eqO_ok, neO_ok, c_eq_ins, c_eq_int, c_eq_str, c_eq_bl, c_ne_ins, c_ne_int, c_ne_str, c_ne_bl, c_lt, c_le, c_gt, c_ge, c_is_bl, c_isn_bl, c_is_non, c_isn_non, c_in, c_notin, fz_int, fz_str, fz_bl, fz_scr, fz_nil, fz_tup, fz_ins, fz_lst, fz_lstF, zs_nil, zs_cons, len_lst, len_tup, len_scr, s_ins, s_str, strO_ok, strO_exn, s_abs, items_lst, items_tup, isi_int, isi_bl, isi_str, isi_non, isi_tup, isi_lst, isi_ins, fin_ret, fin_nxt, fin_exn, fin_ret0, fin_nxt0, wN_nxt, wN_cnt, put_nam, wT_ok, callR_eq, eq_self, beq_self_eq_true, Res.bind, Res.bindS, Rs.bind, tst, Rs.lift, reduceCtorEq, ne_eq, not_false_eq_true, implies_true, ite_true, ite_false, Bool.false_eq_true, decide_true, decide_false, Bool.not_true, Bool.not_false, List.length_cons, List.length_nil, List.cons_append, List.nil_append, reduceIte, start0, List.map_cons, List.map_nil, List.any_cons, List.any_nil, tyD, Bool.or_true, Bool.or_false, Bool.true_or, Bool.false_or, Nat.reduceAdd, Nat.reduceSub, List.drop_succ_cons, List.drop_nil, List.drop_zero, List.replicate_succ, List.replicate_zero, List.append_nil, Option.map_none, Option.map_some, isNon, isStr, Option.isSome_some, Option.isSome_none, forall_const, false_or, or_false, or_true, true_or, not_true_eq_false, and_self, and_true, true_and, q0, q1, q2, q3, q4, ip, ← ea, ← eb, nx, ny, res_n hS, res_p hS, md, mra, mrb, ← eA, ← eB, sx, sA, isz, hS2.h11, hS2.h12, hS2.h13, hSP.h14, oadd, osub, omul, oneg, exy, exa, nr, exr, x_for, rg, tl, pk, za', zp', nq, n1, Rat.intCast_one, mq, mr, items_lst, vl, f1, f2, f3, Bool.true_and, dv]
  · have za' := decide_eq_false za
    have inv := res_inv hW hS hS2 (n + 5) p A hp (by omega) hA.2
    have iv := ivz_ok hp (show 0 < A by omega) hA.2
    have e6 : (ivz p A * a) % p = 1 := by rw [← iv, eA, emm']
    have ov := res_over hW hS hS2 (n + 4) p B A hp hB (by omega) hA.2
    have om := res_mul hW hS (n + 5) p ((B * ivz p A) % p) A hp (mod_pos hp)
    have e7 : ((B * ivz p A) % p * A) % p = B := by
      rw [emm, Int.mul_assoc, ← emm', iv, Int.mul_one, mod_id hB]
    rw [e7] at om
    have eyy := res_eq hS (n + 8) p B p B
    have pm := res_pow hW hS hS2 hSP (n + 4) p A hp hA (-k) (by omega) (.inr za)
    obtain ⟨v, ev⟩ : ∃ v, v = (if -k < 0 then ivz p A else A) := ⟨_, rfl⟩
    have ekn : (-k).natAbs = k.toNat := by omega
    rw [← ev, ekn] at pm
    have opp := res_mul hW hS (n + 5) p (v ^ k.toNat % p) (t % p) hp (mod_pos hp)
    have e8 : (v ^ k.toNat % p * (t % p)) % p = 1 % p := by
      rw [← e5, ← Int.mul_emod]
      by_cases z : -k < 0
      · rw [if_pos z] at ev
        rw [ev, ← Int.mul_pow, ← pow_em, iv, Int.one_pow]
      · have : k.toNat = 0 := by omega
        rw [this, Int.pow_zero, Int.pow_zero, Int.mul_one]
    rw [e8] at opp
    have n11 := res_new hW hS (n + 6) p 1 hp
    have e11 := res_eq hS (n + 8) p (1 % p) p (1 % p)
    rcases zp with ⟨zp, zq⟩ | ⟨zp, zq⟩
    · have zp' := decide_eq_true zp
      subst zq
      simp only [f_law, c_law, rd0, rn0, st0, rd1, rn1, st1, rd2, rn2, st2, rd3, rn3, st3, rd4, rn4, st4, rd5, rn5, st5, rd6, rn6, st6, rd7, rn7, st7, rd8, rn8, st8, rd9, rn9, st9, rd10, rn10, st10, rd11, rn11, st11, rd12, rn12, st12, rd13, rn13, st13, rd14, rn14, st14, rd15, rn15, st15, rd16, rn16, st16, rd17, rn17, st17, rd18, rn18, st18, rd19, rn19, st19, rd20, rn20, st20, rd21, rn21, st21, rd22, rn22, st22, rd23, rn23, st23, rd24, rn24, st24, rd25, rn25, st25, e_int, e_str, e_bl, e_non, e_var, v_int, v_str, v_bl, v_non, v_tup, v_ins, v_scr, v_lst, v_lstF, e_tup, e_lst, e_neg, e_bin, e_not, e_ands, e_ors, e_cmp, e_chn, e_ite, e_idxv, e_idx, e_slc, e_rev, e_cal, e_new, e_mth, e_app, e_att, e_len, e_blt1, e_lenE, e_blt2, e_smt, e_pop, e_pop0, e_isi, a_one, a_more, o_one, o_more, k_nil, k_cons, l_nil, l_io, l_cons, io_lst, i_nil, i_io, i_cons, out_ok, out_ok1, out_exn, mthR_ins, new_exn, hasM_ins, x_skip, x_seq, x_exp, x_asg, x_sat, sat_obj, x_apd, isLst_lst, x_ite, x_whl, x_for, t_rng, t_it, rng_some, x_ret, r_nil, r_var, r_e, ret_int, ret_str, ret_bl, ret_non, ret_tup, ret_ins, ret_lst, ret_lstF, x_rai, x_try, x_brk, x_cnt, h_ret, h_inc, h_nil, inc_int, conD_bl, conD_int, conD_str, conD_non, lift_ok, b_int, b_add, b_sub, b_mul, b_fdiv, b_mod, cr_ok, cr_exn, i_add, i_sub, n_int, n_ins, not_bl, eqO_ok, neO_ok, c_eq_ins, c_eq_int, c_eq_str, c_eq_bl, c_ne_ins, c_ne_int, c_ne_str, c_ne_bl, c_lt, c_le, c_gt, c_ge, c_is_bl, c_isn_bl, c_is_non, c_isn_non, c_in, c_notin, fz_int, fz_str, fz_bl, fz_scr, fz_nil, fz_tup, fz_ins, fz_lst, fz_lstF, zs_nil, zs_cons, len_lst, len_tup, len_scr, s_ins, s_str, strO_ok, strO_exn, s_abs, items_lst, items_tup, isi_int, isi_bl, isi_str, isi_non, isi_tup, isi_lst, isi_ins, fin_ret, fin_nxt, fin_exn, fin_ret0, fin_nxt0, wN_nxt, wN_cnt, put_nam, wT_ok, callR_eq, eq_self, beq_self_eq_true, Res.bind, Res.bindS, Rs.bind, tst, Rs.lift, reduceCtorEq, ne_eq, not_false_eq_true, implies_true, ite_true, ite_false, Bool.false_eq_true, decide_true, decide_false, Bool.not_true, Bool.not_false, List.length_cons, List.length_nil, List.cons_append, List.nil_append, reduceIte, start0, List.map_cons, List.map_nil, List.any_cons, List.any_nil, tyD, Bool.or_true, Bool.or_false, Bool.true_or, Bool.false_or, Nat.reduceAdd, Nat.reduceSub, List.drop_succ_cons, List.drop_nil, List.drop_zero, List.replicate_succ, List.replicate_zero, List.append_nil, Option.map_none, Option.map_some, isNon, isStr, Option.isSome_some, Option.isSome_none, forall_const, false_or, or_false, or_true, true_or, not_true_eq_false, and_self, and_true, true_and, q0, q1, q2, q3, q4, ip, ← ea, ← eb, nx, ny, res_n hS, res_p hS, md, mra, mrb, ← eA, ← eB, sx, sA, isz, hS2.h11, hS2.h12, hS2.h13, hSP.h14, oadd, osub, omul, oneg, exy, exa, nr, exr, x_for, rg, tl, pk, za', zp', nq, n1, Rat.intCast_one, mq, mr, items_lst, vl, f1, f2, f3, Bool.true_and, inv, e6, ov, om, eyy, pm, opp, n11, e11]
    · have zp' := decide_eq_false zp
      subst zq
      simp only [f_law, c_law, rd0, rn0, st0, rd1, rn1, st1, rd2, rn2, st2, rd3, rn3, st3, rd4, rn4, st4, rd5, rn5, st5, rd6, rn6, st6, rd7, rn7, st7, rd8, rn8, st8, rd9, rn9, st9, rd10, rn10, st10, rd11, rn11, st11, rd12, rn12, st12, rd13, rn13, st13, rd14, rn14, st14, rd15, rn15, st15, rd16, rn16, st16, rd17, rn17, st17, rd18, rn18, st18, rd19, rn19, st19, rd20, rn20, st20, rd21, rn21, st21, rd22, rn22, st22, rd23, rn23, st23, rd24, rn24, st24, rd25, rn25, st25, e_int, e_str, e_bl, e_non, e_var, v_int, v_str, v_bl, v_non, v_tup, v_ins, v_scr, v_lst, v_lstF, e_tup, e_lst, e_neg, e_bin, e_not, e_ands, e_ors, e_cmp, e_chn, e_ite, e_idxv, e_idx, e_slc, e_rev, e_cal, e_new, e_mth, e_app, e_att, e_len, e_blt1, e_lenE, e_blt2, e_smt, e_pop, e_pop0, e_isi, a_one, a_more, o_one, o_more, k_nil, k_cons, l_nil, l_io, l_cons, io_lst, i_nil, i_io, i_cons, out_ok, out_ok1, out_exn, mthR_ins, new_exn, hasM_ins, x_skip, x_seq, x_exp, x_asg, x_sat, sat_obj, x_apd, isLst_lst, x_ite, x_whl, x_for, t_rng, t_it, rng_some, x_ret, r_nil, r_var, r_e, ret_int, ret_str, ret_bl, ret_non, ret_tup, ret_ins, ret_lst, ret_lstF, x_rai, x_try, x_brk, x_cnt, h_ret, h_inc, h_nil, inc_int, conD_bl, conD_int, conD_str, conD_non, lift_ok, b_int, b_add, b_sub, b_mul, b_fdiv, b_mod, cr_ok, cr_exn, i_add, i_sub, n_int, n_ins, not_bl, eqO_ok, neO_ok, c_eq_ins, c_eq_int, c_eq_str, c_eq_bl, c_ne_ins, c_ne_int, c_ne_str, c_ne_bl, c_lt, c_le, c_gt, c_ge, c_is_bl, c_isn_bl, c_is_non, c_isn_non, c_in, c_notin, fz_int, fz_str, fz_bl, fz_scr, fz_nil, fz_tup, fz_ins, fz_lst, fz_lstF, zs_nil, zs_cons, len_lst, len_tup, len_scr, s_ins, s_str, strO_ok, strO_exn, s_abs, items_lst, items_tup, isi_int, isi_bl, isi_str, isi_non, isi_tup, isi_lst, isi_ins, fin_ret, fin_nxt, fin_exn, fin_ret0, fin_nxt0, wN_nxt, wN_cnt, put_nam, wT_ok, callR_eq, eq_self, beq_self_eq_true, Res.bind, Res.bindS, Rs.bind, tst, Rs.lift, reduceCtorEq, ne_eq, not_false_eq_true, implies_true, ite_true, ite_false, Bool.false_eq_true, decide_true, decide_false, Bool.not_true, Bool.not_false, List.length_cons, List.length_nil, List.cons_append, List.nil_append, reduceIte, start0, List.map_cons, List.map_nil, List.any_cons, List.any_nil, tyD, Bool.or_true, Bool.or_false, Bool.true_or, Bool.false_or, Nat.reduceAdd, Nat.reduceSub, List.drop_succ_cons, List.drop_nil, List.drop_zero, List.replicate_succ, List.replicate_zero, List.append_nil, Option.map_none, Option.map_some, isNon, isStr, Option.isSome_some, Option.isSome_none, forall_const, false_or, or_false, or_true, true_or, not_true_eq_false, and_self, and_true, true_and, q0, q1, q2, q3, q4, ip, ← ea, ← eb, nx, ny, res_n hS, res_p hS, md, mra, mrb, ← eA, ← eB, sx, sA, isz, hS2.h11, hS2.h12, hS2.h13, hSP.h14, oadd, osub, omul, oneg, exy, exa, nr, exr, x_for, rg, tl, pk, za', zp', nq, n1, Rat.intCast_one, mq, mr, items_lst, vl, f1, f2, f3, Bool.true_and, inv, e6, ov, om, eyy, pm, opp, n11, e11]
end Z
open PySem PySem.W PyProof.Rows
theorem PySem.Challenge.cw_similarforms_k01_residues_holds : PySem.Challenge.rw_similarforms_k01_residues.Holds := by
  exact Z.fin fun ns h => Z.law_ok 11 ns h
