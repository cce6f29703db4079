import PyProof.Rows.All
import Wide.All
import OpenK.AllK
import Wide.FinOn
import HandS.ForMost
import HandS.Style
import HandS.TupAny
import HandS.IsInst
import HandS.StrMore
import HandS.Conv
import HandS.Defaults
import KE.GoesMore
import HandS.Head0
import HandS.Head1
import HandS.Head2
import HandS.HeadEnd
import HandS.HeadHook1
import HandS.HeadHook2
import PySem.Challenge.RW_outlived_k05_lines_of_a_text
set_option Elab.async false
set_option linter.all false
set_option maxRecDepth 100000
set_option maxHeartbeats 0
/-! A layer over HandS: tuples and lists that nobody changes any more are plain data; lists that are still changed and instances stand in a map by address. -/
namespace DL
open PySem L2

/-- data: rdl: a list of ints that is only read (the script) -/
inductive D where
  | non | bl (b : Bool) | int (i : Int) | str (x : Str) | obj (a : Addr) | rdl (ns : List Int)
  | tup (ds : List D) | lst (ds : List D)
instance : Inhabited D := ⟨.non⟩

section
variable (K : PySem.W.Frag)
mutual
def Rep (F : Hp) : D → V → Prop
  | .non, v => v = .non
  | .bl b, v => v = .bl b
  | .int i, v => v = .int i
  | .str x, v => v = .str x
  | .obj a, v => v = .ref a
  | .rdl ns, v => ∃ a, v = .ref a ∧ SqL K F a (ns.map V.int)
  | .tup ds, v => ∃ a vs, v = .ref a ∧ SqT K F a vs ∧ Reps F ds vs
  | .lst ds, v => ∃ a vs, v = .ref a ∧ F a = some (.lst vs) ∧ Reps F ds vs
def Reps (F : Hp) : List D → List V → Prop
  | [], [] => True
  | d :: ds, v :: vs => Rep F d v ∧ Reps F ds vs
  | _, _ => False
end
/-- names and data -/
def FReps (F : Hp) : List (Str × D) → List (Str × V) → Prop
  | [], [] => True
  | p :: fs, q :: gs => p.1 = q.1 ∧ Rep K F p.2 q.2 ∧ FReps F fs gs
  | _, _ => False
abbrev DS := List (Option D)
def SRep (F : Hp) : DS → St → Prop
  | [], [] => True
  | none :: r, _ :: s => SRep F r s
  | some d :: r, some v :: s => Rep K F d v ∧ SRep F r s
  | _, _ => False
end

/-- what may change -/
inductive MO where
  | lst (ds : List D) | ins (C : Addr) (fs : List (Str × D))
abbrev Mp := Addr → Option MO
def updM (M : Mp) (a : Addr) (o : MO) : Mp := fun b => if b = a then some o else M b
theorem updM_same {M : Mp} {a : Addr} {o : MO} : updM M a o a = some o := by unfold updM; rw [if_pos rfl]
theorem updM_ne {M : Mp} {a b : Addr} {o : MO} (h : b ≠ a) : updM M a o b = M b := by unfold updM; rw [if_neg h]
theorem updM_updM {M : Mp} {a : Addr} {o u : MO} : updM (updM M a o) a u = updM M a u := by
  funext b; unfold updM; split <;> rfl
theorem updM_comm {M : Mp} {a b : Addr} {o u : MO} (h : a ≠ b) : updM (updM M a o) b u = updM (updM M b u) a o := by
  funext c; unfold updM
  by_cases h1 : c = b
  · subst h1; rw [if_pos rfl, if_neg (Ne.symm h), if_pos rfl]
  · rw [if_neg h1, if_neg h1]
theorem updM_self {M : Mp} {a : Addr} {o : MO} (h : M a = some o) : updM M a o = M := by
  funext b; unfold updM; split
  · rename_i e; rw [e, h]
  · rfl
theorem neM {M : Mp} {a b : Addr} {o : MO} (h : M a = some o) (h' : M b = none) : a ≠ b := by
  intro e; subst e; rw [h] at h'; cases h'

def MRep (K : PySem.W.Frag) (F H : Hp) (a : Addr) : MO → Prop
  | .lst ds => ∃ vs, H a = some (.lst vs) ∧ Reps K F ds vs
  | .ins C fs => ∃ dx gs, H a = some (.ins C dx gs) ∧ F dx = some (.own a) ∧ FReps K F fs gs
/-- M and the frozen part F lie apart within H -/
structure R (K : PySem.W.Frag) (M : Mp) (F H : Hp) : Prop where
  fr : Same F H
  ap : ∀ a mo, M a = some mo → F a = none
  mem : ∀ a mo, M a = some mo → MRep K F H a mo

section
variable {K : PySem.W.Frag} {F F' H H' : Hp} {M : Mp}
theorem sqT_mono (e : Same F F') {a : Addr} {xs : List V} (h : SqT K F a xs) : SqT K F' a xs := by
  rcases h with (h | ⟨o, h⟩) | h
  · exact .inl (.inl (e _ _ h))
  · exact .inl (.inr ⟨o, e _ _ h⟩)
  · exact .inr h
mutual
theorem Rep.mono (e : Same F F') : ∀ {d : D} {v : V}, Rep K F d v → Rep K F' d v
  | .non, _, h => h
  | .bl _, _, h => h
  | .int _, _, h => h
  | .str _, _, h => h
  | .obj _, _, h => h
  | .rdl _, _, h => by
    unfold Rep at h ⊢
    obtain ⟨a, h1, h2⟩ := h
    exact ⟨a, h1, e.seq h2⟩
  | .tup ds, _, h => by
    unfold Rep at h ⊢
    obtain ⟨a, vs, h1, h2, h3⟩ := h
    exact ⟨a, vs, h1, sqT_mono e h2, Reps.mono e h3⟩
  | .lst ds, _, h => by
    unfold Rep at h ⊢
    obtain ⟨a, vs, h1, h2, h3⟩ := h
    exact ⟨a, vs, h1, e _ _ h2, Reps.mono e h3⟩
theorem Reps.mono (e : Same F F') : ∀ {ds : List D} {vs : List V}, Reps K F ds vs → Reps K F' ds vs
  | [], [], _ => by unfold Reps; trivial
  | [], _ :: _, h => by unfold Reps at h; exact h.elim
  | _ :: _, [], h => by unfold Reps at h; exact h.elim
  | d :: ds, v :: vs, h => by
    unfold Reps at h ⊢
    exact ⟨Rep.mono e h.1, Reps.mono e h.2⟩
end
theorem FReps.mono (e : Same F F') : ∀ {fs : List (Str × D)} {gs : List (Str × V)}, FReps K F fs gs → FReps K F' fs gs
  | [], [], _ => trivial
  | [], _ :: _, h => h.elim
  | _ :: _, [], h => h.elim
  | _ :: _, _ :: _, h => ⟨h.1, h.2.1.mono e, h.2.2.mono e⟩
theorem SRep.mono (e : Same F F') : ∀ {σd : DS} {σ : St}, SRep K F σd σ → SRep K F' σd σ
  | [], [], _ => trivial
  | [], _ :: _, h => h.elim
  | none :: _, [], h => h.elim
  | some _ :: _, [], h => h.elim
  | none :: r, _ :: s, h => SRep.mono e (σd := r) (σ := s) h
  | some _ :: _, none :: _, h => h.elim
  | some _ :: _, some _ :: _, h => ⟨h.1.mono e, SRep.mono e h.2⟩
theorem Reps.length : ∀ {ds : List D} {vs : List V}, Reps K F ds vs → ds.length = vs.length
  | [], [], _ => rfl
  | [], _ :: _, h => by unfold Reps at h; exact h.elim
  | _ :: _, [], h => by unfold Reps at h; exact h.elim
  | d :: ds, v :: vs, h => by
    unfold Reps at h
    simp [Reps.length h.2]
theorem Reps.get : ∀ {ds : List D} {vs : List V}, Reps K F ds vs → ∀ {i : Nat} {v : V}, vs[i]? = some v → ∃ d, ds[i]? = some d ∧ Rep K F d v
  | [], [], _, i, v, e => by simp at e
  | [], _ :: _, h, _, _, _ => by unfold Reps at h; exact h.elim
  | _ :: _, [], h, _, _, _ => by unfold Reps at h; exact h.elim
  | d :: ds, v :: vs, h, 0, _, e => by
    unfold Reps at h
    simp at e; subst e
    exact ⟨d, by simp, h.1⟩
  | d :: ds, v :: vs, h, i + 1, _, e => by
    unfold Reps at h
    obtain ⟨d', h1, h2⟩ := Reps.get h.2 (i := i) (by simpa using e)
    exact ⟨d', by simpa using h1, h2⟩
theorem Reps.getD : ∀ {ds : List D} {vs : List V}, Reps K F ds vs → ∀ {i : Nat} {d : D}, ds[i]? = some d → ∃ v, vs[i]? = some v ∧ Rep K F d v
  | [], [], _, i, v, e => by simp at e
  | [], _ :: _, h, _, _, _ => by unfold Reps at h; exact h.elim
  | _ :: _, [], h, _, _, _ => by unfold Reps at h; exact h.elim
  | d :: ds, v :: vs, h, 0, _, e => by
    unfold Reps at h
    simp at e; subst e
    exact ⟨v, by simp, h.1⟩
  | d :: ds, v :: vs, h, i + 1, _, e => by
    unfold Reps at h
    obtain ⟨d', h1, h2⟩ := Reps.getD h.2 (i := i) (by simpa using e)
    exact ⟨d', by simpa using h1, h2⟩
theorem Reps.nil : Reps K F [] [] := by unfold Reps; trivial
theorem Reps.cons {d : D} {v : V} {ds : List D} {vs : List V} (h : Rep K F d v) (t : Reps K F ds vs) : Reps K F (d :: ds) (v :: vs) := by unfold Reps; exact ⟨h, t⟩
theorem Reps.cons_inv {v : V} {ds : List D} {vs : List V} (h : Reps K F ds (v :: vs)) : ∃ d ds', ds = d :: ds' ∧ Rep K F d v ∧ Reps K F ds' vs := by
  cases ds with
  | nil => unfold Reps at h; exact h.elim
  | cons d ds => unfold Reps at h; exact ⟨d, ds, rfl, h⟩
theorem Reps.consD_inv {d : D} {ds : List D} {vs : List V} (h : Reps K F (d :: ds) vs) : ∃ v vs', vs = v :: vs' ∧ Rep K F d v ∧ Reps K F ds vs' := by
  cases vs with
  | nil => unfold Reps at h; exact h.elim
  | cons v vs => unfold Reps at h; exact ⟨v, vs, rfl, h⟩
theorem Reps.nil_inv {vs : List V} (h : Reps K F [] vs) : vs = [] := by
  cases vs with
  | nil => rfl
  | cons v vs => unfold Reps at h; exact h.elim
theorem Reps.nilV_inv {ds : List D} (h : Reps K F ds []) : ds = [] := by
  cases ds with
  | nil => rfl
  | cons v vs => unfold Reps at h; exact h.elim
theorem Reps.append : ∀ {ds es : List D} {vs us : List V}, Reps K F ds vs → Reps K F es us → Reps K F (ds ++ es) (vs ++ us)
  | [], _, vs, _, h, t => by rw [h.nil_inv]; exact t
  | d :: ds, _, vs, _, h, t => by
    obtain ⟨v, vs', rfl, h1, h2⟩ := h.consD_inv
    exact .cons h1 (Reps.append h2 t)
theorem Reps.reverse : ∀ {ds : List D} {vs : List V}, Reps K F ds vs → Reps K F ds.reverse vs.reverse
  | [], vs, h => by rw [h.nil_inv]; exact .nil
  | d :: ds, vs, h => by
    obtain ⟨v, vs', rfl, h1, h2⟩ := h.consD_inv
    rw [List.reverse_cons, List.reverse_cons]
    exact (Reps.reverse h2).append (.cons h1 .nil)
theorem Reps.take : ∀ (n : Nat) {ds : List D} {vs : List V}, Reps K F ds vs → Reps K F (ds.take n) (vs.take n)
  | 0, _, _, _ => by simp; exact .nil
  | n + 1, [], vs, h => by rw [h.nil_inv]; simp; exact .nil
  | n + 1, d :: ds, vs, h => by
    obtain ⟨v, vs', rfl, h1, h2⟩ := h.consD_inv
    simp only [List.take_succ_cons]
    exact .cons h1 (Reps.take n h2)
theorem Reps.drop : ∀ (n : Nat) {ds : List D} {vs : List V}, Reps K F ds vs → Reps K F (ds.drop n) (vs.drop n)
  | 0, _, _, h => by simpa using h
  | n + 1, [], vs, h => by rw [h.nil_inv]; simp; exact .nil
  | n + 1, d :: ds, vs, h => by
    obtain ⟨v, vs', rfl, h1, h2⟩ := h.consD_inv
    simp only [List.drop_succ_cons]
    exact Reps.drop n h2
theorem Reps.dropLast {ds : List D} {vs : List V} (h : Reps K F ds vs) : Reps K F ds.dropLast vs.dropLast := by
  rw [List.dropLast_eq_take, List.dropLast_eq_take, h.length]
  exact h.take _
theorem Reps.set : ∀ {ds : List D} {vs : List V} (i : Nat) {d : D} {v : V}, Reps K F ds vs → Rep K F d v → Reps K F (ds.set i d) (vs.set i v)
  | [], vs, i, _, _, h, _ => by rw [h.nil_inv]; simp; exact .nil
  | d :: ds, vs, 0, _, _, h, t => by
    obtain ⟨v, vs', rfl, h1, h2⟩ := h.consD_inv
    simp only [List.set_cons_zero]
    exact .cons t h2
  | d :: ds, vs, i + 1, _, _, h, t => by
    obtain ⟨v, vs', rfl, h1, h2⟩ := h.consD_inv
    simp only [List.set_cons_succ]
    exact .cons h1 (Reps.set i h2 t)
theorem Reps.ints : ∀ {ns : List Int} , Reps K F (ns.map D.int) (ns.map V.int)
  | [] => .nil
  | n :: ns => .cons (by unfold Rep; rfl) (Reps.ints (ns := ns))
theorem Reps.strs : ∀ {ns : List Str} , Reps K F (ns.map D.str) (ns.map V.str)
  | [] => .nil
  | n :: ns => .cons (by unfold Rep; rfl) (Reps.strs (ns := ns))
theorem Reps.strs_inv : ∀ {ns : List Str} {vs : List V}, Reps K F (ns.map D.str) vs → vs = ns.map V.str
  | [], vs, h => h.nil_inv
  | n :: ns, vs, h => by
    obtain ⟨v, vs', rfl, h1, h2⟩ := Reps.consD_inv h
    unfold Rep at h1
    rw [h1, Reps.strs_inv h2] <;> rfl
theorem FReps.lookup {f : Str} : ∀ {fs : List (Str × D)} {gs : List (Str × V)}, FReps K F fs gs → (∀ d, fs.lookup f = some d → ∃ v, gs.lookup f = some v ∧ Rep K F d v) ∧ (fs.lookup f = none → gs.lookup f = none)
  | [], [], _ => ⟨fun d e => by simp at e, fun _ => rfl⟩
  | [], _ :: _, h => h.elim
  | _ :: _, [], h => h.elim
  | (x, d) :: fs, (y, v) :: gs, h => by
    obtain ⟨e, h1, h2⟩ := h
    dsimp only at e h1
    subst e
    obtain ⟨i1, i2⟩ := FReps.lookup (f := f) h2
    constructor
    · intro d' e
      simp only [List.lookup_cons] at e ⊢
      cases q : (f == x) with
      | true => rw [q] at e; simp at e; subst e; exact ⟨v, by simp, h1⟩
      | false => rw [q] at e; simpa using i1 d' (by simpa using e)
    · intro e
      simp only [List.lookup_cons] at e ⊢
      cases q : (f == x) with
      | true => rw [q] at e; simp at e
      | false => rw [q] at e; simpa using i2 (by simpa using e)
def putD (f : Str) (v : D) : List (Str × D) → List (Str × D)
  | [] => [(f, v)]
  | (g, u) :: r => if g = f then (g, v) :: r else (g, u) :: putD f v r
theorem FReps.put {f : Str} {d : D} {v : V} (hv : Rep K F d v) : ∀ {fs : List (Str × D)} {gs : List (Str × V)}, FReps K F fs gs → FReps K F (putD f d fs) (putF f v gs)
  | [], [], _ => ⟨rfl, hv, trivial⟩
  | [], _ :: _, h => h.elim
  | _ :: _, [], h => h.elim
  | (x, d') :: fs, (y, v') :: gs, h => by
    obtain ⟨e, h1, h2⟩ := h
    dsimp only at e h1
    subst e
    unfold putD putF
    by_cases q : x = f
    · rw [if_pos q, if_pos q]
      exact ⟨rfl, hv, h2⟩
    · rw [if_neg q, if_neg q]
      exact ⟨rfl, h1, FReps.put hv h2⟩
theorem FReps.length : ∀ {fs : List (Str × D)} {gs : List (Str × V)}, FReps K F fs gs → fs.length = gs.length
  | [], [], _ => rfl
  | [], _ :: _, h => h.elim
  | _ :: _, [], h => h.elim
  | _ :: _, _ :: _, h => by simp [FReps.length h.2.2]
theorem SRep.length : ∀ {σd : DS} {σ : St}, SRep K F σd σ → σd.length = σ.length
  | [], [], _ => rfl
  | [], _ :: _, h => h.elim
  | none :: _, [], h => h.elim
  | some _ :: _, [], h => h.elim
  | none :: r, _ :: s, h => by simp [SRep.length (σd := r) (σ := s) h]
  | some _ :: _, none :: _, h => h.elim
  | some _ :: _, some _ :: _, h => by simp [SRep.length h.2]
theorem SRep.get : ∀ {σd : DS} {σ : St}, SRep K F σd σ → ∀ {i : Nat} {d : D}, σd[i]? = some (some d) → ∃ v, σ[i]? = some (some v) ∧ Rep K F d v
  | [], [], _, _, _, e => by simp at e
  | [], _ :: _, h, _, _, _ => h.elim
  | none :: _, [], h, _, _, _ => h.elim
  | some _ :: _, [], h, _, _, _ => h.elim
  | none :: _, _ :: _, h, 0, _, e => by simp at e
  | none :: r, _ :: s, h, i + 1, _, e => by
    obtain ⟨v, h1, h2⟩ := SRep.get (σd := r) (σ := s) h (i := i) (by simpa using e)
    exact ⟨v, by simpa using h1, h2⟩
  | some _ :: _, none :: _, h, _, _, _ => h.elim
  | some _ :: _, some v :: _, h, 0, _, e => by
    simp at e; subst e
    exact ⟨v, by simp, h.1⟩
  | some _ :: _, some _ :: _, h, i + 1, _, e => by
    obtain ⟨v, h1, h2⟩ := SRep.get h.2 (i := i) (by simpa using e)
    exact ⟨v, by simpa using h1, h2⟩
theorem SRep.set : ∀ {σd : DS} {σ : St} (i : Nat) {d : D} {v : V}, SRep K F σd σ → Rep K F d v → SRep K F (σd.set i (some d)) (σ.set i (some v))
  | [], [], _, _, _, _, _ => by simp; trivial
  | [], _ :: _, _, _, _, h, _ => h.elim
  | none :: _, [], _, _, _, h, _ => h.elim
  | some _ :: _, [], _, _, _, h, _ => h.elim
  | none :: r, _ :: s, 0, _, _, h, t => ⟨t, h⟩
  | none :: r, _ :: s, i + 1, _, _, h, t => SRep.set (σd := r) (σ := s) i h t
  | some _ :: _, none :: _, _, _, _, h, _ => h.elim
  | some _ :: _, some v :: _, 0, _, _, h, t => ⟨t, h.2⟩
  | some _ :: _, some v :: _, i + 1, _, _, h, t => ⟨h.1, SRep.set i h.2 t⟩
theorem SRep.forget : ∀ {σd : DS} {σ : St} (i : Nat), SRep K F σd σ → SRep K F (σd.set i none) (σ.set i none)
  | [], [], _, _ => by simp; trivial
  | [], _ :: _, _, h => h.elim
  | none :: _, [], _, h => h.elim
  | some _ :: _, [], _, h => h.elim
  | none :: r, _ :: s, 0, h => h
  | none :: r, _ :: s, i + 1, h => SRep.forget (σd := r) (σ := s) i h
  | some _ :: _, none :: _, _, h => h.elim
  | some _ :: _, some v :: _, 0, h => h.2
  | some _ :: _, some v :: _, i + 1, h => ⟨h.1, SRep.forget i h.2⟩
def wipeD (σ : DS) : List Nat → DS
  | [] => σ
  | v :: vs => (wipeD σ vs).set v none
theorem SRep.wipe {σd : DS} {σ : St} (h : SRep K F σd σ) : ∀ vs : List Nat, SRep K F (wipeD σd vs) (wipe σ vs)
  | [] => h
  | v :: vs => SRep.forget v (SRep.wipe h vs)
theorem SRep.nones : ∀ {n : Nat}, SRep K F (List.replicate n none) (List.replicate n none)
  | 0 => trivial
  | n + 1 => SRep.nones (n := n)
theorem SRep.start_app : ∀ {ds : List D} {vs : List V} {n : Nat}, Reps K F ds vs → SRep K F (ds.map some ++ List.replicate n none) (vs.map some ++ List.replicate n none)
  | [], vs, n, h => by rw [h.nil_inv]; exact SRep.nones
  | d :: ds, vs, n, h => by
    obtain ⟨v, vs', rfl, h1, h2⟩ := h.consD_inv
    exact ⟨h1, SRep.start_app h2⟩
/-- the slots at a def's beginning -/
def startD (N : List Str) (ds : List D) : DS := ds.map some ++ List.replicate (N.length - ds.length) none
theorem SRep.start {N : List Str} {ds : List D} {vs : List V} (h : Reps K F ds vs) : SRep K F (startD N ds) (start N vs) := by
  unfold startD L2.start
  rw [h.length]
  exact SRep.start_app h

/-! ### the heap -/
theorem R.free (r : R K M F H) {p : Addr} (h : H p = none) : M p = none := by
  cases e : M p with
  | none => rfl
  | some mo =>
    have q := r.mem p mo e
    cases mo with
    | lst ds => obtain ⟨vs, q, _⟩ := q; rw [h] at q; cases q
    | ins C fs => obtain ⟨dx, gs, q, _⟩ := q; rw [h] at q; cases q
theorem R.freeF (r : R K M F H) {p : Addr} (h : H p = none) : F p = none := r.fr.free h
theorem same_upd {F : Hp} {p : Addr} {o : HO} (h : F p = none) : Same F (upd F p o) := fun b u e => by
  rw [upd_ne (ne_of_none e h)]; exact e
theorem MRep.mono {a : Addr} {mo : MO} (eF : Same F F') (h : MRep K F H a mo) (eH : H' a = H a) : MRep K F' H' a mo := by
  cases mo with
  | lst ds => obtain ⟨vs, q, r⟩ := h; exact ⟨vs, eH.trans q, r.mono eF⟩
  | ins C fs => obtain ⟨dx, gs, q, r1, r⟩ := h; exact ⟨dx, gs, eH.trans q, eF _ _ r1, r.mono eF⟩
theorem MRep.there {a : Addr} {mo : MO} (h : MRep K F H a mo) : ∃ o, H a = some o := by
  cases mo with
  | lst ds => obtain ⟨vs, q, r⟩ := h; exact ⟨_, q⟩
  | ins C fs => obtain ⟨dx, gs, q, r1, r⟩ := h; exact ⟨_, q⟩
/-- a new object that stays as it is -/
theorem R.newF (r : R K M F H) {p : Addr} (hp : H p = none) (o : HO) : R K M (upd F p o) (upd H p o) where
  fr := fun b u e => by
    by_cases hb : b = p
    · subst hb; rw [upd_same] at e ⊢; exact e
    · rw [upd_ne hb] at e ⊢; exact r.fr b u e
  ap := fun a mo e => by
    rw [upd_ne (neM e (r.free hp))]
    exact r.ap a mo e
  mem := fun a mo e => (r.mem a mo e).mono (same_upd (r.freeF hp)) (upd_ne (neM e (r.free hp)))
/-- a new list that may change -/
theorem R.newM (r : R K M F H) {p : Addr} (hp : H p = none) {ds : List D} {vs : List V} (h : Reps K F ds vs) : R K (updM M p (.lst ds)) F (upd H p (.lst vs)) where
  fr := fun b u e => by rw [upd_ne (ne_of_none e (r.freeF hp))]; exact r.fr b u e
  ap := fun a mo e => by
    by_cases ha : a = p
    · subst ha; exact r.freeF hp
    · rw [updM_ne ha] at e; exact r.ap a mo e
  mem := fun a mo e => by
    by_cases ha : a = p
    · subst ha; rw [updM_same] at e; cases e
      exact ⟨vs, upd_same, h⟩
    · rw [updM_ne ha] at e
      exact (r.mem a mo e).mono (Same.refl F) (upd_ne ha)
/-- a list of M is written -/
theorem R.setM (r : R K M F H) {p : Addr} {mo : MO} (hp : M p = some mo) {ds : List D} {vs : List V} (h : Reps K F ds vs) : R K (updM M p (.lst ds)) F (upd H p (.lst vs)) where
  fr := fun b u e => by rw [upd_ne (ne_of_none e (r.ap p mo hp))]; exact r.fr b u e
  ap := fun a mo' e => by
    by_cases ha : a = p
    · subst ha; exact r.ap _ _ hp
    · rw [updM_ne ha] at e; exact r.ap a mo' e
  mem := fun a mo' e => by
    by_cases ha : a = p
    · subst ha; rw [updM_same] at e; cases e
      exact ⟨vs, upd_same, h⟩
    · rw [updM_ne ha] at e
      exact (r.mem a mo' e).mono (Same.refl F) (upd_ne ha)
theorem R.setI (r : R K M F H) {p : Addr} {mo : MO} (hp : M p = some mo) {C dx : Addr} {fs : List (Str × D)} {gs : List (Str × V)} (hd : F dx = some (.own p)) (h : FReps K F fs gs) : R K (updM M p (.ins C fs)) F (upd H p (.ins C dx gs)) where
  fr := fun b u e => by rw [upd_ne (ne_of_none e (r.ap p mo hp))]; exact r.fr b u e
  ap := fun a mo' e => by
    by_cases ha : a = p
    · subst ha; exact r.ap _ _ hp
    · rw [updM_ne ha] at e; exact r.ap a mo' e
  mem := fun a mo' e => by
    by_cases ha : a = p
    · subst ha; rw [updM_same] at e; cases e
      exact ⟨dx, gs, upd_same, hd, h⟩
    · rw [updM_ne ha] at e
      exact (r.mem a mo' e).mono (Same.refl F) (upd_ne ha)
/-- forgetting -/
theorem R.weak (r : R K M F H) {M' : Mp} (h : ∀ a mo, M' a = some mo → M a = some mo) : R K M' F H where
  fr := r.fr
  ap := fun a mo e => r.ap a mo (h a mo e)
  mem := fun a mo e => r.mem a mo (h a mo e)
/-- a new instance -/
theorem R.newI (r : R K M F H) {x dx C : Addr} (hx : H x = none) (hd : H dx = none) (ne : dx ≠ x) : R K (updM M x (.ins C [])) (upd F dx (.own x)) (upd (upd H dx (.own x)) x (.ins C dx [])) := by
  have r1 := r.newF hd (.own x)
  have hx1 : upd H dx (.own x) x = none := by rw [upd_ne ne.symm]; exact hx
  exact {
    fr := fun b u e => by rw [upd_ne (ne_of_none e (r1.freeF hx1))]; exact r1.fr b u e
    ap := fun a mo e => by
      by_cases ha : a = x
      · subst ha; exact r1.freeF hx1
      · rw [updM_ne ha] at e; exact r1.ap a mo e
    mem := fun a mo e => by
      by_cases ha : a = x
      · subst ha; rw [updM_same] at e; cases e
        exact ⟨dx, [], upd_same, upd_same, trivial⟩
      · rw [updM_ne ha] at e
        exact (r1.mem a mo e).mono (Same.refl _) (upd_ne ha) }
end
end DL
namespace DL
open PySem L2

/-! ### what is wanted -/
abbrev DK := D → Mp → Prop
abbrev DTE := DS → Mp → DK → Prop
abbrev DTT := DS → Mp → (Bool → Mp → Prop) → Prop
abbrev DTA := DS → Mp → (List D → Mp → Prop) → Prop
structure DEnds where
  nx : DS → Mp → Prop
  rt : DK
  bk : DS → Mp → Prop := fun _ _ => False
  ct : DS → Mp → Prop := fun _ _ => False
abbrev DTS := DEnds → DS → Mp → Prop
abbrev DTG := D → DS → Mp → (DS → Mp → Prop) → Prop
abbrev DTGs := List D → DS → Mp → (DS → Mp → Prop) → Prop
abbrev DR2 := D → D → Mp → DK → Prop
abbrev DR1 := D → Mp → DK → Prop
abbrev DRC := List D → Mp → DK → Prop
abbrev DRM := D → List D → Mp → DK → Prop

section
variable (K : PySem.W.Frag) (F0 : Hp)
def Fin (F : Hp) (Qd : DK) (Q : VK) : Prop := ∀ d M v H F', Qd d M → Same F F' → R K M F' H → Rep K F' d v → Q v H
def FinB (F : Hp) (Qd : Bool → Mp → Prop) (Q : Bool → Hp → Prop) : Prop := ∀ b M H F', Qd b M → Same F F' → R K M F' H → Q b H
def FinA (F : Hp) (Qd : List D → Mp → Prop) (Q : List V → Hp → Prop) : Prop := ∀ ds M vs H F', Qd ds M → Same F F' → R K M F' H → Reps K F' ds vs → Q vs H
def FinS (F : Hp) (Qd : DS → Mp → Prop) (Q : St → Hp → Prop) : Prop := ∀ σd M σ H F', Qd σd M → Same F F' → R K M F' H → SRep K F' σd σ → Q σ H
structure FinE (F : Hp) (Dd : DEnds) (D : Ends) : Prop where
  nx : FinS K F Dd.nx D.nx
  rt : Fin K F Dd.rt D.rt
  bk : FinS K F Dd.bk D.bk
  ct : FinS K F Dd.ct D.ct
def LE (τ : DTE) : TE := fun σ H Q => ∃ σd M F Qd, Same F0 F ∧ R K M F H ∧ SRep K F σd σ ∧ τ σd M Qd ∧ Fin K F Qd Q
def LT (τ : DTT) : TT := fun σ H Q => ∃ σd M F Qd, Same F0 F ∧ R K M F H ∧ SRep K F σd σ ∧ τ σd M Qd ∧ FinB K F Qd Q
def LA (τ : DTA) : TA := fun σ H Q => ∃ σd M F Qd, Same F0 F ∧ R K M F H ∧ SRep K F σd σ ∧ τ σd M Qd ∧ FinA K F Qd Q
def LS (τ : DTS) : TS := fun D σ H => ∃ σd M F Dd, Same F0 F ∧ R K M F H ∧ SRep K F σd σ ∧ τ Dd σd M ∧ FinE K F Dd D
def LG (τ : DTG) : TG := fun v σ H Q => ∃ d σd M F Qd, Same F0 F ∧ R K M F H ∧ Rep K F d v ∧ SRep K F σd σ ∧ τ d σd M Qd ∧ FinS K F Qd Q
def LGs (τ : DTGs) : TGs := fun vs σ H Q => ∃ ds σd M F Qd, Same F0 F ∧ R K M F H ∧ Reps K F ds vs ∧ SRep K F σd σ ∧ τ ds σd M Qd ∧ FinS K F Qd Q
def LR (r : DR2) : R2 := fun v u H Q => ∃ x y M F Qd, Same F0 F ∧ R K M F H ∧ Rep K F x v ∧ Rep K F y u ∧ r x y M Qd ∧ Fin K F Qd Q
def LR1 (r : DR1) : V → Hp → VK → Prop := fun v H Q => ∃ x M F Qd, Same F0 F ∧ R K M F H ∧ Rep K F x v ∧ r x M Qd ∧ Fin K F Qd Q
def LRC (r : DRC) : List V → Hp → VK → Prop := fun vs H Q => ∃ xs M F Qd, Same F0 F ∧ R K M F H ∧ Reps K F xs vs ∧ r xs M Qd ∧ Fin K F Qd Q
def LRM (r : DRM) : V → List V → Hp → VK → Prop := fun v vs H Q => ∃ x xs M F Qd, Same F0 F ∧ R K M F H ∧ Rep K F x v ∧ Reps K F xs vs ∧ r x xs M Qd ∧ Fin K F Qd Q
end
section
variable {K : PySem.W.Frag} {F F' : Hp}
theorem Fin.mono {Qd : DK} {Q : VK} (f : Fin K F Qd Q) (e : Same F F') : Fin K F' Qd Q := fun d M v H F2 q e2 => f d M v H F2 q (e.trans e2)
theorem FinB.mono {Qd : Bool → Mp → Prop} {Q : Bool → Hp → Prop} (f : FinB K F Qd Q) (e : Same F F') : FinB K F' Qd Q := fun d M H F2 q e2 => f d M H F2 q (e.trans e2)
theorem FinA.mono {Qd : List D → Mp → Prop} {Q : List V → Hp → Prop} (f : FinA K F Qd Q) (e : Same F F') : FinA K F' Qd Q := fun d M v H F2 q e2 => f d M v H F2 q (e.trans e2)
theorem FinS.mono {Qd : DS → Mp → Prop} {Q : St → Hp → Prop} (f : FinS K F Qd Q) (e : Same F F') : FinS K F' Qd Q := fun d M v H F2 q e2 => f d M v H F2 q (e.trans e2)
theorem FinE.mono {Dd : DEnds} {D : Ends} (f : FinE K F Dd D) (e : Same F F') : FinE K F' Dd D := ⟨f.nx.mono e, f.rt.mono e, f.bk.mono e, f.ct.mono e⟩
/-- the end is reached with a value at hand -/
theorem Fin.go {Qd : DK} {Q : VK} (f : Fin K F Qd Q) {d : D} {M : Mp} {v : V} {H : Hp} (q : Qd d M) (r : R K M F H) (h : Rep K F d v) : Q v H := f d M v H F q (Same.refl F) r h
end

section
variable {X : Cx} {F0 : Hp}
abbrev DE (X : Cx) (F0 : Hp) (e : Expr) (τ : DTE) : Prop := PE X e (LE X.K F0 τ)
abbrev DT (X : Cx) (F0 : Hp) (e : Expr) (τ : DTT) : Prop := PT X e (LT X.K F0 τ)
abbrev DW (X : Cx) (F0 : Hp) (e : Expr) (τ : DTT) : Prop := PW X e (LT X.K F0 τ)
abbrev DA (X : Cx) (F0 : Hp) (es : List Expr) (τ : DTA) : Prop := PA X es (LA X.K F0 τ)
abbrev DSt (X : Cx) (F0 : Hp) (st : Stmt) (τ : DTS) : Prop := PS X st (LS X.K F0 τ)
abbrev DSs (X : Cx) (F0 : Hp) (st : List Stmt) (τ : DTS) : Prop := PSs X st (LS X.K F0 τ)
abbrev DG (X : Cx) (F0 : Hp) (t : Expr) (τ : DTG) : Prop := PG X t (LG X.K F0 τ)
abbrev DGs (X : Cx) (F0 : Hp) (ts : List Expr) (τ : DTGs) : Prop := PGs X ts (LGs X.K F0 τ)
theorem PE_imp {e : Expr} {t t' : TE} (h : PE X e t) (i : ∀ σ H Q, t' σ H Q → t σ H Q) : PE X e t' := ⟨fun pins s σ H Q I q => h.run pins s σ H Q I (i σ H Q q)⟩
theorem PT_imp {e : Expr} {t t' : TT} (h : PT X e t) (i : ∀ σ H Q, t' σ H Q → t σ H Q) : PT X e t' := ⟨fun pins s σ H Q I q => h.run pins s σ H Q I (i σ H Q q)⟩
theorem PW_imp {e : Expr} {t t' : TT} (h : PW X e t) (i : ∀ σ H Q, t' σ H Q → t σ H Q) : PW X e t' := ⟨fun wh pins s σ H Q I q => h.run wh pins s σ H Q I (i σ H Q q)⟩
theorem PA_imp {es : List Expr} {t t' : TA} (h : PA X es t) (i : ∀ σ H Q, t' σ H Q → t σ H Q) : PA X es t' := ⟨fun pos pins s σ H Q I q => h.run pos pins s σ H Q I (i σ H Q q)⟩
theorem PS_imp {st : Stmt} {t t' : TS} (h : PS X st t) (i : ∀ D σ H, t' D σ H → t D σ H) : PS X st t' := ⟨fun pins s σ H D I q => h.run pins s σ H D I (i D σ H q)⟩
theorem PSs_imp {st : List Stmt} {t t' : TS} (h : PSs X st t) (i : ∀ D σ H, t' D σ H → t D σ H) : PSs X st t' := ⟨fun pins s σ H D I q => h.run pins s σ H D I (i D σ H q)⟩
theorem PG_imp {tg : Expr} {t t' : TG} (h : PG X tg t) (i : ∀ v σ H Q, t' v σ H Q → t v σ H Q) : PG X tg t' := ⟨fun pins s σ H v u Q I r q => h.run pins s σ H v u Q I r (i v σ H Q q)⟩
theorem PGs_imp {tg : List Expr} {t t' : TGs} (h : PGs X tg t) (i : ∀ v σ H Q, t' v σ H Q → t v σ H Q) : PGs X tg t' := ⟨fun pins s σ H v u Q I r q => h.run pins s σ H v u Q I r (i v σ H Q q)⟩
theorem OpR_imp {f : Value → Value → Sem Value} {r r' : R2} (h : OpR X f r) (i : ∀ x y H Q, r' x y H Q → r x y H Q) : OpR X f r' := fun pins s σ H x y v u Q I rx ry q => h pins s σ H x y v u Q I rx ry (i x y H Q q)
theorem CallR_imp {f : Value} {r r' : List V → Hp → VK → Prop} (h : CallR X f r) (i : ∀ x H Q, r' x H Q → r x H Q) : CallR X f r' := fun pins s σ H x us Q I rx q => h pins s σ H x us Q I rx (i x H Q q)
theorem MtR_imp {id : String} {r r' : V → List V → Hp → VK → Prop} (h : MtR X id r) (i : ∀ x xs H Q, r' x xs H Q → r x xs H Q) : MtR X id r' := fun pins s σ H x xs v us Q I rx rv q => h pins s σ H x xs v us Q I rx rv (i x xs H Q q)
theorem IxR_imp {r r' : R2} (h : IxR X r) (i : ∀ x y H Q, r' x y H Q → r x y H Q) : IxR X r' := fun va sl pins s σ H x y v u Q I rx ry q hs => h va sl pins s σ H x y v u Q I rx ry (i x y H Q q) hs
theorem UnR_imp {f : Value → Sem Value} {r r' : V → Hp → VK → Prop} (h : UnR X f r) (i : ∀ x H Q, r' x H Q → r x H Q) : UnR X f r' := fun pins s σ H x v Q I rx q => h pins s σ H x v Q I rx (i x H Q q)

/-! ### representations turned round -/
section
variable {K : PySem.W.Frag} {F H : Hp} {M : Mp} {v : V}
theorem rep_int {i : Int} : Rep K F (.int i) v ↔ v = .int i := by unfold Rep; rfl
theorem rep_str {i : Str} : Rep K F (.str i) v ↔ v = .str i := by unfold Rep; rfl
theorem rep_bl {i : Bool} : Rep K F (.bl i) v ↔ v = .bl i := by unfold Rep; rfl
theorem rep_non : Rep K F .non v ↔ v = .non := by unfold Rep; rfl
theorem rep_obj {a : Addr} : Rep K F (.obj a) v ↔ v = .ref a := by unfold Rep; rfl
theorem rep_tup {ds : List D} : Rep K F (.tup ds) v ↔ ∃ a vs, v = .ref a ∧ SqT K F a vs ∧ Reps K F ds vs := by unfold Rep; rfl
theorem rep_lst {ds : List D} : Rep K F (.lst ds) v ↔ ∃ a vs, v = .ref a ∧ F a = some (.lst vs) ∧ Reps K F ds vs := by unfold Rep; rfl
theorem rep_rdl {ns : List Int} : Rep K F (.rdl ns) v ↔ ∃ a, v = .ref a ∧ SqL K F a (ns.map V.int) := by unfold Rep; rfl
theorem sqL_up (r : R K M F H) {a : Addr} {xs : List V} (h : SqL K F a xs) : SqL K H a xs := r.fr.seq h
theorem sqT_up (r : R K M F H) {a : Addr} {xs : List V} (h : SqT K F a xs) : SqT K H a xs := sqT_mono r.fr h
/-- the items of a list, frozen or not -/
def lsD (M : Mp) : D → Option (List D)
  | .lst ds => some ds
  | .obj p => (match M p with
    | some (.lst ds) => some ds
    | _ => none)
  | _ => none
theorem lsD_obj {p : Addr} {ds : List D} : lsD M (.obj p) = some ds ↔ M p = some (.lst ds) := by
  unfold lsD
  dsimp only
  split
  · rename_i e; rw [e]; simp
  · rename_i e; constructor
    · intro q; cases q
    · intro q; exact (e ds q).elim
theorem lsD_rep (r : R K M F H) {x : D} {ds : List D} (h : Rep K F x v) (e : lsD M x = some ds) : ∃ a vs, v = .ref a ∧ H a = some (.lst vs) ∧ Reps K F ds vs := by
  cases x with
  | lst es =>
    cases e
    obtain ⟨a, vs, h1, h2, h3⟩ := rep_lst.mp h
    exact ⟨a, vs, h1, r.fr _ _ h2, h3⟩
  | obj p =>
    have q := lsD_obj.mp e
    obtain ⟨vs, h1, h2⟩ := r.mem p _ q
    exact ⟨p, vs, rep_obj.mp h, h1, h2⟩
  | _ => cases e
/-- .. a list that is only read, a tuple too -/
def sqD (M : Mp) : D → Option (List D)
  | .lst ds => some ds
  | .tup ds => some ds
  | .rdl ns => some (ns.map D.int)
  | .obj p => (match M p with
    | some (.lst ds) => some ds
    | _ => none)
  | _ => none
theorem sqD_rep (r : R K M F H) {x : D} {ds : List D} (h : Rep K F x v) (e : sqD M x = some ds) : ∃ a vs, v = .ref a ∧ (SqL K H a vs ∨ SqT K H a vs) ∧ Reps K F ds vs := by
  cases x with
  | lst es =>
    cases e
    obtain ⟨a, vs, h1, h2, h3⟩ := rep_lst.mp h
    exact ⟨a, vs, h1, .inl (SqL.of (r.fr _ _ h2)), h3⟩
  | tup es =>
    cases e
    obtain ⟨a, vs, h1, h2, h3⟩ := rep_tup.mp h
    exact ⟨a, vs, h1, .inr (sqT_up r h2), h3⟩
  | rdl ns =>
    cases e
    obtain ⟨a, h1, h2⟩ := rep_rdl.mp h
    exact ⟨a, _, h1, .inl (sqL_up r h2), Reps.ints⟩
  | obj p =>
    have q : M p = some (.lst ds) := by
      unfold sqD at e
      cases h : M p with
      | none => simp [h] at e
      | some mo => cases mo <;> simp [h] at e; rw [e]
    obtain ⟨vs, h1, h2⟩ := r.mem p _ q
    exact ⟨p, vs, rep_obj.mp h, .inl (SqL.of h1), h2⟩
  | _ => cases e
end

/-- a new list: one that may change (own), or one that stays -/
def dNew (own : Bool) (ds : List D) (M : Mp) (Q : DK) : Prop :=
  match own with
  | true => ∀ p, M p = none → Q (.obj p) (updM M p (.lst ds))
  | false => Q (.lst ds) M
theorem dNew_fin {K : PySem.W.Frag} {F H : Hp} {M : Mp} {own : Bool} {ds : List D} {vs : List V} {Qd : DK} {Q : VK} (r : R K M F H) (hv : Reps K F ds vs) (h : dNew own ds M Qd) (fin : Fin K F Qd Q) {p : Addr} (hp : H p = none) : Q (.ref p) (upd H p (.lst vs)) := by
  cases own with
  | true => exact fin _ _ _ _ F (h p (r.free hp)) (Same.refl F) (r.newM hp hv) (rep_obj.mpr rfl)
  | false =>
    have e := same_upd (o := HO.lst vs) (r.freeF hp)
    exact fin _ _ _ _ _ h e (r.newF hp _) (rep_lst.mpr ⟨p, vs, rfl, upd_same, hv.mono e⟩)
theorem tup_fin {K : PySem.W.Frag} {F H : Hp} {M : Mp} {ds : List D} {vs : List V} {Qd : DK} {Q : VK} (r : R K M F H) (hv : Reps K F ds vs) (h : Qd (.tup ds) M) (fin : Fin K F Qd Q) {p : Addr} (hp : H p = none) : Q (.ref p) (upd H p (.tup vs)) := by
  have e := same_upd (o := HO.tup vs) (r.freeF hp)
  exact fin _ _ _ _ _ h e (r.newF hp _) (rep_tup.mpr ⟨p, vs, rfl, SqT.of upd_same, hv.mono e⟩)

/-! ### names, constants -/
def dVar (i : Nat) : DTE := fun σ M Q => match σ[i]? with
  | some (some d) => Q d M
  | _ => False
def dC (d : D) : DTE := fun _ M Q => Q d M
theorem de_var {i : Nat} {x : Str} {pos : Pos} (h : PE X (.Name x pos) (tVar i)) : DE X F0 (.Name x pos) (dVar i) := PE_imp h fun σ H Q ⟨σd, M, F, Qd, hF, r, hS, h, fin⟩ => by
  unfold dVar at h
  split at h
  · rename_i d e
    obtain ⟨v, e1, e2⟩ := hS.get e
    exact ⟨v, e1, fin.go h r e2⟩
  · exact h.elim
theorem de_c {e : Expr} {v : V} {d : D} (h : PE X e (tC v)) (hd : ∀ K F, Rep K F d v) : DE X F0 e (dC d) := PE_imp h fun σ H Q ⟨σd, M, F, Qd, hF, r, hS, h, fin⟩ => fin.go h r (hd _ _)
theorem de_int {i j pos} : DE X F0 (.Constant (.int i) j pos) (dC (.int i)) := de_c pe_int fun _ _ => rep_int.mpr rfl
theorem de_bl {i j pos} : DE X F0 (.Constant (.bool i) j pos) (dC (.bl i)) := de_c pe_bl fun _ _ => rep_bl.mpr rfl
theorem de_str {i j pos} : DE X F0 (.Constant (.str i) j pos) (dC (.str i)) := de_c pe_str fun _ _ => rep_str.mpr rfl
theorem de_non {j pos} : DE X F0 (.Constant .none j pos) (dC .non) := de_c pe_non fun _ _ => rep_non.mpr rfl
/-- a tuple of the module -/
theorem de_gtup {x : Str} {pos : Pos} {a : Addr} {ds : List D} {vs : List V} (hg : Gl X x) (hm : X.mg x = some (.ref a)) (hq : ∀ H, SqT X.K H a vs) (hv : ∀ F, Reps X.K F ds vs) (hd : (x == ("__debug__" : Str)) = false := by decide) : DE X F0 (.Name x pos) (dC (.tup ds)) :=
  PE_imp (pe_glob (v := .ref a) hg hm rfl hd) fun σ H Q ⟨σd, M, F, Qd, hF, r, hS, h, fin⟩ => fin.go h r (rep_tup.mpr ⟨a, vs, rfl, hq F, hv F⟩)
theorem de_gstr {x : Str} {pos : Pos} {z : Str} {t : Tok} (hg : Gl X x) (hm : X.mg x = some (.str z t)) (hd : (x == ("__debug__" : Str)) = false := by decide) : DE X F0 (.Name x pos) (dC (.str z)) :=
  PE_imp (pe_glob (v := .str z) hg hm ⟨_, rfl⟩ hd) fun σ H Q ⟨σd, M, F, Qd, hF, r, hS, h, fin⟩ => fin.go h r (rep_str.mpr rfl)
theorem de_gint {x : Str} {pos : Pos} {z : Int} {t : Tok} (hg : Gl X x) (hm : X.mg x = some (.int z t)) (hd : (x == ("__debug__" : Str)) = false := by decide) : DE X F0 (.Name x pos) (dC (.int z)) :=
  PE_imp (pe_glob (v := .int z) hg hm ⟨_, rfl⟩ hd) fun σ H Q ⟨σd, M, F, Qd, hF, r, hS, h, fin⟩ => fin.go h r (rep_int.mpr rfl)

/-! ### operators -/
variable {a b c e : Expr} {ta tb tc te : DTE} {pos : Pos}
def dOp (r : DR2) (ta tb : DTE) : DTE := fun σ M Q => ta σ M fun x M1 => tb σ M1 fun y M2 => r x y M2 Q
def dUn (r : DR1) (ta : DTE) : DTE := fun σ M Q => ta σ M fun x M1 => r x M1 Q
theorem lift_op {K : PySem.W.Frag} {r : DR2} {σ : St} {H : Hp} {Q : VK} (h : LE K F0 (dOp r ta tb) σ H Q) : tOp (LR K F0 r) (LE K F0 ta) (LE K F0 tb) σ H Q := by
  obtain ⟨σd, M, F, Qd, hF, hR, hS, h, fin⟩ := h
  refine ⟨σd, M, F, _, hF, hR, hS, h, fun x M1 v H1 F1 h1 e1 r1 v1 => ?_⟩
  refine ⟨σd, M1, F1, _, hF.trans e1, r1, hS.mono e1, h1, fun y M2 w H2 F2 h2 e2 r2 w2 => ?_⟩
  exact ⟨x, y, M2, F2, Qd, (hF.trans e1).trans e2, r2, v1.mono e2, w2, h2, fin.mono (e1.trans e2)⟩
theorem de_op {op : Operator} {r : DR2} (ho : OpR X (binaryOp op) (LR X.K F0 r)) (ha : DE X F0 a ta) (hb : DE X F0 b tb) : DE X F0 (.BinOp a op b pos) (dOp r ta tb) :=
  PE_imp (pe_op ho ha hb) fun _ _ _ h => lift_op h
theorem de_un {op : UnaryOp} {r : DR1} (ho : UnR X (unaryOp op) (LR1 X.K F0 r)) (ha : DE X F0 a ta) : DE X F0 (.UnaryOp op a pos) (dUn r ta) :=
  PE_imp (pe_un ho ha) fun _ _ _ ⟨σd, M, F, Qd, hF, hR, hS, h, fin⟩ => ⟨σd, M, F, _, hF, hR, hS, h, fun x M1 v H1 F1 h1 e1 r1 v1 => ⟨x, M1, F1, Qd, hF.trans e1, r1, v1, h1, fin.mono e1⟩⟩

def dAdd (own : Bool) : DR2 := fun x y M Q => match x, y with
  | .int i, .int j => Q (.int (i + j)) M
  | .str a, .str b => a.length + b.length ≤ sizeLine ∧ Q (.str (a ++ b)) M
  | .tup a, .tup b => a.length + b.length ≤ sizeLine ∧ Q (.tup (a ++ b)) M
  | x, y => ∃ a b, lsD M x = some a ∧ lsD M y = some b ∧ a.length + b.length ≤ sizeLine ∧ dNew own (a ++ b) M Q
theorem od_add {own : Bool} : OpR X (binaryOp .Add) (LR X.K F0 (dAdd own)) := by
  refine OpR_imp (op_add.or (op_add_str.or (op_catA.or op_cat))) fun v u H Q ⟨x, y, M, F, Qd, hF, r, hx, hy, h, fin⟩ => ?_
  unfold dAdd at h
  split at h
  · exact .inl ⟨_, _, rep_int.mp hx, rep_int.mp hy, fin.go h r (rep_int.mpr rfl)⟩
  · exact .inr (.inl ⟨_, _, rep_str.mp hx, rep_str.mp hy, h.1, fin.go h.2 r (rep_str.mpr rfl)⟩)
  · rename_i as bs
    obtain ⟨p, vs, e1, h1, r1⟩ := rep_tup.mp hx
    obtain ⟨q, us, e2, h2, r2⟩ := rep_tup.mp hy
    refine .inr (.inr (.inl ⟨p, q, vs, us, e1, e2, sqT_up r h1, sqT_up r h2, by rw [← r1.length, ← r2.length]; exact h.1, fun ev => ?_, fun ev eu => ?_, fun ev eu p' hp' => tup_fin r (r1.append r2) h.2 fin hp'⟩))
    · subst ev
      have := r1.nilV_inv
      subst this
      exact fin.go h.2 r (rep_tup.mpr ⟨q, us, rfl, h2, r2⟩)
    · subst eu
      have := r2.nilV_inv
      subst this
      have h' := h.2
      rw [List.append_nil] at h'
      exact fin.go h' r (rep_tup.mpr ⟨p, vs, rfl, h1, r1⟩)
  · obtain ⟨as, bs, ea, eb, hz, h⟩ := h
    obtain ⟨p, vs, e1, h1, r1⟩ := lsD_rep r hx ea
    obtain ⟨q, us, e2, h2, r2⟩ := lsD_rep r hy eb
    exact .inr (.inr (.inr ⟨p, q, vs, us, e1, e2, h1, h2, by rw [← r1.length, ← r2.length]; exact hz, fun p' hp' => dNew_fin r (r1.append r2) h fin hp'⟩))
def dSub : DR2 := fun x y M Q => match x, y with
  | .int i, .int j => Q (.int (i - j)) M
  | _, _ => False
theorem od_sub : OpR X (binaryOp .Sub) (LR X.K F0 dSub) := by
  refine OpR_imp op_sub fun v u H Q ⟨x, y, M, F, Qd, hF, r, hx, hy, h, fin⟩ => ?_
  unfold dSub at h
  split at h
  · exact ⟨_, _, rep_int.mp hx, rep_int.mp hy, fin.go h r (rep_int.mpr rfl)⟩
  · exact h.elim
theorem op_mul_str : OpR X (binaryOp .Mult) (fun x y H Q => ∃ z n, x = .str z ∧ y = .int n ∧ MulOk z n ∧ Q (.str (Txt.mul z n)) H) := by
  intro pins s σ H x y v u Q I rx ry h
  obtain ⟨z, n, rfl, rfl, hm, q⟩ := h
  obtain ⟨t, rfl⟩ := rx
  obtain ⟨t', rfl⟩ := ry
  exact SB.mul hm fun t2 k => ⟨.str _, H, I.tok _, ⟨_, rfl⟩, q⟩
def dMul (own : Bool) : DR2 := fun x y M Q => match x, y with
  | .int i, .int j => CMul i j ∧ Q (.int (i * j)) M
  | .str a, .int n => MulOk a n ∧ Q (.str (Txt.mul a n)) M
  | x, .int k => ∃ a, lsD M x = some a ∧ -(2 ^ 63) ≤ k ∧ k < 2 ^ 63 ∧ a.length * k.toNat ≤ sizeLine ∧ dNew own (List.replicate k.toNat a).flatten M Q
  | _, _ => False
theorem Reps.rep {K : PySem.W.Frag} {F : Hp} {ds : List D} {vs : List V} (h : Reps K F ds vs) : ∀ k : Nat, Reps K F (List.replicate k ds).flatten (List.replicate k vs).flatten
  | 0 => .nil
  | k + 1 => by
    rw [List.replicate_succ, List.flatten_cons, List.replicate_succ, List.flatten_cons]
    exact h.append (Reps.rep h k)
theorem od_mul {own : Bool} : OpR X (binaryOp .Mult) (LR X.K F0 (dMul own)) := by
  refine OpR_imp (op_mul.or (op_mul_str.or op_rep)) fun v u H Q ⟨x, y, M, F, Qd, hF, r, hx, hy, h, fin⟩ => ?_
  unfold dMul at h
  split at h
  · exact .inl ⟨_, _, rep_int.mp hx, rep_int.mp hy, h.1, fin.go h.2 r (rep_int.mpr rfl)⟩
  · exact .inr (.inl ⟨_, _, rep_str.mp hx, rep_int.mp hy, h.1, fin.go h.2 r (rep_str.mpr rfl)⟩)
  · obtain ⟨as, ea, h1, h2, h3, h⟩ := h
    obtain ⟨p, vs, e1, q1, r1⟩ := lsD_rep r hx ea
    exact .inr (.inr ⟨p, _, vs, e1, rep_int.mp hy, q1, h1, h2, by rw [← r1.length]; exact h3, fun p' hp' => dNew_fin r (r1.rep _) h fin hp'⟩)
  · exact h.elim
def dDiv : DR2 := fun x y M Q => match x, y with
  | .int i, .int j => (0 < j ∧ j < 1073741824) ∧ Q (.int (i / j)) M
  | _, _ => False
theorem od_div : OpR X (binaryOp .FloorDiv) (LR X.K F0 dDiv) := by
  refine OpR_imp op_fdiv fun v u H Q ⟨x, y, M, F, Qd, hF, r, hx, hy, h, fin⟩ => ?_
  unfold dDiv at h
  split at h
  · exact ⟨_, _, rep_int.mp hx, rep_int.mp hy, h.1, fin.go h.2 r (rep_int.mpr rfl)⟩
  · exact h.elim
def dMod : DR2 := fun x y M Q => match x, y with
  | .int i, .int j => 0 < j ∧ Q (.int (i % j)) M
  | _, _ => False
theorem od_mod : OpR X (binaryOp .Mod) (LR X.K F0 dMod) := by
  refine OpR_imp op_mod fun v u H Q ⟨x, y, M, F, Qd, hF, r, hx, hy, h, fin⟩ => ?_
  unfold dMod at h
  split at h
  · exact ⟨_, _, rep_int.mp hx, rep_int.mp hy, h.1, fin.go h.2 r (rep_int.mpr rfl)⟩
  · exact h.elim
def dPow : DR2 := fun x y M Q => match x, y with
  | .int i, .int j => (0 ≤ j ∧ j ≤ 1000000 ∧ i.natAbs < 2 ^ 64) ∧ Q (.int (i ^ j.toNat)) M
  | _, _ => False
theorem od_pow : OpR X (binaryOp .Pow) (LR X.K F0 dPow) := by
  refine OpR_imp op_pow fun v u H Q ⟨x, y, M, F, Qd, hF, r, hx, hy, h, fin⟩ => ?_
  unfold dPow at h
  split at h
  · exact ⟨_, _, rep_int.mp hx, rep_int.mp hy, h.1, fin.go h.2 r (rep_int.mpr rfl)⟩
  · exact h.elim
def dNeg : DR1 := fun x M Q => match x with
  | .int i => Q (.int (-i)) M
  | _ => False
theorem ud_neg : UnR X (unaryOp .USub) (LR1 X.K F0 dNeg) := by
  refine UnR_imp un_neg fun v H Q ⟨x, M, F, Qd, hF, r, hx, h, fin⟩ => ?_
  unfold dNeg at h
  split at h
  · exact ⟨_, rep_int.mp hx, fin.go h r (rep_int.mpr rfl)⟩
  · exact h.elim

/-! ### comparisons -/
theorem de_cmp {op : CmpOp} {r : DR2} (ho : OpR X (compareOp op) (LR X.K F0 r)) (ha : DE X F0 a ta) (hb : DE X F0 b tb) (hm : behindInMarks op b = false) : DE X F0 (.Compare a [op] [b] pos) (dOp r ta tb) :=
  PE_imp (pe_cmpR ho ha hb hm) fun _ _ _ h => lift_op h
/-- a bool as a test -/
def dB (t : DTE) : DTT := fun σ M Q => t σ M fun x M1 => match x with
  | .bl b => Q b M1
  | _ => False
theorem dt_cmp {op : CmpOp} {r : DR2} (ho : OpR X (compareOp op) (LR X.K F0 r)) (ha : DE X F0 a ta) (hb : DE X F0 b tb) (hm : behindInMarks op b = false) : DT X F0 (.Compare a [op] [b] pos) (dB (dOp r ta tb)) :=
  PT_imp (pt_cmpR ho ha hb hm) fun σ H Q ⟨σd, M, F, Qd, hF, hR, hS, h, fin⟩ => lift_op ⟨σd, M, F, _, hF, hR, hS, h, fun x M1 v H1 F1 h1 e1 r1 v1 => by
    split at h1
    · exact ⟨_, rep_bl.mp v1, fin _ _ _ _ h1 e1 r1⟩
    · exact h1.elim⟩
/-- an expression whose value is a bool (a call, a name), as a test -/
theorem dt_val {t : DTE} (h : DE X F0 e t) (he : ∀ whole, isTrue e X.env whole = (do let v ← whole; standAt e.pos; holding [v] (truthy v)) := by intro _; rfl) : DT X F0 e (dB t) :=
  PT_imp (pt_val h he) fun σ H Q ⟨σd, M, F, Qd, hF, hR, hS, h, fin⟩ => ⟨σd, M, F, _, hF, hR, hS, h, fun x M1 v H1 F1 h1 e1 r1 v1 => by
    split at h1
    · exact ⟨_, rep_bl.mp v1, fin _ _ _ _ h1 e1 r1⟩
    · exact h1.elim⟩
/-- the truth of data -/
def truD (x : D) (M : Mp) : Option Bool := match x with
  | .non => some false
  | .bl b => some b
  | .int i => some (i != 0)
  | .str y => if y.length ≤ sizeLine then some ((y.length : Int) != 0) else none
  | x => (sqD M x).map fun ds => !ds.isEmpty
def dTru (t : DTE) : DTT := fun σ M Q => t σ M fun x M1 => ∃ b, truD x M1 = some b ∧ Q b M1
theorem isEmpty_reps {K : PySem.W.Frag} {F : Hp} {ds : List D} {vs : List V} (h : Reps K F ds vs) : vs.isEmpty = ds.isEmpty := by
  cases ds with
  | nil => rw [h.nil_inv] <;> rfl
  | cons d ds => obtain ⟨v, vs', rfl, _⟩ := h.consD_inv; rfl
theorem truD_ok {K : PySem.W.Frag} {F H : Hp} {M : Mp} (r : R K M F H) {x : D} {v : V} {b : Bool} (h : Rep K F x v) (e : truD x M = some b) : TruV K v H b := by
  have sq : ∀ x : D, Rep K F x v → (sqD M x).map (fun ds => !ds.isEmpty) = some b → TruV K v H b := fun x h e => by
    obtain ⟨ds, e1, e2⟩ := Option.map_eq_some_iff.mp e
    obtain ⟨a, vs, rfl, hq, hr⟩ := sqD_rep r h e1
    rw [← isEmpty_reps hr] at e2
    rcases hq with hq | hq
    · exact .inl ⟨vs, hq, e2.symm⟩
    · exact .inr (.inl ⟨vs, hq, e2.symm⟩)
  cases x with
  | non => cases rep_non.mp h; cases e; rfl
  | bl b => cases rep_bl.mp h; cases e; rfl
  | int i => cases rep_int.mp h; cases e; rfl
  | str y =>
    cases rep_str.mp h
    unfold truD at e
    dsimp only at e
    split at e
    · rename_i hz
      cases e
      exact ⟨hz, rfl⟩
    · cases e
  | obj a => exact sq _ h e
  | rdl a => exact sq _ h e
  | tup a => exact sq _ h e
  | lst a => exact sq _ h e
theorem dt_tru {t : DTE} (h : DE X F0 e t) (he : ∀ whole, isTrue e X.env whole = (do let v ← whole; standAt e.pos; holding [v] (truthy v)) := by intro _; rfl) : DT X F0 e (dTru t) :=
  PT_imp (pt_truth h he) fun σ H Q ⟨σd, M, F, Qd, hF, hR, hS, h, fin⟩ => ⟨σd, M, F, _, hF, hR, hS, h, fun x M1 v H1 F1 ⟨b, h1, h2⟩ e1 r1 v1 => ⟨b, truD_ok r1 v1 h1, fin _ _ _ _ h2 e1 r1⟩⟩
section
variable {tA tB : DTT} {rest : List Expr}
/-- two ways by a Bool -/
def IfB (b : Bool) (A B : Prop) : Prop := match b with
  | true => A
  | false => B
theorem ifB_t {A B : Prop} : IfB true A B = A := rfl
theorem ifB_f {A B : Prop} : IfB false A B = B := rfl
theorem ifB {b : Bool} {A B : Prop} (h1 : b = true → A) (h2 : b = false → B) : IfB b A B := by
  cases b with
  | true => exact h1 rfl
  | false => exact h2 rfl
def dAnd (t u : DTT) : DTT := fun σ M Q => t σ M fun c M1 => IfB c (u σ M1 Q) (Q false M1)
def dOr (t u : DTT) : DTT := fun σ M Q => t σ M fun c M1 => IfB c (Q true M1) (u σ M1 Q)
def dNot (t : DTT) : DTT := fun σ M Q => t σ M fun c M1 => Q (!c) M1
theorem dw_and1 (ha : DT X F0 a tA) : DW X F0 (.BoolOp .And [a] pos) tA := pw_and1 ha
theorem dw_or1 (ha : DT X F0 a tA) : DW X F0 (.BoolOp .Or [a] pos) tA := pw_or1 ha
theorem dw_and (ha : DT X F0 a tA) (hb : DW X F0 (.BoolOp .And (b :: rest) pos) tB) : DW X F0 (.BoolOp .And (a :: b :: rest) pos) (dAnd tA tB) :=
  PW_imp (pw_and ha hb) fun σ H Q ⟨σd, M, F, Qd, hF, hR, hS, h, fin⟩ => ⟨σd, M, F, _, hF, hR, hS, h, fun c M1 H1 F1 h1 e1 r1 => by
    cases c with
    | true => exact ⟨σd, M1, F1, Qd, hF.trans e1, r1, hS.mono e1, h1, fin.mono e1⟩
    | false => exact fin _ _ _ _ h1 e1 r1⟩
theorem dw_or (ha : DT X F0 a tA) (hb : DW X F0 (.BoolOp .Or (b :: rest) pos) tB) : DW X F0 (.BoolOp .Or (a :: b :: rest) pos) (dOr tA tB) :=
  PW_imp (pw_or ha hb) fun σ H Q ⟨σd, M, F, Qd, hF, hR, hS, h, fin⟩ => ⟨σd, M, F, _, hF, hR, hS, h, fun c M1 H1 F1 h1 e1 r1 => by
    cases c with
    | false => exact ⟨σd, M1, F1, Qd, hF.trans e1, r1, hS.mono e1, h1, fin.mono e1⟩
    | true => exact fin _ _ _ _ h1 e1 r1⟩
theorem dt_w (h : DW X F0 a tA) : DT X F0 a tA := PW.pt h
theorem dt_not (ha : DT X F0 a tA) : DT X F0 (.UnaryOp .Not a pos) (dNot tA) :=
  PT_imp (pt_not ha) fun σ H Q ⟨σd, M, F, Qd, hF, hR, hS, h, fin⟩ => ⟨σd, M, F, _, hF, hR, hS, h, fun c M1 H1 F1 h1 e1 r1 => fin _ _ _ _ h1 e1 r1⟩
/-- .. as values -/
def dAndV (ta tb : DTE) : DTE := fun σ M Q => ta σ M fun x M1 => match x with
  | .bl c => IfB c (tb σ M1 Q) (Q (.bl false) M1)
  | _ => False
def dOrV (ta tb : DTE) : DTE := fun σ M Q => ta σ M fun x M1 => match x with
  | .bl c => IfB c (Q (.bl true) M1) (tb σ M1 Q)
  | _ => False
def dNotV (ta : DTE) : DTE := fun σ M Q => ta σ M fun x M1 => match x with
  | .bl c => Q (.bl (!c)) M1
  | _ => False
theorem de_one {op} {t : DTE} (h : DE X F0 a t) : DE X F0 (.BoolOp op [a] pos) t := pe_one h
theorem de_and (ha : DE X F0 a ta) (hb : DE X F0 (.BoolOp .And (b :: rest) pos) tb) : DE X F0 (.BoolOp .And (a :: b :: rest) pos) (dAndV ta tb) :=
  PE_imp (pe_and ha hb) fun σ H Q ⟨σd, M, F, Qd, hF, hR, hS, h, fin⟩ => ⟨σd, M, F, _, hF, hR, hS, h, fun c M1 v H1 F1 h1 e1 r1 v1 => by
    split at h1
    · rename_i c
      cases c with
      | true => exact ⟨true, rep_bl.mp v1, iteT ⟨σd, M1, F1, Qd, hF.trans e1, r1, hS.mono e1, h1, fin.mono e1⟩⟩
      | false => exact ⟨false, rep_bl.mp v1, iteF (fin _ _ _ _ _ h1 e1 r1 (rep_bl.mpr rfl))⟩
    · exact h1.elim⟩
theorem de_or (ha : DE X F0 a ta) (hb : DE X F0 (.BoolOp .Or (b :: rest) pos) tb) : DE X F0 (.BoolOp .Or (a :: b :: rest) pos) (dOrV ta tb) :=
  PE_imp (pe_or ha hb) fun σ H Q ⟨σd, M, F, Qd, hF, hR, hS, h, fin⟩ => ⟨σd, M, F, _, hF, hR, hS, h, fun c M1 v H1 F1 h1 e1 r1 v1 => by
    split at h1
    · rename_i c
      cases c with
      | true => exact ⟨true, rep_bl.mp v1, iteT (fin _ _ _ _ _ h1 e1 r1 (rep_bl.mpr rfl))⟩
      | false => exact ⟨false, rep_bl.mp v1, iteF ⟨σd, M1, F1, Qd, hF.trans e1, r1, hS.mono e1, h1, fin.mono e1⟩⟩
    · exact h1.elim⟩
theorem de_not (ha : DE X F0 a ta) : DE X F0 (.UnaryOp .Not a pos) (dNotV ta) :=
  PE_imp (pe_not ha) fun σ H Q ⟨σd, M, F, Qd, hF, hR, hS, h, fin⟩ => ⟨σd, M, F, _, hF, hR, hS, h, fun c M1 v H1 F1 h1 e1 r1 v1 => by
    split at h1
    · exact ⟨_, rep_bl.mp v1, fin _ _ _ _ _ h1 e1 r1 (rep_bl.mpr rfl)⟩
    · exact h1.elim⟩
def dIf (t : DTT) (ta tb : DTE) : DTE := fun σ M Q => t σ M fun c M1 => IfB c (ta σ M1 Q) (tb σ M1 Q)
theorem de_if (hc : DT X F0 c tA) (ha : DE X F0 a ta) (hb : DE X F0 b tb) : DE X F0 (.IfExp c a b pos) (dIf tA ta tb) :=
  PE_imp (pe_ifExp hc ha hb) fun σ H Q ⟨σd, M, F, Qd, hF, hR, hS, h, fin⟩ => ⟨σd, M, F, _, hF, hR, hS, h, fun c M1 H1 F1 h1 e1 r1 => by
    cases c with
    | true => exact iteT ⟨σd, M1, F1, Qd, hF.trans e1, r1, hS.mono e1, h1, fin.mono e1⟩
    | false => exact iteF ⟨σd, M1, F1, Qd, hF.trans e1, r1, hS.mono e1, h1, fin.mono e1⟩⟩
end
end
end DL
namespace DL
open PySem L2

/-! ### data as PyData -/
mutual
def pyD : D → Option PyData
  | .non => some .none
  | .bl b => some (.bool b)
  | .int i => some (.int i)
  | .str x => some (.str x)
  | .obj _ => none
  | .rdl ns => some (.list (ns.map PyData.int))
  | .tup ds => (pyDs ds).map PyData.tuple
  | .lst ds => (pyDs ds).map PyData.list
def pyDs : List D → Option (List PyData)
  | [] => some []
  | d :: ds => (pyD d).bind fun x => (pyDs ds).map fun xs => x :: xs
end
section
variable {K : PySem.W.Frag} {F H : Hp} {M : Mp}
theorem dpInts {H : Hp} : ∀ ns : List Int, DpAll K H (ns.map V.int) (ns.map PyData.int)
  | [] => .nil
  | n :: ns => .cons (.int n) (dpInts ns)
mutual
theorem dp_of (hf : Same F H) : ∀ (d : D) (v : V) (y : PyData), Rep K F d v → pyD d = some y → Dp K H v y
  | .non, v, y, h, e => by unfold pyD at e; cases e; cases rep_non.mp h; exact .non
  | .bl b, v, y, h, e => by unfold pyD at e; cases e; cases rep_bl.mp h; exact .bl b
  | .int b, v, y, h, e => by unfold pyD at e; cases e; cases rep_int.mp h; exact .int b
  | .str b, v, y, h, e => by unfold pyD at e; cases e; cases rep_str.mp h; exact .str b
  | .obj b, v, y, h, e => by unfold pyD at e; cases e
  | .rdl ns, v, y, h, e => by
    unfold pyD at e; cases e
    obtain ⟨a, rfl, hq⟩ := rep_rdl.mp h
    exact .lst (hf.seq hq) (dpInts ns)
  | .tup ds, v, y, h, e => by
    unfold pyD at e
    obtain ⟨ys, e1, rfl⟩ := Option.map_eq_some_iff.mp e
    obtain ⟨a, vs, rfl, hq, hr⟩ := rep_tup.mp h
    exact .tup (sqT_mono hf hq) (dpAll_of hf ds vs ys hr e1)
  | .lst ds, v, y, h, e => by
    unfold pyD at e
    obtain ⟨ys, e1, rfl⟩ := Option.map_eq_some_iff.mp e
    obtain ⟨a, vs, rfl, hq, hr⟩ := rep_lst.mp h
    exact .lst (SqL.of (hf _ _ hq)) (dpAll_of hf ds vs ys hr e1)
theorem dpAll_of (hf : Same F H) : ∀ (ds : List D) (vs : List V) (ys : List PyData), Reps K F ds vs → pyDs ds = some ys → DpAll K H vs ys
  | [], vs, ys, h, e => by unfold pyDs at e; cases e; rw [h.nil_inv]; exact .nil
  | d :: ds, vs, ys, h, e => by
    unfold pyDs at e
    obtain ⟨y, e1, e2⟩ := Option.bind_eq_some_iff.mp e
    obtain ⟨ys', e3, rfl⟩ := Option.map_eq_some_iff.mp e2
    obtain ⟨v, vs', rfl, h1, h2⟩ := h.consD_inv
    exact .cons (dp_of hf d v y h1 e1) (dpAll_of hf ds vs' ys' h2 e3)
end
end

section
variable {X : Cx} {F0 : Hp} {a b c e : Expr} {ta tb tc te : DTE} {pos : Pos}
/-! ### ==, != -/
def dEq (neg : Bool) : DR2 := fun x y M Q => match x, y with
  | .int i, .int j => Q (.bl (neg != decide (i = j))) M
  | .str i, .str j => Q (.bl (neg != decide (i = j))) M
  | .bl i, .bl j => Q (.bl (neg != decide (i = j))) M
  | x, y => ∃ d e, pyD x = some d ∧ pyD y = some e ∧ SeqAt.shaped d = true ∧ SeqAt.shaped e = true ∧ Q (.bl (neg != PyData.eqv d e)) M
theorem od_eq (hu : X.A.units + 64 < cLine) : OpR X (compareOp .Eq) (LR X.K F0 (dEq false)) := by
  refine OpR_imp (op_eq.or (op_eqD hu)) fun v u H Q ⟨x, y, M, F, Qd, hF, r, hx, hy, h, fin⟩ => ?_
  unfold dEq at h
  split at h
  · cases rep_int.mp hx; cases rep_int.mp hy
    refine .inl ⟨rfl, fin.go h r (rep_bl.mpr ?_)⟩
    simp
  · cases rep_str.mp hx; cases rep_str.mp hy
    refine .inl ⟨rfl, fin.go h r (rep_bl.mpr ?_)⟩
    simp
  · cases rep_bl.mp hx; cases rep_bl.mp hy
    refine .inl ⟨rfl, fin.go h r (rep_bl.mpr ?_)⟩
    simp
  · obtain ⟨d, e, h1, h2, h3, h4, h⟩ := h
    refine .inr ⟨d, e, dp_of r.fr _ _ _ hx h1, dp_of r.fr _ _ _ hy h2, h3, h4, fin.go h r (rep_bl.mpr ?_)⟩
    simp
theorem od_ne (hu : X.A.units + 64 < cLine) : OpR X (compareOp .NotEq) (LR X.K F0 (dEq true)) := by
  refine OpR_imp (op_ne.or (op_neD hu)) fun v u H Q ⟨x, y, M, F, Qd, hF, r, hx, hy, h, fin⟩ => ?_
  unfold dEq at h
  split at h
  · cases rep_int.mp hx; cases rep_int.mp hy
    refine .inl ⟨rfl, fin.go h r (rep_bl.mpr ?_)⟩
    simp
  · cases rep_str.mp hx; cases rep_str.mp hy
    refine .inl ⟨rfl, fin.go h r (rep_bl.mpr ?_)⟩
    simp
  · cases rep_bl.mp hx; cases rep_bl.mp hy
    refine .inl ⟨rfl, fin.go h r (rep_bl.mpr ?_)⟩
    simp
  · obtain ⟨d, e, h1, h2, h3, h4, h⟩ := h
    refine .inr ⟨d, e, dp_of r.fr _ _ _ hx h1, dp_of r.fr _ _ _ hy h2, h3, h4, fin.go h r (rep_bl.mpr ?_)⟩
    simp
def isNon : D → Bool
  | .non => true
  | _ => false
def dIsN (neg : Bool) : DR2 := fun x y M Q => match y with
  | .non => Q (.bl (neg != isNon x)) M
  | _ => False
theorem isN_rep {K : PySem.W.Frag} {F : Hp} {x : D} {v : V} (h : Rep K F x v) : decide (v = V.non) = isNon x := by
  cases x with
  | non => cases rep_non.mp h; rfl
  | bl b => cases rep_bl.mp h; rfl
  | int i => cases rep_int.mp h; rfl
  | str i => cases rep_str.mp h; rfl
  | obj i => cases rep_obj.mp h; rfl
  | rdl i => obtain ⟨a, rfl, _⟩ := rep_rdl.mp h; rfl
  | tup i => obtain ⟨a, vs, rfl, _⟩ := rep_tup.mp h; rfl
  | lst i => obtain ⟨a, vs, rfl, _⟩ := rep_lst.mp h; rfl
theorem od_isN : OpR X (compareOp .Is) (LR X.K F0 (dIsN false)) := by
  refine OpR_imp op_isN fun v u H Q ⟨x, y, M, F, Qd, hF, r, hx, hy, h, fin⟩ => ?_
  unfold dIsN at h
  split at h
  · refine ⟨rep_non.mp hy, fin.go h r (rep_bl.mpr ?_)⟩
    rw [isN_rep hx]; simp
  · exact h.elim
theorem od_notN : OpR X (compareOp .IsNot) (LR X.K F0 (dIsN true)) := by
  refine OpR_imp op_notN fun v u H Q ⟨x, y, M, F, Qd, hF, r, hx, hy, h, fin⟩ => ?_
  unfold dIsN at h
  split at h
  · refine ⟨rep_non.mp hy, fin.go h r (rep_bl.mpr ?_)⟩
    rw [isN_rep hx]; simp
  · exact h.elim
/-! ### order -/
def dLt : DR2 := fun x y M Q => match x, y with
  | .int i, .int j => Q (.bl (decide (i < j))) M
  | .str i, .str j => Q (.bl (decide (i.cps.toList < j.cps.toList))) M
  | _, _ => False
theorem od_lt : OpR X (compareOp .Lt) (LR X.K F0 dLt) := by
  refine OpR_imp (op_lt.or op_lt_str) fun v u H Q ⟨x, y, M, F, Qd, hF, r, hx, hy, h, fin⟩ => ?_
  unfold dLt at h
  split at h
  · exact .inl ⟨_, _, rep_int.mp hx, rep_int.mp hy, fin.go h r (rep_bl.mpr rfl)⟩
  · exact .inr ⟨_, _, rep_str.mp hx, rep_str.mp hy, fin.go h r (rep_bl.mpr rfl)⟩
  · exact h.elim
def dLe : DR2 := fun x y M Q => match x, y with
  | .int i, .int j => Q (.bl (decide (i ≤ j))) M
  | .str i, .str j => Q (.bl (!decide (j.cps.toList < i.cps.toList))) M
  | _, _ => False
theorem od_le : OpR X (compareOp .LtE) (LR X.K F0 dLe) := by
  refine OpR_imp (op_le.or op_le_str) fun v u H Q ⟨x, y, M, F, Qd, hF, r, hx, hy, h, fin⟩ => ?_
  unfold dLe at h
  split at h
  · exact .inl ⟨_, _, rep_int.mp hx, rep_int.mp hy, fin.go h r (rep_bl.mpr rfl)⟩
  · exact .inr ⟨_, _, rep_str.mp hx, rep_str.mp hy, fin.go h r (rep_bl.mpr rfl)⟩
  · exact h.elim
def dGt : DR2 := fun x y M Q => match x, y with
  | .int i, .int j => Q (.bl (decide (j < i))) M
  | _, _ => False
theorem od_gt : OpR X (compareOp .Gt) (LR X.K F0 dGt) := by
  refine OpR_imp op_gt fun v u H Q ⟨x, y, M, F, Qd, hF, r, hx, hy, h, fin⟩ => ?_
  unfold dGt at h
  split at h
  · exact ⟨_, _, rep_int.mp hx, rep_int.mp hy, fin.go h r (rep_bl.mpr rfl)⟩
  · exact h.elim
def dGe : DR2 := fun x y M Q => match x, y with
  | .int i, .int j => Q (.bl (decide (j ≤ i))) M
  | _, _ => False
theorem od_ge : OpR X (compareOp .GtE) (LR X.K F0 dGe) := by
  refine OpR_imp op_ge fun v u H Q ⟨x, y, M, F, Qd, hF, r, hx, hy, h, fin⟩ => ?_
  unfold dGe at h
  split at h
  · exact ⟨_, _, rep_int.mp hx, rep_int.mp hy, fin.go h r (rep_bl.mpr rfl)⟩
  · exact h.elim
/-! ### in, not in: a text in texts, a sign in a text, an int in ints -/
def strsD : List D → Option (List Str)
  | [] => some []
  | .str x :: r => (strsD r).map fun xs => x :: xs
  | _ :: _ => none
theorem strsD_eq : ∀ {ds : List D} {xs : List Str}, strsD ds = some xs → ds = xs.map D.str
  | [], xs, e => by unfold strsD at e; cases e; rfl
  | d :: ds, xs, e => by
    cases d with
    | str z =>
      unfold strsD at e
      obtain ⟨ys, e1, rfl⟩ := Option.map_eq_some_iff.mp e
      rw [strsD_eq e1] <;> rfl
    | _ => unfold strsD at e; cases e
theorem strsD_map : ∀ xs : List Str, strsD (xs.map D.str) = some xs
  | [] => rfl
  | x :: xs => by rw [List.map_cons]; unfold strsD; rw [strsD_map xs] <;> rfl
theorem inV_strs (x : Str) : ∀ xs : List Str, inV (.str x) (xs.map V.str) = decide (x ∈ xs)
  | [] => rfl
  | y :: xs => by
    have ih := inV_strs x xs
    unfold inV at ih ⊢
    rw [List.map_cons, List.any_cons, ih]
    by_cases e : y = x
    · subst e; simp [eqV]
    · have e' : ¬ x = y := fun q => e q.symm
      simp [eqV, e, e']
theorem flat_strsV (ys : List Str) : (ys.map V.str).all flatV = true := by
  induction ys with
  | nil => rfl
  | cons y ys ih => rw [List.map_cons, List.all_cons, ih] <;> rfl
def dIn (neg : Bool) : DR2 := fun x y M Q => match x, y with
  | .str i, .str j => Q (.bl (neg != !(Builtin.Str.occurrences j i 0 j.length 1).isEmpty)) M
  | .str i, y => ∃ xs, (sqD M y).bind strsD = some xs ∧ Q (.bl (neg != decide (i ∈ xs))) M
  | _, _ => False
theorem od_in : OpR X (compareOp .In) (LR X.K F0 (dIn false)) := by
  refine OpR_imp (op_in_str.or op_in_seq) fun v u H Q ⟨x, y, M, F, Qd, hF, r, hx, hy, h, fin⟩ => ?_
  unfold dIn at h
  split at h
  · exact .inl ⟨_, _, rep_str.mp hx, rep_str.mp hy, fin.go h r (rep_bl.mpr (by simp))⟩
  · obtain ⟨xs, e, h⟩ := h
    obtain ⟨ds, e1, e2⟩ := Option.bind_eq_some_iff.mp e
    obtain ⟨p, vs, rfl, hq, hr⟩ := sqD_rep r hy e1
    have := strsD_eq e2
    subst this
    have := hr.strs_inv
    subst this
    cases rep_str.mp hx
    refine .inr ⟨p, _, rfl, hq, rfl, flat_strsV _, fin.go h r (rep_bl.mpr ?_)⟩
    rw [inV_strs]; simp
  · exact h.elim
theorem od_notIn : OpR X (compareOp .NotIn) (LR X.K F0 (dIn true)) := by
  refine OpR_imp (L2.op_notIn_str.or op_notIn_seq) fun v u H Q ⟨x, y, M, F, Qd, hF, r, hx, hy, h, fin⟩ => ?_
  unfold dIn at h
  split at h
  · exact .inl ⟨_, _, rep_str.mp hx, rep_str.mp hy, fin.go h r (rep_bl.mpr (by simp))⟩
  · obtain ⟨xs, e, h⟩ := h
    obtain ⟨ds, e1, e2⟩ := Option.bind_eq_some_iff.mp e
    obtain ⟨p, vs, rfl, hq, hr⟩ := sqD_rep r hy e1
    have := strsD_eq e2
    subst this
    have := hr.strs_inv
    subst this
    cases rep_str.mp hx
    refine .inr ⟨p, _, rfl, hq, rfl, flat_strsV _, fin.go h r (rep_bl.mpr ?_)⟩
    rw [inV_strs]; simp
  · exact h.elim
/-- a op b op' c -/
def dChain (r r' : DR2) (ta tb tc : DTE) : DTE := fun σ M Q => ta σ M fun x M1 => tb σ M1 fun y M2 => r x y M2 fun z M3 => match z with
  | .bl k => IfB k (tc σ M3 fun w M4 => r' y w M4 Q) (Q (.bl false) M3)
  | _ => False
theorem lift_chain {K : PySem.W.Frag} {r r' : DR2} {σ : St} {H : Hp} {Q : VK} (h : LE K F0 (dChain r r' ta tb tc) σ H Q) : tChain (LR K F0 r) (LR K F0 r') (LE K F0 ta) (LE K F0 tb) (LE K F0 tc) σ H Q := by
  obtain ⟨σd, M, F, Qd, hF, hR, hS, h, fin⟩ := h
  refine ⟨σd, M, F, _, hF, hR, hS, h, fun x M1 v H1 F1 h1 e1 r1 v1 => ?_⟩
  refine ⟨σd, M1, F1, _, hF.trans e1, r1, hS.mono e1, h1, fun y M2 w H2 F2 h2 e2 r2 w2 => ?_⟩
  refine ⟨x, y, M2, F2, _, (hF.trans e1).trans e2, r2, v1.mono e2, w2, h2, fun z M3 zv H3 F3 h3 e3 r3 z3 => ?_⟩
  have e13 := (e1.trans e2).trans e3
  split at h3
  · rename_i k
    cases k with
    | true =>
      refine ⟨true, rep_bl.mp z3, ?_⟩
      rw [if_pos rfl]
      refine ⟨σd, M3, F3, _, hF.trans e13, r3, hS.mono e13, h3, fun u M4 uv H4 F4 h4 e4 r4 u4 => ?_⟩
      exact ⟨y, u, M4, F4, Qd, (hF.trans e13).trans e4, r4, w2.mono (e3.trans e4), u4, h4, fin.mono (e13.trans e4)⟩
    | false =>
      refine ⟨false, rep_bl.mp z3, ?_⟩
      rw [if_neg Bool.false_ne_true]
      exact fin _ _ _ _ _ h3 e13 r3 (rep_bl.mpr rfl)
  · exact h3.elim

/-! ### displays, arguments -/
variable {es : List Expr} {tr : DTA}
def dNil : DTA := fun _ M Q => Q [] M
def dCons (ta : DTE) (tr : DTA) : DTA := fun σ M Q => ta σ M fun x M1 => tr σ M1 fun xs M2 => Q (x :: xs) M2
theorem da_nil : DA X F0 [] dNil := PA_imp pa_nil fun σ H Q ⟨σd, M, F, Qd, hF, r, hS, h, fin⟩ => fin _ _ _ _ F h (Same.refl F) r Reps.nil
theorem da_cons (ha : DE X F0 e te) (hr : DA X F0 es tr) (hs : starEach (e :: es) X.env = (false, eval e X.env) :: starEach es X.env := by rfl) : DA X F0 (e :: es) (dCons te tr) :=
  PA_imp (pa_cons ha hr hs) fun σ H Q ⟨σd, M, F, Qd, hF, r, hS, h, fin⟩ => ⟨σd, M, F, _, hF, r, hS, h, fun x M1 v H1 F1 h1 e1 r1 v1 =>
    ⟨σd, M1, F1, _, hF.trans e1, r1, hS.mono e1, h1, fun xs M2 vs H2 F2 h2 e2 r2 vs2 => fin _ _ _ _ F2 h2 (e1.trans e2) r2 (.cons (v1.mono e2) vs2)⟩⟩
def dTup (t : DTA) : DTE := fun σ M Q => t σ M fun xs M1 => xs.length ≤ sizeLine ∧ Q (.tup xs) M1
def dLst (own : Bool) (t : DTA) : DTE := fun σ M Q => t σ M fun xs M1 => xs.length ≤ sizeLine ∧ dNew own xs M1 Q
theorem de_tup {x1} (h : DA X F0 es tr) : DE X F0 (.Tuple es x1 pos) (dTup tr) :=
  PE_imp (pe_tup h) fun σ H Q ⟨σd, M, F, Qd, hF, r, hS, h, fin⟩ => ⟨σd, M, F, _, hF, r, hS, h, fun xs M1 vs H1 F1 h1 e1 r1 v1 =>
    ⟨by rw [← v1.length]; exact h1.1, fun p hp => tup_fin r1 v1 h1.2 (fin.mono e1) hp⟩⟩
theorem de_lst {own : Bool} (h : DA X F0 es tr) : DE X F0 (.List es pos) (dLst own tr) :=
  PE_imp (pe_lst h) fun σ H Q ⟨σd, M, F, Qd, hF, r, hS, h, fin⟩ => ⟨σd, M, F, _, hF, r, hS, h, fun xs M1 vs H1 F1 h1 e1 r1 v1 =>
    ⟨by rw [← v1.length]; exact h1.1, fun p hp => dNew_fin r1 v1 h1.2 (fin.mono e1) hp⟩⟩

/-! ### subscripts -/
def dIx : DR2 := fun x y M Q => match x, y with
  | .str z, .int i => z.length ≤ sizeLine ∧ ∃ c, atI z.cps.toList i = some c ∧ Q (.str ⟨#[c]⟩) M
  | x, .int i => ∃ ds d, sqD M x = some ds ∧ atI ds i = some d ∧ Q d M
  | _, _ => False
theorem Reps.atI {K : PySem.W.Frag} {F : Hp} {ds : List D} {vs : List V} (h : Reps K F ds vs) {i : Int} {d : D} (e : L2.atI ds i = some d) : ∃ v, L2.atI vs i = some v ∧ Rep K F d v := by
  unfold L2.atI at e ⊢
  rw [← h.length]
  cases q : ixN ds.length i with
  | none => rw [q] at e; cases e
  | some j =>
    rw [q] at e
    exact h.getD (show ds[j]? = some d from e)
theorem xd_ix : IxR X (LR X.K F0 dIx) := by
  refine IxR_imp ix_seq fun v u H Q ⟨x, y, M, F, Qd, hF, r, hx, hy, h, fin⟩ => ?_
  unfold dIx at h
  split at h
  · obtain ⟨hz, c, e, h⟩ := h
    exact .inr (.inr ⟨_, _, c, rep_str.mp hx, rep_int.mp hy, hz, e, fin.go h r (rep_str.mpr rfl)⟩)
  · obtain ⟨ds, d, e1, e2, h⟩ := h
    obtain ⟨p, vs, rfl, hq, hr⟩ := sqD_rep r hx e1
    obtain ⟨w, e3, hw⟩ := hr.atI e2
    rcases hq with hq | hq
    · exact .inl ⟨p, vs, _, w, rfl, rep_int.mp hy, hq, e3, fin.go h r hw⟩
    · exact .inr (.inl ⟨p, vs, _, w, rfl, rep_int.mp hy, hq, e3, fin.go h r hw⟩)
  · exact h.elim
theorem de_ix (ha : DE X F0 a ta) (hb : DE X F0 b tb) (hs : PlainIx b) : DE X F0 (.Subscript a b pos) (dOp dIx ta tb) := PE_imp (pe_ix xd_ix ha hb hs) fun _ _ _ h => lift_op h

abbrev DTO := DS → Mp → (Option Int → Mp → Prop) → Prop
def LO (K : PySem.W.Frag) (F0 : Hp) (τ : DTO) : TO := fun σ H Q => ∃ σd M F Qd, Same F0 F ∧ R K M F H ∧ SRep K F σd σ ∧ τ σd M Qd ∧ ∀ o M' H' F', Qd o M' → Same F F' → R K M' F' H' → Q o H'
abbrev DO (X : Cx) (F0 : Hp) (e : Option Expr) (τ : DTO) : Prop := PO X e (LO X.K F0 τ)
theorem PO_imp {e : Option Expr} {t t' : TO} (h : PO X e t) (i : ∀ σ H Q, t' σ H Q → t σ H Q) : PO X e t' := ⟨fun pins s σ H Q I q => h.run pins s σ H Q I (i σ H Q q)⟩
def dNoPart : DTO := fun _ M Q => Q none M
def dPart (t : DTE) : DTO := fun σ M Q => t σ M fun x M1 => match x with
  | .int i => Q (some i) M1
  | _ => False
theorem do_none : DO X F0 none dNoPart := PO_imp po_none fun σ H Q ⟨σd, M, F, Qd, hF, r, hS, h, fin⟩ => fin _ _ _ F h (Same.refl F) r
theorem do_some (h : DE X F0 e te) : DO X F0 (some e) (dPart te) := PO_imp (po_some h) fun σ H Q ⟨σd, M, F, Qd, hF, r, hS, h, fin⟩ => ⟨σd, M, F, _, hF, r, hS, h, fun x M1 v H1 F1 h1 e1 r1 v1 => by
  split at h1
  · exact ⟨_, rep_int.mp v1, fin _ _ _ _ h1 e1 r1⟩
  · exact h1.elim⟩
def cutL {α : Type} (xs : List α) (lo hi : Option Int) : List α := (xs.drop (HT.sIx xs.length 0 lo)).take (HT.sIx xs.length xs.length hi - HT.sIx xs.length 0 lo)
theorem Reps.cut {K : PySem.W.Frag} {F : Hp} {ds : List D} {vs : List V} (h : Reps K F ds vs) (lo hi : Option Int) : Reps K F (cutL ds lo hi) (cutV vs lo hi) := by
  unfold cutL cutV
  rw [← h.length]
  exact (h.drop _).take _
/-- x[lo:hi] -/
def dSl (own : Bool) : D → Option Int → Option Int → Mp → DK → Prop := fun x lo hi M Q => match x with
  | .tup ds => Q (.tup (cutL ds lo hi)) M
  | .rdl ns => dNew own ((cutL ns lo hi).map D.int) M Q
  | .str z => z.length ≤ sizeLine ∧ Q (.str ⟨(cutL z.cps.toList lo hi).toArray⟩) M
  | x => ∃ ds, lsD M x = some ds ∧ dNew own (cutL ds lo hi) M Q
def LSl (K : PySem.W.Frag) (F0 : Hp) (r : D → Option Int → Option Int → Mp → DK → Prop) : V → Option Int → Option Int → Hp → VK → Prop := fun v lo hi H Q => ∃ x M F Qd, Same F0 F ∧ R K M F H ∧ Rep K F x v ∧ r x lo hi M Qd ∧ Fin K F Qd Q
theorem SlR_imp {r r' : V → Option Int → Option Int → Hp → VK → Prop} (h : SlR X r) (i : ∀ x lo hi H Q, r' x lo hi H Q → r x lo hi H Q) : SlR X r' := fun pins s σ H x v vl vu lo hi sl Q I rx hs pl pu q => h pins s σ H x v vl vu lo hi sl Q I rx hs pl pu (i x lo hi H Q q)
theorem cutL_whole {α : Type} {xs : List α} {lo hi : Option Int} (h : HT.sIx xs.length 0 lo = 0 ∧ HT.sIx xs.length xs.length hi = xs.length) : cutL xs lo hi = xs := by
  unfold cutL
  rw [h.1, h.2]
  simp
theorem cutL_map {α β : Type} (f : α → β) (xs : List α) (lo hi : Option Int) : cutL (xs.map f) lo hi = (cutL xs lo hi).map f := by
  unfold cutL
  rw [List.length_map, List.map_take, List.map_drop]
theorem sd_sl {own : Bool} : SlR X (LSl X.K F0 (dSl own)) := by
  refine SlR_imp (sl_tupA.or (sl_list.or sl_str)) fun v lo hi H Q ⟨x, M, F, Qd, hF, r, hx, h, fin⟩ => ?_
  unfold dSl at h
  split at h
  · rename_i ds
    obtain ⟨a, vs, rfl, hq, hr⟩ := rep_tup.mp hx
    refine .inl ⟨a, vs, rfl, sqT_up r hq, fun hw => ?_, fun _ p hp => tup_fin r (hr.cut lo hi) h fin hp⟩
    rw [← hr.length] at hw
    rw [cutL_whole hw] at h
    exact fin.go h r hx
  · rename_i ns
    obtain ⟨a, rfl, hq⟩ := rep_rdl.mp hx
    refine .inr (.inl ⟨a, _, rfl, sqL_up r hq, fun p hp => ?_⟩)
    refine dNew_fin r (vs := cutV (ns.map V.int) lo hi) ?_ h fin hp
    have e : cutV (ns.map V.int) lo hi = (cutL ns lo hi).map V.int := cutL_map V.int ns lo hi
    rw [e]
    exact Reps.ints
  · rename_i z
    refine .inr (.inr ⟨z, rep_str.mp hx, h.1, fin.go h.2 r (rep_str.mpr ?_)⟩)
    unfold cutL
    rw [show z.cps.toList.length = z.length by simp [Str.length]]
    rfl
  · obtain ⟨ds, e1, h⟩ := h
    obtain ⟨p, vs, rfl, hq, hr⟩ := lsD_rep r hx e1
    exact .inr (.inl ⟨p, vs, rfl, SqL.of hq, fun p hp => dNew_fin r (hr.cut lo hi) h fin hp⟩)
def dSlE (r : D → Option Int → Option Int → Mp → DK → Prop) (te : DTE) (tl th : DTO) : DTE := fun σ M Q => te σ M fun x M1 => tl σ M1 fun l M2 => th σ M2 fun u M3 => r x l u M3 Q
theorem de_sl {own : Bool} {lo hi : Option Expr} {tl th : DTO} {p2 : Pos} (he : DE X F0 e te) (hl : DO X F0 lo tl) (hu : DO X F0 hi th) : DE X F0 (.Subscript e (.Slice lo hi none p2) pos) (dSlE (dSl own) te tl th) :=
  PE_imp (pe_slice sd_sl he hl hu) fun σ H Q ⟨σd, M, F, Qd, hF, hR, hS, h, fin⟩ => ⟨σd, M, F, _, hF, hR, hS, h, fun x M1 v H1 F1 h1 e1 r1 v1 =>
    ⟨σd, M1, F1, _, hF.trans e1, r1, hS.mono e1, h1, fun l M2 H2 F2 h2 e2 r2 => ⟨σd, M2, F2, _, (hF.trans e1).trans e2, r2, hS.mono (e1.trans e2), h2, fun u M3 H3 F3 h3 e3 r3 =>
      ⟨x, M3, F3, Qd, ((hF.trans e1).trans e2).trans e3, r3, v1.mono (e2.trans e3), h3, fin.mono ((e1.trans e2).trans e3)⟩⟩⟩⟩
/-- x[::-1] of a list -/
def dRev (own : Bool) (te : DTE) : DTE := fun σ M Q => te σ M fun x M1 => ∃ ds, lsD M1 x = some ds ∧ dNew own ds.reverse M1 Q
theorem de_rev {own : Bool} {k : Nat} {p1 p2 p3 : Pos} (he : DE X F0 e te) : DE X F0 (.Subscript e (.Slice none none (some (.UnaryOp .USub (.Constant (.int 1) k p1) p2)) p3) pos) (dRev own te) :=
  PE_imp (pe_revL he) fun σ H Q ⟨σd, M, F, Qd, hF, hR, hS, h, fin⟩ => ⟨σd, M, F, _, hF, hR, hS, h, fun x M1 v H1 F1 ⟨ds, e0, h1⟩ e1 r1 v1 => by
    obtain ⟨p, vs, rfl, hq, hr⟩ := lsD_rep r1 v1 e0
    exact ⟨p, vs, rfl, SqL.of hq, fun p' hp' => dNew_fin r1 hr.reverse h1 (fin.mono e1) hp'⟩⟩

/-! ### calls of built-in things by values -/
def dCB (r : DRC) (t : DTA) : DTE := fun σ M Q => t σ M fun xs M1 => r xs M1 Q
theorem lift_CB {K : PySem.W.Frag} {r : DRC} {t : DTA} {σ : St} {H : Hp} {Q : VK} (h : LE K F0 (dCB r t) σ H Q) : tCB (LRC K F0 r) (LA K F0 t) σ H Q := by
  obtain ⟨σd, M, F, Qd, hF, hR, hS, h, fin⟩ := h
  exact ⟨σd, M, F, _, hF, hR, hS, h, fun xs M1 vs H1 F1 h1 e1 r1 v1 => ⟨xs, M1, F1, Qd, hF.trans e1, r1, v1, h1, fin.mono e1⟩⟩
theorem de_callB {x : Str} {p : Pos} {id : String} {r : DRC} (hc : CallR X (.builtin id) (LRC X.K F0 r)) (hg : Gl X x) (hm : X.mg x = none) (hv : bootBuiltins x = some (.builtin id)) (ha : DA X F0 (e :: es) tr) (hn : x ≠ "__name__" := by decide) (hdb : (x == ("__debug__" : Str)) = false := by decide) (hs : starEach (e :: es) X.env = (false, eval e X.env) :: starEach es X.env := by rfl) (hpl : (backTo pos (starEach es X.env)).any (·.1) = false := by rfl) : DE X F0 (.Call (.Name x p) (e :: es) [] pos) (dCB r tr) :=
  PE_imp (pe_callB hc hg hm hv ha hn hdb hs hpl) fun _ _ _ h => lift_CB h
theorem de_callTy {x : Str} {p : Pos} {T : String} {r : DRC} (hc : CallR X (.type T) (LRC X.K F0 r)) (hg : Gl X x) (hm : X.mg x = none) (hv : bootBuiltins x = some (.type T)) (ha : DA X F0 (e :: es) tr) (hn : x ≠ "__name__" := by decide) (hdb : (x == ("__debug__" : Str)) = false := by decide) (hs : starEach (e :: es) X.env = (false, eval e X.env) :: starEach es X.env := by rfl) (hpl : (backTo pos (starEach es X.env)).any (·.1) = false := by rfl) : DE X F0 (.Call (.Name x p) (e :: es) [] pos) (dCB r tr) :=
  PE_imp (pe_callTy hc hg hm hv ha hn hdb hs hpl) fun _ _ _ h => lift_CB h
theorem Reps.one {K : PySem.W.Frag} {F : Hp} {d : D} {vs : List V} (h : Reps K F [d] vs) : ∃ v, vs = [v] ∧ Rep K F d v := by
  obtain ⟨v, vs', rfl, h1, h2⟩ := h.consD_inv
  rw [h2.nil_inv]
  exact ⟨v, rfl, h1⟩
theorem Reps.two {K : PySem.W.Frag} {F : Hp} {d d' : D} {vs : List V} (h : Reps K F [d, d'] vs) : ∃ v v', vs = [v, v'] ∧ Rep K F d v ∧ Rep K F d' v' := by
  obtain ⟨v, vs', rfl, h1, h2⟩ := h.consD_inv
  obtain ⟨v', rfl, h3⟩ := h2.one
  exact ⟨v, v', rfl, h1, h3⟩
def dLen : DRC := fun xs M Q => match xs with
  | [.str z] => z.length ≤ sizeLine ∧ Q (.int z.length) M
  | [x] => ∃ ds, sqD M x = some ds ∧ Q (.int ds.length) M
  | _ => False
theorem cd_len : CallR X (.builtin "len") (LRC X.K F0 dLen) := by
  refine CallR_imp call_len fun vs H Q ⟨xs, M, F, Qd, hF, r, hx, h, fin⟩ => ?_
  unfold dLen at h
  split at h
  · obtain ⟨v, rfl, h1⟩ := hx.one
    cases rep_str.mp h1
    exact ⟨_, _, rfl, ⟨h.1, rfl⟩, fin.go h.2 r (rep_int.mpr rfl)⟩
  · obtain ⟨ds, e1, h⟩ := h
    obtain ⟨v, rfl, h1⟩ := hx.one
    obtain ⟨p, vs, rfl, hq, hr⟩ := sqD_rep r h1 e1
    refine ⟨_, vs.length, rfl, ?_, fin.go h r (rep_int.mpr (by rw [hr.length]))⟩
    rcases hq with hq | hq
    · exact .inl ⟨vs, hq, rfl⟩
    · exact .inr ⟨vs, hq, rfl⟩
  · exact h.elim
def dIntC : DRC := fun xs M Q => match xs with
  | [.int i] => Q (.int i) M
  | [.bl b] => Q (.int (if b then 1 else 0)) M
  | _ => False
theorem cd_int : CallR X (.type "int") (LRC X.K F0 dIntC) := by
  refine CallR_imp call_int1 fun vs H Q ⟨xs, M, F, Qd, hF, r, hx, h, fin⟩ => ?_
  unfold dIntC at h
  split at h
  · obtain ⟨v, rfl, h1⟩ := hx.one
    cases rep_int.mp h1
    exact .inl ⟨_, rfl, fin.go h r (rep_int.mpr rfl)⟩
  · obtain ⟨v, rfl, h1⟩ := hx.one
    cases rep_bl.mp h1
    exact .inr ⟨_, rfl, fin.go h r (rep_int.mpr rfl)⟩
  · exact h.elim
def dTupC : DRC := fun xs M Q => match xs with
  | [.tup ds] => Q (.tup ds) M
  | [x] => ∃ ds, lsD M x = some ds ∧ Q (.tup ds) M
  | _ => False
theorem cd_tuple : CallR X (.type "tuple") (LRC X.K F0 dTupC) := by
  refine CallR_imp call_tuple_of fun vs H Q ⟨xs, M, F, Qd, hF, r, hx, h, fin⟩ => ?_
  unfold dTupC at h
  split at h
  · obtain ⟨v, rfl, h1⟩ := hx.one
    obtain ⟨a, vs, rfl, hq, hr⟩ := rep_tup.mp h1
    exact ⟨a, vs, rfl, .inr ⟨sqT_up r hq, fin.go h r h1⟩⟩
  · obtain ⟨ds, e1, h⟩ := h
    obtain ⟨v, rfl, h1⟩ := hx.one
    obtain ⟨p, vs, rfl, hq, hr⟩ := lsD_rep r h1 e1
    exact ⟨p, vs, rfl, .inl ⟨SqL.of hq, fun l hl => tup_fin r hr h fin hl⟩⟩
  · exact h.elim
def dListC (own : Bool) : DRC := fun xs M Q => match xs with
  | [x] => ∃ ds, sqD M x = some ds ∧ dNew own ds M Q
  | _ => False
theorem cd_list {own : Bool} : CallR X (.type "list") (LRC X.K F0 (dListC own)) := by
  refine CallR_imp call_list_of fun vs H Q ⟨xs, M, F, Qd, hF, r, hx, h, fin⟩ => ?_
  unfold dListC at h
  split at h
  · obtain ⟨ds, e1, h⟩ := h
    obtain ⟨v, rfl, h1⟩ := hx.one
    obtain ⟨p, vs, rfl, hq, hr⟩ := sqD_rep r h1 e1
    exact ⟨p, vs, rfl, hq, fun l hl => dNew_fin r hr h fin hl⟩
  · exact h.elim
def dMax2 : DRC := fun xs M Q => match xs with
  | [.int i, .int j] => Q (.int (if j > i then j else i)) M
  | _ => False
theorem cd_max2 (hc : X.calm = true) : CallR X (.builtin "max") (LRC X.K F0 dMax2) := by
  refine CallR_imp (call_max2 hc) fun vs H Q ⟨xs, M, F, Qd, hF, r, hx, h, fin⟩ => ?_
  unfold dMax2 at h
  split at h
  · obtain ⟨v, v', rfl, h1, h2⟩ := hx.two
    cases rep_int.mp h1; cases rep_int.mp h2
    exact ⟨_, _, rfl, fin.go h r (rep_int.mpr rfl)⟩
  · exact h.elim
def dMin2 : DRC := fun xs M Q => match xs with
  | [.int i, .int j] => Q (.int (if j < i then j else i)) M
  | _ => False
theorem cd_min2 (hc : X.calm = true) : CallR X (.builtin "min") (LRC X.K F0 dMin2) := by
  refine CallR_imp (call_min2 hc) fun vs H Q ⟨xs, M, F, Qd, hF, r, hx, h, fin⟩ => ?_
  unfold dMin2 at h
  split at h
  · obtain ⟨v, v', rfl, h1, h2⟩ := hx.two
    cases rep_int.mp h1; cases rep_int.mp h2
    exact ⟨_, _, rfl, fin.go h r (rep_int.mpr rfl)⟩
  · exact h.elim

/-! ### methods of built-in things -/
def dBM (r : DRM) (to : DTE) (t : DTA) : DTE := fun σ M Q => to σ M fun x M1 => t σ M1 fun xs M2 => r x xs M2 Q
def isLst (x : D) (M : Mp) : Prop := ∃ p ds, x = .obj p ∧ M p = some (.lst ds)
/-- a method of a list that may change -/
def dBL (r : DRM) (to : DTE) (t : DTA) : DTE := fun σ M Q => to σ M fun x M1 => isLst x M1 ∧ t σ M1 fun xs M2 => r x xs M2 Q
theorem isLst_ty {K : PySem.W.Frag} {F H : Hp} {M : Mp} (r : R K M F H) {x : D} {v : V} (h : Rep K F x v) (e : isLst x M) : tyV K "list" v H := by
  obtain ⟨p, ds, rfl, hp⟩ := e
  obtain ⟨vs, h1, h2⟩ := r.mem p _ hp
  cases rep_obj.mp h
  exact .inl ⟨rfl, vs, SqL.of h1⟩
theorem de_bl1 {id : String} {name : Str} {apos cpos : Pos} {r : DRM} {o : Expr} {to : DTE} (slot : Slot "list" name id) (hty : typeOf (.builtin id) = pure (.type "method_descriptor")) (hm : MtR X id (LRM X.K F0 r)) (ho : DE X F0 o to) (ha : DA X F0 (e :: es) tr)
    (hbase : attributeBase o name X.env (eval o X.env) = eval o X.env := by rfl)
    (hfew : ((backTo cpos (starEach (e :: es) X.env)).all (fun x => !x.1) && (backToKw cpos (keywordEach [] X.env)).all (fun x => x.1.isSome)
      && decide ((e :: es).length + ([] : List Keyword).length + (if ([] : List Keyword).isEmpty then 0 else 1) < 30)) = true := by rfl)
    (hline : (apos.endLine == cpos.line) = true := by rfl) (hs : starEach (e :: es) X.env = (false, eval e X.env) :: starEach es X.env := by rfl) (hplain : (backTo cpos (starEach es X.env)).any (·.1) = false := by rfl) :
    DE X F0 (.Call (.Attribute o name apos) (e :: es) [] cpos) (dBL r to tr) :=
  PE_imp (pe_bm F.plainAttrs_list slot hty hm ho ha hbase hfew hline hs hplain) fun σ H Q ⟨σd, M, F, Qd, hF, hR, hS, h, fin⟩ => ⟨σd, M, F, _, hF, hR, hS, h, fun x M1 v H1 F1 h1 e1 r1 v1 =>
    ⟨isLst_ty r1 v1 h1.1, σd, M1, F1, _, hF.trans e1, r1, hS.mono e1, h1.2, fun xs M2 vs H2 F2 h2 e2 r2 vs2 => ⟨x, xs, M2, F2, Qd, (hF.trans e1).trans e2, r2, v1.mono e2, vs2, h2, fin.mono (e1.trans e2)⟩⟩⟩
def dBL0 (r : DRM) (to : DTE) : DTE := fun σ M Q => to σ M fun x M1 => isLst x M1 ∧ r x [] M1 Q
theorem de_bl0 {id : String} {name : Str} {apos cpos : Pos} {r : DRM} {o : Expr} {to : DTE} (slot : Slot "list" name id) (hty : typeOf (.builtin id) = pure (.type "method_descriptor")) (hm : MtR X id (LRM X.K F0 r)) (ho : DE X F0 o to)
    (hbase : attributeBase o name X.env (eval o X.env) = eval o X.env := by rfl) (hline : (apos.endLine == cpos.line) = true := by rfl) : DE X F0 (.Call (.Attribute o name apos) [] [] cpos) (dBL0 r to) :=
  PE_imp (pe_bm0 F.plainAttrs_list slot hty hm ho hbase hline) fun σ H Q ⟨σd, M, F, Qd, hF, hR, hS, h, fin⟩ => ⟨σd, M, F, _, hF, hR, hS, h, fun x M1 v H1 F1 h1 e1 r1 v1 =>
    ⟨isLst_ty r1 v1 h1.1, x, [], M1, F1, Qd, hF.trans e1, r1, v1, .nil, h1.2, fin.mono e1⟩⟩
def dAppend : DRM := fun x xs M Q => ∃ p ds y, x = .obj p ∧ xs = [y] ∧ M p = some (.lst ds) ∧ ds.length < sizeLine ∧ Q .non (updM M p (.lst (ds ++ [y])))
theorem md_append : MtR X "list.append" (LRM X.K F0 dAppend) := by
  refine MtR_imp mt_append fun v vs H Q ⟨x, xs, M, F, Qd, hF, r, hx, hxs, ⟨p, ds, y, e1, e2, hp, hz, h⟩, fin⟩ => ?_
  subst e1 e2
  obtain ⟨u, rfl, hu⟩ := hxs.one
  obtain ⟨vs, h1, h2⟩ := r.mem p _ hp
  cases rep_obj.mp hx
  exact ⟨p, vs, u, rfl, rfl, h1, by rw [← h2.length]; exact hz, fin.go h (r.setM hp (h2.append (.cons hu .nil))) (rep_non.mpr rfl)⟩
def dExtend : DRM := fun x xs M Q => ∃ p ds y es, x = .obj p ∧ xs = [y] ∧ M p = some (.lst ds) ∧ lsD M y = some es ∧ ds.length + es.length ≤ sizeLine ∧ Q .non (updM M p (.lst (ds ++ es)))
theorem md_extend : MtR X "list.extend" (LRM X.K F0 dExtend) := by
  refine MtR_imp mt_extend fun v vs H Q ⟨x, xs, M, F, Qd, hF, r, hx, hxs, ⟨p, ds, y, es, e1, e2, hp, hy, hz, h⟩, fin⟩ => ?_
  subst e1 e2
  obtain ⟨u, rfl, hu⟩ := hxs.one
  obtain ⟨vs, h1, h2⟩ := r.mem p _ hp
  cases rep_obj.mp hx
  obtain ⟨q, us, rfl, h3, h4⟩ := lsD_rep r hu hy
  exact ⟨p, q, vs, us, rfl, rfl, h1, h3, by rw [← h2.length, ← h4.length]; exact hz, fin.go h (r.setM hp (h2.append h4)) (rep_non.mpr rfl)⟩
def dPop : DRM := fun x xs M Q => ∃ p ds y, x = .obj p ∧ xs = [] ∧ M p = some (.lst ds) ∧ ds.getLast? = some y ∧ Q y (updM M p (.lst ds.dropLast))
theorem md_pop : MtR X "list.pop" (LRM X.K F0 dPop) := by
  refine MtR_imp mt_pop fun v vs H Q ⟨x, xs, M, F, Qd, hF, r, hx, hxs, ⟨p, ds, y, e1, e2, hp, hz, h⟩, fin⟩ => ?_
  subst e1 e2
  cases hxs.nil_inv
  obtain ⟨vs, h1, h2⟩ := r.mem p _ hp
  cases rep_obj.mp hx
  rw [List.getLast?_eq_getElem?] at hz
  obtain ⟨u, h3, h4⟩ := h2.getD hz
  rw [h2.length] at h3
  exact ⟨p, vs, u, rfl, rfl, h1, h3, fin.go h (r.setM hp h2.dropLast) h4⟩
def dReverse : DRM := fun x xs M Q => ∃ p ds, x = .obj p ∧ xs = [] ∧ M p = some (.lst ds) ∧ Q .non (updM M p (.lst ds.reverse))
theorem md_reverse : MtR X "list.reverse" (LRM X.K F0 dReverse) := by
  refine MtR_imp mt_reverse fun v vs H Q ⟨x, xs, M, F, Qd, hF, r, hx, hxs, ⟨p, ds, e1, e2, hp, h⟩, fin⟩ => ?_
  subst e1 e2
  cases hxs.nil_inv
  obtain ⟨vs, h1, h2⟩ := r.mem p _ hp
  cases rep_obj.mp hx
  exact ⟨p, vs, rfl, rfl, h1, fin.go h (r.setM hp h2.reverse) (rep_non.mpr rfl)⟩
/-- methods of texts -/
def dS0 (r : Str → Mp → DK → Prop) (to : DTE) : DTE := fun σ M Q => to σ M fun x M1 => match x with
  | .str z => r z M1 Q
  | _ => False
def LS0 (K : PySem.W.Frag) (F0 : Hp) (r : Str → Mp → DK → Prop) : V → List V → Hp → VK → Prop := fun v vs H Q => ∃ z M F Qd, v = .str z ∧ vs = [] ∧ Same F0 F ∧ R K M F H ∧ r z M Qd ∧ Fin K F Qd Q
theorem de_s0 {id : String} {name : Str} {apos cpos : Pos} {r : Str → Mp → DK → Prop} {o : Expr} {to : DTE} (slot : Slot "str" name id) (ty : typeOf (.builtin id) = pure (.type "method_descriptor")) (rule : MtR X id (LS0 X.K F0 r)) (ho : DE X F0 o to)
    (hbase : attributeBase o name X.env (eval o X.env) = eval o X.env := by rfl) (hline : (apos.endLine == cpos.line) = true := by rfl) : DE X F0 (.Call (.Attribute o name apos) [] [] cpos) (dS0 r to) :=
  PE_imp (pe_m0 slot ty rule ho hbase hline) fun σ H Q ⟨σd, M, F, Qd, hF, hR, hS, h, fin⟩ => ⟨σd, M, F, _, hF, hR, hS, h, fun x M1 v H1 F1 h1 e1 r1 v1 => by
    split at h1
    · exact ⟨⟨_, rep_str.mp v1⟩, _, M1, F1, Qd, rep_str.mp v1, rfl, hF.trans e1, r1, h1, fin.mono e1⟩
    · exact h1.elim⟩
def dS1 (r : Str → D → Mp → DK → Prop) (to te : DTE) : DTE := fun σ M Q => to σ M fun x M1 => match x with
  | .str z => te σ M1 fun y M2 => r z y M2 Q
  | _ => False
def LS1 (K : PySem.W.Frag) (F0 : Hp) (r : Str → D → Mp → DK → Prop) : V → List V → Hp → VK → Prop := fun v vs H Q => ∃ z y u M F Qd, v = .str z ∧ vs = [u] ∧ Rep K F y u ∧ Same F0 F ∧ R K M F H ∧ r z y M Qd ∧ Fin K F Qd Q
theorem de_s1 {id : String} {name : Str} {apos cpos : Pos} {r : Str → D → Mp → DK → Prop} {o : Expr} {to : DTE} (slot : Slot "str" name id) (ty : typeOf (.builtin id) = pure (.type "method_descriptor")) (rule : MtR X id (LS1 X.K F0 r)) (ho : DE X F0 o to) (he : DE X F0 e te)
    (hs : starEach [e] X.env = [(false, eval e X.env)] := by rfl) (hbase : attributeBase o name X.env (eval o X.env) = eval o X.env := by rfl) (hline : (apos.endLine == cpos.line) = true := by rfl) : DE X F0 (.Call (.Attribute o name apos) [e] [] cpos) (dS1 r to te) :=
  PE_imp (pe_m1 slot ty rule ho he hs hbase hline) fun σ H Q ⟨σd, M, F, Qd, hF, hR, hS, h, fin⟩ => ⟨σd, M, F, _, hF, hR, hS, h, fun x M1 v H1 F1 h1 e1 r1 v1 => by
    split at h1
    · exact ⟨⟨_, rep_str.mp v1⟩, σd, M1, F1, _, hF.trans e1, r1, hS.mono e1, h1, fun y M2 w H2 F2 h2 e2 r2 w2 => ⟨_, y, w, M2, F2, Qd, rep_str.mp v1, rfl, w2, (hF.trans e1).trans e2, r2, h2, fin.mono (e1.trans e2)⟩⟩
    · exact h1.elim⟩
def sUpper : Str → Mp → DK → Prop := fun z M Q => z.length ≤ 5592405 ∧ Q (.str (Txt.upper z)) M
theorem xs_upper : MtR X "str.upper" (LS0 X.K F0 sUpper) := MtR_imp mt_upper fun v vs H Q ⟨z, M, F, Qd, e1, e2, hF, r, h, fin⟩ => ⟨z, e1, e2, h.1, fin.go h.2 r (rep_str.mpr rfl)⟩
def sIsalnum : Str → Mp → DK → Prop := fun z M Q => Q (.bl (Txt.isalnum z)) M
theorem xs_isalnum : MtR X "str.isalnum" (LS0 X.K F0 sIsalnum) := MtR_imp mt_isalnum fun v vs H Q ⟨z, M, F, Qd, e1, e2, hF, r, h, fin⟩ => ⟨z, e1, e2, trivial, fin.go h r (rep_bl.mpr rfl)⟩
def sIsalpha : Str → Mp → DK → Prop := fun z M Q => Q (.bl (Txt.isalpha z)) M
theorem xs_isalpha : MtR X "str.isalpha" (LS0 X.K F0 sIsalpha) := MtR_imp mt_isalpha fun v vs H Q ⟨z, M, F, Qd, e1, e2, hF, r, h, fin⟩ => ⟨z, e1, e2, trivial, fin.go h r (rep_bl.mpr rfl)⟩
def sSplit (own : Bool) : Str → D → Mp → DK → Prop := fun z y M Q => match y with
  | .str b => (b.length == 0) = false ∧ z.length + 2 ≤ sizeLine ∧ dNew own ((Txt.split z b).map D.str) M Q
  | _ => False
theorem xs_split {own : Bool} : MtR X "str.split" (LS1 X.K F0 (sSplit own)) := MtR_imp mt_split fun v vs H Q ⟨z, y, u, M, F, Qd, e1, e2, hu, hF, r, h, fin⟩ => by
  unfold sSplit at h
  split at h
  · cases rep_str.mp hu
    exact ⟨z, _, e1, e2, h.1, h.2.1, fun p hp => dNew_fin r Reps.strs h.2.2 fin hp⟩
  · exact h.elim
def sJoin : Str → D → Mp → DK → Prop := fun z y M Q => ∃ xs, (sqD M y).bind strsD = some xs ∧ (xs.map (·.length)).sum + xs.length * z.length ≤ 16777216 ∧ Q (.str (Txt.join z xs)) M
theorem xs_join : MtR X "str.join" (LS1 X.K F0 sJoin) := MtR_imp mt_join fun v vs H Q ⟨z, y, u, M, F, Qd, e1, e2, hu, hF, r, ⟨xs, e, hz, h⟩, fin⟩ => by
  obtain ⟨ds, e3, e4⟩ := Option.bind_eq_some_iff.mp e
  obtain ⟨p, vs', rfl, hq, hr⟩ := sqD_rep r hu e3
  have := strsD_eq e4
  subst this
  have := hr.strs_inv
  subst this
  exact ⟨z, p, xs, e1, e2, hq, hz, fin.go h r (rep_str.mpr rfl)⟩
def sCount : Str → D → Mp → DK → Prop := fun z y M Q => match y with
  | .str b => Q (.int (Txt.count z b)) M
  | _ => False
theorem xs_count : MtR X "str.count" (LS1 X.K F0 sCount) := MtR_imp mt_count fun v vs H Q ⟨z, y, u, M, F, Qd, e1, e2, hu, hF, r, h, fin⟩ => by
  unfold sCount at h
  split at h
  · cases rep_str.mp hu
    exact ⟨z, _, e1, e2, fin.go h r (rep_int.mpr rfl)⟩
  · exact h.elim
def sEndswith : Str → D → Mp → DK → Prop := fun z y M Q => match y with
  | .str b => Q (.bl (Txt.endswith z b)) M
  | _ => False
theorem xs_endswith : MtR X "str.endswith" (LS1 X.K F0 sEndswith) := MtR_imp mt_endswith fun v vs H Q ⟨z, y, u, M, F, Qd, e1, e2, hu, hF, r, h, fin⟩ => by
  unfold sEndswith at h
  split at h
  · cases rep_str.mp hu
    exact ⟨z, _, e1, e2, fin.go h r (rep_bl.mpr rfl)⟩
  · exact h.elim
def sRfind : Str → D → Mp → DK → Prop := fun z y M Q => match y with
  | .str b => Q (.int (Txt.rfind z b)) M
  | _ => False
theorem xs_rfind : MtR X "str.rfind" (LS1 X.K F0 sRfind) := MtR_imp mt_rfind fun v vs H Q ⟨z, y, u, M, F, Qd, e1, e2, hu, hF, r, h, fin⟩ => by
  unfold sRfind at h
  split at h
  · cases rep_str.mp hu
    exact ⟨z, _, e1, e2, fin.go h r (rep_int.mpr rfl)⟩
  · exact h.elim
end
end DL
namespace DL
open PySem L2
section
variable {X : Cx} {F0 : Hp} {a b c e : Expr} {ta tb tc te : DTE} {pos : Pos} {es : List Expr} {tr : DTA}

/-! ### isinstance(x, T), T a built-in type -/
def tyD (x : D) (M : Mp) : Option String := match x with
  | .non => some "NoneType"
  | .bl _ => some "bool"
  | .int _ => some "int"
  | .str _ => some "str"
  | .tup _ => some "tuple"
  | .lst _ => some "list"
  | .rdl _ => none
  | .obj p => (match M p with
    | some (.lst _) => some "list"
    | _ => none)
theorem tyD_ok {K : PySem.W.Frag} {F H : Hp} {M : Mp} (r : R K M F H) {x : D} {v : V} {n : String} (h : Rep K F x v) (e : tyD x M = some n) : TyX K H v (.type n) := by
  cases x with
  | non => cases rep_non.mp h; cases e; exact .base .non
  | bl b => cases rep_bl.mp h; cases e; exact .base (.bl b)
  | int i => cases rep_int.mp h; cases e; exact .base (.int i)
  | str i => cases rep_str.mp h; cases e; exact .base (.str i)
  | rdl i => cases e
  | tup ds =>
    obtain ⟨a, vs, rfl, hq, _⟩ := rep_tup.mp h
    cases e
    rcases hq with (hq | ⟨o, hq⟩) | ⟨o, its, m, hk, hc, _⟩
    · exact .base (.tup (r.fr _ _ hq))
    · exact .fTuple (r.fr _ _ hq)
    · exact .kTuple hk hc
  | lst ds =>
    obtain ⟨a, vs, rfl, hq, _⟩ := rep_lst.mp h
    cases e
    exact .base (.lst (r.fr _ _ hq))
  | obj p =>
    cases rep_obj.mp h
    unfold tyD at e
    dsimp only at e
    split at e
    · rename_i ds hp
      cases e
      obtain ⟨vs, h1, _⟩ := r.mem p _ hp
      exact .base (.lst h1)
    · cases e
def dIsi (T : String) (te : DTE) : DTE := fun σ M Q => te σ M fun x M1 => ∃ n b, tyD x M1 = some n ∧ kitB n T = some b ∧ Q (.bl b) M1
theorem de_isi {p q : Pos} {T : Str} {n : String} (ha : DE X F0 a ta) (hg : Gl X "isinstance") (hm : X.mg "isinstance" = none) (hT : PE X (.Name T q) (tC (.ty n)))
    (hs : starEach [a, .Name T q] X.env = (false, eval a X.env) :: starEach [.Name T q] X.env := by rfl) (hs2 : starEach [.Name T q] X.env = (false, eval (.Name T q) X.env) :: starEach [] X.env := by rfl) (hpl : (backTo pos (starEach [.Name T q] X.env)).any (·.1) = false := by rfl) :
    DE X F0 (.Call (.Name "isinstance" p) [a, .Name T q] [] pos) (dIsi n ta) :=
  PE_imp (pe_callB call_isi hg hm (by decide +kernel) (pa_cons ha (pa_cons hT pa_nil hs2) hs) (by decide) (by decide) hs hpl) fun σ H Q ⟨σd, M, F, Qd, hF, hR, hS, h, fin⟩ => ⟨σd, M, F, _, hF, hR, hS, h, fun x M1 v H1 F1 ⟨m, b, e1, e2, h1⟩ e3 r1 v1 =>
    ⟨v, .ty n, .type m, .type n, b, rfl, .ty n, tyD_ok r1 v1 e1, kit_ty e2, fin _ _ _ _ _ h1 e3 r1 (rep_bl.mpr rfl)⟩⟩

/-! ### statements -/
variable {st : Stmt} {rest : List Stmt} {t u : DTS}
def dNext : DTS := fun D σ M => D.nx σ M
def dSeq (t u : DTS) : DTS := fun D σ M => t { D with nx := u D } σ M
theorem dss_nil : DSs X F0 [] dNext := PSs_imp pss_nil fun D σ H ⟨σd, M, F, Dd, hF, r, hS, h, fin⟩ => fin.nx _ _ _ _ F h (Same.refl F) r hS
theorem dss_cons (h1 : DSt X F0 st t) (h2 : DSs X F0 rest u) : DSs X F0 (st :: rest) (dSeq t u) :=
  PSs_imp (pss_cons h1 h2) fun D σ H ⟨σd, M, F, Dd, hF, r, hS, h, fin⟩ => ⟨σd, M, F, _, hF, r, hS, h, ⟨fun σd1 M1 σ1 H1 F1 q e1 r1 s1 => ⟨σd1, M1, F1, Dd, hF.trans e1, r1, s1, q, fin.mono e1⟩, fin.rt, fin.bk, fin.ct⟩⟩
theorem dss_one (h1 : DSt X F0 st t) : DSs X F0 [st] t := pss_one h1
def dBreak : DTS := fun D σ M => D.bk σ M
def dCont : DTS := fun D σ M => D.ct σ M
theorem ds_pass : DSt X F0 (.Pass pos) dNext := PS_imp ps_pass fun D σ H ⟨σd, M, F, Dd, hF, r, hS, h, fin⟩ => fin.nx _ _ _ _ F h (Same.refl F) r hS
theorem ds_break : DSt X F0 (.Break pos) dBreak := PS_imp ps_break fun D σ H ⟨σd, M, F, Dd, hF, r, hS, h, fin⟩ => fin.bk _ _ _ _ F h (Same.refl F) r hS
theorem ds_continue : DSt X F0 (.Continue pos) dCont := PS_imp ps_continue fun D σ H ⟨σd, M, F, Dd, hF, r, hS, h, fin⟩ => fin.ct _ _ _ _ F h (Same.refl F) r hS
theorem ds_doc {x j pos pos'} : DSt X F0 (.Expr (.Constant (.str x) j pos) pos') dNext := PS_imp ps_doc fun D σ H ⟨σd, M, F, Dd, hF, r, hS, h, fin⟩ => fin.nx _ _ _ _ F h (Same.refl F) r hS
def dDrop (te : DTE) : DTS := fun D σ M => te σ M fun _ M1 => D.nx σ M1
theorem ds_expr (he : DE X F0 e te) (hs : swapsWith e none pos.line X.env = pure false := by rfl) : DSt X F0 (.Expr e pos) (dDrop te) :=
  PS_imp (ps_expr he hs) fun D σ H ⟨σd, M, F, Dd, hF, r, hS, h, fin⟩ => ⟨σd, M, F, _, hF, r, hS, h, fun d M1 v H1 F1 q e1 r1 v1 => fin.nx _ _ _ _ F1 q e1 r1 (hS.mono e1)⟩
def dRet (te : DTE) : DTS := fun D σ M => te σ M D.rt
theorem ds_ret (he : DE X F0 e te) : DSt X F0 (.Return (some e) pos) (dRet te) :=
  PS_imp (ps_ret he) fun D σ H ⟨σd, M, F, Dd, hF, r, hS, h, fin⟩ => ⟨σd, M, F, _, hF, r, hS, h, fin.rt⟩
def dRetN : DTS := fun D _ M => D.rt .non M
theorem ds_retN : DSt X F0 (.Return none pos) dRetN := PS_imp ps_retN fun D σ H ⟨σd, M, F, Dd, hF, r, hS, h, fin⟩ => fin.rt.go h r (rep_non.mpr rfl)
def dIfS (c : DTT) (t u : DTS) : DTS := fun D σ M => c σ M fun b M1 => IfB b (t D σ M1) (u D σ M1)
theorem ds_if {c : Expr} {a b : List Stmt} {tc : DTT} (hc : DT X F0 c tc) (ha : DSs X F0 a t) (hb : DSs X F0 b u) : DSt X F0 (.If c a b pos) (dIfS tc t u) :=
  PS_imp (ps_if hc ha hb) fun D σ H ⟨σd, M, F, Dd, hF, r, hS, h, fin⟩ => ⟨σd, M, F, _, hF, r, hS, h, fun b M1 H1 F1 q e1 r1 => by
    cases b with
    | true => exact iteT ⟨σd, M1, F1, Dd, hF.trans e1, r1, hS.mono e1, q, fin.mono e1⟩
    | false => exact iteF ⟨σd, M1, F1, Dd, hF.trans e1, r1, hS.mono e1, q, fin.mono e1⟩⟩
def dNever : DTS := fun _ _ _ => False
theorem ds_never : DSt X F0 st dNever := PS_imp ps_never fun D σ H ⟨σd, M, F, Dd, hF, r, hS, h, fin⟩ => h.elim
theorem dss_never {sts : List Stmt} : DSs X F0 sts dNever := PSs_imp pss_never fun D σ H ⟨σd, M, F, Dd, hF, r, hS, h, fin⟩ => h.elim

/-! ### targets -/
def nGm (i : Nat) : DTG := fun d σ M Q => Q (σ.set i (some d)) M
theorem dg_name {i : Nat} {x : Str} (h : PG X (.Name x pos) (gName i)) : DG X F0 (.Name x pos) (nGm i) :=
  PG_imp h fun v σ H Q ⟨d, σd, M, F, Qd, hF, r, hv, hS, h, fin⟩ => fin _ _ _ _ F h (Same.refl F) r (hS.set i hv)
def nNil : DTGs := fun ds σ M Q => ds = [] ∧ Q σ M
def nCons (t : DTG) (u : DTGs) : DTGs := fun ds σ M Q => match ds with
  | d :: r => t d σ M fun σ' M' => u r σ' M' Q
  | [] => False
theorem dgs_nil : DGs X F0 [] nNil := PGs_imp pgs_nil fun v σ H Q ⟨ds, σd, M, F, Qd, hF, r, hv, hS, ⟨e, h⟩, fin⟩ => by
  subst e
  exact ⟨hv.nil_inv, fin _ _ _ _ F h (Same.refl F) r hS⟩
theorem dgs_cons {tg : Expr} {tgs : List Expr} {t : DTG} {u : DTGs} (h1 : DG X F0 tg t) (h2 : DGs X F0 tgs u)
    (hs : (assignEach (tg :: tgs) X.env).map (·.2) = assign tg X.env :: (assignEach tgs X.env).map (·.2) := by rfl) : DGs X F0 (tg :: tgs) (nCons t u) :=
  PGs_imp (pgs_cons h1 h2 hs) fun v σ H Q ⟨ds, σd, M, F, Qd, hF, r, hv, hS, h, fin⟩ => by
    unfold nCons at h
    split at h
    · obtain ⟨v1, vs, rfl, r1, r2⟩ := hv.consD_inv
      exact ⟨v1, vs, rfl, _, σd, M, F, _, hF, r, r1, hS, h, fun σd1 M1 σ1 H1 F1 q e1 rr s1 => ⟨_, σd1, M1, F1, Qd, hF.trans e1, rr, r2.mono e1, s1, q, fin.mono e1⟩⟩
    · exact h.elim
def nTup (n : Nat) (t : DTGs) : DTG := fun d σ M Q => match d with
  | .tup ds => ds.length = n ∧ t ds σ M Q
  | _ => False
theorem dg_tup {tgs : List Expr} {k : Nat} {t : DTGs} {n : Nat} (hc : X.calm = true) (h : DGs X F0 tgs t)
    (hn : (assignEach tgs X.env).length = n := by rfl) (hst : (assignEach tgs X.env).findIdx? (·.1) = none := by rfl) : DG X F0 (.Tuple tgs k pos) (nTup n t) :=
  PG_imp (pg_tup hc h hn hst) fun v σ H Q ⟨d, σd, M, F, Qd, hF, r, hv, hS, h, fin⟩ => by
    unfold nTup at h
    split at h
    · obtain ⟨a, vs, rfl, hq, hr⟩ := rep_tup.mp hv
      exact ⟨a, vs, rfl, sqT_up r hq, by rw [← hr.length]; exact h.1, _, σd, M, F, Qd, hF, r, hr, hS, h.2, fin⟩
    · exact h.elim
/-- o[i] = v, o a list that may change -/
def nSub (to ti : DTE) : DTG := fun d σ M Q => to σ M fun o M1 => ti σ M1 fun i M2 => ∃ p ds k j, o = .obj p ∧ i = .int k ∧ M2 p = some (.lst ds) ∧ ixN ds.length k = some j ∧ Q σ (updM M2 p (.lst (ds.set j d)))
theorem dg_sub {o i : Expr} {to ti : DTE} (ho : DE X F0 o to) (hi : DE X F0 i ti)
    (ha : ∀ v, assign (.Subscript o i pos) X.env v = (do
      let ov ← holding [v] (eval o X.env)
      let iv ← holding [v, ov] (eval i X.env)
      standAt pos
      holding [v, ov, iv] (setItem ov iv v)
      release [v, ov, iv] []) := by intro _; rfl) : DG X F0 (.Subscript o i pos) (nSub to ti) :=
  PG_imp (pg_sub ho hi set_list ha) fun v σ H Q ⟨d, σd, M, F, Qd, hF, r, hv, hS, h, fin⟩ => ⟨σd, M, F, _, hF, r, hS, h, fun ov M1 ou H1 F1 q e1 r1 o1 =>
    ⟨σd, M1, F1, _, hF.trans e1, r1, hS.mono e1, q, fun iv M2 iu H2 F2 q2 e2 r2 i2 => by
      obtain ⟨p, ds, k, j, rfl, rfl, hp, hj, q2⟩ := q2
      obtain ⟨vs, h1, h2⟩ := r2.mem p _ hp
      have e12 := e1.trans e2
      refine ⟨p, vs, k, j, rep_obj.mp o1, rep_int.mp i2, h1, by rw [← h2.length]; exact hj, ?_⟩
      exact fin _ _ _ _ F2 q2 e12 (r2.setM hp (h2.set j (hv.mono e12))) (hS.mono e12)⟩⟩
def dAsg (te : DTE) (g : DTG) : DTS := fun D σ M => te σ M fun x M1 => g x σ M1 D.nx
theorem lift_asg {K : PySem.W.Frag} {g : DTG} {D : Ends} {σ : St} {H : Hp} (h : LS K F0 (dAsg te g) D σ H) : tAsg (LE K F0 te) (LG K F0 g) D σ H := by
  obtain ⟨σd, M, F, Dd, hF, r, hS, h, fin⟩ := h
  exact ⟨σd, M, F, _, hF, r, hS, h, fun x M1 v H1 F1 q e1 r1 v1 => ⟨x, σd, M1, F1, _, hF.trans e1, r1, v1, hS.mono e1, q, fin.nx.mono e1⟩⟩
theorem ds_asg {tg e : Expr} {g : DTG} (he : DE X F0 e te) (hg : DG X F0 tg g) (hs : swapsWithSole [tg] e pos.line X.env = pure false := by rfl) (hw : swappedStores [tg] e X.env = pure none := by rfl)
    (h1 : (assignEach [tg] X.env).map (·.2) = [assign tg X.env] := by rfl) : DSt X F0 (.Assign [tg] e pos) (dAsg te g) :=
  PS_imp (ps_asg he hg hs hw h1) fun _ _ _ h => lift_asg h
theorem ds_set {i : Nat} {x : Str} {e : Expr} {pos' : Pos} (hN : X.N.Nodup) (hi : X.N[i]? = some x) (hx : Loc X.env.scope x) (he : DE X F0 e te) (hs : swapsWith e (some (.Name x pos')) pos.line X.env = pure false := by rfl) (hf : X.fn x = true ∨ X.env.scope.names.lookup x = some .local := by first | exact .inl rfl | exact .inr rfl | assumption) :
    DSt X F0 (.Assign [.Name x pos'] e pos) (dAsg te (nGm i)) :=
  PS_imp (ps_set hN hi hx he hs hf) fun D σ H ⟨σd, M, F, Dd, hF, r, hS, h, fin⟩ => ⟨σd, M, F, _, hF, r, hS, h, fun x M1 v H1 F1 q e1 r1 v1 => fin.nx _ _ _ _ F1 q e1 r1 ((hS.mono e1).set i v1)⟩
def dPar (i j : Nat) (ta : DTA) : DTS := fun D σ M => ta σ M fun vs M1 => match vs with
  | [v, w] => D.nx ((σ.set i (some v)).set j (some w)) M1
  | _ => False
theorem ds_par {i j : Nat} {x y : Str} {a b : Expr} {ta : DTA} {px py pt : Pos} {kt k2 pt2} (hc : X.calm = true) (hN : X.N.Nodup) (hi : X.N[i]? = some x) (hj : X.N[j]? = some y) (hij : i ≠ j)
    (hx : X.env.scope.names.lookup x = some .local) (hy : X.env.scope.names.lookup y = some .local) (ha : DA X F0 [a, b] ta)
    (hw : swappedStores [.Tuple [.Name x px, .Name y py] kt pt] (.Tuple [a, b] k2 pt2) X.env = pure (some [x, y]))
    (hs : swapsWithSole [.Tuple [.Name x px, .Name y py] kt pt] (.Tuple [a, b] k2 pt2) pos.line X.env = pure false := by rfl) :
    DSt X F0 (.Assign [.Tuple [.Name x px, .Name y py] kt pt] (.Tuple [a, b] k2 pt2) pos) (dPar i j ta) :=
  PS_imp (ps_par hc hN hi hj hij hx hy ha hw hs) fun D σ H ⟨σd, M, F, Dd, hF, r, hS, h, fin⟩ => ⟨σd, M, F, _, hF, r, hS, h, fun ds M1 vs H1 F1 q e1 r1 v1 => by
    split at q
    · obtain ⟨v, w, rfl, h1, h2⟩ := v1.two
      exact ⟨v, w, rfl, fin.nx _ _ _ _ F1 q e1 r1 (((hS.mono e1).set i h1).set j h2)⟩
    · exact q.elim⟩
/-- x op= e of a name -/
def dAug (i : Nat) (te : DTE) (r : DR2) : DTS := fun D σ M => match σ[i]? with
  | some (some x) => te σ M fun y M1 => r x y M1 fun z M2 => D.nx (σ.set i (some z)) M2
  | _ => False
def LIp (K : PySem.W.Frag) (F0 : Hp) (r : DR2) : TIp := LR K F0 r
theorem PIp_of {op : Operator} {r : R2} (h : OpR X (inplaceOp op) r) : PIp X op r := fun pins s σ H x y v u Q I r1 r2 q => h pins s σ H x y v u Q I r1 r2 q
theorem ds_aug {i : Nat} {x : Str} {e : Expr} {op : Operator} {r : DR2} {pos' : Pos} (hN : X.N.Nodup) (hi : X.N[i]? = some x) (hx : Loc X.env.scope x) (he : DE X F0 e te) (ho : OpR X (inplaceOp op) (LR X.K F0 r)) (hf : X.fn x = true ∨ X.env.scope.names.lookup x = some .local := by first | exact .inl rfl | exact .inr rfl | assumption) :
    DSt X F0 (.AugAssign (.Name x pos') op e pos) (dAug i te r) :=
  PS_imp (ps_aug hN hi hx he (PIp_of ho) hf) fun D σ H ⟨σd, M, F, Dd, hF, rr, hS, h, fin⟩ => by
    unfold dAug at h
    split at h
    · rename_i x0 ex
      obtain ⟨v, e1, hv⟩ := hS.get ex
      exact ⟨v, e1, σd, M, F, _, hF, rr, hS, h, fun y M1 w H1 F1 q e2 r1 w1 => ⟨x0, y, M1, F1, _, hF.trans e2, r1, hv.mono e2, w1, q, fun z M2 zv H2 F2 q2 e3 r2 z2 => fin.nx _ _ _ _ F2 q2 (e2.trans e3) r2 ((hS.mono (e2.trans e3)).set i z2)⟩⟩
    · exact h.elim
/-- += of ints, texts; of a list that may change by a list -/
def dIAdd : DR2 := fun x y M Q => match x, y with
  | .int i, .int j => Q (.int (i + j)) M
  | .str a, .str b => a.length + b.length ≤ sizeLine ∧ Q (.str (a ++ b)) M
  | .obj p, y => ∃ ds es, M p = some (.lst ds) ∧ lsD M y = some es ∧ ds.length + es.length ≤ sizeLine ∧ Q (.obj p) (updM M p (.lst (ds ++ es)))
  | _, _ => False
theorem od_iadd : OpR X (inplaceOp .Add) (LR X.K F0 dIAdd) := by
  refine OpR_imp (iop_add.or (iop_add_str.or iop_ext)) fun v u H Q ⟨x, y, M, F, Qd, hF, r, hx, hy, h, fin⟩ => ?_
  unfold dIAdd at h
  split at h
  · exact .inl ⟨_, _, rep_int.mp hx, rep_int.mp hy, fin.go h r (rep_int.mpr rfl)⟩
  · exact .inr (.inl ⟨_, _, rep_str.mp hx, rep_str.mp hy, h.1, fin.go h.2 r (rep_str.mpr rfl)⟩)
  · obtain ⟨ds, es, hp, hy', hz, h⟩ := h
    obtain ⟨vs, h1, h2⟩ := r.mem _ _ hp
    obtain ⟨q, us, rfl, h3, h4⟩ := lsD_rep r hy hy'
    exact .inr (.inr ⟨_, q, vs, us, rep_obj.mp hx, rfl, h1, h3, by rw [← h2.length, ← h4.length]; exact hz, fin.go h (r.setM hp (h2.append h4)) (rep_obj.mpr rfl)⟩)
  · exact h.elim
def dISub : DR2 := fun x y M Q => match x, y with
  | .int i, .int j => Q (.int (i - j)) M
  | _, _ => False
theorem od_isub : OpR X (inplaceOp .Sub) (LR X.K F0 dISub) := by
  refine OpR_imp iop_sub fun v u H Q ⟨x, y, M, F, Qd, hF, r, hx, hy, h, fin⟩ => ?_
  unfold dISub at h
  split at h
  · exact ⟨_, _, rep_int.mp hx, rep_int.mp hy, fin.go h r (rep_int.mpr rfl)⟩
  · exact h.elim

/-! ### while -/
def dWhile (c : DTT) (tb : DTS) : DTS := fun D σ M => ∃ W : Nat → DS → Mp → Prop, (∃ m, W m σ M) ∧ ∀ m σ M, W m σ M → c σ M fun b M1 => IfB b (tb { D with nx := fun σ' M' => ∃ m', m' < m ∧ W m' σ' M', ct := fun σ' M' => ∃ m', m' < m ∧ W m' σ' M', bk := D.nx } σ M1) (D.nx σ M1)
theorem ds_while {c : Expr} {body : List Stmt} {tc : DTT} {tb : DTS} (hp : PassesOwn (model X.prog X.w) X.A X.env X.xe) (hc : DT X F0 c tc) (hb : DSs X F0 body tb) : DSt X F0 (.While c body [] pos) (dWhile tc tb) :=
  PS_imp (ps_while hp hc hb) fun D σ H ⟨σd, M, F, Dd, hF, r, hS, ⟨W, ⟨m0, w0⟩, h⟩, fin⟩ =>
    ⟨fun m σ H => ∃ σd M F1, Same F F1 ∧ R X.K M F1 H ∧ SRep X.K F1 σd σ ∧ W m σd M, ⟨m0, σd, M, F, Same.refl F, r, hS, w0⟩, fun m σ H ⟨σd, M, F1, e1, r1, s1, w⟩ =>
      ⟨σd, M, F1, _, hF.trans e1, r1, s1, h m σd M w, fun b M2 H2 F2 q e2 r2 => by
        have e12 := e1.trans e2
        cases b with
        | true =>
          refine iteT ⟨_, fun _ _ z => z, σd, M2, F2, _, hF.trans e12, r2, s1.mono e2, q, ⟨?_, fin.rt.mono e12, fin.nx.mono e12, ?_⟩⟩
          · rintro σd3 M3 σ3 H3 F3 ⟨m', hm, w3⟩ e3 r3 s3
            exact ⟨m', hm, σd3, M3, F3, e12.trans e3, r3, s3, w3⟩
          · rintro σd3 M3 σ3 H3 F3 ⟨m', hm, w3⟩ e3 r3 s3
            exact ⟨m', hm, σd3, M3, F3, e12.trans e3, r3, s3, w3⟩
        | false => exact iteF (fin.nx _ _ _ _ F2 q e12 r2 (s1.mono e2))⟩⟩

/-! ### what a loop walks -/
/-- the items, and what must stay true of M while they are walked -/
abbrev DTI := DS → Mp → (List D → (Mp → Prop) → Mp → Prop) → Prop
/-- a source that a loop walks: the items' iterator J over the concrete heap -/
structure Src (K : PySem.W.Frag) (F H : Hp) (ds : List D) (St : Mp → Prop) (J : It) : Prop where
  go : ∀ i F' H' M', Same F F' → R K M' F' H' → St M' → i < ds.length → J.go i H'
  yld : ∀ i F' H' M' x H2, Same F F' → R K M' F' H' → St M' → i < ds.length → J.yld i H' x H2 → ∃ d F2, ds[i]? = some d ∧ Same F' F2 ∧ R K M' F2 H2 ∧ Rep K F2 d x
  stop : ∀ i F' H' M', Same F F' → R K M' F' H' → St M' → ds.length ≤ i → J.stop i H'
def LI (K : PySem.W.Frag) (F0 : Hp) (τ : DTI) : TI := fun σ H Rr => ∃ σd M F, Same F0 F ∧ R K M F H ∧ SRep K F σd σ ∧ ∃ Kd : List D → (Mp → Prop) → Mp → Prop, τ σd M Kd ∧
  ∀ ds St M1 J F1 H1, Kd ds St M1 → Same F F1 → R K M1 F1 H1 → St M1 → Src K F1 H1 ds St J → Rr J H1
abbrev DI (X : Cx) (F0 : Hp) (tg iter : Expr) (τ : DTI) : Prop := PI X tg iter (LI X.K F0 τ)
theorem PI_imp {tg iter : Expr} {t t' : TI} (h : PI X tg iter t) (i : ∀ σ H Q, t' σ H Q → t σ H Q) : PI X tg iter t' := ⟨fun pins s σ H Q I q => h.run pins s σ H Q I (i σ H Q q)⟩
theorem PI_or {tg iter : Expr} {t t' : TI} (h : PI X tg iter t) (h' : PI X tg iter t') : PI X tg iter (fun σ H Q => t σ H Q ∨ t' σ H Q) := ⟨fun pins s σ H Q I q => q.elim (h.run pins s σ H Q I) (h'.run pins s σ H Q I)⟩
theorem src_list {K : PySem.W.Frag} {F H : Hp} {ds : List D} {St : Mp → Prop} {a : Addr} {vs : List V} (hq : ∀ F' H' M', Same F F' → R K M' F' H' → St M' → ∃ vs, SqL K H' a vs ∧ Reps K F' ds vs) : Src K F H ds St (Itl K a) where
  go := fun i F' H' M' e r s hi => by
    obtain ⟨vs, h1, h2⟩ := hq F' H' M' e r s
    have hi' : i < vs.length := by rw [← h2.length]; exact hi
    exact ⟨vs, vs[i], h1, by simp [hi']⟩
  yld := fun i F' H' M' x H2 e r s hi ⟨e2, y⟩ => by
    subst e2
    obtain ⟨vs, h1, h2⟩ := hq F' _ M' e r s
    obtain ⟨d, h3, h4⟩ := h2.get (y vs h1)
    exact ⟨d, F', h3, Same.refl _, r, h4⟩
  stop := fun i F' H' M' e r s hi => by
    obtain ⟨vs, h1, h2⟩ := hq F' H' M' e r s
    exact ⟨vs, h1, by rw [← h2.length]; exact hi⟩
theorem src_tup {K : PySem.W.Frag} {F H : Hp} {ds : List D} {St : Mp → Prop} {a : Addr} {vs : List V} (h1 : SqT K F a vs) (h2 : Reps K F ds vs) : Src K F H ds St (Itt K a) where
  go := fun i F' H' M' e r s hi => by
    have hi' : i < vs.length := by rw [← h2.length]; exact hi
    exact ⟨vs, vs[i], sqT_up r (sqT_mono e h1), by simp [hi']⟩
  yld := fun i F' H' M' x H2 e r s hi ⟨e2, y⟩ => by
    subst e2
    obtain ⟨d, h3, h4⟩ := (h2.mono e).get (y vs (sqT_up r (sqT_mono e h1)))
    exact ⟨d, F', h3, Same.refl _, r, h4⟩
  stop := fun i F' H' M' e r s hi => ⟨vs, sqT_up r (sqT_mono e h1), by rw [← h2.length]; exact hi⟩
/-- a list, a tuple or a text, walked -/
def iAny (K : PySem.W.Frag) (tl : TE) : TI := fun σ H R => tl σ H fun x H1 => (∃ a, x = .ref a ∧ (∃ xs, SqL K H1 a xs) ∧ R (Itl K a) H1) ∨ (∃ a, x = .ref a ∧ (∃ xs, SqT K H1 a xs) ∧ R (Itt K a) H1) ∨ ∃ z, x = .str z ∧ R (Its z) H1
theorem pi_any {tg l : Expr} {tl : TE} (hl : PE X l tl) : PI X tg l (iAny X.K tl) := by
  refine ⟨fun pins s σ H R I h => ?_⟩
  refine thn (hl.run pins s σ H _ I h) fun v s1 ⟨x, H1, I1, r1, q1⟩ => ?_
  rcases q1 with ⟨a, e, ⟨xs, hq⟩, q⟩ | ⟨a, e, ⟨xs, hq⟩, q⟩ | ⟨z, e, q⟩
  · subst e
    cases r1
    obtain ⟨its, rv, p, hz⟩ := I1.list hq
    refine wpAny_pyIter_list p.isList ?_
    refine ⟨s1.heap.objs.size, [s1.heap.objs.size], _, _, H1, rfl, I1.kept (t' := s1.toks) fun b o e => Heap.get?_push_of_some _ e, turn_list a _, ⟨_, Heap.get?_push_size _ rfl, rfl, rfl⟩, fun b hb => ?_, q⟩
    have e : b = s1.heap.objs.size := by simpa using hb
    subst e
    exact I1.fpOk (Nat.le_refl _) (I1.hok.fresh (Nat.le_refl _))
  · subst e
    cases r1
    obtain ⟨its, rv, p, hz⟩ := I1.tuple hq
    refine wpAny_pyIter_tuple (show s1.heap.IsTuple a its.toArray from p) ?_
    refine ⟨s1.heap.objs.size, [s1.heap.objs.size], _, _, H1, rfl, I1.kept (t' := s1.toks) fun b o e => Heap.get?_push_of_some _ e, turn_tuple a _, ⟨_, Heap.get?_push_size _ rfl, rfl, rfl⟩, fun b hb => ?_, q⟩
    have e : b = s1.heap.objs.size := by simpa using hb
    subst e
    exact I1.fpOk (Nat.le_refl _) (I1.hok.fresh (Nat.le_refl _))
  · subst e
    obtain ⟨t, rfl⟩ := r1
    cases ha : z.cps.all (· < 128)
    · exact wpAny_pyIter_wide ha (pi_one (tk := s1.toks) I1 _ (turn_str _ z t "str_iterator" (.inr rfl)) ⟨_, Heap.get?_push_size _ rfl, rfl, rfl⟩ q)
    · exact wpAny_pyIter_ascii ha (pi_one (tk := s1.toks) I1 _ (turn_str _ z t "str_ascii_iterator" (.inl rfl)) ⟨_, Heap.get?_push_size _ rfl, rfl, rfl⟩ q)
def signs (z : Str) : List D := z.cps.toList.map fun c => .str ⟨#[c]⟩
theorem src_str {K : PySem.W.Frag} {F H : Hp} {St : Mp → Prop} {z : Str} : Src K F H (signs z) St (Its z) where
  go := fun i F' H' M' e r s hi => by
    have : (signs z).length = z.cps.size := by simp [signs]
    rw [this] at hi
    exact hi
  yld := fun i F' H' M' x H2 e r s hi ⟨e2, c, h1, h2⟩ => by
    subst e2
    refine ⟨.str ⟨#[c]⟩, F', ?_, Same.refl _, r, rep_str.mpr h2⟩
    unfold signs
    rw [List.getElem?_map, Array.getElem?_toList, h1] <;> rfl
  stop := fun i F' H' M' e r s hi => by
    have : (signs z).length = z.cps.size := by simp [signs]
    rw [this] at hi
    exact hi
/-- items of a value -/
def dItems (te : DTE) : DTI := fun σ M Kd => te σ M fun x M1 => match x with
  | .obj p => ∃ ds, M1 p = some (.lst ds) ∧ Kd ds (fun M' => M' p = some (.lst ds)) M1
  | .tup ds => Kd ds (fun _ => True) M1
  | .lst ds => Kd ds (fun _ => True) M1
  | .rdl ns => Kd (ns.map D.int) (fun _ => True) M1
  | .str z => Kd (signs z) (fun _ => True) M1
  | _ => False
theorem di_items {tg : Expr} (he : DE X F0 e te) : DI X F0 tg e (dItems te) :=
  PI_imp (pi_any he) fun σ H Rr ⟨σd, M, F, hF, r, hS, Kd, h, fin⟩ => ⟨σd, M, F, _, hF, r, hS, h, fun x M1 v H1 F1 q e1 r1 v1 => by
    split at q
    · obtain ⟨ds, hp, q⟩ := q
      obtain ⟨vs, h1, h2⟩ := r1.mem _ _ hp
      refine .inl ⟨_, rep_obj.mp v1, ⟨vs, SqL.of h1⟩, fin _ _ _ _ _ _ q e1 r1 hp (src_list (vs := vs) fun F' H' M' e' r' s' => ?_)⟩
      obtain ⟨vs', h3, h4⟩ := r'.mem _ _ s'
      exact ⟨vs', SqL.of h3, h4⟩
    · obtain ⟨a, vs, rfl, hq, hr⟩ := rep_tup.mp v1
      exact .inr (.inl ⟨a, rfl, ⟨vs, sqT_up r1 hq⟩, fin _ _ _ _ _ _ q e1 r1 trivial (src_tup hq hr)⟩)
    · obtain ⟨a, vs, rfl, hq, hr⟩ := rep_lst.mp v1
      exact .inl ⟨a, rfl, ⟨vs, SqL.of (r1.fr _ _ hq)⟩, fin _ _ _ _ _ _ q e1 r1 trivial (src_list (vs := vs) fun F' H' M' e' r' s' => ⟨vs, SqL.of (r'.fr _ _ (e' _ _ hq)), hr.mono e'⟩)⟩
    · obtain ⟨a, rfl, hq⟩ := rep_rdl.mp v1
      exact .inl ⟨a, rfl, ⟨_, sqL_up r1 hq⟩, fin _ _ _ _ _ _ q e1 r1 trivial (src_list (vs := []) fun F' H' M' e' r' s' => ⟨_, sqL_up r' (e'.seq hq), Reps.ints⟩)⟩
    · exact .inr (.inr ⟨_, rep_str.mp v1, fin _ _ _ _ _ _ q e1 r1 trivial src_str⟩)
    · exact q.elim⟩
/-- range(n), range(i, j) -/
def upto (lo : Int) (n : Nat) : List D := (List.range n).map fun i => .int (lo + (i : Nat))
theorem src_range {K : PySem.W.Frag} {F H : Hp} {St : Mp → Prop} {lo : Int} {n : Nat} : Src K F H (upto lo n) St (Itr lo n) where
  go := fun i F' H' M' e r s hi => by
    have : (upto lo n).length = n := by simp [upto]
    rw [this] at hi
    exact hi
  yld := fun i F' H' M' x H2 e r s hi ⟨e2, h⟩ => by
    subst e2
    have : (upto lo n).length = n := by simp [upto]
    rw [this] at hi
    exact ⟨.int (lo + (i : Nat)), F', by simp [upto, hi], Same.refl _, r, rep_int.mpr h⟩
  stop := fun i F' H' M' e r s hi => by
    have : (upto lo n).length = n := by simp [upto]
    rw [this] at hi
    exact hi
def dRange1 (ta : DTA) : DTI := fun σ M Kd => ta σ M fun vs M1 => match vs with
  | [.int n] => (-(2 ^ 62) ≤ n ∧ n < 2 ^ 62) ∧ Kd (upto 0 n.toNat) (fun _ => True) M1
  | _ => False
theorem di_range1 {tg : Expr} {p : Pos} (hg : Gl X "range") (hm : X.mg "range" = none) (ha : DA X F0 [a] tr) (hs : starEach [a] X.env = [(false, eval a X.env)] := by rfl) : DI X F0 tg (.Call (.Name "range" p) [a] [] pos) (dRange1 tr) :=
  PI_imp (pi_range1 hg hm ha hs) fun σ H Rr ⟨σd, M, F, hF, r, hS, Kd, h, fin⟩ => ⟨σd, M, F, _, hF, r, hS, h, fun x M1 v H1 F1 q e1 r1 v1 => by
    split at q
    · obtain ⟨u, rfl, h1⟩ := v1.one
      cases rep_int.mp h1
      exact ⟨_, rfl, q.1.1, q.1.2, fin _ _ _ _ _ _ q.2 e1 r1 trivial src_range⟩
    · exact q.elim⟩
def dRange2 (ta : DTA) : DTI := fun σ M Kd => ta σ M fun vs M1 => match vs with
  | [.int m, .int n] => (-(2 ^ 62) ≤ m ∧ m < 2 ^ 62 ∧ -(2 ^ 62) ≤ n ∧ n < 2 ^ 62) ∧ Kd (upto m (n - m).toNat) (fun _ => True) M1
  | _ => False
theorem di_range2 {tg : Expr} {p : Pos} (hg : Gl X "range") (hm : X.mg "range" = none) (ha : DA X F0 [a, b] tr) (hs : starEach [a, b] X.env = [(false, eval a X.env), (false, eval b X.env)] := by rfl) (hs2 : starEach [b] X.env = [(false, eval b X.env)] := by rfl) : DI X F0 tg (.Call (.Name "range" p) [a, b] [] pos) (dRange2 tr) :=
  PI_imp (pi_range2 hg hm ha hs hs2) fun σ H Rr ⟨σd, M, F, hF, r, hS, Kd, h, fin⟩ => ⟨σd, M, F, _, hF, r, hS, h, fun x M1 v H1 F1 q e1 r1 v1 => by
    split at q
    · obtain ⟨u, u', rfl, h1, h2⟩ := v1.two
      cases rep_int.mp h1; cases rep_int.mp h2
      exact ⟨_, _, rfl, q.1, fin _ _ _ _ _ _ q.2 e1 r1 trivial src_range⟩
    · exact q.elim⟩

/-! ### for -/
def dFor (wi : DTI) (g : DTG) (tb : DTS) : DTS := fun D σ M => wi σ M fun ds St M1 => ∃ W : Nat → DS → Mp → Prop, W 0 σ M1 ∧ (∀ i σ M, W i σ M → i ≤ ds.length → St M) ∧
  (∀ i d σ M, ds[i]? = some d → W i σ M → g d σ M fun σ2 M2 => tb { D with nx := W (i + 1), ct := W (i + 1), bk := D.nx } σ2 M2) ∧ ∀ σ M, W ds.length σ M → D.nx σ M
theorem ds_for {tg iter : Expr} {body : List Stmt} {wi : DTI} {g : DTG} {tb : DTS} (hp : PassesOwn (model X.prog X.w) X.A X.env X.xe) (hc : X.calm = true) (hi : DI X F0 tg iter wi) (hg : DG X F0 tg g) (hb : DSs X F0 body tb)
    (hs : ∀ x, foldedSetIterable iter X.env x = pure x := by intro _; rfl) : DSt X F0 (.For tg iter body [] pos) (dFor wi g tb) :=
  PS_imp (ps_for hp hc hi hg hb hs) fun D σ H ⟨σd, M, F, Dd, hF, r, hS, h, fin⟩ => ⟨σd, M, F, hF, r, hS, _, h, by
    intro ds St M1 J F1 H1 ⟨W, w0, hst, hstep, hend⟩ e1 r1 st1 src
    refine ⟨fun i m σ H => ∃ σd M F2, m = ds.length - i ∧ i ≤ ds.length ∧ Same F1 F2 ∧ R X.K M F2 H ∧ SRep X.K F2 σd σ ∧ W i σd M, ⟨ds.length, σd, M1, F1, by simp, Nat.zero_le _, Same.refl _, r1, hS.mono e1, w0⟩, ?_⟩
    rintro i m σ H ⟨σd2, M2, F2, rfl, hi, e2, r2, s2, w2⟩
    have e12 := e1.trans e2
    have st2 := hst i σd2 M2 w2 hi
    by_cases hlt : i < ds.length
    · refine .inr ⟨src.go i F2 H M2 e2 r2 st2 hlt, fun σ' H' => ∃ σd M F3, Same F2 F3 ∧ R X.K M F3 H' ∧ SRep X.K F3 σd σ' ∧ W (i + 1) σd M, ?_, ?_⟩
      · rintro σ' H' ⟨σd3, M3, F3, e3, r3, s3, w3⟩
        exact ⟨ds.length - (i + 1), by omega, σd3, M3, F3, rfl, hlt, e2.trans e3, r3, s3, w3⟩
      · intro x H3 y
        obtain ⟨d, F3, hd, e3, r3, x3⟩ := src.yld i F2 H M2 x H3 e2 r2 st2 hlt y
        refine ⟨d, σd2, M2, F3, _, hF.trans (e12.trans e3), r3, x3, s2.mono e3, hstep i d σd2 M2 hd w2, fun σd4 M4 σ4 H4 F4 q e4 r4 s4 => ?_⟩
        have e14 := (e12.trans e3).trans e4
        refine ⟨σd4, M4, F4, _, hF.trans e14, r4, s4, q, ⟨?_, fin.rt.mono e14, fin.nx.mono e14, ?_⟩⟩
        · exact fun σd5 M5 σ5 H5 F5 w5 e5 r5 s5 => ⟨σd5, M5, F5, (e3.trans e4).trans e5, r5, s5, w5⟩
        · exact fun σd5 M5 σ5 H5 F5 w5 e5 r5 s5 => ⟨σd5, M5, F5, (e3.trans e4).trans e5, r5, s5, w5⟩
    · have e : i = ds.length := by omega
      subst e
      exact .inl ⟨src.stop _ F2 H M2 e2 r2 st2 (Nat.le_refl _), fin.nx _ _ _ _ F2 (hend _ _ w2) e12 r2 s2⟩⟩

end
end DL
namespace DL
open PySem L2
def remM (M : Mp) (p : Addr) : Mp := fun b => if b = p then none else M b
theorem remM_upd {M : Mp} {p : Addr} {o : MO} (h : M p = none) : remM (updM M p o) p = M := by
  funext b; unfold remM updM
  by_cases e : b = p
  · subst e; rw [if_pos rfl, h]
  · rw [if_neg e, if_neg e]
section
variable {K : PySem.W.Frag} {F H : Hp} {M : Mp}
/-- a list that stays as it is from here on -/
theorem R.freeze (r : R K M F H) {p : Addr} {ds : List D} (hp : M p = some (.lst ds)) : ∃ F', Same F F' ∧ R K (remM M p) F' H ∧ Rep K F' (.lst ds) (.ref p) := by
  obtain ⟨vs, h1, h2⟩ := r.mem p _ hp
  have e := same_upd (o := HO.lst vs) (r.ap p _ hp)
  refine ⟨upd F p (.lst vs), e, ⟨fun b u q => ?_, fun a mo q => ?_, fun a mo q => ?_⟩, rep_lst.mpr ⟨p, vs, rfl, upd_same, h2.mono e⟩⟩
  · by_cases hb : b = p
    · subst hb; rw [upd_same] at q; cases q; exact h1
    · rw [upd_ne hb] at q; exact r.fr b u q
  · have ha : a ≠ p := fun z => by subst z; unfold remM at q; rw [if_pos rfl] at q; cases q
    unfold remM at q; rw [if_neg ha] at q
    rw [upd_ne ha]; exact r.ap a mo q
  · have ha : a ≠ p := fun z => by subst z; unfold remM at q; rw [if_pos rfl] at q; cases q
    unfold remM at q; rw [if_neg ha] at q
    exact (r.mem a mo q).mono e rfl
end
section
variable {X : Cx} {F0 : Hp} {a b c e : Expr} {ta tb tc te : DTE} {pos : Pos} {es : List Expr} {tr : DTA}
/-! ### comprehensions: the one name at slot i -/
def dLcQ (own : Bool) (p : Addr) (M : Mp) (Q : DK) : Prop := match own with
  | true => Q (.obj p) M
  | false => ∃ acc, M p = some (.lst acc) ∧ Q (.lst acc) (remM M p)
def dLc (own : Bool) (j : Nat) (wi : DTI) (te : DTE) : DTE := fun σ M Q => wi σ M fun ds St M1 => ∀ p, M1 p = none → ∃ W : Nat → Mp → Prop, W 0 (updM M1 p (.lst [])) ∧ (∀ i M, W i M → i ≤ ds.length → St M) ∧
  (∀ i d M, ds[i]? = some d → W i M → te (σ.set j (some d)) M fun y M3 => ∃ acc, M3 p = some (.lst acc) ∧ acc.length < sizeLine ∧ W (i + 1) (updM M3 p (.lst (acc ++ [y])))) ∧ ∀ M, W ds.length M → dLcQ own p M Q
theorem lift_lc {own : Bool} {j : Nat} {wi : DTI} {σ : St} {H : Hp} {Q : VK} (h : LE X.K F0 (dLc own j wi te) σ H Q) : tLc (LI X.K F0 wi) (gName j) tYes (LE X.K F0 te) [j] σ H Q := by
  obtain ⟨σd, M, F, Qd, hF, r, hS, h, fin⟩ := h
  refine ⟨σd, M, F, hF, r, hS, _, h, ?_⟩
  intro ds St M1 J F1 H1 hd e1 r1 st1 src D hD
  obtain ⟨W, w0, hst, hstep, hend⟩ := hd D (r1.free hD)
  refine ⟨fun i m H => ∃ M F2, m = ds.length - i ∧ i ≤ ds.length ∧ Same F1 F2 ∧ R X.K M F2 H ∧ W i M, ⟨ds.length, _, F1, by simp, Nat.zero_le _, Same.refl _, r1.newM hD .nil, w0⟩, ?_⟩
  rintro i m H2 ⟨M2, F2, rfl, hi, e2, r2, w2⟩
  have e12 := e1.trans e2
  have st2 := hst i M2 w2 hi
  -- the source over the later frozen part
  have src2 : ∀ F' H' M', Same F2 F' → R X.K M' F' H' → St M' → True := fun _ _ _ _ _ _ => trivial
  by_cases hlt : i < ds.length
  · refine .inr ⟨src.go i F2 H2 M2 e2 r2 st2 hlt, fun H' => ∃ M F3, Same F2 F3 ∧ R X.K M F3 H' ∧ W (i + 1) M, ?_, ?_⟩
    · rintro H' ⟨M3, F3, e3, r3, w3⟩
      exact ⟨ds.length - (i + 1), by omega, M3, F3, rfl, hlt, e2.trans e3, r3, w3⟩
    · intro x H3 y
      obtain ⟨d, F3, hd', e3, r3, x3⟩ := src.yld i F2 H2 M2 x H3 e2 r2 st2 hlt y
      have e13 := e12.trans e3
      refine ⟨?_, ?_⟩
      · show wipe ((wipe σ [j]).set j (some x)) [j] = wipe σ [j]
        unfold wipe
        show ((σ.set j none).set j (some x)).set j none = σ.set j none
        rw [List.set_set, List.set_set]
      · have go : ∀ {A B : Prop}, A → (if true = true then A else B) := fun h => by rw [if_pos rfl]; exact h
        refine go (B := (fun H' => ∃ M F3, Same F2 F3 ∧ R X.K M F3 H' ∧ W (i + 1) M) H3) ?_
        have hs2 : SRep X.K F3 (σd.set j (some d)) ((wipe σ [j]).set j (some x)) := by
          show SRep X.K F3 (σd.set j (some d)) ((σ.set j none).set j (some x))
          rw [List.set_set]
          exact (hS.mono e13).set j x3
        refine ⟨_, M2, F3, _, hF.trans e13, r3, hs2, hstep i d M2 hd' w2, fun yv M4 v H4 F4 q e4 r4 v4 => ?_⟩
        obtain ⟨acc, hp, hz, w4⟩ := q
        obtain ⟨vs, h1, h2⟩ := r4.mem _ _ hp
        exact ⟨vs, h1, by rw [← h2.length]; exact hz, _, F4, e3.trans e4, r4.setM hp (h2.append (.cons v4 .nil)), w4⟩
  · have e : i = ds.length := by omega
    subst e
    refine .inl ⟨src.stop _ F2 H2 M2 e2 r2 st2 (Nat.le_refl _), ?_⟩
    have q := hend M2 w2
    cases own with
    | true => exact fin _ _ _ _ F2 q e12 r2 (rep_obj.mpr rfl)
    | false =>
      obtain ⟨acc, hp, q⟩ := q
      obtain ⟨F3, e3, r3, x3⟩ := r2.freeze hp
      exact fin _ _ _ _ F3 q (e12.trans e3) r3 x3
theorem de_lc {own : Bool} {x : Str} {j : Nat} {elt iter : Expr} {scope : Scope} {px : Pos} {wi : DTI} (hc : X.calm = true) (hN : X.N.Nodup) (hi : DI X F0 (.Name x px) iter wi) (ok : BlkOk X.N X.env.scope scope [(x, j)])
    (hg : ∀ (s : Shared) (H : Hp) (C : Addr) (cl : List (Str × Addr)) (fp : List Addr), PG (X.blk s H scope (compEnvC scope cl C X.env) fp) (.Name x px) (gName j))
    (he : ∀ (s : Shared) (H : Hp) (C : Addr) (cl : List (Str × Addr)) (fp : List Addr), DE (X.blk s H scope (compEnvC scope cl C X.env) fp) F0 elt te) (hs : ∀ x, foldedSetIterable iter X.env x = pure x := by intro _; rfl) :
    DE X F0 (.ListComp elt [⟨.Name x px, iter, [], 0⟩] scope pos) (dLc own j wi te) :=
  PE_imp (pe_lc (own := [(x, j)]) hc hN hi ok hg (fun _ _ _ _ _ => pts_nil) he hs) fun _ _ _ h => lift_lc h
theorem ds_setLc {own : Bool} {i : Nat} {y : Str} {py spos : Pos} {x : Str} {j : Nat} {elt iter : Expr} {scope : Scope} {px : Pos} {wi : DTI} (hc : X.calm = true) (hN : X.N.Nodup) (hy : X.N[i]? = some y) (hyl : X.env.scope.names.lookup y = some .local)
    (hsw : swapsWith (.ListComp elt [⟨.Name x px, iter, [], 0⟩] scope pos) (some (.Name y py)) spos.line X.env = pure true) (hi : DI X F0 (.Name x px) iter wi) (ok : BlkOk X.N X.env.scope scope [(x, j)])
    (hg : ∀ (s : Shared) (H : Hp) (C : Addr) (cl : List (Str × Addr)) (fp : List Addr), PG (X.blk s H scope (compEnvC scope cl C X.env) fp) (.Name x px) (gName j))
    (he : ∀ (s : Shared) (H : Hp) (C : Addr) (cl : List (Str × Addr)) (fp : List Addr), DE (X.blk s H scope (compEnvC scope cl C X.env) fp) F0 elt te) (hs : ∀ x, foldedSetIterable iter X.env x = pure x := by intro _; rfl) :
    DSt X F0 (.Assign [.Name y py] (.ListComp elt [⟨.Name x px, iter, [], 0⟩] scope pos) spos) (dAsg (dLc own j wi te) (nGm i)) :=
  PS_imp (ps_setLc (own := [(x, j)]) hc hN hy hyl hsw hi ok hg (fun _ _ _ _ _ => pts_nil) he hs) fun D σ H ⟨σd, M, F, Dd, hF, r, hS, h, fin⟩ =>
    lift_lc (Q := fun v H1 => D.nx (σ.set i (some v)) H1) ⟨σd, M, F, _, hF, r, hS, h, fun d M1 v H1 F1 q e1 r1 v1 => fin.nx _ _ _ _ F1 q e1 r1 ((hS.mono e1).set i v1)⟩
/-- each element's value by itself, nothing changed -/
theorem lc_map {own : Bool} {j : Nat} {σ : DS} {M1 : Mp} {ds : List D} {St : Mp → Prop} {Q : DK} (f : D → D) (hz : ds.length ≤ sizeLine) (hst : ∀ p o, M1 p = none → St (updM M1 p o)) (h : ∀ (i : Nat) d M (Q : DK), ds[i]? = some d → (∀ a o, M1 a = some o → M a = some o) → Q (f d) M → te (σ.set j (some d)) M Q) (q : dNew own (ds.map f) M1 Q) :
    ∀ p, M1 p = none → ∃ W : Nat → Mp → Prop, W 0 (updM M1 p (.lst [])) ∧ (∀ i M, W i M → i ≤ ds.length → St M) ∧
      (∀ i d M, ds[i]? = some d → W i M → te (σ.set j (some d)) M fun y M3 => ∃ acc, M3 p = some (.lst acc) ∧ acc.length < sizeLine ∧ W (i + 1) (updM M3 p (.lst (acc ++ [y])))) ∧ ∀ M, W ds.length M → dLcQ own p M Q := by
  intro p hp
  refine ⟨fun i M => M = updM M1 p (.lst ((ds.take i).map f)), by simp, fun i M w _ => ?_, fun i d M hd w => ?_, fun M w => ?_⟩
  · dsimp only at w; rw [w]; exact hst p _ hp
  · dsimp only at w
    have hi : i < ds.length := (List.getElem?_eq_some_iff.mp hd).1
    refine h i d M _ hd (fun a o ha => by rw [w, updM_ne (neM ha hp)]; exact ha) ?_
    refine ⟨(ds.take i).map f, by rw [w, updM_same], ?_, ?_⟩
    · rw [List.length_map, List.length_take]; omega
    · dsimp only
      rw [w, updM_updM]
      have : ds.take (i + 1) = ds.take i ++ [d] := by
        rw [List.take_add_one, hd] <;> rfl
      rw [this, List.map_append] <;> rfl
  · dsimp only at w
    rw [List.take_length] at w
    cases own with
    | true => rw [w]; exact q p hp
    | false => exact ⟨_, by rw [w, updM_same], by rw [w, remM_upd hp]; exact q⟩
/-- with a state: Inv by the turn, what is made so far, M without the new list -/
theorem lc_inv {own : Bool} {j : Nat} {σ : DS} {M1 : Mp} {ds : List D} {St : Mp → Prop} {Q : DK} (Inv : Nat → List D → Mp → Prop) (hz : ds.length ≤ sizeLine) (h0 : Inv 0 [] M1) (hst : ∀ i acc M p o, Inv i acc M → M p = none → St (updM M p o))
    (h : ∀ (i : Nat) d acc M p (Q : DK), ds[i]? = some d → Inv i acc M → M p = none → M1 p = none → acc.length = i → (∀ y M', M' p = none → Inv (i + 1) (acc ++ [y]) M' → Q y (updM M' p (.lst acc))) → te (σ.set j (some d)) (updM M p (.lst acc)) Q)
    (q : ∀ acc M, acc.length = ds.length → Inv ds.length acc M → dNew own acc M Q) :
    ∀ p, M1 p = none → ∃ W : Nat → Mp → Prop, W 0 (updM M1 p (.lst [])) ∧ (∀ i M, W i M → i ≤ ds.length → St M) ∧
      (∀ i d M, ds[i]? = some d → W i M → te (σ.set j (some d)) M fun y M3 => ∃ acc, M3 p = some (.lst acc) ∧ acc.length < sizeLine ∧ W (i + 1) (updM M3 p (.lst (acc ++ [y])))) ∧ ∀ M, W ds.length M → dLcQ own p M Q := by
  intro p hp
  refine ⟨fun i M => ∃ acc M', M = updM M' p (.lst acc) ∧ M' p = none ∧ acc.length = i ∧ Inv i acc M', ⟨[], M1, rfl, hp, rfl, h0⟩, ?_, ?_, ?_⟩
  · rintro i M ⟨acc, M', rfl, hp', _, hI⟩ _
    exact hst i acc M' p _ hI hp'
  · rintro i d M hd ⟨acc, M', rfl, hp', hl, hI⟩
    have hi : i < ds.length := (List.getElem?_eq_some_iff.mp hd).1
    refine h i d acc M' p _ hd hI hp' hp hl fun y M2 hp2 hI2 => ⟨acc, updM_same, by omega, acc ++ [y], M2, by rw [updM_updM], hp2, by simp [hl], hI2⟩
  · rintro M ⟨acc, M', rfl, hp', hl, hI⟩
    have z := q acc M' hl hI
    cases own with
    | true => exact z p hp'
    | false => exact ⟨acc, updM_same, by rw [remM_upd hp']; exact z⟩
end
end DL
namespace DL
open PySem PySem.Spec PyProof.Rows L2
/-! ### exceptions as data; promises -/
structure Exn where
  C : Addr
  fs : Option (List (Str × D))
abbrev DX := Exn → Mp → Prop
def XRep (K : PySem.W.Frag) (F : Hp) (x : Exn) (cls : Value) (d : Option Addr) : Prop := cls = .ref x.C ∧ match x.fs, d with
  | none, none => True
  | some fs, some a => ∃ gs, F a = some (.xd gs) ∧ FReps K F fs gs
  | _, _ => False
def FinX (K : PySem.W.Frag) (F : Hp) (Ed : DX) (E : XK) : Prop := ∀ x M H F' cls d, Ed x M → Same F F' → R K M F' H → XRep K F' x cls d → E cls d H
theorem FinX.mono {K : PySem.W.Frag} {F F' : Hp} {Ed : DX} {E : XK} (f : FinX K F Ed E) (e : Same F F') : FinX K F' Ed E := fun x M H F2 cls d q e2 => f x M H F2 cls d q (e.trans e2)
abbrev X0 : DX := fun _ _ => False
theorem finX0 {K : PySem.W.Frag} {F : Hp} {E : XK} : FinX K F X0 E := fun _ _ _ _ _ _ h => h.elim
abbrev SpD := List D → Mp → DK → DX → Prop
def LSp (K : PySem.W.Frag) (sp : SpD) : Sp := fun vs H Q E => ∃ ds M F Qd Ed, R K M F H ∧ Reps K F ds vs ∧ sp ds M Qd Ed ∧ Fin K F Qd Q ∧ FinX K F Ed E
/-- what is forgotten at a def's end -/
def Wk (Q : DK) : DK := fun d M => ∃ M', (∀ a o, M' a = some o → M a = some o) ∧ Q d M'
theorem Wk.here {Q : DK} {d : D} {M : Mp} (h : Q d M) : Wk Q d M := ⟨M, fun _ _ h => h, h⟩
theorem Wk.drop {Q : DK} {d : D} {M : Mp} {p : Addr} {o : MO} (hp : M p = none) (h : Q d M) : Wk Q d (updM M p o) := ⟨M, fun a o' h => by rw [updM_ne (neM h hp)]; exact h, h⟩
theorem Fin.wk {K : PySem.W.Frag} {F : Hp} {Qd : DK} {Q : VK} (f : Fin K F Qd Q) : Fin K F (Wk Qd) Q := fun d M v H F' ⟨M', hw, q⟩ e r h => f d M' v H F' q e (r.weak hw) h
section
variable {X : Cx} {F0 : Hp} {CX : CXT} {k : Nat} {f C : Addr} {fd : FuncData} {ps : List Str} {sp : SpD} {Ed : DX} {E : XK} {x m : Str} {p pos apos : Pos} {e o : Expr} {es : List Expr} {ta te tv : DTE} {t : DTA}
def dCall (sp : SpD) (Ed : DX) (t : DTA) : DTE := fun σ M Q => t σ M fun ds M1 => sp ds M1 Q Ed
theorem lift_call {K : PySem.W.Frag} {σ : L2.St} {H : Hp} {Q : VK} (hE : FinX K F0 Ed E) (h : LE K F0 (dCall sp Ed t) σ H Q) : tCall (LSp K sp) [] E (LA K F0 t) σ H Q := by
  obtain ⟨σd, M, F, Qd, hF, r, hS, h, fin⟩ := h
  refine ⟨σd, M, F, _, hF, r, hS, h, fun ds M1 vs H1 F1 q e1 r1 v1 => ?_⟩
  dsimp only
  rw [List.append_nil]
  exact ⟨ds, M1, F1, Qd, Ed, r1, v1, q, fin.mono e1, hE.mono (hF.trans e1)⟩
theorem de_call (F : FnOk X.prog X.w X.K X.mg X.base CX k f fd ps (LSp X.K sp)) (hr : Room k X.A) (hg : Gl X x) (hm : X.mg x = some (.ref f)) (hk : PySem.W.keepIn X.K (.ref f) = true) (hb : Binds X.K fd ps []) (hx : Passes CX X E) (hE : FinX X.K F0 Ed E)
    (ha : DA X F0 (e :: es) t) (hdb : (x == ("__debug__" : Str)) = false := by decide) (he : starEach (e :: es) X.env = (false, eval e X.env) :: starEach es X.env := by rfl) (hpl : (backTo pos (starEach es X.env)).any (·.1) = false := by rfl) :
    DE X F0 (.Call (.Name x p) (e :: es) [] pos) (dCall sp Ed t) :=
  PE_imp (pe_call F hr hg hm hk hb .nil hx ha hdb he hpl) fun _ _ _ h => lift_call hE h
theorem de_call0 (F : FnOk X.prog X.w X.K X.mg X.base CX k f fd ps (LSp X.K sp)) (hr : Room k X.A) (hg : Gl X x) (hm : X.mg x = some (.ref f)) (hk : PySem.W.keepIn X.K (.ref f) = true) (hb : Binds X.K fd ps []) (hx : Passes CX X E) (hE : FinX X.K F0 Ed E)
    (hdb : (x == ("__debug__" : Str)) = false := by decide) : DE X F0 (.Call (.Name x p) [] [] pos) (dCall sp Ed dNil) :=
  PE_imp (pe_call0 F hr hg hm hk hb .nil hx hdb) fun _ _ _ ⟨σd, M, F, Qd, hF, r, hS, h, fin⟩ => ⟨[], M, F, Qd, Ed, r, .nil, h, fin, hE.mono hF⟩
def dMeth (C : Addr) (m : Str) (sp : SpD) (Ed : DX) (ta : DTE) (t : DTA) : DTE := fun σ M Q => ta σ M fun x M1 => ∃ p fs, x = .obj p ∧ M1 p = some (.ins C fs) ∧ fs.lookup m = none ∧ t σ M1 fun ds M2 => sp (x :: ds) M2 Q Ed
theorem lift_meth {K : PySem.W.Frag} {σ : L2.St} {H : Hp} {Q : VK} (hE : FinX K F0 Ed E) (h : LE K F0 (dMeth C m sp Ed ta t) σ H Q) : tMeth C m (LSp K sp) [] E (LE K F0 ta) (LA K F0 t) σ H Q := by
  obtain ⟨σd, M, F, Qd, hF, r, hS, h, fin⟩ := h
  refine ⟨σd, M, F, _, hF, r, hS, h, fun d M1 v H1 F1 q e1 r1 v1 => ?_⟩
  obtain ⟨p, fs, rfl, hp, hl, q⟩ := q
  obtain ⟨dx, gs, h1, h2, h3⟩ := r1.mem p _ hp
  refine ⟨p, dx, gs, rep_obj.mp v1, h1, (FReps.lookup h3).2 hl, σd, M1, F1, _, hF.trans e1, r1, hS.mono e1, q, fun ds M2 vs H2 F2 q2 e2 r2 v2 => ?_⟩
  dsimp only
  rw [List.append_nil]
  exact ⟨_, M2, F2, Qd, Ed, r2, .cons (v1.mono e2) v2, q2, fin.mono (e1.trans e2), hE.mono ((hF.trans e1).trans e2)⟩
theorem de_meth {pl : Sem Bool} (he : DE X F0 o ta) (c : Cls X.K C) (hm : Meth X.K C m f) (F : FnOk X.prog X.w X.K X.mg X.base CX k f fd ps (LSp X.K sp)) (hr : Room k X.A) (hb : Binds X.K fd ps []) (hx : Passes CX X E) (hE : FinX X.K F0 Ed E) (ha : DA X F0 (e :: es) t)
    (hst : starEach (e :: es) X.env = (false, eval e X.env) :: starEach es X.env := by rfl) (hpl : (backTo pos (starEach es X.env)).any (·.1) = false := by rfl)
    (ht : eval (.Call (.Attribute o m apos) (e :: es) [] pos) X.env = (do
      let ov ← eval o X.env
      standAt apos.atName
      let (f, first) ← holding [ov] (getMethod ov m pl)
      callWith pos f first (backTo pos (starEach (e :: es) X.env)) (backToKw pos (keywordEach [] X.env))) := by rfl) :
    DE X F0 (.Call (.Attribute o m apos) (e :: es) [] pos) (dMeth C m sp Ed ta t) :=
  PE_imp (pe_meth he c hm F hr hb .nil hx ha hst hpl ht) fun _ _ _ h => lift_meth hE h
theorem de_meth0 {pl : Sem Bool} (he : DE X F0 o ta) (c : Cls X.K C) (hm : Meth X.K C m f) (F : FnOk X.prog X.w X.K X.mg X.base CX k f fd ps (LSp X.K sp)) (hr : Room k X.A) (hb : Binds X.K fd ps []) (hx : Passes CX X E) (hE : FinX X.K F0 Ed E)
    (ht : eval (.Call (.Attribute o m apos) [] [] pos) X.env = (do
      let ov ← eval o X.env
      standAt apos.atName
      let (f, first) ← holding [ov] (getMethod ov m pl)
      callWith pos f first (backTo pos (starEach [] X.env)) (backToKw pos (keywordEach [] X.env))) := by rfl) :
    DE X F0 (.Call (.Attribute o m apos) [] [] pos) (dMeth C m sp Ed ta dNil) :=
  PE_imp (pe_meth0 he c hm F hr hb .nil hx ht) fun σ H Q ⟨σd, M, F, Qd, hF, r, hS, h, fin⟩ => ⟨σd, M, F, _, hF, r, hS, h, fun d M1 v H1 F1 q e1 r1 v1 => by
    obtain ⟨p, fs, rfl, hp, hl, q⟩ := q
    obtain ⟨dx, gs, h1, h2, h3⟩ := r1.mem p _ hp
    exact ⟨p, dx, gs, rep_obj.mp v1, h1, (FReps.lookup h3).2 hl, _, M1, F1, Qd, Ed, r1, .cons v1 .nil, q, fin.mono e1, hE.mono (hF.trans e1)⟩⟩
def dMake (C : Addr) (sp : SpD) (Ed : DX) (t : DTA) : DTE := fun σ M Q => t σ M fun ds M1 => ∀ x, M1 x = none → sp (.obj x :: ds) (updM M1 x (.ins C [])) (fun v M2 => v = .non ∧ Q (.obj x) M2) Ed
theorem make_fin {K : PySem.W.Frag} {F H : Hp} {M : Mp} {Qd : DK} {Q : VK} {ds : List D} {vs : List V} (hE : FinX K F Ed E) (r : R K M F H) (hv : Reps K F ds vs) (fin : Fin K F Qd Q) (q : ∀ x, M x = none → sp (.obj x :: ds) (updM M x (.ins C [])) (fun v M2 => v = .non ∧ Qd (.obj x) M2) Ed) :
    ∀ x dx, H x = none → H dx = none → dx ≠ x → LSp K sp (.ref x :: vs) (upd (upd H dx (.own x)) x (.ins C dx [])) (fun v H2 => v = .non ∧ Q (.ref x) H2) E := by
  intro x dx hx hdx ne
  have e := same_upd (o := HO.own x) (r.freeF hdx)
  refine ⟨_, _, _, _, Ed, r.newI hx hdx ne, .cons (rep_obj.mpr rfl) (hv.mono e), q x (r.free hx), ?_, hE.mono e⟩
  rintro d M2 v H2 F2 ⟨rfl, q2⟩ e2 r2 v2
  exact ⟨rep_non.mp v2, fin _ _ _ _ F2 q2 (e.trans e2) r2 (rep_obj.mpr rfl)⟩
theorem de_make (M : Mk X.K C f) (F : FnOk X.prog X.w X.K X.mg X.base CX k f fd ps (LSp X.K sp)) (hr : Room (k + 1) X.A) (hg : Gl X x) (hm : X.mg x = some (.ref C)) (hb : Binds X.K fd ps []) (hx : Passes CX X E) (hE : FinX X.K F0 Ed E)
    (ha : DA X F0 (e :: es) t) (hdb : (x == ("__debug__" : Str)) = false := by decide) (he : starEach (e :: es) X.env = (false, eval e X.env) :: starEach es X.env := by rfl) (hpl : (backTo pos (starEach es X.env)).any (·.1) = false := by rfl) :
    DE X F0 (.Call (.Name x p) (e :: es) [] pos) (dMake C sp Ed t) :=
  PE_imp (pe_make M F hr hg hm hb .nil hx ha hdb he hpl) fun σ H Q ⟨σd, M, F, Qd, hF, r, hS, h, fin⟩ => ⟨σd, M, F, _, hF, r, hS, h, fun ds M1 vs H1 F1 q e1 r1 v1 => by
    dsimp only
    rw [List.append_nil]
    exact make_fin (hE.mono (hF.trans e1)) r1 v1 (fin.mono e1) q⟩
theorem de_make0 (M : Mk X.K C f) (F : FnOk X.prog X.w X.K X.mg X.base CX k f fd ps (LSp X.K sp)) (hr : Room (k + 1) X.A) (hg : Gl X x) (hm : X.mg x = some (.ref C)) (hb : Binds X.K fd ps []) (hx : Passes CX X E) (hE : FinX X.K F0 Ed E)
    (hdb : (x == ("__debug__" : Str)) = false := by decide) : DE X F0 (.Call (.Name x p) [] [] pos) (dMake C sp Ed dNil) :=
  PE_imp (pe_make0 M F hr hg hm hb .nil hx hdb) fun σ H Q ⟨σd, M, F, Qd, hF, r, hS, h, fin⟩ => make_fin (hE.mono hF) r .nil fin h

/-- f(k = v, ..), nothing by place: the keywords in the parameters' order -/
theorem callWith_K0kw {M : Model} {A : Around} {E : Value → Shared → Prop} {s : Shared} {K : PySem.W.Frag} {h₀ : Heap} {env : Env} {pos : Pos} {f : Value} {Q : Value → Shared → Prop} {kws : List Keyword} (X : K.In h₀) (hk : PySem.W.keepIn K f = true) (hall : (backToKw pos (keywordEach kws env)).all (·.1.isSome) = true)
    (h : wpAny M A (evalAll ((backToKw pos (keywordEach kws env)).map (·.2))) (fun ks s₂ => K.In s₂.heap ∧ wpAny M A (call f [] (((backToKw pos (keywordEach kws env)).filterMap (·.1)).zip ks)) Q E s₂) E s)
    (hplain : ((backTo pos (starEach [] env)).any (·.1) || (backToKw pos (keywordEach kws env)).any (·.1.isNone)) = false := by rfl) :
    wpAny M A (callWith pos f [] (backTo pos (starEach [] env)) (backToKw pos (keywordEach kws env))) Q E s := PySem.W.callWith_KW0 X hk hall h hplain
abbrev DKw (X : Cx) (F0 : Hp) (kws : List Keyword) (t : DTA) : Prop := PK X kws (LA X.K F0 t)
theorem PK_imp {kws : List Keyword} {t t' : TA} (h : PK X kws t) (i : ∀ σ H Q, t' σ H Q → t σ H Q) : PK X kws t' := ⟨fun pos pins s σ H Q I q => h.run pos pins s σ H Q I (i σ H Q q)⟩
theorem dk_nil : DKw X F0 [] dNil := PK_imp pk_nil fun σ H Q ⟨σd, M, F, Qd, hF, r, hS, h, fin⟩ => fin _ _ _ _ F h (Same.refl F) r Reps.nil
theorem dk_cons {kpos : Pos} {nm : Option Str} {kws : List Keyword} {tr : DTA} (ha : DE X F0 e te) (hr : DKw X F0 kws tr) : DKw X F0 (⟨nm, e, kpos⟩ :: kws) (dCons te tr) :=
  PK_imp (pk_cons ha hr) fun σ H Q ⟨σd, M, F, Qd, hF, r, hS, h, fin⟩ => ⟨σd, M, F, _, hF, r, hS, h, fun x M1 v H1 F1 h1 e1 r1 v1 =>
    ⟨σd, M1, F1, _, hF.trans e1, r1, hS.mono e1, h1, fun xs M2 vs H2 F2 h2 e2 r2 vs2 => fin _ _ _ _ F2 h2 (e1.trans e2) r2 (.cons (v1.mono e2) vs2)⟩⟩
/-- the parameters are given by their names, in their order -/
def BindsK (fd : FuncData) (ps : List Str) : Prop := ∀ (ws : List Value), ws.length = ps.length → bindArgs fd ⟨[], ps.zip ws⟩ = pure (ps.zip ws)
theorem de_callK {kws : List Keyword} (F : FnOk X.prog X.w X.K X.mg X.base CX k f fd ps (LSp X.K sp)) (hr : Room k X.A) (hg : Gl X x) (hm : X.mg x = some (.ref f)) (hk : PySem.W.keepIn X.K (.ref f) = true) (hb : BindsK fd ps) (hx : Passes CX X E) (hE : FinX X.K F0 Ed E)
    (hkw : DKw X F0 kws t) (hall : (backToKw pos (keywordEach kws X.env)).all (·.1.isSome) = true := by rfl) (hks : (backToKw pos (keywordEach kws X.env)).filterMap (·.1) = ps := by rfl)
    (hdb : (x == ("__debug__" : Str)) = false := by decide) (hpl : ((backTo pos (starEach [] X.env)).any (·.1) || (backToKw pos (keywordEach kws X.env)).any (·.1.isNone)) = false := by rfl) :
    DE X F0 (.Call (.Name x p) [] kws pos) (dCall sp Ed t) := by
  refine ⟨fun pins s σ H Q I ⟨σd, M, F1, Qd, hF, r, hS, h, fin⟩ => ?_⟩
  refine wpAny_Call_Name_kw (ld_glob I hg hm ?_ hdb)
  refine callWith_K0kw (h₀ := X.base) I.ok.mod.kin hk hall ?_ hpl
  refine thn (hkw.run pos pins s σ H (fun vs H1 => LSp X.K sp vs H1 Q E) I ⟨σd, M, F1, _, hF, r, hS, h, fun ds M1 vs H1 F2 q e1 r1 v1 => ⟨ds, M1, F2, Qd, Ed, r1, v1, q, fin.mono e1, hE.mono (hF.trans e1)⟩⟩) fun ws s2 ⟨zs, H2, I2, rz, q2⟩ => ⟨I2.kIn, ?_⟩
  rw [hks]
  have hl : ws.length = ps.length := by rw [← rz.length]; exact F.len _ _ _ _ q2
  refine wpAny_call (codeAny_mono (F.run X.A X.stack s2 H2 ⟨[], ps.zip ws⟩ ws zs Q E hr I2.env0 (.of_eq (hb ws hl)) rz q2) fun r s' hq => ?_)
  cases r with
  | error e => exact hx pins σ H2 s2 e s' I2 hq
  | ok fl =>
    cases fl with
    | ret u => exact I2.after hq
    | next => exact False.elim hq
    | brk => exact False.elim hq
    | cont => exact False.elim hq

/-! ### fields -/
def dFld (K : PySem.W.Frag) (f : Str) (te : DTE) : DTE := fun σ M Q => te σ M fun x M1 => ∃ p C fs v, x = .obj p ∧ M1 p = some (.ins C fs) ∧ Cls K C ∧ NoAttr K C f ∧ fs.lookup f = some v ∧ Q v M1
theorem de_fld {f : Str} (he : DE X F0 e te) (hb : attributeBase e f X.env (eval e X.env) = eval e X.env) : DE X F0 (.Attribute e f pos) (dFld X.K f te) :=
  PE_imp (pe_fld he hb) fun σ H Q ⟨σd, M, F, Qd, hF, r, hS, h, fin⟩ => ⟨σd, M, F, _, hF, r, hS, h, fun d M1 v H1 F1 q e1 r1 v1 => by
    obtain ⟨p, C, fs, y, rfl, hp, hc, hn, hl, q⟩ := q
    obtain ⟨dx, gs, h1, h2, h3⟩ := r1.mem p _ hp
    obtain ⟨u, h4, h5⟩ := (FReps.lookup h3).1 _ hl
    exact ⟨p, C, dx, gs, u, rep_obj.mp v1, h1, hc, hn, h4, fin _ _ _ _ F1 q e1 r1 h5⟩⟩
def dSFld (K : PySem.W.Frag) (f : Str) (ta tv : DTE) : DTS := fun D σ M => tv σ M fun y M1 => ta σ M1 fun x M2 => ∃ p C fs, x = .obj p ∧ M2 p = some (.ins C fs) ∧ Cls K C ∧ NoAttr K C f ∧ fs.length < 1000 ∧ D.nx σ (updM M2 p (.ins C (putD f y fs)))
theorem ds_fld {f : Str} {value : Expr} {pos' : Pos} (ha : DE X F0 o ta) (hv : DE X F0 value tv) (hs : swapsWith value (some (.Attribute o f pos')) pos.line X.env = pure false) : DSt X F0 (.Assign [.Attribute o f pos'] value pos) (dSFld X.K f ta tv) :=
  PS_imp (ps_fld ha hv hs) fun D σ H ⟨σd, M, F, Dd, hF, r, hS, h, fin⟩ => ⟨σd, M, F, _, hF, r, hS, h, fun y M1 v H1 F1 q e1 r1 v1 => ⟨σd, M1, F1, _, hF.trans e1, r1, hS.mono e1, q, fun x M2 u H2 F2 q2 e2 r2 u2 => by
    obtain ⟨p, C, fs, rfl, hp, hc, hn, hl, q2⟩ := q2
    obtain ⟨dx, gs, h1, h2, h3⟩ := r2.mem p _ hp
    refine ⟨p, C, dx, gs, rep_obj.mp u2, h1, hc, hn, by rw [← FReps.length h3]; exact hl, ?_⟩
    exact fin.nx _ _ _ _ F2 q2 (e1.trans e2) (r2.setI hp h2 (FReps.put (v1.mono e2) h3)) (hS.mono (e1.trans e2))⟩⟩
def dIOp (g : Int → Int → Int) : DR2 := fun x y M Q => match x, y with
  | .int i, .int j => Q (.int (g i j)) M
  | _, _ => False
def rIOp (g : Int → Int → Int) : V → V → Hp → VK → Prop := fun x y H Q => ∃ i j, x = .int i ∧ y = .int j ∧ Q (.int (g i j)) H
theorem in_addG : InOp X .Add (rIOp fun i j => i + j) := fun pins s σ H x y u v Q I rx ry h => in_add pins s σ H x y u v Q I rx ry h
theorem in_subG : InOp X .Sub (rIOp fun i j => i - j) := fun pins s σ H x y u v Q I rx ry h => in_sub pins s σ H x y u v Q I rx ry h
def dSFldA (K : PySem.W.Frag) (f : Str) (g : Int → Int → Int) (ta tv : DTE) : DTS := fun D σ M => ta σ M fun x M1 => ∃ p C fs v, x = .obj p ∧ M1 p = some (.ins C fs) ∧ Cls K C ∧ NoAttr K C f ∧ fs.lookup f = some v ∧
  tv σ M1 fun y M2 => dIOp g v y M2 fun z M3 => ∃ fs', M3 p = some (.ins C fs') ∧ fs'.length < 1000 ∧ D.nx σ (updM M3 p (.ins C (putD f z fs')))
theorem ds_fldaug {f : Str} {value : Expr} {tpos : Pos} {op : Operator} {g : Int → Int → Int} (ha : DE X F0 o ta) (hv : DE X F0 value tv) (hop : InOp X op (rIOp g)) : DSt X F0 (.AugAssign (.Attribute o f tpos) op value pos) (dSFldA X.K f g ta tv) :=
  PS_imp (ps_fldaug ha hv hop) fun D σ H ⟨σd, M, F, Dd, hF, r, hS, h, fin⟩ => ⟨σd, M, F, _, hF, r, hS, h, fun x M1 u H1 F1 q e1 r1 u1 => by
    obtain ⟨p, C, fs, v, rfl, hp, hc, hn, hl, q⟩ := q
    obtain ⟨dx, gs, h1, h2, h3⟩ := r1.mem p _ hp
    obtain ⟨w, h4, h5⟩ := (FReps.lookup h3).1 _ hl
    refine ⟨p, C, dx, gs, w, rep_obj.mp u1, h1, hc, hn, h4, σd, M1, F1, _, hF.trans e1, r1, hS.mono e1, q, fun y M2 yv H2 F2 q2 e2 r2 y2 => ?_⟩
    unfold dIOp at q2
    split at q2
    · rename_i i j
      obtain ⟨fs', hp', hl', q2⟩ := q2
      obtain ⟨dx', gs', h1', h2', h3'⟩ := r2.mem p _ hp'
      refine ⟨i, j, rep_int.mp h5, rep_int.mp y2, dx', gs', h1', by rw [← FReps.length h3']; exact hl', ?_⟩
      exact fin.nx _ _ _ _ F2 q2 (e1.trans e2) (r2.setI hp' h2' (FReps.put (rep_int.mpr rfl) h3')) (hS.mono (e1.trans e2))
    · exact q2.elim⟩
end

/-! ### a def keeps its promise -/
section
variable {P : Program} {w : World} {K : PySem.W.Frag} {mg : Str → Option Value} {base : Heap} {CX : CXT} {x qual : Str} {params : Arguments} {body : List Stmt} {scope : Scope} {f : Addr} {fd : FuncData} {N ps : List Str} {k : Nat} {sp : SpD}
theorem fnD (F : FunD K x qual params body scope [] [] f fd) (S : FnScope N ps scope) (len : ∀ ds M Q E, sp ds M Q E → ds.length = ps.length)
    (hbody : ∀ (cdv : Value) (A : Around) (outer : List Env) (s : Shared) (H : Hp) (E : XK) (F0 : Hp) (Ed : DX), Room k (A.deeper (envOfC qual scope s.heap.objs.size f cdv)) → FinX K F0 Ed E →
      ∃ τ : DTS, DSs (cxOf CX P w K mg base N qual scope f cdv A outer s H E) F0 body τ ∧ ∀ ds M Q, sp ds M Q Ed → τ { nx := fun _ M' => Wk Q .non M', rt := Wk Q } (startD N ds) M) : FnOk P w K mg base CX (k + 1) f fd ps (LSp K sp) := by
  refine F.ok S (fun vs H Q E ⟨ds, M, F, Qd, Ed, r, hv, h, fin, finx⟩ => by rw [← hv.length]; exact len _ _ _ _ h) fun cdv A outer s H vs Q E hr ⟨ds, M, F0, Qd, Ed, r, hv, h, fin, finx⟩ => ?_
  obtain ⟨τ, h1, h2⟩ := hbody cdv A outer s H E F0 Ed hr finx
  refine ⟨_, h1, startD N ds, M, F0, _, Same.refl _, r, SRep.start hv, h2 ds M Qd h, ⟨?_, fin.wk, ?_, ?_⟩⟩
  · exact fun σd M' σ H' F' q e r' s' => fin.wk _ _ _ _ F' q e r' (rep_non.mpr rfl)
  · exact fun σd M' σ H' F' q => q.elim
  · exact fun σd M' σ H' F' q => q.elim
end
end DL
namespace DL
open PySem PySem.Spec L2
section
variable {X : Cx} {F0 : Hp} {CX : CXT} {k : Nat} {ps : List Str} {sp : SpD} {Ed : DX} {E : XK} {x m : Str} {p pos apos : Pos} {a b c e o : Expr} {es : List Expr} {ta tb tc te tv : DTE} {t : DTA}
theorem de_chain {op op' : CmpOp} {r r' : DR2} (ho : OpR X (compareOp op) (LR X.K F0 r)) (ho' : OpR X (compareOp op') (LR X.K F0 r')) (ha : DE X F0 a ta) (hb : DE X F0 b tb) (hc : DE X F0 c tc)
    (hm : lastMarks [op, op'] [b, c] = false := by with_unfolding_all rfl) : DE X F0 (.Compare a [op, op'] [b, c] pos) (dChain r r' ta tb tc) :=
  PE_imp (pe_chain ho ho' ha hb hc hm) fun _ _ _ h => lift_chain h
theorem dt_chain {op op' : CmpOp} {r r' : DR2} (ho : OpR X (compareOp op) (LR X.K F0 r)) (ho' : OpR X (compareOp op') (LR X.K F0 r')) (ha : DE X F0 a ta) (hb : DE X F0 b tb) (hc : DE X F0 c tc)
    (hm : lastMarks [op, op'] [b, c] = false := by with_unfolding_all rfl) : DT X F0 (.Compare a [op, op'] [b, c] pos) (dB (dChain r r' ta tb tc)) :=
  PT_imp (pt_chain ho ho' ha hb hc hm) fun σ H Q ⟨σd, M, F, Qd, hF, hR, hS, h, fin⟩ => lift_chain ⟨σd, M, F, _, hF, hR, hS, h, fun x M1 v H1 F1 h1 e1 r1 v1 => by
    split at h1
    · exact ⟨_, rep_bl.mp v1, fin _ _ _ _ h1 e1 r1⟩
    · exact h1.elim⟩
/-- return e: a list that may change stays as it is from here on -/
def frz (d : D) (M : Mp) (Q : DK) : Prop := match d with
  | .obj p => ∃ ds, M p = some (.lst ds) ∧ Q (.lst ds) (remM M p)
  | d => Q d M
def dRetF (te : DTE) : DTS := fun D σ M => te σ M fun d M1 => frz d M1 D.rt
theorem ds_retF (he : DE X F0 e te) : DSt X F0 (.Return (some e) pos) (dRetF te) :=
  PS_imp (ps_ret he) fun D σ H ⟨σd, M, F, Dd, hF, r, hS, h, fin⟩ => ⟨σd, M, F, _, hF, r, hS, h, fun d M1 v H1 F1 q e1 r1 v1 => by
    unfold frz at q
    split at q
    · obtain ⟨ds, hp, q⟩ := q
      obtain ⟨F2, e2, r2, x2⟩ := r1.freeze hp
      cases rep_obj.mp v1
      exact fin.rt _ _ _ _ F2 q (e1.trans e2) r2 x2
    · exact fin.rt _ _ _ _ F1 q e1 r1 v1⟩
/-- a def of the module that may be called -/
def Callee (P : Program) (w : World) (K : PySem.W.Frag) (mg : Str → Option Value) (base : Heap) (CX : CXT) (k : Nat) (x : Str) (ps : List Str) (sp : SpD) : Prop :=
  ∃ f fd, FnOk P w K mg base CX k f fd ps (LSp K sp) ∧ mg x = some (.ref f) ∧ PySem.W.keepIn K (.ref f) = true ∧ Binds K fd ps [] ∧ BindsK fd ps
theorem de_fn (h : Callee X.prog X.w X.K X.mg X.base CX k x ps sp) (hr : Room k X.A) (hg : Gl X x) (hx : Passes CX X E) (hE : FinX X.K F0 Ed E)
    (ha : DA X F0 (e :: es) t) (hdb : (x == ("__debug__" : Str)) = false := by decide) (he : starEach (e :: es) X.env = (false, eval e X.env) :: starEach es X.env := by rfl) (hpl : (backTo pos (starEach es X.env)).any (·.1) = false := by rfl) :
    DE X F0 (.Call (.Name x p) (e :: es) [] pos) (dCall sp Ed t) := by
  obtain ⟨f, fd, F, hm, hk, hb, _⟩ := h
  exact de_call F hr hg hm hk hb hx hE ha hdb he hpl
theorem de_fn0 (h : Callee X.prog X.w X.K X.mg X.base CX k x ps sp) (hr : Room k X.A) (hg : Gl X x) (hx : Passes CX X E) (hE : FinX X.K F0 Ed E)
    (hdb : (x == ("__debug__" : Str)) = false := by decide) : DE X F0 (.Call (.Name x p) [] [] pos) (dCall sp Ed dNil) := by
  obtain ⟨f, fd, F, hm, hk, hb, _⟩ := h
  exact de_call0 F hr hg hm hk hb hx hE hdb
theorem de_fnK {kws : List Keyword} (h : Callee X.prog X.w X.K X.mg X.base CX k x ps sp) (hr : Room k X.A) (hg : Gl X x) (hx : Passes CX X E) (hE : FinX X.K F0 Ed E)
    (hkw : DKw X F0 kws t) (hall : (backToKw pos (keywordEach kws X.env)).all (·.1.isSome) = true := by rfl) (hks : (backToKw pos (keywordEach kws X.env)).filterMap (·.1) = ps := by rfl)
    (hdb : (x == ("__debug__" : Str)) = false := by decide) (hpl : ((backTo pos (starEach [] X.env)).any (·.1) || (backToKw pos (keywordEach kws X.env)).any (·.1.isNone)) = false := by rfl) :
    DE X F0 (.Call (.Name x p) [] kws pos) (dCall sp Ed t) := by
  obtain ⟨f, fd, F, hm, hk, _, hb⟩ := h
  exact de_callK F hr hg hm hk hb hx hE hkw hall hks hdb hpl
theorem Callee.mono {P : Program} {w : World} {K : PySem.W.Frag} {mg : Str → Option Value} {base : Heap} {j : Nat} (h : Callee P w K mg base CX j x ps sp) (hl : j ≤ k) : Callee P w K mg base CX k x ps sp := by
  obtain ⟨f, fd, F, r⟩ := h
  exact ⟨f, fd, F.mono hl, r⟩
/-- a weaker promise -/
theorem Callee.imp {P : Program} {w : World} {K : PySem.W.Frag} {mg : Str → Option Value} {base : Heap} {sp' : SpD} (h : Callee P w K mg base CX k x ps sp) (hs : ∀ ds M Q E, sp' ds M Q E → sp ds M Q E) : Callee P w K mg base CX k x ps sp' := by
  obtain ⟨f, fd, F, r⟩ := h
  exact ⟨f, fd, F.imp fun vs H Q E ⟨ds, M, F, Qd, Ed, h1, h2, h3, h4⟩ => ⟨ds, M, F, Qd, Ed, h1, h2, hs _ _ _ _ h3, h4⟩, r⟩
/-- a tuple of texts, a text, an int of the module -/
def GTup (K : PySem.W.Frag) (mg : Str → Option Value) (x : Str) (xs : List Str) : Prop := ∃ a, mg x = some (.ref a) ∧ ∀ H, SqT K H a (xs.map V.str)
theorem de_gtupS {xs : List Str} (h : GTup X.K X.mg x xs) (hg : Gl X x) (hd : (x == ("__debug__" : Str)) = false := by decide) : DE X F0 (.Name x pos) (dC (.tup (xs.map D.str))) := by
  obtain ⟨a, h1, h2⟩ := h
  exact de_gtup hg h1 h2 (fun F => Reps.strs) hd
theorem de_gstrE {z : Str} (h : ∃ t, X.mg x = some (.str z t)) (hg : Gl X x) (hd : (x == ("__debug__" : Str)) = false := by decide) : DE X F0 (.Name x pos) (dC (.str z)) := by
  obtain ⟨t, h1⟩ := h
  exact de_gstr hg h1 hd
theorem de_gintE {z : Int} (h : ∃ t, X.mg x = some (.int z t)) (hg : Gl X x) (hd : (x == ("__debug__" : Str)) = false := by decide) : DE X F0 (.Name x pos) (dC (.int z)) := by
  obtain ⟨t, h1⟩ := h
  exact de_gint hg h1 hd
end
section
variable {P : Program} {w : World} {K : PySem.W.Frag} {mg : Str → Option Value} {base : Heap} {CX : CXT} {x qual : Str} {params : Arguments} {body : List Stmt} {scope : Scope} {f : Addr} {fd : FuncData} {N ps : List Str} {k : Nat} {sp : SpD}
/-- as fnD, for a def that lets nothing out -/
theorem fnD0 (F : FunD K x qual params body scope [] [] f fd) (S : FnScope N ps scope) (len : ∀ ds M Q E, sp ds M Q E → ds.length = ps.length)
    (hbody : ∀ (cdv : Value) (A : Around) (outer : List Env) (s : Shared) (H : Hp) (E : XK) (F0 : Hp), Room k (A.deeper (PyProof.Rows.envOfC qual scope s.heap.objs.size f cdv)) →
      ∃ τ : DTS, DSs (cxOf CX0 P w K mg base N qual scope f cdv A outer s H E).nox F0 body τ ∧ ∀ ds M Q E, sp ds M Q E → τ { nx := fun _ M' => Wk Q .non M', rt := Wk Q } (startD N ds) M) : FnOk P w K mg base CX0 (k + 1) f fd ps (LSp K sp) :=
  fnD F S len fun cdv A outer s H E F0 Ed hr _ => by
    obtain ⟨τ, h1, h2⟩ := hbody cdv A outer s H E F0 hr
    exact ⟨τ, PSs.nox h1, fun ds M Q h => h2 ds M Q Ed h⟩
/-- slots -/
theorem start_def {N : List Str} {ds : List D} : startD N ds = ds.map some ++ List.replicate (N.length - ds.length) none := rfl
end
end DL
/-! What the readings come to on data of known form. -/
namespace DL
open PySem PySem.Spec L2
section
variable {own : Bool} {M : Mp} {Q : DK} {i j : Int} {a b : Str} {x y z u v w : D} {ds es l : List D} {p : Addr} {ns : List Int}
theorem e_new_f : dNew false ds M Q = Q (.lst ds) M := rfl
theorem e_new_t : dNew true ds M Q = ∀ p, M p = none → Q (.obj p) (updM M p (.lst ds)) := rfl
theorem e_add_int : dAdd own (.int i) (.int j) M Q = Q (.int (i + j)) M := rfl
theorem e_add_str : dAdd own (.str a) (.str b) M Q = (a.length + b.length ≤ sizeLine ∧ Q (.str (a ++ b)) M) := rfl
theorem e_add_tup : dAdd own (.tup ds) (.tup es) M Q = (ds.length + es.length ≤ sizeLine ∧ Q (.tup (ds ++ es)) M) := rfl
theorem e_add_lst : dAdd own (.lst ds) (.lst es) M Q = (ds.length + es.length ≤ sizeLine ∧ dNew own (ds ++ es) M Q) := by
  apply propext
  constructor
  · rintro ⟨a, b, h1, h2, h⟩
    cases h1; cases h2
    exact h
  · exact fun h => ⟨ds, es, rfl, rfl, h⟩
theorem e_add_obj (hp : M p = some (.lst ds)) : dAdd own (.obj p) (.lst es) M Q = (ds.length + es.length ≤ sizeLine ∧ dNew own (ds ++ es) M Q) := by
  apply propext
  constructor
  · rintro ⟨a, b, h1, h2, h⟩
    cases lsD_obj.mp h1 ▸ hp
    cases h2
    exact h
  · exact fun h => ⟨ds, es, lsD_obj.mpr hp, rfl, h⟩
theorem e_sub : dSub (.int i) (.int j) M Q = Q (.int (i - j)) M := rfl
theorem e_mul : dMul own (.int i) (.int j) M Q = (CMul i j ∧ Q (.int (i * j)) M) := rfl
theorem e_mul_str : dMul own (.str a) (.int j) M Q = (MulOk a j ∧ Q (.str (Txt.mul a j)) M) := rfl
theorem e_mul_lst : dMul own (.lst ds) (.int j) M Q = (-(2 ^ 63) ≤ j ∧ j < 2 ^ 63 ∧ ds.length * j.toNat ≤ sizeLine ∧ dNew own (List.replicate j.toNat ds).flatten M Q) := by
  apply propext
  constructor
  · rintro ⟨a, h1, h⟩
    cases h1
    exact h
  · exact fun h => ⟨ds, rfl, h⟩
theorem e_div : dDiv (.int i) (.int j) M Q = ((0 < j ∧ j < 1073741824) ∧ Q (.int (i / j)) M) := rfl
theorem e_mod : dMod (.int i) (.int j) M Q = (0 < j ∧ Q (.int (i % j)) M) := rfl
theorem e_pow : dPow (.int i) (.int j) M Q = ((0 ≤ j ∧ j ≤ 1000000 ∧ i.natAbs < 2 ^ 64) ∧ Q (.int (i ^ j.toNat)) M) := rfl
theorem e_neg : dNeg (.int i) M Q = Q (.int (-i)) M := rfl
theorem e_eq_int {n : Bool} : dEq n (.int i) (.int j) M Q = Q (.bl (n != decide (i = j))) M := rfl
theorem e_eq_str {n : Bool} : dEq n (.str a) (.str b) M Q = Q (.bl (n != decide (a = b))) M := rfl
theorem e_isN_non {n : Bool} : dIsN n .non .non M Q = Q (.bl (n != true)) M := rfl
theorem e_isN_obj {n : Bool} : dIsN n (.obj p) .non M Q = Q (.bl (n != false)) M := rfl
theorem e_isN_tup {n : Bool} : dIsN n (.tup ds) .non M Q = Q (.bl (n != false)) M := rfl
theorem e_isN_lst {n : Bool} : dIsN n (.lst ds) .non M Q = Q (.bl (n != false)) M := rfl
theorem e_lt_int : dLt (.int i) (.int j) M Q = Q (.bl (decide (i < j))) M := rfl
theorem e_lt_str : dLt (.str a) (.str b) M Q = Q (.bl (decide (a.cps.toList < b.cps.toList))) M := rfl
theorem e_le_int : dLe (.int i) (.int j) M Q = Q (.bl (decide (i ≤ j))) M := rfl
theorem e_le_str : dLe (.str a) (.str b) M Q = Q (.bl (!decide (b.cps.toList < a.cps.toList))) M := rfl
theorem e_gt : dGt (.int i) (.int j) M Q = Q (.bl (decide (j < i))) M := rfl
theorem e_ge : dGe (.int i) (.int j) M Q = Q (.bl (decide (j ≤ i))) M := rfl
theorem sqD_tup : sqD M (.tup ds) = some ds := rfl
theorem sqD_lst : sqD M (.lst ds) = some ds := rfl
theorem sqD_rdl : sqD M (.rdl ns) = some (ns.map D.int) := rfl
theorem sqD_obj (hp : M p = some (.lst ds)) : sqD M (.obj p) = some ds := by unfold sqD; dsimp only; rw [hp]
theorem lsD_lst : lsD M (.lst ds) = some ds := rfl
theorem lsD_o (hp : M p = some (.lst ds)) : lsD M (.obj p) = some ds := lsD_obj.mpr hp
theorem e_in_str {n : Bool} : dIn n (.str a) (.str b) M Q = Q (.bl (n != !(Builtin.Str.occurrences b a 0 b.length 1).isEmpty)) M := rfl
theorem e_in {n : Bool} {xs : List Str} (h : y = .tup (xs.map D.str) ∨ y = .lst (xs.map D.str)) (q : Q (.bl (n != decide (a ∈ xs))) M) : dIn n (.str a) y M Q := by
  rcases h with rfl | rfl
  · exact ⟨xs, by rw [sqD_tup]; exact strsD_map xs, q⟩
  · exact ⟨xs, by rw [sqD_lst]; exact strsD_map xs, q⟩
theorem e_in_tup {n : Bool} {xs : List Str} (h : strsD ds = some xs := by rfl) : dIn n (.str a) (.tup ds) M Q = Q (.bl (n != decide (a ∈ xs))) M := by
  apply propext
  constructor
  · rintro ⟨ys, h1, h2⟩
    have h3 : strsD ds = some ys := h1
    rw [h] at h3; cases h3; exact h2
  · exact fun q => ⟨xs, h, q⟩
theorem e_in_lst {n : Bool} {xs : List Str} (h : strsD ds = some xs := by rfl) : dIn n (.str a) (.lst ds) M Q = Q (.bl (n != decide (a ∈ xs))) M := by
  apply propext
  constructor
  · rintro ⟨ys, h1, h2⟩
    have h3 : strsD ds = some ys := h1
    rw [h] at h3; cases h3; exact h2
  · exact fun q => ⟨xs, h, q⟩
/-! items -/
theorem e_ix {n : Nat} (h : sqD M x = some ds) (hd : ds[n]? = some v) (q : Q v M) : dIx x (.int (n : Int)) M Q := by
  have e := atI_nat hd
  cases x with
  | str z => cases h
  | _ => exact ⟨ds, v, h, e, q⟩
theorem e_ix_at {d : D} (h : sqD M x = some ds) (e : atI ds i = some d) : dIx x (.int i) M Q = Q d M := by
  cases x with
  | str z => cases h
  | _ =>
    apply propext
    constructor
    · rintro ⟨ds', d', h1, h2, h3⟩
      rw [h] at h1; cases h1
      rw [e] at h2; cases h2
      exact h3
    · exact fun q => ⟨ds, d, h, e, q⟩
theorem at0 : atI (x :: l) 0 = some x := atI_nat (j := 0) rfl
theorem at1 : atI (x :: y :: l) 1 = some y := atI_nat (j := 1) rfl
theorem at2 : atI (x :: y :: z :: l) 2 = some z := atI_nat (j := 2) rfl
theorem at3 : atI (x :: y :: z :: u :: l) 3 = some u := atI_nat (j := 3) rfl
theorem at4 : atI (x :: y :: z :: u :: v :: l) 4 = some v := atI_nat (j := 4) rfl
theorem at5 : atI (x :: y :: z :: u :: v :: w :: l) 5 = some w := atI_nat (j := 5) rfl
theorem e_t0 : dIx (.tup (x :: l)) (.int 0) M Q = Q x M := e_ix_at rfl at0
theorem e_t1 : dIx (.tup (x :: y :: l)) (.int 1) M Q = Q y M := e_ix_at rfl at1
theorem e_t2 : dIx (.tup (x :: y :: z :: l)) (.int 2) M Q = Q z M := e_ix_at rfl at2
theorem e_t3 : dIx (.tup (x :: y :: z :: u :: l)) (.int 3) M Q = Q u M := e_ix_at rfl at3
theorem e_t4 : dIx (.tup (x :: y :: z :: u :: v :: l)) (.int 4) M Q = Q v M := e_ix_at rfl at4
theorem e_t5 : dIx (.tup (x :: y :: z :: u :: v :: w :: l)) (.int 5) M Q = Q w M := e_ix_at rfl at5
theorem e_l0 : dIx (.lst (x :: l)) (.int 0) M Q = Q x M := e_ix_at rfl at0
theorem e_l1 : dIx (.lst (x :: y :: l)) (.int 1) M Q = Q y M := e_ix_at rfl at1
theorem e_l2 : dIx (.lst (x :: y :: z :: l)) (.int 2) M Q = Q z M := e_ix_at rfl at2
theorem e_l3 : dIx (.lst (x :: y :: z :: u :: l)) (.int 3) M Q = Q u M := e_ix_at rfl at3
theorem e_o0 (h : M p = some (.lst (x :: l))) : dIx (.obj p) (.int 0) M Q = Q x M := e_ix_at (sqD_obj h) at0
theorem e_o1 (h : M p = some (.lst (x :: y :: l))) : dIx (.obj p) (.int 1) M Q = Q y M := e_ix_at (sqD_obj h) at1
theorem e_o2 (h : M p = some (.lst (x :: y :: z :: l))) : dIx (.obj p) (.int 2) M Q = Q z M := e_ix_at (sqD_obj h) at2
theorem e_o3 (h : M p = some (.lst (x :: y :: z :: u :: l))) : dIx (.obj p) (.int 3) M Q = Q u M := e_ix_at (sqD_obj h) at3
theorem e_ix_str {n : Nat} {c : Nat} (hz : a.length ≤ sizeLine) (h : a.cps.toList[n]? = some c) (q : Q (.str ⟨#[c]⟩) M) : dIx (.str a) (.int (n : Int)) M Q := ⟨hz, c, atI_nat h, q⟩
/-! slices, calls -/
theorem e_sl_tup {lo hi : Option Int} : dSl own (.tup ds) lo hi M Q = Q (.tup (cutL ds lo hi)) M := rfl
theorem e_sl_rdl {lo hi : Option Int} : dSl own (.rdl ns) lo hi M Q = dNew own ((cutL ns lo hi).map D.int) M Q := rfl
theorem e_sl_str {lo hi : Option Int} : dSl own (.str a) lo hi M Q = (a.length ≤ sizeLine ∧ Q (.str ⟨(cutL a.cps.toList lo hi).toArray⟩) M) := rfl
theorem e_sl_lst {lo hi : Option Int} : dSl own (.lst ds) lo hi M Q = dNew own (cutL ds lo hi) M Q := by
  apply propext
  constructor
  · rintro ⟨es, h1, h2⟩
    cases h1; exact h2
  · exact fun q => ⟨ds, rfl, q⟩
theorem cut_from {α : Type} {xs : List α} {n : Nat} : cutL xs (some (n : Int)) none = xs.drop n := by
  unfold cutL
  rw [HT.sIx_nat, HT.sIx_none]
  by_cases h : n ≤ xs.length
  · rw [Nat.min_eq_left h, List.take_of_length_le (by rw [List.length_drop]; omega)]
  · rw [Nat.min_eq_right (by omega), List.drop_eq_nil_of_le (Nat.le_refl _), List.drop_eq_nil_of_le (by omega)]; simp
theorem cut_to {α : Type} {xs : List α} {n : Nat} : cutL xs none (some (n : Int)) = xs.take n := by
  unfold cutL
  rw [HT.sIx_nat, HT.sIx_none, List.drop_zero, Nat.sub_zero]
  by_cases h : n ≤ xs.length
  · rw [Nat.min_eq_left h]
  · rw [Nat.min_eq_right (by omega), List.take_of_length_le (Nat.le_refl _), List.take_of_length_le (by omega)]
theorem e_len_str : dLen [.str a] M Q = (a.length ≤ sizeLine ∧ Q (.int a.length) M) := rfl
theorem e_len (h : sqD M x = some ds) : dLen [x] M Q = Q (.int ds.length) M := by
  cases x with
  | str z => cases h
  | _ =>
    apply propext
    constructor
    · rintro ⟨ds', h1, h2⟩
      rw [h] at h1; cases h1
      exact h2
    · exact fun q => ⟨ds, h, q⟩
theorem e_len_lst : dLen [.lst ds] M Q = Q (.int ds.length) M := e_len rfl
theorem e_len_tup : dLen [.tup ds] M Q = Q (.int ds.length) M := e_len rfl
theorem e_len_obj (h : M p = some (.lst ds)) : dLen [.obj p] M Q = Q (.int ds.length) M := e_len (sqD_obj h)
theorem e_int : dIntC [.int i] M Q = Q (.int i) M := rfl
theorem e_tupC_tup : dTupC [.tup ds] M Q = Q (.tup ds) M := rfl
theorem e_tupC_lst : dTupC [.lst ds] M Q = Q (.tup ds) M := by
  apply propext
  constructor
  · rintro ⟨ds', h1, h2⟩
    cases h1; exact h2
  · exact fun q => ⟨ds, rfl, q⟩
theorem e_tupC_obj (h : M p = some (.lst ds)) : dTupC [.obj p] M Q = Q (.tup ds) M := by
  apply propext
  constructor
  · rintro ⟨ds', h1, h2⟩
    cases lsD_obj.mp h1 ▸ h; exact h2
  · exact fun q => ⟨ds, lsD_obj.mpr h, q⟩
theorem e_append (h : M p = some (.lst ds)) : dAppend (.obj p) [y] M Q = (ds.length < sizeLine ∧ Q .non (updM M p (.lst (ds ++ [y])))) := by
  apply propext
  constructor
  · rintro ⟨p', ds', y', h1, h2, h3, h4⟩
    cases h1; cases h2
    rw [h] at h3; cases h3
    exact h4
  · exact fun q => ⟨p, ds, y, rfl, rfl, h, q⟩
theorem e_pop (h : M p = some (.lst (ds ++ [y]))) : dPop (.obj p) [] M Q = Q y (updM M p (.lst ds)) := by
  apply propext
  constructor
  · rintro ⟨p', ds', y', h1, h2, h3, h4, h5⟩
    cases h1
    rw [h] at h3; cases h3
    rw [List.getLast?_append, List.getLast?_singleton] at h4
    cases h4
    rw [List.dropLast_concat] at h5
    exact h5
  · exact fun q => ⟨p, _, y, rfl, rfl, h, by rw [List.getLast?_append, List.getLast?_singleton]; rfl, by rw [List.dropLast_concat]; exact q⟩
theorem e_extend (h : M p = some (.lst ds)) : dExtend (.obj p) [.lst es] M Q = (ds.length + es.length ≤ sizeLine ∧ Q .non (updM M p (.lst (ds ++ es)))) := by
  apply propext
  constructor
  · rintro ⟨p', ds', y', es', h1, h2, h3, h4, h5⟩
    cases h1; cases h2
    rw [h] at h3; cases h3
    cases h4
    exact h5
  · exact fun q => ⟨p, ds, _, es, rfl, rfl, h, rfl, q⟩
theorem e_iadd_int : dIAdd (.int i) (.int j) M Q = Q (.int (i + j)) M := rfl
theorem e_iadd_str : dIAdd (.str a) (.str b) M Q = (a.length + b.length ≤ sizeLine ∧ Q (.str (a ++ b)) M) := rfl
theorem e_iadd_obj (h : M p = some (.lst ds)) (h2 : lsD M y = some es) : dIAdd (.obj p) y M Q = (ds.length + es.length ≤ sizeLine ∧ Q (.obj p) (updM M p (.lst (ds ++ es)))) := by
  apply propext
  constructor
  · rintro ⟨ds', es', h3, h4, h5⟩
    rw [h] at h3; cases h3
    rw [h2] at h4; cases h4
    exact h5
  · exact fun q => ⟨ds, es, h, h2, q⟩
theorem e_isub : dISub (.int i) (.int j) M Q = Q (.int (i - j)) M := rfl
theorem isLst_of (h : M p = some (.lst ds)) : isLst (.obj p) M := ⟨p, ds, rfl, h⟩
theorem e_frz_obj (h : M p = some (.lst ds)) (q : Q (.lst ds) (remM M p)) : frz (.obj p) M Q := ⟨ds, h, q⟩
theorem e_frz_upd (h : M p = none) : frz (.obj p) (updM M p (.lst ds)) Q = Q (.lst ds) M := by
  apply propext
  constructor
  · rintro ⟨es, h1, h2⟩
    rw [updM_same] at h1; cases h1
    rw [remM_upd h] at h2
    exact h2
  · exact fun q => ⟨ds, updM_same, by rw [remM_upd h]; exact q⟩
/-- o[k] = v -/
theorem e_nSub {to ti : DTE} {σ : DS} {Q : DS → Mp → Prop} {d : D} : nSub to ti d σ M Q = to σ M fun o M1 => ti σ M1 fun i M2 => ∃ p ds k j, o = .obj p ∧ i = .int k ∧ M2 p = some (.lst ds) ∧ ixN ds.length k = some j ∧ Q σ (updM M2 p (.lst (ds.set j d))) := rfl
theorem set_at {n : Nat} {Q : List D → Prop} (h : M p = some (.lst ds)) (hn : n < ds.length) (q : Q (ds.set n v)) : ∃ p' ds' k j, D.obj p = .obj p' ∧ D.int (n : Int) = .int k ∧ M p' = some (.lst ds') ∧ ixN ds'.length k = some j ∧ (p = p' → Q (ds'.set j v)) := by
  refine ⟨p, ds, n, n, rfl, rfl, h, ?_, fun _ => q⟩
  unfold ixN
  rw [if_pos (by omega), if_pos (by omega)]
  simp
theorem s_set {n : Nat} {Q : Mp → Prop} (h : M p = some (.lst ds)) (hn : n < ds.length) (q : Q (updM M p (.lst (ds.set n v)))) : ∃ p' ds' k j, D.obj p = .obj p' ∧ D.int (n : Int) = .int k ∧ M p' = some (.lst ds') ∧ ixN ds'.length k = some j ∧ Q (updM M p' (.lst (ds'.set j v))) := by
  refine ⟨p, ds, n, n, rfl, rfl, h, ?_, q⟩
  unfold ixN
  rw [if_pos (by omega), if_pos (by omega)]
  simp
/-- what stands behind a statement is shown once -/
theorem seq_tail {t u : DTS} {E : DEnds} {σ : DS} (W : DS → Mp → Prop) (tail : ∀ σ M, W σ M → u E σ M) (h : ∀ N : DS → Mp → Prop, (∀ σ M, W σ M → N σ M) → t { E with nx := N } σ M) : dSeq t u E σ M := h _ tail
/-- comprehensions: the items are told by Pre; Inv by the items, the turn, what is made so far, M without the new list -/
theorem lc_gen {k : Nat} {wi : DTI} {te : DTE} {σ : DS} (Pre : List D → Mp → Prop) (hwi : ∀ Kd : List D → (Mp → Prop) → Mp → Prop, (∀ ds M1, Pre ds M1 → Kd ds (fun _ => True) M1) → wi σ M Kd) (Inv : List D → Nat → List D → Mp → Prop)
    (hz : ∀ ds M1, Pre ds M1 → ds.length ≤ sizeLine) (h0 : ∀ ds M1, Pre ds M1 → Inv ds 0 [] M1)
    (h : ∀ ds (i : Nat) d acc M p (Q : DK), ds[i]? = some d → Inv ds i acc M → M p = none → acc.length = i → (∀ y M', M' p = none → Inv ds (i + 1) (acc ++ [y]) M' → Q y (updM M' p (.lst acc))) → te (σ.set k (some d)) (updM M p (.lst acc)) Q)
    (q : ∀ ds acc M', acc.length = ds.length → Inv ds ds.length acc M' → dNew own acc M' Q) : dLc own k wi te σ M Q := by
  unfold dLc
  refine hwi _ fun ds M1 hp => ?_
  exact lc_inv (Inv ds) (hz ds M1 hp) (h0 ds M1 hp) (fun _ _ _ _ _ _ _ => trivial) (fun i d acc M p Q hd hI h1 _ hl hq => h ds i d acc M p Q hd hI h1 hl hq) (fun acc M' hl hI => q ds acc M' hl hI)
/-- each element by itself -/
theorem lc_pure {k : Nat} {wi : DTI} {te : DTE} {σ : DS} (ds : List D) (f : D → D) (hwi : ∀ Kd : List D → (Mp → Prop) → Mp → Prop, Kd ds (fun _ => True) M → wi σ M Kd) (hz : ds.length ≤ sizeLine)
    (h : ∀ (i : Nat) d M' (Q : DK), ds[i]? = some d → (∀ a o, M a = some o → M' a = some o) → Q (f d) M' → te (σ.set k (some d)) M' Q) (q : dNew own (ds.map f) M Q) : dLc own k wi te σ M Q := by
  unfold dLc
  exact hwi _ (lc_map f hz (fun _ _ _ => trivial) h q)
/-- loops: the items are told by Pre; W by the items, the turn, the slots, M -/
theorem for_gen {wi : DTI} {g : DTG} {tb : DTS} {E : DEnds} {σ : DS} (Pre : List D → Mp → Prop) (hwi : ∀ Kd : List D → (Mp → Prop) → Mp → Prop, (∀ ds M1, Pre ds M1 → Kd ds (fun _ => True) M1) → wi σ M Kd) (W : List D → Nat → DS → Mp → Prop)
    (h0 : ∀ ds M1, Pre ds M1 → W ds 0 σ M1)
    (h : ∀ ds (i : Nat) d σ M (N : DS → Mp → Prop), ds[i]? = some d → W ds i σ M → (∀ σ M, W ds (i + 1) σ M → N σ M) → g d σ M fun σ2 M2 => tb { E with nx := N, ct := N, bk := E.nx } σ2 M2)
    (q : ∀ ds σ M, W ds ds.length σ M → E.nx σ M) : dFor wi g tb E σ M := by
  unfold dFor
  refine hwi _ fun ds M1 hp => ⟨W ds, h0 ds M1 hp, fun _ _ _ _ _ => trivial, fun i d σ M hd w => ?_, q ds⟩
  exact h ds i d σ M _ hd w fun _ _ z => z
/-- .. over items that are known -/
theorem for_pure {wi : DTI} {g : DTG} {tb : DTS} {E : DEnds} {σ : DS} (ds : List D) (hwi : ∀ Kd : List D → (Mp → Prop) → Mp → Prop, Kd ds (fun _ => True) M → wi σ M Kd) (W : Nat → DS → Mp → Prop) (h0 : W 0 σ M)
    (h : ∀ (i : Nat) d σ M (N : DS → Mp → Prop), ds[i]? = some d → W i σ M → (∀ σ M, W (i + 1) σ M → N σ M) → g d σ M fun σ2 M2 => tb { E with nx := N, ct := N, bk := E.nx } σ2 M2)
    (q : ∀ σ M, W ds.length σ M → E.nx σ M) : dFor wi g tb E σ M := by
  unfold dFor
  refine hwi _ ⟨W, h0, fun _ _ _ _ _ => trivial, fun i d σ M hd w => ?_, q⟩
  exact h i d σ M _ hd w fun _ _ z => z
/-- while, by a word and a number that falls -/
theorem while_gen {c : DTT} {tb : DTS} {E : DEnds} {σ : DS} (W : Nat → DS → Mp → Prop) (m : Nat) (h0 : W m σ M)
    (h : ∀ m σ M (N : DS → Mp → Prop), W m σ M → (∀ m' σ M, m' < m → W m' σ M → N σ M) → c σ M fun b M1 => IfB b (tb { E with nx := N, ct := N, bk := E.nx } σ M1) (E.nx σ M1)) : dWhile c tb E σ M := by
  unfold dWhile
  exact ⟨W, ⟨m, h0⟩, fun m σ M w => h m σ M _ w fun m' σ M hm w => ⟨m', hm, w⟩⟩
theorem upto_get {lo : Int} {n i : Nat} {d : D} (h : (upto lo n)[i]? = some d) : d = .int (lo + (i : Nat)) ∧ i < n := by
  unfold upto at h
  rw [List.getElem?_map] at h
  obtain ⟨k, h1, rfl⟩ := Option.map_eq_some_iff.mp h
  obtain ⟨h2, h3⟩ := List.getElem?_eq_some_iff.mp h1
  rw [List.getElem_range] at h3
  subst h3
  exact ⟨rfl, by simpa using h2⟩
theorem upto_len {lo : Int} {n : Nat} : (upto lo n).length = n := by simp [upto]
theorem sz0 : (([] : List D).length ≤ sizeLine) = True := eq_true (by show 0 ≤ sizeLine; decide)
theorem sz1 {a0 : D} : (([a0] : List D).length ≤ sizeLine) = True := eq_true (by show 1 ≤ sizeLine; decide)
theorem sz2 {a0 a1 : D} : (([a0, a1] : List D).length ≤ sizeLine) = True := eq_true (by show 2 ≤ sizeLine; decide)
theorem sz3 {a0 a1 a2 : D} : (([a0, a1, a2] : List D).length ≤ sizeLine) = True := eq_true (by show 3 ≤ sizeLine; decide)
theorem sz4 {a0 a1 a2 a3 : D} : (([a0, a1, a2, a3] : List D).length ≤ sizeLine) = True := eq_true (by show 4 ≤ sizeLine; decide)
theorem sz5 {a0 a1 a2 a3 a4 : D} : (([a0, a1, a2, a3, a4] : List D).length ≤ sizeLine) = True := eq_true (by show 5 ≤ sizeLine; decide)
theorem sz6 {a0 a1 a2 a3 a4 a5 : D} : (([a0, a1, a2, a3, a4, a5] : List D).length ≤ sizeLine) = True := eq_true (by show 6 ≤ sizeLine; decide)
theorem sz7 {a0 a1 a2 a3 a4 a5 a6 : D} : (([a0, a1, a2, a3, a4, a5, a6] : List D).length ≤ sizeLine) = True := eq_true (by show 7 ≤ sizeLine; decide)
theorem sz8 {a0 a1 a2 a3 a4 a5 a6 a7 : D} : (([a0, a1, a2, a3, a4, a5, a6, a7] : List D).length ≤ sizeLine) = True := eq_true (by show 8 ≤ sizeLine; decide)
theorem ifB_and {b c : Bool} {A B : Prop} : IfB b (IfB c A B) B = IfB (b && c) A B := by cases b <;> cases c <;> rfl
theorem ifB_or {b c : Bool} {A B : Prop} : IfB b A (IfB c A B) = IfB (b || c) A B := by cases b <;> cases c <;> rfl
theorem tru_bl {b : Bool} : truD (.bl b) M = some b := rfl
theorem tru_int : truD (.int i) M = some (i != 0) := rfl
theorem tru_non : truD .non M = some false := rfl
theorem tru_lst : truD (.lst ds) M = some (!ds.isEmpty) := rfl
theorem tru_tup : truD (.tup ds) M = some (!ds.isEmpty) := rfl
theorem tru_obj (h : M p = some (.lst ds)) : truD (.obj p) M = some (!ds.isEmpty) := by
  show (sqD M (.obj p)).map _ = _
  rw [sqD_obj h] <;> rfl
theorem ex_some {α : Type} {a : α} {P : α → Prop} : (∃ b, some a = some b ∧ P b) = P a := propext ⟨fun ⟨b, h, p⟩ => by cases h; exact p, fun p => ⟨a, rfl, p⟩⟩
theorem bne_f (b : Bool) : (false != b) = b := by cases b <;> rfl
theorem bne_t (b : Bool) : (true != b) = !b := by cases b <;> rfl
end
end DL
/-! DL9: enumerate over a tuple. -/
namespace DL
open PySem PySem.Spec PyProof.Rows L2
theorem meets_enumT {v : Value} {o : Obj} {H : Heap → Prop} (B : Begins v o H) :
    Meets (Builtin.«enumerate.__new__» ⟨[.type "enumerate", v], []⟩) (fun _ R s => H s.heap ∧
      R (.ok (.ret (.ref (s.heap.push o).objs.size)))
        { s with heap := (s.heap.push o).push { cls := .type "enumerate", data := .fields #[.none, .bool false, .ref s.heap.objs.size, rawInt 0, .none, .none] } }) :=
  .of_wp fun prog w A R s h => by
    obtain ⟨hp, g, d, tk, os⟩ := s; obtain ⟨h1, h⟩ := h
    have hsub := sub_enumerate
    have q1 : ∀ {A' : Around} {E : Value → Shared → Prop} {Q : Value → Shared → Prop}, Q (.ref hp.objs.size) ⟨(hp.push o), g, d, tk, os⟩ → wpAny (model prog w) A' (pyIter v) Q E ⟨hp, g, d, tk, os⟩ :=
      fun q => B.iter prog w _ _ ⟨hp, g, d, tk, os⟩ _ h1 q
    wp_walk
    refine wpAny_stack_any fun st => wpAny_pure ?_
    split
    · rename_i c _ _ _ _ _
      cases (c == Value.type "enumerate")
      · wp_walk using q1
        exact ⟨_, rfl, h⟩
      · wp_walk using q1
        exact ⟨_, rfl, h⟩
    · wp_walk using q1
      exact ⟨_, rfl, h⟩
theorem call_enumT {prog : Program} {w : World} {A : Around} {E : Value → Shared → Prop} {s : Shared} {v : Value} {o : Obj} {H : Heap → Prop} {Q : Value → Shared → Prop} (B : Begins v o H) (h0 : H s.heap)
    (h : ∀ h', IsEnum h' (s.heap.objs.size + 1) s.heap.objs.size 0 .none → h'.get? s.heap.objs.size = some o → h'.objs.size = s.heap.objs.size + 2 →
      (∀ b o, s.heap.get? b = some o → h'.get? b = some o) → Q (.ref (s.heap.objs.size + 1)) { s with heap := h' }) :
    wpAny (model prog w) A (call (.type "enumerate") [v]) Q E s := by
  refine callType_new F.called_enumerate (by decide) (F.typeCall_enumerate_1 _) (F.newCall_enumerate_1 _) (fun obj => F.args_object_init_2 obj _) F.entry_enumerate_new
    (meets_enumT B) ⟨h0, ?_⟩
  have hz : (s.heap.push o).objs.size = s.heap.objs.size + 1 := Heap.size_push ..
  show _ ∧ _
  rw [hz]
  have he : IsEnum ((s.heap.push o).push { cls := .type "enumerate", data := .fields #[.none, .bool false, .ref s.heap.objs.size, rawInt 0, .none, .none] }) (s.heap.objs.size + 1) s.heap.objs.size 0 .none := by
    have := Heap.get?_push_size (s.heap.push o) (o := { cls := .type "enumerate", data := .fields #[.none, .bool false, .ref s.heap.objs.size, rawInt 0, .none, .none] }) rfl
    rw [hz] at this; exact this
  exact ⟨⟨_, he, rfl⟩, h _ he (Heap.get?_push_of_some _ (Heap.get?_push_size _ B.free)) (by rw [Heap.size_push, hz]) fun b o x => Heap.get?_push_of_some _ (Heap.get?_push_of_some _ x)⟩
/-- the tuple at a, each item in a new pair -/
def Iet (K : PySem.W.Frag) (a : Addr) : It :=
  ⟨fun i H => ∃ (xs : List V) (x : V), SqT K H a xs ∧ xs[i]? = some x, fun i H v H' => ∃ T x, v = .ref T ∧ H T = none ∧ H' = upd H T (.tup [.int (i : Nat), x]) ∧ ∀ xs, SqT K H a xs → xs[i]? = some x, fun i H => ∃ xs : List V, SqT K H a xs ∧ xs.length ≤ i⟩
theorem turn_enumT {P : Program} {w : World} {K : PySem.W.Frag} {elts : List Expr} {kk : Nat} {tpos : Pos} (a e it : Addr) (hai : a ≠ it) (hae : e ≠ a) :
    Turn P w K (.Tuple elts kk tpos) (Iet K a) [e, it] e (fun i h => (∃ old, IsEnum h e it ((i : Nat) : Int) old) ∧ h.IsTupleIter it a i ∧ e ≠ it) where
  mem := by simp
  obj := fun i h st b hb => by
    obtain ⟨⟨old, he⟩, ⟨o, ho, hc, hd⟩, _⟩ := st
    have e' : b = e ∨ b = it := by simpa using hb
    rcases e' with z | z
    · rw [z]; exact ⟨_, he, fun v q => nomatch q⟩
    · rw [z]; exact ⟨o, ho, fun v q => by rw [hd] at q; cases q⟩
  keep := fun i h h' st k => let ⟨⟨old, he⟩, hi, hne⟩ := st; ⟨⟨old, k e (by simp) _ he⟩, hi.at fun o q => k it (by simp) o q, hne⟩
  item := by
    intro X hP hw hK hc i pins s σ H E I hf st hg
    subst hP hw hK
    obtain ⟨⟨old, he⟩, hit, hne⟩ := st
    obtain ⟨xs, x, hq, hx⟩ := hg
    obtain ⟨its, rv, p, hz⟩ := I.tuple hq
    obtain ⟨u, hu, ru⟩ := rv.get hx
    have hel : e < s.heap.objs.size := Heap.lt_size he
    have hil : it < s.heap.objs.size := by obtain ⟨_, q, _⟩ := hit; exact Heap.lt_size q
    have hil2 : i < its.toArray.size := by
      have h1 : its[i]? = some u := hu
      have := (List.getElem?_eq_some_iff.mp h1).1
      simpa using this
    refine wpAny_pyNext_enum_itemD (Draws.tuple (A := X.A.in1) (I.ok.hd hc) it a hai its.toArray) he ⟨hit, (show s.heap.IsTuple a its.toArray from p)⟩ hil2 hne (by simp [hne, hae]) fun y h' tk hy ho hit' hT hsz hk => ?_
    have ey : y = u := by
      have h1 : its[i]? = some u := hu
      have h2 : its[i]? = some y := by simpa using hy
      rw [h1] at h2; cases h2; rfl
    subst ey
    refine ⟨_, rfl, wpAny_letOwnedTupleGo_enum (s := { s with heap := h', toks := tk + 1 }) ho fun h'' he' sb => ?_⟩
    have hT2 : h''.get? s.heap.objs.size = some { cls := .type "tuple", data := .seq #[.int i tk, y] } := (sb.2 _ (Nat.ne_of_gt hel)).trans hT
    have new : ObjOk X.prog X.w (upd H s.heap.objs.size (.tup [.int (i : Nat), x])) h'' s.heap.objs.size (.tup [.int (i : Nat), x]) :=
      ⟨by show 2 ≤ sizeLine; decide, [.int i tk, y], .cons ⟨_, rfl⟩ (.cons ru .nil), ⟨_, hT2, rfl, _, rfl⟩⟩
    have I1 : Inv X pins σ (upd H s.heap.objs.size (.tup [.int (i : Nat), x])) { s with heap := h'', toks := tk + 1 } :=
      I.turnedNew (ch := [e, it]) (fun b ob hb q => (sb.2 b (fun z => hb (by simp [z]))).trans (hk b ob (fun z => hb (by simp [z])) (fun z => hb (by simp [z])) q)) hf (Nat.le_refl _) new
    refine ⟨.ref s.heap.objs.size, _, I1, rfl, ⟨_, x, rfl, I.hok.fresh (Nat.le_refl _), rfl, fun ys hy => by rw [I.tuple_inj hy hq]; exact hx⟩, ⟨⟨y, ?_⟩, hit'.1.at fun o q => (sb.2 it (Ne.symm hne)).trans q, hne⟩, fun b hb => ?_⟩
    · have e1 : ((i + 1 : Nat) : Int) = (i : Int) + 1 := by omega
      rw [e1]; exact he'
    · have hb' : b < s.heap.objs.size := by
        have e' : b = e ∨ b = it := by simpa using hb
        rcases e' with z | z
        · rw [z]; exact hel
        · rw [z]; exact hil
      rw [upd_ne (Nat.ne_of_lt hb')]
      exact (hf b hb).1
  done := by
    intro X hP hw hK hc i pins s σ H E I hf st hg
    subst hP hw hK
    obtain ⟨⟨old, he⟩, hit, hne⟩ := st
    obtain ⟨xs, hq, hx⟩ := hg
    obtain ⟨its, rv, p, hz⟩ := I.tuple hq
    obtain ⟨f0, f1, f2, f3, f4, f5⟩ := hf it (by simp)
    have hl := rv.length
    have hT : s.TypeIs (.ref e) "enumerate" := ⟨_, he, rfl⟩
    unfold pyNext
    refine wpAny_bind (wpAny_attempt (wpAny_callSpecial?_slot (name := Str.ofString "__next__") hT F.slot_enumerate_next
      (wpAny_call_entry F.slot_enumerate_next hT F.entry_enumerate_next ?_ (F.args_enumerate_next_1 _))))
    show wpAny _ _ (field (.ref e) 2 >>= _) _ _ _
    refine wpAny_bind (wpAny_field he rfl (x := .ref it) rfl ?_)
    refine wpAny_bind (wpAny_nextOf_tuple_end (I.ok.hd hc) hit (show s.heap.IsTuple a its.toArray from p) (by simp; omega) fun h' x he' hx' => ?_)
    obtain ⟨o, ho, hc⟩ := hx'
    refine wpAny_bind (wpAny_isInstance (T := "StopIteration") (b := true) ⟨o, ho, hc⟩ isSubtype_stop ?_)
    exact wpAny_pure ⟨rfl, I.turned (t' := s.toks) (fun b o hb q => he' b o hb q) f0 f1 f3 f4 f5⟩
  self := fun A i s Q E st h => let ⟨⟨_, he⟩, _⟩ := st; wpAny_pyIter_enum he h
def iEnumT (K : PySem.W.Frag) (ta : TA) : TI := fun σ H R => ta σ H fun vs H1 => ∃ a xs, vs = [.ref a] ∧ SqT K H1 a xs ∧ R (Iet K a) H1
theorem pi_enumT {X : Cx} {e : Expr} {ta : TA} {p pos tpos : Pos} {elts : List Expr} {kk : Nat} (hg : Gl X "enumerate") (hm : X.mg "enumerate" = none) (ha : PA X [e] ta) (hs : starEach [e] X.env = [(false, eval e X.env)] := by rfl) :
    PI X (.Tuple elts kk tpos) (.Call (.Name "enumerate" p) [e] [] pos) (iEnumT X.K ta) := by
  refine ⟨fun pins s σ H R I h => ?_⟩
  refine Call_ (ld_blt I hg hm boot_enumerate (PyProof.Rows.callWith_type1 (thn (ha.run pos pins s σ H _ I h) fun us s1 ⟨vs, H1, I1, r1, q1⟩ => ?_) hs rfl))
  obtain ⟨a, xs, ex, hq, q⟩ := q1
  subst ex
  cases r1 with
  | cons r rr =>
    cases rr
    cases r
    obtain ⟨its, rv, p', hz⟩ := I1.tuple hq
    have pt : s1.heap.IsTuple a its.toArray := p'
    have hal : a < s1.heap.objs.size := by obtain ⟨o, ho, _⟩ := pt; exact Heap.lt_size ho
    refine call_enumT (begins_tuple a its.toArray) pt fun h' he hit hsz hk => wpAny_pyIter_enum he ?_
    have I2 : Inv X pins σ H1 { s1 with heap := h' } := I1.kept (t' := s1.toks) hk
    refine ⟨s1.heap.objs.size + 1, [s1.heap.objs.size + 1, s1.heap.objs.size], _, _, H1, rfl, I2, turn_enumT a (s1.heap.objs.size + 1) s1.heap.objs.size (Nat.ne_of_lt hal) (Nat.ne_of_gt (Nat.lt_succ_of_lt hal)), ⟨⟨.none, he⟩, ⟨_, hit, rfl, rfl⟩, Nat.succ_ne_self _⟩, fun b hb => ?_, q⟩
    have e' : b = s1.heap.objs.size + 1 ∨ b = s1.heap.objs.size := by simpa using hb
    have hle : s1.heap.objs.size ≤ b := by
      rcases e' with z | z
      · rw [z]; exact Nat.le_add_right _ _
      · rw [z]; exact Nat.le_refl _
    exact I1.fpOk hle (I1.hok.fresh hle)
section
variable {X : Cx} {F0 : Hp} {tr : DTA} {e : Expr}
/-- the items in pairs with their places -/
def pairs (ds : List D) : List D := (List.range ds.length).zipWith (fun i d => .tup [.int (i : Nat), d]) ds
theorem pairs_len {ds : List D} : (pairs ds).length = ds.length := by simp [pairs]
theorem pairs_get {ds : List D} {i : Nat} {d : D} (h : ds[i]? = some d) : (pairs ds)[i]? = some (.tup [.int (i : Nat), d]) := by
  have hi : i < ds.length := (List.getElem?_eq_some_iff.mp h).1
  simp [pairs, List.getElem?_zipWith, hi]
  exact (List.getElem?_eq_some_iff.mp h).2
theorem pairs_of {ds : List D} {i : Nat} {d : D} (h : (pairs ds)[i]? = some d) : ∃ x, ds[i]? = some x ∧ d = .tup [.int (i : Nat), x] := by
  have hi : i < ds.length := by rw [← pairs_len]; exact (List.getElem?_eq_some_iff.mp h).1
  have hx : ds[i]? = some ds[i] := List.getElem?_eq_getElem hi
  rw [pairs_get hx] at h
  cases h
  exact ⟨_, hx, rfl⟩
theorem src_enumT {K : PySem.W.Frag} {F H : Hp} {ds : List D} {St : Mp → Prop} {a : Addr} {vs : List V} (h1 : SqT K F a vs) (h2 : Reps K F ds vs) : Src K F H (pairs ds) St (Iet K a) where
  go := fun i F' H' M' e r s hi => by
    have hi' : i < vs.length := by rw [← h2.length, ← pairs_len]; exact hi
    exact ⟨vs, vs[i], sqT_up r (sqT_mono e h1), by simp [hi']⟩
  yld := fun i F' H' M' x H2 e r s hi ⟨T, y, ex, hT, eH, hy⟩ => by
    subst ex eH
    obtain ⟨d, h3, h4⟩ := (h2.mono e).get (hy vs (sqT_up r (sqT_mono e h1)))
    refine ⟨.tup [.int (i : Nat), d], _, pairs_get h3, same_upd (r.freeF hT), r.newF hT _, rep_tup.mpr ⟨T, [.int (i : Nat), y], rfl, SqT.of upd_same, ?_⟩⟩
    exact .cons (rep_int.mpr rfl) (.cons (h4.mono (same_upd (r.freeF hT))) .nil)
  stop := fun i F' H' M' e r s hi => ⟨vs, sqT_up r (sqT_mono e h1), by rw [← h2.length, ← pairs_len]; exact hi⟩
def dEnum (ta : DTA) : DTI := fun σ M Kd => ta σ M fun vs M1 => match vs with
  | [.tup ds] => Kd (pairs ds) (fun _ => True) M1
  | _ => False
theorem di_enum {p pos tpos : Pos} {elts : List Expr} {kk : Nat} (hg : Gl X "enumerate") (hm : X.mg "enumerate" = none) (ha : DA X F0 [e] tr) (hs : starEach [e] X.env = [(false, eval e X.env)] := by rfl) :
    DI X F0 (.Tuple elts kk tpos) (.Call (.Name "enumerate" p) [e] [] pos) (dEnum tr) :=
  PI_imp (pi_enumT hg hm ha hs) fun σ H Rr ⟨σd, M, F, hF, r, hS, Kd, h, fin⟩ => ⟨σd, M, F, _, hF, r, hS, h, fun x M1 v H1 F1 q e1 r1 v1 => by
    split at q
    · obtain ⟨u, rfl, h1⟩ := v1.one
      obtain ⟨a, vs, rfl, hq, hr⟩ := rep_tup.mp h1
      exact ⟨a, vs, rfl, sqT_up r1 hq, fin _ _ _ _ _ _ q e1 r1 trivial (src_enumT hq hr)⟩
    · exact q.elim⟩
end
end DL
/-! HeadX: the head's Hook with a further Bool; defs as Callees. -/
namespace DL
open PySem PySem.Spec PyProof.Rows L2
abbrev AlP : Type := He.AlD × Bool
def obsP (n : Nat) (fa : List He.Fa) (fn : List He.DefD) (ex : PySem.W.Frag → Bool) (g : Addr → Option Obj) : AlP := (He.obsD fa fn (He.frG g (He.asD g n)), ex (He.frG g (He.asD g n)))
def hookP (n : Nat) (fa : List He.Fa) (fn : List He.DefD) (ex : PySem.W.Frag → Bool) : PySem.W.Hook where
  α := AlP
  obs := fun s => obsP n fa fn ex s.heap.get?
  val := fun _ => (He.valD fn, true)
  says := fun _ h => ∃ K : PySem.W.Frag, K.In h ∧ He.SaysD fa fn K ∧ ex K = true
  of := fun _ _ e => ⟨_, He.frG_in, congrArg (fun z : AlP => z.1) e, congrArg (fun z : AlP => z.2) e⟩
  keeps := fun _ _ _ ⟨K, hK, c⟩ k => ⟨K, PySem.W.Frag.In.keeps hK k, c⟩
theorem obsP_eq {n : Nat} {fa : List He.Fa} {fn : List He.DefD} {ex : PySem.W.Frag → Bool} {g : Addr → Option Obj} {s : Shared} (h : ∀ a, g a = s.heap.get? a) : obsP n fa fn ex g = (hookP n fa fn ex).obs s := by
  have e : g = s.heap.get? := funext h
  rw [e] <;> rfl
theorem gtup_of {K : PySem.W.Frag} {h : Heap} {mg : Str → Option Value} (X : K.In h) (G : h.Ns mainGlobals mg) {x : Str} {ws : List Str} (c : (He.Fa.glo x).ok K = true) (t : He.tupB K x (ws.map He.Dv.str) = true) : GTup K mg x ws :=
  ⟨He.ga K x, He.glo_ok X G c, fun H => by
    have := He.tupB_ok t H
    rw [List.map_map] at this
    exact this⟩
section
variable {P : Program} {w : World} {K : PySem.W.Frag} {mg : Str → Option Value} {base : Heap} {CX : CXT} {x : Str} {params : Arguments} {body : List Stmt} {scope : Scope} {f : Addr} {fd : FuncData} {ps : List Str} {k : Nat} {sp : SpD}
theorem callee_of (F : FunD K x x params body scope [] [] f fd) (ok : FnOk P w K mg base CX k f fd ps (LSp K sp)) (hm : mg x = some (.ref f))
    (h : ∀ (kV doc pm : Value) (an : Option Addr) (cdv ct : Value) (us : List Value), us.length = ps.length → bindArgs (PySem.W.fnOf x x params body scope .none kV doc pm an cdv ct) ⟨us, []⟩ = pure (ps.zip us))
    (hk : ∀ (kV doc pm : Value) (an : Option Addr) (cdv ct : Value) (us : List Value), us.length = ps.length → bindArgs (PySem.W.fnOf x x params body scope .none kV doc pm an cdv ct) ⟨[], ps.zip us⟩ = pure (ps.zip us)) : Callee P w K mg base CX k x ps sp := by
  refine ⟨f, fd, ok, hm, F.kp, F.bindsN h, ?_⟩
  obtain ⟨oc, od, dV, kV, doc, pm, an, cdv, ct, osl, rfl, lk, hcd, hD, hK⟩ := F.ex
  rcases hD with ⟨_, rfl⟩ | ⟨e, _⟩
  · exact hk kV doc pm an cdv ct
  · exact absurd rfl e
theorem fnok_no (h : ∀ ds M Q E, ¬ sp ds M Q E) : FnOk P w K mg base CX k f fd ps (LSp K sp) :=
  ⟨fun vs H Q E ⟨_, _, _, _, _, _, _, q, _⟩ => (h _ _ _ _ q).elim, fun A outer s H args us vs Q E hr he hb hv ⟨_, _, _, _, _, _, _, q, _⟩ => (h _ _ _ _ q).elim⟩
theorem law_sp {ns : List Int} {H : Hp} {a : Addr} (hl : ns.length ≤ 63) (hS : SqL K H a (ns.map V.int)) (hsp : ∀ M (Q : DK) E, (∀ M', Q (.bl true) M') → sp [.rdl ns] M Q E) : LSp K sp [.ref a] H (fun v _ => v = .bl true) fun _ _ _ => False :=
  ⟨[.rdl ns], fun _ => none, H, fun d _ => d = .bl true, X0, ⟨Same.refl _, fun _ _ h => (nomatch h), fun _ _ h => (nomatch h)⟩, .cons (rep_rdl.mpr ⟨a, rfl, hS⟩) .nil, hsp _ _ _ fun _ => rfl, fun d M v H F' e _ _ r => by
    subst e
    exact rep_bl.mp r, finX0⟩
end
end DL
/-! The law's own state of draws; programs as typed trees. -/
namespace Syn
open PySem L2 DL
/-! ### the draws -/
def DrawO (o : List D) : Prop := ∃ (cells : List Int) (at_ big mix : Int), o = [.lst (cells.map D.int), .int at_, .int big, .int mix] ∧ 0 ≤ at_
def DrawAt (M : Mp) (a : Addr) : Prop := ∃ o, M a = some (.lst o) ∧ DrawO o
/-- draws were done: the state at a alone has changed -/
def DrN (a : Addr) (M M' : Mp) : Prop := ∃ o, M' = updM M a (.lst o) ∧ DrawO o
theorem DrN.refl {a : Addr} {M : Mp} (h : DrawAt M a) : DrN a M M := by
  obtain ⟨o, h1, h2⟩ := h
  exact ⟨o, (updM_self h1).symm, h2⟩
theorem DrN.trans {a : Addr} {M M1 M2 : Mp} (h : DrN a M M1) (h' : DrN a M1 M2) : DrN a M M2 := by
  obtain ⟨o, rfl, _⟩ := h
  obtain ⟨o', rfl, h2⟩ := h'
  exact ⟨o', by rw [updM_updM], h2⟩
theorem DrN.at {a : Addr} {M M' : Mp} (h : DrN a M M') : DrawAt M' a := by
  obtain ⟨o, rfl, h2⟩ := h
  exact ⟨o, updM_same, h2⟩
theorem DrawAt.upd {a p : Addr} {M : Mp} {o : MO} (h : DrawAt M a) (hp : M p = none) : DrawAt (updM M p o) a := by
  obtain ⟨o', h1, h2⟩ := h
  exact ⟨o', by rw [updM_ne (neM h1 hp)]; exact h1, h2⟩
theorem DrawAt.upd' {a p : Addr} {M : Mp} {o : MO} (h : DrawAt M a) (hp : a ≠ p) : DrawAt (updM M p o) a := by
  obtain ⟨o', h1, h2⟩ := h
  exact ⟨o', by rw [updM_ne hp]; exact h1, h2⟩
theorem DrawAt.ne {a p : Addr} {M : Mp} (h : DrawAt M a) (hp : M p = none) : a ≠ p := by
  obtain ⟨o', h1, h2⟩ := h
  exact neM h1 hp
/-- the same draws with a further object -/
theorem DrN.upd {a p : Addr} {M M' : Mp} {o : MO} (h : DrN a M M') (hp : a ≠ p) : DrN a (updM M p o) (updM M' p o) := by
  obtain ⟨o', rfl, h2⟩ := h
  exact ⟨o', updM_comm hp, h2⟩
theorem DrN.none {a p : Addr} {M M' : Mp} (h : DrN a M M') (ha : DrawAt M a) (hp : M p = none) : M' p = none := by
  obtain ⟨o', rfl, h2⟩ := h
  rw [updM_ne (ha.ne hp).symm]; exact hp
theorem DrN.keep {a p : Addr} {M M' : Mp} {mo : MO} (h : DrN a M M') (ha : a ≠ p) (hp : M p = some mo) : M' p = some mo := by
  obtain ⟨o', rfl, h2⟩ := h
  rw [updM_ne ha.symm]; exact hp
/-- draws with a further object on the way: the result said of the map without it -/
theorem DrN.off {a p : Addr} {M M' : Mp} {o : MO} (h : DrN a (updM M p o) M') (ha : a ≠ p) : ∃ M2, M' = updM M2 p o ∧ DrN a M M2 := by
  obtain ⟨o', rfl, h2⟩ := h
  exact ⟨updM M a (.lst o'), (updM_comm ha).symm, o', rfl, h2⟩

/-! ### names -/
def WORDS : List Str := ["kind", "var", "make", "act", "if", "then", "else", "do", "answer", "and", "or", "not"]
def smallC (c : Nat) : Bool := 97 ≤ c && c ≤ 122
def greatC (c : Nat) : Bool := 65 ≤ c && c ≤ 90
def rowC (c : Nat) : Bool := smallC c || greatC c || (48 ≤ c && c ≤ 57) || c == 95
/-- a name (great: a Name): its first sign, its signs, at most 12 -/
structure NameOk (great : Bool) (s : Str) : Prop where
  hd : ∃ c r, s.cps.toList = c :: r ∧ (if great then greatC c else smallC c) = true
  all : ∀ c ∈ s.cps.toList, rowC c = true
  len : s.length ≤ 12
  nw : s ∉ WORDS

/-! ### programs -/
inductive Atom where
  | nm (s : Str) | vl (s : Str)
inductive Tst where
  | same (a b : Atom) | neg (t : Tst) | con (l r : Tst) | dis (l r : Tst)
inductive Val where
  | at (a : Atom) | ite (t : Tst) (x y : Val)
inductive Deed where
  | set (n : Str) (v : Val) | doo (n f : Str) (vs : List Val) | ite (t : Tst) (xs ys : List Deed)
abbrev Vr := Str × Str × Val
abbrev Giv := Str × Str
inductive Part where
  | make (n : Str) (gs : List Giv) (vs : List Vr) (ps : List Part) | act (n : Str) (gs : List Giv) (k : Str) (ds : List Deed) (v : Val)
structure Prg where
  kinds : List (Str × List Str)
  vars : List Vr
  parts : List Part
def Atom.s : Atom → Str
  | .nm s => s
  | .vl s => s
def Atom.d : Atom → D
  | .nm s => .tup [.str "name", .str s]
  | .vl s => .tup [.str "value", .str s]
def Tst.d : Tst → D
  | .same a b => .tup [.str "same", a.d, b.d]
  | .neg t => .tup [.str "not", t.d]
  | .con l r => .tup [.str "and", l.d, r.d]
  | .dis l r => .tup [.str "or", l.d, r.d]
def Val.d : Val → D
  | .at a => a.d
  | .ite t x y => .tup [.str "if", t.d, x.d, y.d]
mutual
def Deed.d : Deed → D
  | .set n v => .tup [.str "set", .str n, v.d]
  | .doo n f vs => .tup [.str "do", .str n, .str f, .tup (vs.map Val.d)]
  | .ite t xs ys => .tup [.str "if", t.d, .tup (deedsD xs), .tup (deedsD ys)]
def deedsD : List Deed → List D
  | [] => []
  | x :: xs => x.d :: deedsD xs
end
theorem deedsD_map : ∀ xs : List Deed, deedsD xs = xs.map Deed.d
  | [] => by unfold deedsD; rfl
  | x :: xs => by unfold deedsD; rw [deedsD_map xs]; rfl
def givD (g : Giv) : D := .tup [.str g.1, .str g.2]
def vrD (v : Vr) : D := .tup [.str v.1, .str v.2.1, v.2.2.d]
mutual
def Part.d : Part → D
  | .make n gs vs ps => .tup [.str "make", .str n, .tup (gs.map givD), .tup (vs.map vrD), .tup (partsD ps)]
  | .act n gs k ds v => .tup [.str "act", .str n, .tup (gs.map givD), .str k, .tup (deedsD ds), v.d]
def partsD : List Part → List D
  | [] => []
  | x :: xs => x.d :: partsD xs
end
theorem partsD_map : ∀ xs : List Part, partsD xs = xs.map Part.d
  | [] => by unfold partsD; rfl
  | x :: xs => by unfold partsD; rw [partsD_map xs]; rfl
def kindD (k : Str × List Str) : D := .tup [.str k.1, .tup (k.2.map D.str)]
def Prg.d (p : Prg) : D := .tup [.str "program", .tup (p.kinds.map kindD), .tup (p.vars.map vrD), .tup (partsD p.parts)]
/-! ### what is drawn -/
def Atom.ok : Atom → Prop
  | .nm s => NameOk false s
  | .vl s => NameOk true s
def Tst.ok : Nat → Tst → Prop
  | _, .same a b => a.ok ∧ b.ok
  | d + 1, .neg t => Tst.ok d t
  | d + 1, .con l r => Tst.ok d l ∧ Tst.ok d r
  | d + 1, .dis l r => Tst.ok d l ∧ Tst.ok d r
  | 0, _ => False
def Val.ok : Nat → Val → Prop
  | _, .at a => a.ok
  | d + 1, .ite t x y => t.ok (d + 1) ∧ Val.ok d x ∧ Val.ok d y
  | 0, _ => False
def Deed.ok : Nat → Deed → Prop
  | _, .set n v => NameOk false n ∧ v.ok 2
  | _, .doo n f vs => NameOk false n ∧ NameOk false f ∧ vs.length ≤ 3 ∧ ∀ v ∈ vs, Val.ok 1 v
  | d + 1, .ite t xs ys => t.ok 2 ∧ xs.length ≤ 2 ∧ (∀ x ∈ xs, Deed.ok d x) ∧ ys.length ≤ 1 ∧ ∀ y ∈ ys, Deed.ok d y
  | 0, _ => False
def GivOk (gs : List Giv) : Prop := gs.length ≤ 3 ∧ ∀ g ∈ gs, NameOk false g.1 ∧ NameOk true g.2
def VrOk (v : Vr) : Prop := NameOk false v.1 ∧ NameOk true v.2.1 ∧ v.2.2.ok 2
def Part.ok : Nat → Part → Prop
  | _, .act n gs k ds v => NameOk false n ∧ GivOk gs ∧ NameOk true k ∧ ds.length ≤ 3 ∧ (∀ x ∈ ds, Deed.ok 2 x) ∧ v.ok 2
  | d + 1, .make n gs vs ps => NameOk true n ∧ GivOk gs ∧ vs.length ≤ 2 ∧ (∀ v ∈ vs, VrOk v) ∧ ps.length ≤ 2 ∧ ∀ p ∈ ps, Part.ok d p
  | 0, _ => False
structure Prg.ok (p : Prg) : Prop where
  kn : p.kinds.length ≤ 3
  ks : ∀ k ∈ p.kinds, NameOk true k.1 ∧ 1 ≤ k.2.length ∧ k.2.length ≤ 5 ∧ ∀ x ∈ k.2, NameOk true x
  vn : p.vars.length ≤ 3
  vs : ∀ v ∈ p.vars, VrOk v
  pn : p.parts.length ≤ 3
  ps : ∀ q ∈ p.parts, Part.ok 3 q
end Syn
namespace Syn
open PySem L2 DL
def LOW : Str := "abcdefghijklmnopqrstuvwxyz"
def UP : Str := "ABCDEFGHIJKLMNOPQRSTUVWXYZ"
def SIG : Str := LOW ++ UP ++ "_0123456789"
theorem up_low : Txt.upper LOW = UP := by decide +kernel
theorem low_small : ∀ c ∈ LOW.cps.toList, smallC c = true := by decide +kernel
theorem up_great : ∀ c ∈ UP.cps.toList, greatC c = true := by decide +kernel
theorem sig_row : ∀ c ∈ SIG.cps.toList, rowC c = true := by decide +kernel
theorem words_row : ∀ x ∈ WORDS, ∃ c r, x.cps.toList = c :: r ∧ smallC c = true ∧ (∀ c ∈ x.cps.toList, rowC c = true) ∧ x.length ≤ 6 := by
  have h : ∀ x ∈ WORDS, (match x.cps.toList with | c :: r => smallC c && ((c :: r).all rowC && decide (x.length ≤ 6)) | [] => false) = true := by decide +kernel
  intro x hx
  have q := h x hx
  cases e : x.cps.toList with
  | nil => rw [e] at q; cases q
  | cons c r =>
    rw [e] at q
    simp only [Bool.and_eq_true, decide_eq_true_eq] at q
    exact ⟨c, r, rfl, q.1, List.all_eq_true.mp q.2.1, q.2.2⟩
theorem words_no95 : ∀ x ∈ WORDS, 95 ∉ x.cps.toList := by decide +kernel
theorem tl_app (a b : Str) : (a ++ b).cps.toList = a.cps.toList ++ b.cps.toList := TL.tl_append a b
theorem len_app (a b : Str) : (a ++ b).length = a.length + b.length := by
  rw [TL.len_tl, TL.len_tl, TL.len_tl, TL.tl_append, List.length_append]
theorem len_one (c : Nat) : (⟨#[c]⟩ : Str).length = 1 := rfl
/-- a name on the way -/
structure Txt0 (g : Bool) (n : Nat) (s : Str) : Prop where
  hd : ∃ c r, s.cps.toList = c :: r ∧ (if g then greatC c else smallC c) = true
  all : ∀ c ∈ s.cps.toList, rowC c = true
  len : s.length ≤ n
theorem small_row {c : Nat} (h : smallC c = true) : rowC c = true := by unfold rowC; rw [h]; rfl
theorem great_row {c : Nat} (h : greatC c = true) : rowC c = true := by unfold rowC; rw [h, Bool.or_true]; rfl
theorem Txt0.one {g : Bool} {c : Nat} (h : (if g then greatC c else smallC c) = true) : Txt0 g 1 ⟨#[c]⟩ := by
  refine ⟨⟨c, [], rfl, h⟩, fun d hd => ?_, Nat.le_refl _⟩
  have e : d = c := by simpa using hd
  subst e
  cases g with
  | true => exact great_row h
  | false => exact small_row h
theorem Txt0.mono {g : Bool} {n m : Nat} {s : Str} (h : Txt0 g n s) (hn : n ≤ m) : Txt0 g m s := ⟨h.hd, h.all, Nat.le_trans h.len hn⟩
theorem Txt0.app {g : Bool} {n : Nat} {s : Str} {c : Nat} (h : Txt0 g n s) (hc : rowC c = true) : Txt0 g (n + 1) (s ++ ⟨#[c]⟩) := by
  obtain ⟨d, r, e, hd⟩ := h.hd
  refine ⟨⟨d, r ++ [c], by rw [tl_app, e]; rfl, hd⟩, fun x hx => ?_, by rw [len_app, len_one]; exact Nat.add_le_add_right h.len 1⟩
  rw [tl_app] at hx
  rcases List.mem_append.mp hx with hx | hx
  · exact h.all x hx
  · have e : x = c := by simpa using hx
    subst e; exact hc
theorem Txt0.word {x : Str} (h : x ∈ WORDS) : Txt0 false 6 x := by
  obtain ⟨c, r, h1, h2, h3, h4⟩ := words_row x h
  exact ⟨⟨c, r, h1, h2⟩, h3, h4⟩
theorem Txt0.name {g : Bool} {s : Str} (h : Txt0 g 12 s) (hn : s ∉ WORDS) : NameOk g s := ⟨h.hd, h.all, h.len, hn⟩
theorem Txt0.name_ {g : Bool} {s : Str} (h : Txt0 g 11 s) : NameOk g (s ++ "_") := by
  have e : ("_" : Str) = ⟨#[95]⟩ := by decide +kernel
  rw [e]
  refine (h.app (c := 95) (by decide)).name fun hw => words_no95 _ hw ?_
  rw [tl_app]
  exact List.mem_append_right _ (by simp)
end Syn
/-! Rows that are drawn. -/
namespace Syn
open PySem L2 DL
section
variable {σ : DS} {M : Mp} {a p : Addr} {own : Bool} {Q : DK} {E : DEnds}
theorem lc_draw {k : Nat} {wi : DTI} {te : DTE} (N : Nat → Prop) (P : D → Prop) (hN : ∀ m, N m → m ≤ sizeLine)
    (hwi : ∀ Kd : List D → (Mp → Prop) → Mp → Prop, (∀ m M1, N m → DrN a M M1 → Kd (upto 0 m) (fun _ => True) M1) → wi σ M Kd)
    (h : ∀ d M1 (Q : DK), DrawAt M1 a → (∀ y M2, P y → DrN a M1 M2 → Q y M2) → te (σ.set k (some d)) M1 Q)
    (q : ∀ acc M2, (∀ y ∈ acc, P y) → N acc.length → DrN a M M2 → dNew own acc M2 Q) : dLc own k wi te σ M Q := by
  refine lc_gen (fun ds M1 => ∃ m, N m ∧ ds = upto 0 m ∧ DrN a M M1) (fun Kd hk => hwi Kd fun m M1 hm hn => hk _ _ ⟨m, hm, rfl, hn⟩) (fun ds i acc M1 => N ds.length ∧ (∀ y ∈ acc, P y) ∧ DrN a M M1) ?_ ?_ ?_ ?_
  · rintro ds M1 ⟨m, hm, rfl, hn⟩
    rw [upto_len]; exact hN m hm
  · rintro ds M1 ⟨m, hm, rfl, hn⟩
    exact ⟨by rw [upto_len]; exact hm, fun y hy => (List.not_mem_nil hy).elim, hn⟩
  · rintro ds i d acc M1 p Q' hd ⟨hm, ha, hn⟩ hp hl hq
    refine h d _ Q' (hn.at.upd hp) fun y M2 hy hn2 => ?_
    obtain ⟨M3, rfl, hn3⟩ := hn2.off (hn.at.ne hp)
    refine hq y M3 (hn3.none hn.at hp) ⟨hm, fun z hz => ?_, hn.trans hn3⟩
    rcases List.mem_append.mp hz with hz | hz
    · exact ha z hz
    · rw [List.mem_singleton.mp hz]; exact hy
  · rintro ds acc M' hl ⟨hm, ha, hn⟩
    exact q acc M' ha (by rw [hl]; exact hm) hn
theorem for_draw {wi : DTI} {g : DTG} {tb : DTS} (N : Nat → Prop) (P : D → Prop) (S : DS → Prop) (hN : ∀ m, N m → m ≤ sizeLine) (hD : DrawAt M a) (hp : M p = none) (hσ : S σ)
    (hwi : ∀ Kd : List D → (Mp → Prop) → Mp → Prop, (∀ m M1, N m → DrN a M M1 → Kd (upto 0 m) (fun _ => True) (updM M1 p (.lst []))) → wi σ (updM M p (.lst [])) Kd)
    (h : ∀ d σ M1 acc (N' : DS → Mp → Prop), S σ → M1 p = some (.lst acc) → DrawAt M1 a → acc.length < sizeLine → (∀ σ' y M2, S σ' → P y → DrN a M1 M2 → N' σ' (updM M2 p (.lst (acc ++ [y])))) → g d σ M1 fun σ2 M2 => tb { E with nx := N', ct := N', bk := E.nx } σ2 M2)
    (q : ∀ σ acc M2, S σ → (∀ y ∈ acc, P y) → N acc.length → DrN a M M2 → M2 p = none → E.nx σ (updM M2 p (.lst acc))) : dFor wi g tb E σ (updM M p (.lst [])) := by
  have ne := hD.ne hp
  refine for_gen (fun ds M' => ∃ m M1, N m ∧ ds = upto 0 m ∧ DrN a M M1 ∧ M' = updM M1 p (.lst [])) (fun Kd hk => hwi Kd fun m M1 hm hn => hk _ _ ⟨m, M1, hm, rfl, hn, rfl⟩) (fun ds i σ M' => ∃ acc M1, N ds.length ∧ S σ ∧ acc.length = i ∧ (∀ y ∈ acc, P y) ∧ DrN a M M1 ∧ M' = updM M1 p (.lst acc)) ?_ ?_ ?_
  · rintro ds M' ⟨m, M1, hm, rfl, hn, rfl⟩
    exact ⟨[], M1, by rw [upto_len]; exact hm, hσ, rfl, fun y hy => (List.not_mem_nil hy).elim, hn, rfl⟩
  · rintro ds i d σ M' N' hd ⟨acc, M1, hm, hS, hl, ha, hn, rfl⟩ hN'
    have h1 := hn.none hD hp
    have hi : i < ds.length := (List.getElem?_eq_some_iff.mp hd).1
    have h2 := hN _ hm
    refine h d σ _ acc N' hS updM_same (hn.at.upd h1) (by omega) fun σ' y M2 hS' hy hn2 => ?_
    obtain ⟨M3, rfl, hn3⟩ := hn2.off ne
    rw [updM_updM]
    refine hN' _ _ ⟨acc ++ [y], M3, hm, hS', by rw [List.length_append, hl]; rfl, fun z hz => ?_, hn.trans hn3, rfl⟩
    rcases List.mem_append.mp hz with hz | hz
    · exact ha z hz
    · rw [List.mem_singleton.mp hz]; exact hy
  · rintro ds σ M' ⟨acc, M1, hm, hS, hl, ha, hn, rfl⟩
    exact q σ acc M1 hS ha (by rw [hl]; exact hm) hn (hn.none hD hp)
end
/-- rows of data that stand for rows of things -/
theorem row_of {α : Type} {f : α → D} {P : α → Prop} : ∀ {acc : List D}, (∀ y ∈ acc, ∃ x, y = f x ∧ P x) → ∃ xs : List α, acc = xs.map f ∧ ∀ x ∈ xs, P x
  | [], _ => ⟨[], rfl, fun x hx => (List.not_mem_nil hx).elim⟩
  | y :: acc, h => by
    obtain ⟨x, rfl, hx⟩ := h y (List.mem_cons_self ..)
    obtain ⟨xs, rfl, hs⟩ := row_of fun z hz => h z (List.mem_cons_of_mem _ hz)
    refine ⟨x :: xs, rfl, fun z hz => ?_⟩
    rcases List.mem_cons.mp hz with rfl | hz
    · exact hx
    · exact hs z hz
end Syn
/-! What a text is: rows of words, lines. -/
namespace Wr
open PySem L2 DL Syn
abbrev dStrs (ws : List Str) : List D := ws.map D.str
abbrev tLp : Str := "("
abbrev tRp : Str := ")"
abbrev tNot : Str := "not"
abbrev tAnd : Str := "and"
abbrev tOr : Str := "or"
abbrev tIf : Str := "if"
abbrev tThen : Str := "then"
abbrev tElse : Str := "else"
abbrev tEq : Str := "=="
def rank : Tst → Nat
  | .dis _ _ => 1
  | .con _ _ => 2
  | _ => 3
def hd : Tst → Str
  | .same _ _ => "same"
  | .neg _ => "not"
  | .con _ _ => "and"
  | .dis _ _ => "or"
def body : Tst → List Str
  | .same a b => [a.s, tEq, b.s]
  | .neg t => tNot :: (if rank t < 3 then tLp :: (body t ++ [tRp]) else body t)
  | .con l r => (if rank l < 2 then tLp :: (body l ++ [tRp]) else body l) ++ tAnd :: (if rank r < 3 then tLp :: (body r ++ [tRp]) else body r)
  | .dis l r => (if rank l < 1 then tLp :: (body l ++ [tRp]) else body l) ++ tOr :: (if rank r < 2 then tLp :: (body r ++ [tRp]) else body r)
def rowT (t : Tst) (n : Nat) : List Str := if rank t < n then tLp :: (body t ++ [tRp]) else body t
theorem body_neg {t : Tst} : body (.neg t) = tNot :: rowT t 3 := rfl
theorem body_con {l r : Tst} : body (.con l r) = rowT l 2 ++ tAnd :: rowT r 3 := rfl
theorem body_dis {l r : Tst} : body (.dis l r) = rowT l 1 ++ tOr :: rowT r 2 := rfl
def valW : Val → List Str
  | .at a => [a.s]
  | .ite t x y => tIf :: (body t ++ tThen :: (valW x ++ tElse :: valW y))
theorem e_hd {t : Tst} {M : Mp} {Q : DK} : dIx t.d (.int 0) M Q = Q (.str (hd t)) M := by cases t <;> exact e_t0
/-! ### chains -/
def chC : Tst → List Tst
  | .con l r => chC l ++ [r]
  | t => [t]
def chD : Tst → List Tst
  | .dis l r => chD l ++ [r]
  | t => [t]
theorem chC_other {t : Tst} (h : hd t ≠ "and") : chC t = [t] := by cases t <;> first | rfl | exact absurd rfl h
theorem chD_other {t : Tst} (h : hd t ≠ "or") : chD t = [t] := by cases t <;> first | rfl | exact absurd rfl h
theorem of_and {t : Tst} (h : hd t = "and") : ∃ l r, t = .con l r := by
  cases t with
  | con l r => exact ⟨l, r, rfl⟩
  | same a b => exact absurd h (show ¬ (("same" : Str) = "and") by decide +kernel)
  | neg a => exact absurd h (show ¬ (("not" : Str) = "and") by decide +kernel)
  | dis a b => exact absurd h (show ¬ (("or" : Str) = "and") by decide +kernel)
theorem of_or {t : Tst} (h : hd t = "or") : ∃ l r, t = .dis l r := by
  cases t with
  | dis l r => exact ⟨l, r, rfl⟩
  | same a b => exact absurd h (show ¬ (("same" : Str) = "or") by decide +kernel)
  | neg a => exact absurd h (show ¬ (("not" : Str) = "or") by decide +kernel)
  | con a b => exact absurd h (show ¬ (("and" : Str) = "or") by decide +kernel)
theorem row_chC : ∀ t : Tst, ∃ b rs, chC t = b :: rs ∧ rowT t 2 = rowT b 2 ++ rs.flatMap fun r => tAnd :: rowT r 3
  | .con l r => by
    obtain ⟨b, rs, h1, h2⟩ := row_chC l
    refine ⟨b, rs ++ [r], by unfold chC; rw [h1]; rfl, ?_⟩
    rw [show rowT (.con l r) 2 = rowT l 2 ++ tAnd :: rowT r 3 from rfl, h2]
    simp
  | .same a b => ⟨_, [], rfl, by simp⟩
  | .neg t => ⟨_, [], rfl, by simp⟩
  | .dis l r => ⟨_, [], rfl, by simp⟩
theorem row_chD : ∀ t : Tst, ∃ b rs, chD t = b :: rs ∧ rowT t 1 = rowT b 1 ++ rs.flatMap fun r => tOr :: rowT r 2
  | .dis l r => by
    obtain ⟨b, rs, h1, h2⟩ := row_chD l
    refine ⟨b, rs ++ [r], by unfold chD; rw [h1]; rfl, ?_⟩
    rw [show rowT (.dis l r) 1 = rowT l 1 ++ tOr :: rowT r 2 from rfl, h2]
    simp
  | .same a b => ⟨_, [], rfl, by simp⟩
  | .neg t => ⟨_, [], rfl, by simp⟩
  | .con l r => ⟨_, [], rfl, by simp⟩
def nodes : Tst → Nat
  | .same _ _ => 1
  | .neg t => nodes t + 1
  | .con l r => nodes l + nodes r + 1
  | .dis l r => nodes l + nodes r + 1
theorem chC_len : ∀ t, (chC t).length ≤ nodes t
  | .con l r => by unfold chC nodes; have := chC_len l; simp; omega
  | .same a b => by simp [chC, nodes]
  | .neg t => by simp [chC, nodes]
  | .dis l r => by simp [chC, nodes]
theorem chD_len : ∀ t, (chD t).length ≤ nodes t
  | .dis l r => by unfold chD nodes; have := chD_len l; simp; omega
  | .same a b => by simp [chD, nodes]
  | .neg t => by simp [chD, nodes]
  | .con l r => by simp [chD, nodes]
theorem body_row (t : Tst) (n : Nat) : (body t).length ≤ (rowT t n).length := by
  unfold rowT; split <;> simp; omega
theorem nodes_body : ∀ t, nodes t ≤ (body t).length
  | .same a b => by simp [nodes, body]
  | .neg t => by
    rw [body_neg]; unfold nodes
    have h1 := nodes_body t; have h2 := body_row t 3
    simp; omega
  | .con l r => by
    rw [body_con]; unfold nodes
    have h1 := nodes_body l; have h2 := body_row l 2
    have h3 := nodes_body r; have h4 := body_row r 3
    simp; omega
  | .dis l r => by
    rw [body_dis]; unfold nodes
    have h1 := nodes_body l; have h2 := body_row l 1
    have h3 := nodes_body r; have h4 := body_row r 2
    simp; omega
theorem body_pos (t : Tst) : 1 ≤ (body t).length := by
  have h := nodes_body t
  have : 1 ≤ nodes t := by cases t <;> (unfold nodes; omega)
  omega
theorem valW_pos (v : Val) : 1 ≤ (valW v).length := by cases v <;> simp [valW]
/-! ### what the writer's rows hold -/
inductive Itm where
  | tok (s : Str) | tst (t : Tst) | val (v : Val)
def Itm.d : Itm → D
  | .tok s => .str s
  | .tst t => t.d
  | .val v => v.d
def den : Itm → List Str
  | .tok s => [s]
  | .tst t => body t
  | .val v => valW v
theorem den_pos (x : Itm) : 1 ≤ (den x).length := by
  cases x with
  | tok s => exact Nat.le_refl _
  | tst t => exact body_pos t
  | val v => exact valW_pos v
abbrev dens (xs : List Itm) : List Str := xs.flatMap den
theorem dens_len : ∀ xs : List Itm, xs.length ≤ (dens xs).length
  | [] => Nat.le_refl _
  | x :: xs => by
    have h1 := dens_len xs; have h2 := den_pos x
    simp [dens] at h1 ⊢; omega
/-- what can be opened -/
def Opn : Itm → Prop
  | .tst _ => True
  | .val (.ite _ _ _) => True
  | _ => False
def brI (b : Bool) (t : Tst) : List Itm := if b then [.tok tLp, .tst t, .tok tRp] else [.tst t]
theorem dens_brI {b : Bool} {t : Tst} {n : Nat} (h : b = decide (rank t < n)) : dens (brI b t) = rowT t n := by
  subst h
  unfold brI rowT
  by_cases h : rank t < n
  · simp [h, dens, den]
  · simp [h, dens, den]
theorem rank3 (t : Tst) : decide (hd t ∈ (["and", "or"] : List Str)) = decide (rank t < 3) := by
  cases t with
  | same a b => (have f : decide (("same" : Str) ∈ (["and", "or"] : List Str)) = decide (3 < 3) := by decide +kernel); exact f
  | neg a => (have f : decide (("not" : Str) ∈ (["and", "or"] : List Str)) = decide (3 < 3) := by decide +kernel); exact f
  | con a b => (have f : decide (("and" : Str) ∈ (["and", "or"] : List Str)) = decide (2 < 3) := by decide +kernel); exact f
  | dis a b => (have f : decide (("or" : Str) ∈ (["and", "or"] : List Str)) = decide (1 < 3) := by decide +kernel); exact f
theorem rank2 (t : Tst) : decide (hd t ∈ (["or"] : List Str)) = decide (rank t < 2) := by
  cases t with
  | same a b => (have f : decide (("same" : Str) ∈ (["or"] : List Str)) = decide (3 < 2) := by decide +kernel); exact f
  | neg a => (have f : decide (("not" : Str) ∈ (["or"] : List Str)) = decide (3 < 2) := by decide +kernel); exact f
  | con a b => (have f : decide (("and" : Str) ∈ (["or"] : List Str)) = decide (2 < 2) := by decide +kernel); exact f
  | dis a b => (have f : decide (("or" : Str) ∈ (["or"] : List Str)) = decide (1 < 2) := by decide +kernel); exact f
theorem rank1 (t : Tst) : decide (hd t ∈ ([] : List Str)) = decide (rank t < 1) := by
  cases t with
  | same a b => (have f : decide (("same" : Str) ∈ ([] : List Str)) = decide (3 < 1) := by decide +kernel); exact f
  | neg a => (have f : decide (("not" : Str) ∈ ([] : List Str)) = decide (3 < 1) := by decide +kernel); exact f
  | con a b => (have f : decide (("and" : Str) ∈ ([] : List Str)) = decide (2 < 1) := by decide +kernel); exact f
  | dis a b => (have f : decide (("or" : Str) ∈ ([] : List Str)) = decide (1 < 1) := by decide +kernel); exact f
/-! ### lines -/
def isNm (w : Str) : Bool := match w.cps.toList with
  | c :: _ => (smallC c || greatC c) && !decide (w ∈ WORDS)
  | [] => false
def near (last w : Str) : Bool := decide (last ∈ (["", "("] : List Str)) || (decide (w ∈ ([";", ",", ")", ":"] : List Str)) || (decide (w = "(") && isNm last))
def stepL (p : Str × Str) (w : Str) : Str × Str := (if near p.2 w then p.1 ++ w else p.1 ++ (" " ++ w), w)
def lineT (ws : List Str) : Str := (ws.foldl stepL ("", "")).1
def lineS (deep : Nat) (ws : List Str) : Str := Txt.mul "  " (deep : Int) ++ lineT ws ++ "\n"
/-- words that a line may hold -/
def Wd (w : Str) : Prop := 1 ≤ w.length ∧ w.length ≤ 12
theorem take_at {α : Type} {l : List α} {i : Nat} {x : α} (h : l[i]? = some x) : l.take (i + 1) = l.take i ++ [x] := by
  rw [List.take_succ, h] <;> rfl
theorem fold_at {l : List Str} {i : Nat} {x : Str} {a : Str × Str} (h : l[i]? = some x) : (l.take (i + 1)).foldl stepL a = stepL ((l.take i).foldl stepL a) x := by
  rw [take_at h, List.foldl_append] <;> rfl
theorem stepL_len {p : Str × Str} {w : Str} : (stepL p w).1.length ≤ p.1.length + w.length + 1 := by
  unfold stepL
  split
  · rw [len_app]; omega
  · rw [len_app, len_app]
    have : (" " : Str).length = 1 := by decide +kernel
    omega
theorem fold_len : ∀ (l : List Str) (p : Str × Str), (∀ w ∈ l, Wd w) → (l.foldl stepL p).1.length ≤ p.1.length + 13 * l.length
  | [], p, _ => Nat.le_refl _
  | w :: l, p, h => by
    have h1 := fold_len l (stepL p w) fun x hx => h x (List.mem_cons_of_mem _ hx)
    have h2 := @stepL_len p w
    have h3 := (h w (List.mem_cons_self ..)).2
    rw [List.foldl_cons, List.length_cons]
    omega
theorem lineT_len {l : List Str} (h : ∀ w ∈ l, Wd w) : (lineT l).length ≤ 13 * l.length := by
  have := fold_len l ("", "") h
  have e : (("" : Str), ("" : Str)).1.length = 0 := by decide +kernel
  unfold lineT; omega
theorem blanks : ∀ d : Nat, d < 13 → Txt.mul "  " (d : Int) = Txt.mul " " ((2 * d : Nat) : Int) ∧ (Txt.mul "  " (d : Int)).length = 2 * d ∧ Txt.mul " " ((2 * d : Nat) : Int) ++ "  " = Txt.mul "  " ((d + 1 : Nat) : Int) := by decide +kernel
theorem mulok2 {d : Nat} (h : d < 13) : MulOk "  " (d : Int) := by
  revert d
  unfold MulOk
  decide +kernel
theorem mulok1 {d : Nat} (h : d < 30) : MulOk " " (d : Int) := by
  revert d
  unfold MulOk
  decide +kernel
theorem lineS_len {d : Nat} {ws : List Str} (hd : d < 13) (h : ∀ w ∈ ws, Wd w) : (lineS d ws).length ≤ 13 * ws.length + 25 := by
  unfold lineS
  rw [len_app, len_app, (blanks d hd).2.1]
  have h1 := lineT_len h
  have h2 : ("\n" : Str).length = 1 := by decide +kernel
  omega
/-- how rows of one word are taken apart -/
structure Chn (w : Str) (ch : Tst → List Tst) : Prop where
  stop : ∀ u, hd u ≠ w → ch u = [u]
  step : ∀ u, hd u = w → ∃ c l r, u.d = .tup [c, l.d, r.d] ∧ ch u = ch l ++ [r] ∧ nodes l < nodes u
theorem chnC : Chn "and" chC := ⟨fun u h => chC_other h, fun u h => by
  obtain ⟨l, r, rfl⟩ := of_and h
  exact ⟨_, l, r, rfl, rfl, show nodes l < nodes l + nodes r + 1 by omega⟩⟩
theorem chnD : Chn "or" chD := ⟨fun u h => chD_other h, fun u h => by
  obtain ⟨l, r, rfl⟩ := of_or h
  exact ⟨_, l, r, rfl, rfl, show nodes l < nodes l + nodes r + 1 by omega⟩⟩
theorem cps_lt {a b : Nat} : decide (([a] : List Nat) < [b]) = decide (a < b) := by
  apply decide_eq_decide.mpr
  rw [List.cons_lt_cons_iff]
  simp
theorem small_eq (c : Nat) : smallC c = (!decide (c < 97) && !decide (122 < c)) := by
  unfold smallC
  rw [Bool.eq_iff_iff]
  simp
theorem great_eq (c : Nat) : greatC c = (!decide (c < 65) && !decide (90 < c)) := by
  unfold greatC
  rw [Bool.eq_iff_iff]
  simp
/-- two things may change, nothing else has -/
structure Two (M : Mp) (p1 p2 : Addr) (a b : List D) (M' : Mp) : Prop where
  one : M' p1 = some (.lst a)
  two : M' p2 = some (.lst b)
  rest : ∀ q, q ≠ p1 → q ≠ p2 → M' q = M q
theorem Two.set1 {M M' : Mp} {p1 p2 : Addr} {a b c : List D} (h : Two M p1 p2 a b M') (ne : p1 ≠ p2) : Two M p1 p2 c b (updM M' p1 (.lst c)) :=
  ⟨updM_same, by rw [updM_ne ne.symm]; exact h.two, fun q h1 h2 => by rw [updM_ne h1]; exact h.rest q h1 h2⟩
theorem Two.set2 {M M' : Mp} {p1 p2 : Addr} {a b c : List D} (h : Two M p1 p2 a b M') (ne : p1 ≠ p2) : Two M p1 p2 a c (updM M' p2 (.lst c)) :=
  ⟨by rw [updM_ne ne]; exact h.one, updM_same, fun q h1 h2 => by rw [updM_ne h2]; exact h.rest q h1 h2⟩
/-- the second is handed out, the first forgotten -/
theorem Two.out {M M' : Mp} {p1 p2 : Addr} {a b : List D} {Q : DK} (h : Two M p1 p2 a b M') (h1 : M p1 = none) (h2 : M p2 = none) (q : Q (.lst b) M) : frz (.obj p2) M' (Wk Q) :=
  e_frz_obj h.two ⟨M, fun x o hx => by
    have n2 : x ≠ p2 := neM hx h2
    unfold remM
    rw [if_neg n2, h.rest x (neM hx h1) n2]
    exact hx, q⟩
theorem Two.wk {M M' : Mp} {p1 p2 : Addr} {a b : List D} {Q : DK} {d : D} (h : Two M p1 p2 a b M') (h1 : M p1 = none) (h2 : M p2 = none) (q : Q d M) : Wk Q d M' :=
  ⟨M, fun x o hx => by rw [h.rest x (neM hx h1) (neM hx h2)]; exact hx, q⟩
theorem fold_snd : ∀ (l : List Str) (a : Str × Str), (l.foldl stepL a).2 = a.2 ∨ (l.foldl stepL a).2 ∈ l
  | [], a => .inl rfl
  | w :: l, a => by
    rcases fold_snd l (stepL a w) with h | h
    · exact .inr (by rw [List.foldl_cons, h]; exact List.mem_cons_self ..)
    · exact .inr (List.mem_cons_of_mem _ h)
theorem e_add_ro {own : Bool} {M : Mp} {p : Addr} {ds es : List D} {Q : DK} (hp : M p = some (.lst es)) : dAdd own (.lst ds) (.obj p) M Q = (ds.length + es.length ≤ sizeLine ∧ dNew own (ds ++ es) M Q) := by
  apply propext
  constructor
  · rintro ⟨ds', es', h1, h2, h3⟩
    cases h1
    rw [lsD_o hp] at h2; cases h2
    exact h3
  · exact fun q => ⟨ds, es, rfl, lsD_o hp, q⟩
theorem e_tokstr {s : Str} : (Itm.tok s).d = .str s := rfl
theorem nodes_chain {t : Tst} (h : (body t).length ≤ 1000) : (chC t).length ≤ 1000 ∧ (chD t).length ≤ 1000 := by
  have := nodes_body t; have := chC_len t; have := chD_len t; omega
theorem of_same {t : Tst} (h : hd t = "same") : ∃ a b, t = .same a b := by
  cases t with
  | same a b => exact ⟨a, b, rfl⟩
  | neg a => exact absurd h (show ¬ (("not" : Str) = "same") by decide +kernel)
  | con a b => exact absurd h (show ¬ (("and" : Str) = "same") by decide +kernel)
  | dis a b => exact absurd h (show ¬ (("or" : Str) = "same") by decide +kernel)
theorem of_not {t : Tst} (h : hd t = "not") : ∃ u, t = .neg u := by
  cases t with
  | same a b => exact absurd h (show ¬ (("same" : Str) = "not") by decide +kernel)
  | neg a => exact ⟨a, rfl⟩
  | con a b => exact absurd h (show ¬ (("and" : Str) = "not") by decide +kernel)
  | dis a b => exact absurd h (show ¬ (("or" : Str) = "not") by decide +kernel)
theorem brI_len {b : Bool} {t : Tst} : (brI b t).length ≤ 3 := by cases b <;> simp [brI]
theorem brI_pos {b : Bool} {t : Tst} : 1 ≤ (brI b t).length := by cases b <;> simp [brI]
/-- a row of one word -/
theorem way {t : Tst} (h2 : hd t ≠ "same") (h3 : hd t ≠ "not") (hl : (den (.tst t)).length ≤ 1000) :
    ∃ (ch : Tst → List Tst) (wd : Bool) (n0 n1 : Nat) (b : Tst) (rs : List Tst), ch t = b :: rs ∧ Chn (hd t) ch ∧ (ch t).length ≤ 1000 ∧ body t = rowT b n0 ++ rs.flatMap (fun r => hd t :: rowT r n1) ∧
      1 ≤ rs.length ∧ decide (hd t = "and") = wd ∧ ((wd = true ∧ n0 = 2 ∧ n1 = 3) ∨ (wd = false ∧ n0 = 1 ∧ n1 = 2)) := by
  have hn := nodes_chain hl
  cases t with
  | same a b => exact absurd rfl h2
  | neg a => exact absurd rfl h3
  | con l r =>
    obtain ⟨b, rs, e1, e2⟩ := row_chC (.con l r)
    have hp : 1 ≤ rs.length := by
      obtain ⟨b', rs', e3, _⟩ := row_chC l
      have e4 : chC (.con l r) = b' :: (rs' ++ [r]) := by unfold chC; rw [e3]; rfl
      rw [e1] at e4; cases e4; simp
    exact ⟨chC, true, 2, 3, b, rs, e1, chnC, hn.1, e2, hp, show decide (("and" : Str) = "and") = true by decide, .inl ⟨rfl, rfl, rfl⟩⟩
  | dis l r =>
    obtain ⟨b, rs, e1, e2⟩ := row_chD (.dis l r)
    have hp : 1 ≤ rs.length := by
      obtain ⟨b', rs', e3, _⟩ := row_chD l
      have e4 : chD (.dis l r) = b' :: (rs' ++ [r]) := by unfold chD; rw [e3]; rfl
      rw [e1] at e4; cases e4; simp
    exact ⟨chD, false, 1, 2, b, rs, e1, chnD, hn.2, e2, hp, show decide (("or" : Str) = "and") = false by decide +kernel, .inr ⟨rfl, rfl, rfl⟩⟩
/-- one thing of ours at p, and what was there -/
structure Ow (M : Mp) (p : Addr) (a : List D) (M' : Mp) : Prop where
  one : M' p = some (.lst a)
  rest : ∀ q o, M q = some o → M' q = some o
theorem Ow.start {M : Mp} {p : Addr} {a : List D} (h : M p = none) : Ow M p a (updM M p (.lst a)) := ⟨updM_same, fun q o hq => by rw [updM_ne (neM hq h)]; exact hq⟩
theorem Ow.set {M M' : Mp} {p : Addr} {a c : List D} (h : Ow M p a M') (hp : M p = none) : Ow M p c (updM M' p (.lst c)) := ⟨updM_same, fun q o hq => by rw [updM_ne (neM hq hp)]; exact h.rest q o hq⟩
theorem Ow.new {M M' : Mp} {p q : Addr} {a : List D} {o : MO} (h : Ow M p a M') (hq : M' q = none) : Ow M p a (updM M' q o) :=
  ⟨by rw [updM_ne (neM h.one hq)]; exact h.one, fun r o' hr => by rw [updM_ne (neM (h.rest r o' hr) hq)]; exact h.rest r o' hr⟩
theorem Ow.out {M M' : Mp} {p : Addr} {a : List D} {Q : DK} (h : Ow M p a M') (hp : M p = none) (q : Q (.lst a) M) : frz (.obj p) M' (Wk Q) :=
  e_frz_obj h.one ⟨M, fun x o hx => by
    unfold remM
    rw [if_neg (neM hx hp)]
    exact h.rest x o hx, q⟩
theorem Ow.wk {M M' : Mp} {p : Addr} {a : List D} {Q : DK} {d : D} (h : Ow M p a M') (q : Q d M) : Wk Q d M' := ⟨M, h.rest, q⟩
def chI (w : Str) (n : Nat) (rs : List Tst) : List Itm := rs.flatMap fun r => .tok w :: brI (decide (rank r < n)) r
theorem chI_len {w : Str} {n : Nat} : ∀ rs : List Tst, (chI w n rs).length ≤ 4 * rs.length
  | [] => Nat.le_refl _
  | r :: rs => by
    have h1 := @chI_len w n rs
    have h2 := @brI_len (decide (rank r < n)) r
    unfold chI at h1 ⊢
    simp only [List.flatMap_cons, List.length_append, List.length_cons]
    omega
theorem chI_at {w : Str} {n i : Nat} {rs : List Tst} {r : Tst} (h : rs[i]? = some r) : chI w n (rs.take (i + 1)) = chI w n (rs.take i) ++ (.tok w :: brI (decide (rank r < n)) r) := by
  unfold chI
  rw [take_at h, List.flatMap_append]
  simp
theorem dens_chI {w : Str} {n : Nat} : ∀ rs : List Tst, dens (chI w n rs) = rs.flatMap fun r => w :: rowT r n
  | [] => rfl
  | r :: rs => by
    have h1 := @dens_chI w n rs
    unfold chI dens at h1 ⊢
    rw [List.flatMap_cons, List.flatMap_append, h1, List.flatMap_cons, List.flatMap_cons]
    rw [show (brI (decide (rank r < n)) r).flatMap den = rowT r n from dens_brI rfl]
    rfl
end Wr
/-! Lines of a program. -/
namespace Wr
open PySem L2 DL Syn
/-- the law's own word for names -/
def nmL (w : Str) : Bool := match w.cps.toList.getLast? with
  | some c => (Txt.isalnum ⟨#[c]⟩ || c == 95) && !decide (w ∈ WORDS)
  | none => false
structure Tk (w : Str) : Prop where
  lo : 1 ≤ w.length
  hi : w.length ≤ 12
  nm : nmL w = isNm w
theorem Tk.wd {w : Str} (h : Tk w) : Wd w := ⟨h.lo, h.hi⟩
def FIX : List Str := ["kind", "var", "make", "act", "if", "then", "else", "do", "answer", "and", "or", "not", "(", ")", "{", "}", "=", ":=", "==", ":", ";", ",", "|"]
theorem fix_tk : ∀ w ∈ FIX, 1 ≤ w.length ∧ w.length ≤ 12 ∧ nmL w = isNm w := by decide +kernel
theorem tk_fix {w : Str} (h : w ∈ FIX) : Tk w := by
  obtain ⟨a, b, c⟩ := fix_tk w h
  exact ⟨a, b, c⟩
theorem row_alnum : ∀ c : Nat, c < 128 → rowC c = true → (Txt.isalnum ⟨#[c]⟩ || c == 95) = true := by decide +kernel
theorem row_lt {c : Nat} (h : rowC c = true) : c < 128 := by
  unfold rowC smallC greatC at h
  simp at h
  omega
theorem tk_name {g : Bool} {w : Str} (h : NameOk g w) : Tk w := by
  obtain ⟨c, r, e, hc⟩ := h.hd
  refine ⟨by rw [TL.len_tl]; show 1 ≤ w.cps.toList.length; rw [e]; simp, h.len, ?_⟩
  have hm : decide (w ∈ WORDS) = false := decide_eq_false h.nw
  have h1 : isNm w = true := by
    unfold isNm
    rw [e, hm]
    cases g with
    | true => simp at hc; simp [hc]
    | false => simp at hc; simp [hc]
  rw [h1]
  unfold nmL
  cases hl : w.cps.toList.getLast? with
  | none => rw [List.getLast?_eq_none_iff] at hl; rw [e] at hl; cases hl
  | some d =>
    have hd := h.all d (List.mem_of_getLast? hl)
    dsimp only
    rw [hm, row_alnum d (row_lt hd) hd]
    rfl
theorem tk_atom {a : Atom} (h : a.ok) : Tk a.s := by
  cases a with
  | nm s => exact tk_name h
  | vl s => exact tk_name h
/-- a row of tokens, not long -/
def Tks (n : Nat) (ws : List Str) : Prop := ws.length ≤ n ∧ ∀ w ∈ ws, Tk w
theorem Tks.nil : Tks 0 [] := ⟨Nat.le_refl _, fun _ h => (List.not_mem_nil h).elim⟩
theorem Tks.cons {n : Nat} {w : Str} {ws : List Str} (h : Tk w) (t : Tks n ws) : Tks (n + 1) (w :: ws) := ⟨Nat.succ_le_succ t.1, fun x hx => by
  rcases List.mem_cons.mp hx with rfl | hx
  · exact h
  · exact t.2 x hx⟩
theorem Tks.fix {n : Nat} {w : Str} {ws : List Str} (t : Tks n ws) (h : w ∈ FIX := by decide +kernel) : Tks (n + 1) (w :: ws) := .cons (tk_fix h) t
theorem Tks.app {n m : Nat} {ws vs : List Str} (a : Tks n ws) (b : Tks m vs) : Tks (n + m) (ws ++ vs) := ⟨by rw [List.length_append]; exact Nat.add_le_add a.1 b.1, fun x hx => by
  rcases List.mem_append.mp hx with hx | hx
  · exact a.2 x hx
  · exact b.2 x hx⟩
theorem Tks.mono {n m : Nat} {ws : List Str} (a : Tks n ws) (h : n ≤ m) : Tks m ws := ⟨Nat.le_trans a.1 h, a.2⟩
theorem Tks.row {n : Nat} {t : Tst} {k : Nat} (h : Tks n (body t)) : Tks (n + 2) (rowT t k) := by
  unfold rowT
  split
  · exact (Tks.fix (h.app (.fix .nil))).mono (by omega)
  · exact h.mono (by omega)
theorem tk_body : ∀ (d : Nat) (t : Tst), t.ok d → Tks (8 * 2 ^ d - 5) (body t)
  | d, .same a b, h => by
    have h' : a.ok ∧ b.ok := by cases d <;> exact h
    have := Nat.one_le_two_pow (n := d)
    exact (Tks.cons (tk_atom h'.1) (.fix (.cons (tk_atom h'.2) .nil))).mono (by omega)
  | 0, .neg t, h => h.elim
  | 0, .con l r, h => h.elim
  | 0, .dis l r, h => h.elim
  | d + 1, .neg t, h => by
    have h1 := tk_body d t h
    have := Nat.one_le_two_pow (n := d)
    rw [body_neg, Nat.pow_succ]
    exact (Tks.fix h1.row).mono (by omega)
  | d + 1, .con l r, h => by
    have h1 := tk_body d l h.1
    have h2 := tk_body d r h.2
    have := Nat.one_le_two_pow (n := d)
    rw [body_con, Nat.pow_succ]
    exact (h1.row.app (Tks.fix h2.row)).mono (by omega)
  | d + 1, .dis l r, h => by
    have h1 := tk_body d l h.1
    have h2 := tk_body d r h.2
    have := Nat.one_le_two_pow (n := d)
    rw [body_dis, Nat.pow_succ]
    exact (h1.row.app (Tks.fix h2.row)).mono (by omega)
def VL : Nat → Nat
  | 0 => 1
  | d + 1 => 8 * 2 ^ (d + 1) - 2 + 2 * VL d
theorem VL_pos (d : Nat) : 1 ≤ VL d := by
  cases d with
  | zero => exact Nat.le_refl _
  | succ d => unfold VL; have := Nat.one_le_two_pow (n := d + 1); omega
theorem tk_val : ∀ (d : Nat) (v : Val), v.ok d → Tks (VL d) (valW v)
  | d, .at a, h => by
    have h' : a.ok := by cases d <;> exact h
    exact (Tks.cons (tk_atom h') .nil).mono (VL_pos d)
  | 0, .ite t x y, h => h.elim
  | d + 1, .ite t x y, h => by
    have h0 := tk_body (d + 1) t h.1
    have h1 := tk_val d x h.2.1
    have h2 := tk_val d y h.2.2
    have := Nat.one_le_two_pow (n := d + 1)
    unfold VL
    exact (Tks.fix (h0.app (Tks.fix (h1.app (Tks.fix h2))))).mono (by omega)
/-- rows with commas between -/
def commas : List (List Str) → List Str
  | [] => []
  | x :: xs => x ++ xs.flatMap fun y => ("," : Str) :: y
theorem commas_snoc (xs : List (List Str)) (y : List Str) : commas (xs ++ [y]) = commas xs ++ (if xs.length = 0 then [] else [("," : Str)]) ++ y := by
  cases xs with
  | nil => simp [commas]
  | cons x xs => simp [commas]
theorem tk_commas {n : Nat} : ∀ (xs : List (List Str)), (∀ x ∈ xs, Tks n x) → Tks ((n + 1) * xs.length) (commas xs)
  | [], _ => .nil
  | x :: xs, h => by
    have h2 : Tks ((n + 1) * xs.length) (xs.flatMap fun y => ("," : Str) :: y) := by
      have h3 : ∀ y ∈ xs, Tks n y := fun y hy => h y (List.mem_cons_of_mem _ hy)
      clear h
      induction xs with
      | nil => exact .nil
      | cons y ys ih =>
        rw [List.flatMap_cons, List.length_cons, Nat.mul_succ]
        exact ((Tks.fix (h3 y (List.mem_cons_self ..))).app (ih fun z hz => h3 z (List.mem_cons_of_mem _ hz))).mono (by omega)
    rw [List.length_cons, Nat.mul_succ]
    exact ((h x (List.mem_cons_self ..)).app h2).mono (by omega)
def givW (gs : List Giv) : List Str := ("(" : Str) :: (commas (gs.map fun g => [g.1, (":" : Str), g.2]) ++ [(")" : Str)])
theorem tk_giv {gs : List Giv} (h : GivOk gs) : Tks 14 (givW gs) := by
  have h1 : Tks ((3 + 1) * (gs.map fun g => [g.1, (":" : Str), g.2]).length) (commas (gs.map fun g => [g.1, (":" : Str), g.2])) := tk_commas _ fun x hx => by
    obtain ⟨g, hg, rfl⟩ := List.mem_map.mp hx
    exact .cons (tk_name (h.2 g hg).1) (.fix (.cons (tk_name (h.2 g hg).2) .nil))
  rw [List.length_map] at h1
  have := h.1
  exact (Tks.fix (h1.app (.fix .nil))).mono (by omega)
def bars : List Str → List Str
  | [] => []
  | x :: xs => x :: xs.flatMap fun y => [("|" : Str), y]
theorem bars_snoc (xs : List Str) (y : Str) : bars (xs ++ [y]) = bars xs ++ (if xs.length = 0 then [] else [("|" : Str)]) ++ [y] := by
  cases xs with
  | nil => simp [bars]
  | cons x xs => simp [bars]
def kindW (k : Str × List Str) : List Str := ("kind" : Str) :: k.1 :: ("=" : Str) :: (bars k.2 ++ [(";" : Str)])
def varW (v : Vr) : List Str := ("var" : Str) :: v.1 :: (":" : Str) :: v.2.1 :: ("=" : Str) :: (valW v.2.2 ++ [(";" : Str)])
def setW (n : Str) (v : Val) : List Str := n :: (":=" : Str) :: (valW v ++ [(";" : Str)])
def dooW (n f : Str) (vs : List Val) : List Str := n :: (":=" : Str) :: ("do" : Str) :: f :: ("(" : Str) :: (commas (vs.map valW) ++ [(")" : Str), (";" : Str)])
def ifW (t : Tst) : List Str := ("if" : Str) :: (body t ++ [("{" : Str)])
def elseW : List Str := ["}", "else", "{"]
def endW : List Str := ["}"]
def makeW (n : Str) (gs : List Giv) : List Str := ("make" : Str) :: n :: (givW gs ++ [("{" : Str)])
def actW (n : Str) (gs : List Giv) (k : Str) : List Str := ("act" : Str) :: n :: (givW gs ++ [(":" : Str), k, ("{" : Str)])
def ansW (v : Val) : List Str := ("answer" : Str) :: (valW v ++ [(";" : Str)])
theorem tk_bars {n : Nat} : ∀ {xs : List Str}, (∀ x ∈ xs, NameOk true x) → Tks (2 * xs.length) (bars xs)
  | [], _ => .nil
  | x :: xs, h => by
    have h2 : Tks (2 * xs.length) (xs.flatMap fun y => [("|" : Str), y]) := by
      have h3 : ∀ y ∈ xs, NameOk true y := fun y hy => h y (List.mem_cons_of_mem _ hy)
      clear h
      induction xs with
      | nil => exact .nil
      | cons y ys ih =>
        rw [List.flatMap_cons, List.length_cons, Nat.mul_succ]
        exact ((Tks.fix (.cons (tk_name (h3 y (List.mem_cons_self ..))) .nil)).app (ih fun z hz => h3 z (List.mem_cons_of_mem _ hz))).mono (by omega)
    rw [List.length_cons, Nat.mul_succ]
    exact (Tks.cons (tk_name (h x (List.mem_cons_self ..))) h2).mono (by omega)
theorem tk_kind {k : Str × List Str} (h1 : NameOk true k.1) (h2 : k.2.length ≤ 5) (h3 : ∀ x ∈ k.2, NameOk true x) : Tks 80 (kindW k) := by
  have := tk_bars (n := 0) h3
  exact (Tks.fix (.cons (tk_name h1) (.fix (this.app (.fix .nil))))).mono (by omega)
theorem VL1 : VL 1 = 16 := rfl
theorem VL2 : VL 2 = 62 := rfl
theorem tk_var {v : Vr} (h : VrOk v) : Tks 80 (varW v) := by
  have h1 := tk_val 2 v.2.2 h.2.2
  rw [VL2] at h1
  exact (Tks.fix (.cons (tk_name h.1) (.fix (.cons (tk_name h.2.1) (.fix (h1.app (.fix .nil))))))).mono (by omega)
theorem tk_set {n : Str} {v : Val} (h1 : NameOk false n) (h2 : v.ok 2) : Tks 80 (setW n v) := by
  have h1' := tk_val 2 v h2
  rw [VL2] at h1'
  exact (Tks.cons (tk_name h1) (.fix (h1'.app (.fix .nil)))).mono (by omega)
theorem tk_doo {n f : Str} {vs : List Val} (h1 : NameOk false n) (h2 : NameOk false f) (h3 : vs.length ≤ 3) (h4 : ∀ v ∈ vs, Val.ok 1 v) : Tks 80 (dooW n f vs) := by
  have h5 : Tks ((16 + 1) * (vs.map valW).length) (commas (vs.map valW)) := tk_commas _ fun x hx => by
    obtain ⟨v, hv, rfl⟩ := List.mem_map.mp hx
    exact tk_val 1 v (h4 v hv)
  rw [List.length_map] at h5
  exact (Tks.cons (tk_name h1) (.fix (.fix (.cons (tk_name h2) (.fix (h5.app (.fix (.fix .nil)))))))).mono (by omega)
theorem tk_if {t : Tst} (h : t.ok 2) : Tks 80 (ifW t) := by
  have h1 := tk_body 2 t h
  exact (Tks.fix (h1.app (.fix .nil))).mono (by omega)
theorem tk_else : Tks 80 elseW := (Tks.fix (.fix (.fix .nil))).mono (by omega)
theorem tk_end : Tks 80 endW := (Tks.fix .nil).mono (by omega)
theorem tk_make {n : Str} {gs : List Giv} (h1 : NameOk true n) (h2 : GivOk gs) : Tks 80 (makeW n gs) :=
  (Tks.fix (.cons (tk_name h1) ((tk_giv h2).app (.fix .nil)))).mono (by omega)
theorem tk_act {n k : Str} {gs : List Giv} (h1 : NameOk false n) (h2 : GivOk gs) (h3 : NameOk true k) : Tks 80 (actW n gs k) :=
  (Tks.fix (.cons (tk_name h1) ((tk_giv h2).app (.fix (.cons (tk_name h3) (.fix .nil)))))).mono (by omega)
theorem tk_ans {v : Val} (h : v.ok 2) : Tks 80 (ansW v) := by
  have h1 := tk_val 2 v h
  rw [VL2] at h1
  exact (Tks.fix (h1.app (.fix .nil))).mono (by omega)
/-! ### lines -/
def lineN (deep : Nat) (ws : List Str) : Str := Txt.mul "  " (deep : Int) ++ lineT ws
def nl (s : Str) : Str := s ++ "\n"
theorem lineS_nl (deep : Nat) (ws : List Str) : lineS deep ws = nl (lineN deep ws) := rfl
def elseL (deep : Nat) : List Deed → List Str
  | [] => []
  | _ :: _ => [lineN deep elseW]
mutual
def deedL (deep : Nat) : Deed → List Str
  | .set n v => [lineN deep (setW n v)]
  | .doo n f vs => [lineN deep (dooW n f vs)]
  | .ite t xs ys => lineN deep (ifW t) :: (deedsL (deep + 1) xs ++ (elseL deep ys ++ (deedsL (deep + 1) ys ++ [lineN deep endW])))
def deedsL (deep : Nat) : List Deed → List Str
  | [] => []
  | x :: xs => deedL deep x ++ deedsL deep xs
end
theorem deedsL_map (deep : Nat) : ∀ xs : List Deed, deedsL deep xs = xs.flatMap (deedL deep)
  | [] => by unfold deedsL; rfl
  | x :: xs => by unfold deedsL; rw [deedsL_map deep xs]; rfl
mutual
def partL (deep : Nat) : Part → List Str
  | .make n gs vs ps => lineN deep (makeW n gs) :: (vs.map (fun v => lineN (deep + 1) (varW v)) ++ (partsL (deep + 1) ps ++ [lineN deep endW]))
  | .act n gs k ds v => lineN deep (actW n gs k) :: (deedsL (deep + 1) ds ++ [lineN (deep + 1) (ansW v), lineN deep endW])
def partsL (deep : Nat) : List Part → List Str
  | [] => []
  | x :: xs => partL deep x ++ partsL deep xs
end
theorem partsL_map (deep : Nat) : ∀ xs : List Part, partsL deep xs = xs.flatMap (partL deep)
  | [] => by unfold partsL; rfl
  | x :: xs => by unfold partsL; rw [partsL_map deep xs]; rfl
def progL (p : Prg) : List Str := p.kinds.map (fun k => lineN 0 (kindW k)) ++ (p.vars.map (fun v => lineN 0 (varW v)) ++ partsL 0 p.parts)
def progT (p : Prg) : Str := Txt.join "" ((progL p).map nl)
/-- lines, not many, none long -/
def Lns (n : Nat) (ls : List Str) : Prop := ls.length ≤ n ∧ ∀ s ∈ ls, s.length ≤ 1100
theorem Lns.nil : Lns 0 [] := ⟨Nat.le_refl _, fun _ h => (List.not_mem_nil h).elim⟩
theorem Lns.cons {n : Nat} {w : Str} {ws : List Str} (h : w.length ≤ 1100) (t : Lns n ws) : Lns (n + 1) (w :: ws) := ⟨Nat.succ_le_succ t.1, fun x hx => by
  rcases List.mem_cons.mp hx with rfl | hx
  · exact h
  · exact t.2 x hx⟩
theorem Lns.app {n m : Nat} {ws vs : List Str} (a : Lns n ws) (b : Lns m vs) : Lns (n + m) (ws ++ vs) := ⟨by rw [List.length_append]; exact Nat.add_le_add a.1 b.1, fun x hx => by
  rcases List.mem_append.mp hx with hx | hx
  · exact a.2 x hx
  · exact b.2 x hx⟩
theorem Lns.mono {n m : Nat} {ws : List Str} (a : Lns n ws) (h : n ≤ m) : Lns m ws := ⟨Nat.le_trans a.1 h, a.2⟩
theorem Lns.flat {α : Type} {n : Nat} {f : α → List Str} : ∀ {xs : List α}, (∀ x ∈ xs, Lns n (f x)) → Lns (n * xs.length) (xs.flatMap f)
  | [], _ => .nil
  | x :: xs, h => by
    rw [List.flatMap_cons, List.length_cons, Nat.mul_succ]
    exact ((h x (List.mem_cons_self ..)).app (Lns.flat fun y hy => h y (List.mem_cons_of_mem _ hy))).mono (by omega)
theorem Lns.map {α : Type} {f : α → Str} {xs : List α} (h : ∀ x ∈ xs, (f x).length ≤ 1100) : Lns xs.length (xs.map f) := ⟨by rw [List.length_map]; exact Nat.le_refl _, fun s hs => by
  obtain ⟨x, hx, rfl⟩ := List.mem_map.mp hs
  exact h x hx⟩
theorem lineN_len {d : Nat} {ws : List Str} (hd : d < 13) (h : Tks 80 ws) : (lineN d ws).length ≤ 1100 := by
  unfold lineN
  rw [len_app, (blanks d hd).2.1]
  have h1 := lineT_len fun w hw => (h.2 w hw).wd
  have := h.1
  omega
def CD : Nat → Nat
  | 0 => 1
  | d + 1 => 3 + 3 * CD d
theorem CD_succ (d : Nat) : CD (d + 1) = 3 + 3 * CD d := rfl
theorem CD_pos (d : Nat) : 1 ≤ CD d := by cases d <;> (unfold CD; omega)
theorem ln_deed : ∀ (d deep : Nat) (x : Deed), x.ok d → deep + d < 13 → Lns (CD d) (deedL deep x)
  | d, deep, .set n v, h, hd => by
    have h' : NameOk false n ∧ v.ok 2 := by cases d <;> (unfold Deed.ok at h; exact h)
    unfold deedL
    exact (Lns.cons (lineN_len (by omega) (tk_set h'.1 h'.2)) .nil).mono (CD_pos d)
  | d, deep, .doo n f vs, h, hd => by
    have h' : NameOk false n ∧ NameOk false f ∧ vs.length ≤ 3 ∧ ∀ v ∈ vs, Val.ok 1 v := by cases d <;> (unfold Deed.ok at h; exact h)
    unfold deedL
    exact (Lns.cons (lineN_len (by omega) (tk_doo h'.1 h'.2.1 h'.2.2.1 h'.2.2.2)) .nil).mono (CD_pos d)
  | 0, deep, .ite t xs ys, h, hd => by unfold Deed.ok at h; exact h.elim
  | d + 1, deep, .ite t xs ys, h, hd => by
    unfold Deed.ok at h
    obtain ⟨h1, h2, h3, h4, h5⟩ := h
    have a := Lns.flat (n := CD d) (f := deedL (deep + 1)) (xs := xs) fun x hx => ln_deed d (deep + 1) x (h3 x hx) (by omega)
    have b := Lns.flat (n := CD d) (f := deedL (deep + 1)) (xs := ys) fun x hx => ln_deed d (deep + 1) x (h5 x hx) (by omega)
    have c : Lns 1 (elseL deep ys) := by
      cases ys with
      | nil => exact Lns.nil.mono (by omega)
      | cons y ys => exact .cons (lineN_len (by omega) tk_else) .nil
    unfold deedL
    rw [deedsL_map, deedsL_map]
    have e : CD d * xs.length ≤ CD d * 2 := Nat.mul_le_mul_left _ h2
    have e2 : CD d * ys.length ≤ CD d * 1 := Nat.mul_le_mul_left _ h4
    exact (Lns.cons (lineN_len (by omega) (tk_if h1)) (a.app (c.app (b.app (.cons (lineN_len (by omega) tk_end) .nil))))).mono (by rw [CD_succ]; omega)
def CP : Nat → Nat
  | 0 => 66
  | d + 1 => 4 + 2 * CP d
theorem CP_succ (d : Nat) : CP (d + 1) = 4 + 2 * CP d := rfl
theorem CP_pos (d : Nat) : 66 ≤ CP d := by
  induction d with
  | zero => exact Nat.le_refl _
  | succ d ih => unfold CP; omega
theorem ln_part : ∀ (d deep : Nat) (x : Part), x.ok d → deep + d < 9 → Lns (CP d) (partL deep x)
  | d, deep, .act n gs k ds v, h, hd => by
    have h' : NameOk false n ∧ GivOk gs ∧ NameOk true k ∧ ds.length ≤ 3 ∧ (∀ x ∈ ds, Deed.ok 2 x) ∧ v.ok 2 := by cases d <;> (unfold Part.ok at h; exact h)
    obtain ⟨h1, h2, h3, h4, h5, h6⟩ := h'
    have a := Lns.flat (n := 21) (f := deedL (deep + 1)) (xs := ds) fun x hx => ln_deed 2 (deep + 1) x (h5 x hx) (by omega)
    have := CP_pos d
    unfold partL
    rw [deedsL_map]
    exact (Lns.cons (lineN_len (by omega) (tk_act h1 h2 h3)) (a.app (.cons (lineN_len (by omega) (tk_ans h6)) (.cons (lineN_len (by omega) tk_end) .nil)))).mono (by omega)
  | 0, deep, .make n gs vs ps, h, hd => by unfold Part.ok at h; exact h.elim
  | d + 1, deep, .make n gs vs ps, h, hd => by
    unfold Part.ok at h
    obtain ⟨h1, h2, h3, h4, h5, h6⟩ := h
    have a := Lns.flat (n := CP d) (f := partL (deep + 1)) (xs := ps) fun x hx => ln_part d (deep + 1) x (h6 x hx) (by omega)
    have b := Lns.map (f := fun v => lineN (deep + 1) (varW v)) (xs := vs) fun v hv => lineN_len (by omega) (tk_var (h4 v hv))
    unfold partL
    rw [partsL_map]
    have e : CP d * ps.length ≤ CP d * 2 := Nat.mul_le_mul_left _ h5
    exact (Lns.cons (lineN_len (by omega) (tk_make h1 h2)) (b.app (a.app (.cons (lineN_len (by omega) tk_end) .nil)))).mono (by rw [CP_succ]; omega)
theorem ln_prog {p : Prg} (h : p.ok) : Lns 1700 (progL p) := by
  have a := Lns.flat (n := CP 3) (f := partL 0) (xs := p.parts) fun x hx => ln_part 3 0 x (h.ps x hx) (by omega)
  have b := Lns.map (f := fun v => lineN 0 (varW v)) (xs := p.vars) fun v hv => lineN_len (by omega) (tk_var (h.vs v hv))
  have c := Lns.map (f := fun k => lineN 0 (kindW k)) (xs := p.kinds) fun k hk => lineN_len (by omega) (tk_kind (h.ks k hk).1 (h.ks k hk).2.2.1 (h.ks k hk).2.2.2)
  have := h.kn; have := h.vn; have := h.pn
  unfold progL
  rw [partsL_map]
  have e : CP 3 * p.parts.length ≤ CP 3 * 3 := Nat.mul_le_mul_left _ h.pn
  have e2 : CP 3 = 556 := rfl
  exact (c.app (b.app a)).mono (by omega)
/-! ### the writer's rows -/
inductive Row where
  | ln (deep : Nat) (s : Str) | dd (deep : Nat) (x : Deed) | pt (deep : Nat) (p : Part)
def Row.d : Row → D
  | .ln deep s => .tup [.int (deep : Nat), .str (nl s)]
  | .dd deep x => .tup [.int (deep : Nat), x.d]
  | .pt deep p => .tup [.int (deep : Nat), p.d]
def rden : Row → List Str
  | .ln _ s => [s]
  | .dd deep x => deedL deep x
  | .pt deep p => partL deep p
def Row.ok : Row → Prop
  | .ln _ s => True
  | .dd deep x => ∃ d, x.ok d ∧ deep + d < 13
  | .pt deep p => ∃ d, p.ok d ∧ deep + d < 9
theorem rden_pos (x : Row) : 1 ≤ (rden x).length := by
  cases x with
  | ln d s => exact Nat.le_refl _
  | dd d x => cases x <;> (unfold rden deedL; simp)
  | pt d x => cases x <;> (unfold rden partL; simp)
abbrev rdens (xs : List Row) : List Str := xs.flatMap rden
theorem rdens_len : ∀ xs : List Row, xs.length ≤ (rdens xs).length
  | [] => Nat.le_refl _
  | x :: xs => by
    have h1 := rdens_len xs; have h2 := rden_pos x
    simp [rdens] at h1 ⊢; omega
def elseR (deep : Nat) : List Deed → List Row
  | [] => []
  | _ :: _ => [.ln deep (lineN deep elseW)]
def ifR (deep : Nat) (t : Tst) (xs ys : List Deed) : List Row := .ln deep (lineN deep (ifW t)) :: (xs.map (Row.dd (deep + 1)) ++ (elseR deep ys ++ (ys.map (Row.dd (deep + 1)) ++ [.ln deep (lineN deep endW)])))
theorem rdens_dd (deep : Nat) : ∀ xs : List Deed, rdens (xs.map (Row.dd deep)) = deedsL deep xs
  | [] => by unfold deedsL; rfl
  | x :: xs => by
    have := rdens_dd deep xs
    unfold deedsL
    rw [← this]
    rfl
theorem rdens_pt (deep : Nat) : ∀ xs : List Part, rdens (xs.map (Row.pt deep)) = partsL deep xs
  | [] => by unfold partsL; rfl
  | x :: xs => by
    have := rdens_pt deep xs
    unfold partsL
    rw [← this]
    rfl
theorem rdens_ln {α : Type} (deep : Nat) (f : α → Str) : ∀ xs : List α, rdens (xs.map fun x => Row.ln deep (f x)) = xs.map f
  | [] => rfl
  | x :: xs => by
    have := rdens_ln deep f xs
    show f x :: rdens (xs.map fun x => Row.ln deep (f x)) = _
    rw [this] <;> rfl
theorem rdens_app (a b : List Row) : rdens (a ++ b) = rdens a ++ rdens b := List.flatMap_append ..
theorem ifR_den (deep : Nat) (t : Tst) (xs ys : List Deed) : rdens (ifR deep t xs ys) = deedL deep (.ite t xs ys) := by
  unfold ifR
  rw [show ∀ a (b : List Row), rdens (a :: b) = rden a ++ rdens b from fun a b => List.flatMap_cons .., rdens_app, rdens_app, rdens_app, rdens_dd, rdens_dd]
  unfold deedL
  cases ys <;> rfl
def actR (deep : Nat) (n : Str) (gs : List Giv) (k : Str) (ds : List Deed) (v : Val) : List Row := .ln deep (lineN deep (actW n gs k)) :: (ds.map (Row.dd (deep + 1)) ++ [.ln (deep + 1) (lineN (deep + 1) (ansW v)), .ln deep (lineN deep endW)])
theorem actR_den (deep : Nat) (n : Str) (gs : List Giv) (k : Str) (ds : List Deed) (v : Val) : rdens (actR deep n gs k ds v) = partL deep (.act n gs k ds v) := by
  unfold actR
  rw [show ∀ a (b : List Row), rdens (a :: b) = rden a ++ rdens b from fun a b => List.flatMap_cons .., rdens_app, rdens_dd]
  unfold partL
  rfl
def makeR (deep : Nat) (n : Str) (gs : List Giv) (vs : List Vr) (ps : List Part) : List Row := .ln deep (lineN deep (makeW n gs)) :: (vs.map (fun v => Row.ln (deep + 1) (lineN (deep + 1) (varW v))) ++ (ps.map (Row.pt (deep + 1)) ++ [.ln deep (lineN deep endW)]))
theorem makeR_den (deep : Nat) (n : Str) (gs : List Giv) (vs : List Vr) (ps : List Part) : rdens (makeR deep n gs vs ps) = partL deep (.make n gs vs ps) := by
  unfold makeR
  rw [show ∀ a (b : List Row), rdens (a :: b) = rden a ++ rdens b from fun a b => List.flatMap_cons .., rdens_app, rdens_app, rdens_pt, rdens_ln]
  unfold partL
  rfl
end Wr
namespace Wr
open PySem L2 DL Syn
theorem commas_len {n : Nat} : ∀ (xs : List (List Str)), (∀ x ∈ xs, x.length ≤ n) → (commas xs).length ≤ (n + 1) * xs.length
  | [], _ => Nat.zero_le _
  | x :: xs, h => by
    have h2 : (xs.flatMap fun y => ("," : Str) :: y).length ≤ (n + 1) * xs.length := by
      have h3 : ∀ y ∈ xs, y.length ≤ n := fun y hy => h y (List.mem_cons_of_mem _ hy)
      clear h
      induction xs with
      | nil => exact Nat.zero_le _
      | cons y ys ih =>
        rw [List.flatMap_cons, List.length_cons, Nat.mul_succ, List.length_append, List.length_cons]
        have := h3 y (List.mem_cons_self ..)
        have := ih fun z hz => h3 z (List.mem_cons_of_mem _ hz)
        omega
    have := h x (List.mem_cons_self ..)
    unfold commas
    rw [List.length_cons, Nat.mul_succ, List.length_append]
    omega
theorem commas_at {l : List (List Str)} {i : Nat} {y : List Str} (h : l[i]? = some y) : commas (l.take (i + 1)) = commas (l.take i) ++ (if i = 0 then [] else [("," : Str)]) ++ y := by
  have hi : i < l.length := (List.getElem?_eq_some_iff.mp h).1
  rw [take_at h, commas_snoc, List.length_take, Nat.min_eq_left (Nat.le_of_lt hi)]
theorem bars_at {l : List Str} {i : Nat} {y : Str} (h : l[i]? = some y) : bars (l.take (i + 1)) = bars (l.take i) ++ (if i = 0 then [] else [("|" : Str)]) ++ [y] := by
  have hi : i < l.length := (List.getElem?_eq_some_iff.mp h).1
  rw [take_at h, bars_snoc, List.length_take, Nat.min_eq_left (Nat.le_of_lt hi)]
theorem bars_len : ∀ l : List Str, (bars l).length ≤ 2 * l.length
  | [] => Nat.le_refl _
  | x :: xs => by
    have h2 : (xs.flatMap fun y => [("|" : Str), y]).length = 2 * xs.length := by
      induction xs with
      | nil => rfl
      | cons y ys ih => rw [List.flatMap_cons, List.length_append, ih, List.length_cons]; simp; omega
    unfold bars
    rw [List.length_cons, h2, List.length_cons]; omega
theorem dStrs_app (a b : List Str) : dStrs (a ++ b) = dStrs a ++ dStrs b := List.map_append ..
theorem dStrs_len (a : List Str) : (dStrs a).length = a.length := List.length_map ..
/-- a comprehension over known things -/
theorem lc_row {own : Bool} {k : Nat} {wi : DTI} {te : DTE} {σ : DS} {M : Mp} {Q : DK} {α : Type} (xs : List α) (g f : α → D) (hwi : ∀ Kd : List D → (Mp → Prop) → Mp → Prop, Kd (xs.map g) (fun _ => True) M → wi σ M Kd) (hz : xs.length ≤ sizeLine)
    (h : ∀ (i : Nat) x M' (Q : DK), xs[i]? = some x → (∀ a o, M a = some o → M' a = some o) → Q (f x) M' → te (σ.set k (some (g x))) M' Q) (q : dNew own (xs.map f) M Q) : dLc own k wi te σ M Q := by
  refine lc_gen (fun ds M1 => ds = xs.map g ∧ M1 = M) (fun Kd hk => hwi Kd (hk _ _ ⟨rfl, rfl⟩)) (fun ds i acc M1 => ds = xs.map g ∧ acc = (xs.take i).map f ∧ M1 = M) ?_ ?_ ?_ ?_
  · rintro ds M1 ⟨rfl, rfl⟩
    rw [List.length_map]; exact hz
  · rintro ds M1 ⟨rfl, rfl⟩
    exact ⟨rfl, rfl, rfl⟩
  · rintro ds i d acc M1 p Q' hd ⟨rfl, rfl, rfl⟩ hp hl hq
    rw [List.getElem?_map] at hd
    obtain ⟨x, hx, rfl⟩ := Option.map_eq_some_iff.mp hd
    refine h i x _ Q' hx (fun a o ha => by rw [updM_ne (neM ha hp)]; exact ha) ?_
    refine hq (f x) _ hp ⟨rfl, ?_, rfl⟩
    rw [take_at hx, List.map_append] <;> rfl
  · rintro ds acc M' hl ⟨rfl, rfl, rfl⟩
    rw [List.length_map, List.take_length]
    exact q
/-- two things of ours, and what was there -/
structure Tw (M : Mp) (p1 p2 : Addr) (a b : List D) (M' : Mp) : Prop where
  one : M' p1 = some (.lst a)
  two : M' p2 = some (.lst b)
  rest : ∀ q o, M q = some o → M' q = some o
theorem Tw.set1 {M M' : Mp} {p1 p2 : Addr} {a b c : List D} (h : Tw M p1 p2 a b M') (ne : p1 ≠ p2) (h1 : M p1 = none) : Tw M p1 p2 c b (updM M' p1 (.lst c)) :=
  ⟨updM_same, by rw [updM_ne ne.symm]; exact h.two, fun q o hq => by rw [updM_ne (neM hq h1)]; exact h.rest q o hq⟩
theorem Tw.set2 {M M' : Mp} {p1 p2 : Addr} {a b c : List D} (h : Tw M p1 p2 a b M') (ne : p1 ≠ p2) (h2 : M p2 = none) : Tw M p1 p2 a c (updM M' p2 (.lst c)) :=
  ⟨by rw [updM_ne ne]; exact h.one, updM_same, fun q o hq => by rw [updM_ne (neM hq h2)]; exact h.rest q o hq⟩
theorem Ow.lst {M M' : Mp} {p : Addr} {a : List D} (h : Ow M p a M') : isLst (.obj p) M' := isLst_of h.one
theorem strsD_map : ∀ xs : List Str, strsD (dStrs xs) = some xs
  | [] => rfl
  | x :: xs => by
    have := strsD_map xs
    show (strsD (D.str x :: dStrs xs)) = _
    unfold strsD
    rw [this] <;> rfl
end Wr
/-! Data that can be compared. -/
namespace Wr
open PySem L2 DL Syn
def Sh (n : Nat) (d : D) : Prop := ∃ y, pyD d = some y ∧ y.canLay0 = true ∧ y.depth ≤ n
theorem Sh.mono {n m : Nat} {d : D} (h : Sh n d) (hn : n ≤ m) : Sh m d := by
  obtain ⟨y, a, b, c⟩ := h
  exact ⟨y, a, b, Nat.le_trans c hn⟩
theorem Sh.all {n : Nat} : ∀ {ds : List D}, (∀ d ∈ ds, Sh n d) → ∃ ys, pyDs ds = some ys ∧ PyData.canLayAll0 ys = true ∧ PyData.depthAll ys ≤ n ∧ ys.length = ds.length
  | [], _ => ⟨[], by unfold pyDs; rfl, by unfold PyData.canLayAll0; rfl, by unfold PyData.depthAll; omega, rfl⟩
  | d :: ds, h => by
    obtain ⟨y, a, b, c⟩ := h d (List.mem_cons_self ..)
    obtain ⟨ys, a', b', c', e⟩ := Sh.all fun x hx => h x (List.mem_cons_of_mem _ hx)
    refine ⟨y :: ys, by unfold pyDs; rw [a, a']; rfl, by unfold PyData.canLayAll0; rw [b, b']; rfl, by unfold PyData.depthAll; omega, by rw [List.length_cons, e]; rfl⟩
theorem Sh.tup {n : Nat} {ds : List D} (h : ∀ d ∈ ds, Sh n d) : Sh (n + 1) (.tup ds) := by
  obtain ⟨ys, a, b, c, _⟩ := Sh.all h
  exact ⟨.tuple ys, by unfold pyD; rw [a]; rfl, by unfold PyData.canLay0; exact b, by unfold PyData.depth; omega⟩
theorem Sh.str {s : Str} (h : PyData.strOk s = true) : Sh 0 (.str s) := ⟨.str s, by unfold pyD; rfl, by unfold PyData.canLay0; exact h, by unfold PyData.depth; omega⟩
/-- ds != () -/
theorem e_ne_nil {n : Nat} {ds : List D} {M : Mp} {Q : DK} (h : ∀ d ∈ ds, Sh n d) (hn : n ≤ 60) (q : Q (.bl (!ds.isEmpty)) M) : dEq true (.tup ds) (.tup []) M Q := by
  obtain ⟨ys, a, b, c, e⟩ := Sh.all h
  refine ⟨.tuple ys, .tuple [], by unfold pyD; rw [a]; rfl, by unfold pyD pyDs; rfl, ?_, by rfl, ?_⟩
  · unfold SeqAt.shaped
    rw [Bool.and_eq_true]
    refine ⟨by unfold PyData.canLay0; exact b, decide_eq_true ?_⟩
    unfold PyData.depth; omega
  · have : PyData.eqv (.tuple ys) (.tuple []) = ds.isEmpty := by
      cases ys with
      | nil => cases ds with
        | nil => rfl
        | cons d ds => cases e
      | cons y ys => cases ds with
        | nil => cases e
        | cons d ds => rfl
    rw [this, bne_t]
    exact q
theorem sh_name {g : Bool} {s : Str} (h : NameOk g s) : Sh 0 (.str s) := .str (by
  unfold PyData.strOk
  rw [Array.all_eq_true_iff_forall_mem]
  intro c hc
  have h1 := row_lt (h.all c (by simpa using hc))
  exact decide_eq_true (by omega))
theorem sh_lit {s : Str} (h : PyData.strOk s = true := by decide +kernel) : Sh 0 (.str s) := .str h
theorem sh_any {n : Nat} {s : Str} (h : PyData.strOk s = true := by decide +kernel) : Sh n (.str s) := (Sh.str h).mono (Nat.zero_le _)
theorem Sh.tup1 {n : Nat} {a : D} (h1 : Sh n a) : Sh (n + 1) (.tup [a]) := .tup fun d hd => by
  rw [List.mem_singleton.mp hd]; exact h1
theorem mem_lit {n : Nat} {d x : D} {l : List D} (h : d ∈ x :: l) (hx : Sh n x) (hl : d ∈ l → Sh n d) : Sh n d := by
  rcases List.mem_cons.mp h with rfl | h
  · exact hx
  · exact hl h
theorem sh_atom {a : Atom} (h : a.ok) : Sh 1 a.d := by
  cases a with
  | nm s => exact .tup fun d hd => mem_lit hd sh_lit fun hd => mem_lit hd (sh_name h) fun hd => (List.not_mem_nil hd).elim
  | vl s => exact .tup fun d hd => mem_lit hd sh_lit fun hd => mem_lit hd (sh_name h) fun hd => (List.not_mem_nil hd).elim
theorem sh_tst : ∀ (d : Nat) (t : Tst), t.ok d → Sh (d + 2) t.d
  | d, .same a b, h => by
    have h' : a.ok ∧ b.ok := by cases d <;> exact h
    exact (Sh.tup (n := 1) fun x hx => mem_lit hx sh_any fun hx => mem_lit hx (sh_atom h'.1) fun hx => mem_lit hx (sh_atom h'.2) fun hd => (List.not_mem_nil hd).elim).mono (by omega)
  | 0, .neg t, h => h.elim
  | 0, .con l r, h => h.elim
  | 0, .dis l r, h => h.elim
  | d + 1, .neg t, h => Sh.tup (n := d + 2) fun x hx => mem_lit hx sh_any fun hx => mem_lit hx (sh_tst d t h) fun hd => (List.not_mem_nil hd).elim
  | d + 1, .con l r, h => Sh.tup (n := d + 2) fun x hx => mem_lit hx sh_any fun hx => mem_lit hx (sh_tst d l h.1) fun hx => mem_lit hx (sh_tst d r h.2) fun hd => (List.not_mem_nil hd).elim
  | d + 1, .dis l r, h => Sh.tup (n := d + 2) fun x hx => mem_lit hx sh_any fun hx => mem_lit hx (sh_tst d l h.1) fun hx => mem_lit hx (sh_tst d r h.2) fun hd => (List.not_mem_nil hd).elim
theorem sh_val : ∀ (d : Nat) (v : Val), v.ok d → Sh (d + 3) v.d
  | d, .at a, h => by
    have h' : a.ok := by cases d <;> exact h
    exact (sh_atom h').mono (by omega)
  | 0, .ite t x y, h => h.elim
  | d + 1, .ite t x y, h => Sh.tup (n := d + 3) fun z hx => mem_lit hx sh_any fun hx => mem_lit hx (sh_tst (d + 1) t h.1) fun hx => mem_lit hx (sh_val d x h.2.1) fun hx => mem_lit hx (sh_val d y h.2.2) fun hd => (List.not_mem_nil hd).elim
theorem sh_deed : ∀ (d : Nat) (x : Deed), x.ok d → Sh (2 * d + 7) x.d
  | d, .set n v, h => by
    have h' : NameOk false n ∧ v.ok 2 := by cases d <;> (unfold Deed.ok at h; exact h)
    unfold Deed.d
    exact (Sh.tup (n := 5) fun z hx => mem_lit hx sh_any fun hx => mem_lit hx ((sh_name h'.1).mono (by omega)) fun hx => mem_lit hx (sh_val 2 v h'.2) fun hd => (List.not_mem_nil hd).elim).mono (by omega)
  | d, .doo n f vs, h => by
    have h' : NameOk false n ∧ NameOk false f ∧ vs.length ≤ 3 ∧ ∀ v ∈ vs, Val.ok 1 v := by cases d <;> (unfold Deed.ok at h; exact h)
    unfold Deed.d
    exact (Sh.tup (n := 6) fun z hx => mem_lit hx sh_any fun hx => mem_lit hx ((sh_name h'.1).mono (by omega)) fun hx => mem_lit hx ((sh_name h'.2.1).mono (by omega)) fun hx => mem_lit hx ((Sh.tup (n := 4) fun u hu => by
      obtain ⟨v, hv, rfl⟩ := List.mem_map.mp hu
      exact sh_val 1 v (h'.2.2.2 v hv)).mono (by omega)) fun hd => (List.not_mem_nil hd).elim).mono (by omega)
  | 0, .ite t xs ys, h => by unfold Deed.ok at h; exact h.elim
  | d + 1, .ite t xs ys, h => by
    unfold Deed.ok at h
    obtain ⟨h1, h2, h3, h4, h5⟩ := h
    unfold Deed.d
    exact (Sh.tup (n := 2 * d + 8) fun z hx => mem_lit hx sh_any fun hx => mem_lit hx ((sh_tst 2 t h1).mono (by omega)) fun hx => mem_lit hx (Sh.tup (n := 2 * d + 7) fun u hu => by
      rw [deedsD_map] at hu
      obtain ⟨v, hv, rfl⟩ := List.mem_map.mp hu
      exact sh_deed d v (h3 v hv)) fun hx => mem_lit hx (Sh.tup (n := 2 * d + 7) fun u hu => by
      rw [deedsD_map] at hu
      obtain ⟨v, hv, rfl⟩ := List.mem_map.mp hu
      exact sh_deed d v (h5 v hv)) fun hd => (List.not_mem_nil hd).elim).mono (by omega)
theorem sh_deeds {d : Nat} {xs : List Deed} (h : ∀ x ∈ xs, Deed.ok d x) : ∀ y ∈ deedsD xs, Sh (2 * d + 7) y := fun y hy => by
  rw [deedsD_map] at hy
  obtain ⟨v, hv, rfl⟩ := List.mem_map.mp hy
  exact sh_deed d v (h v hv)
theorem dd_map (deep : Nat) (xs : List Deed) : (xs.map (Row.dd (deep + 1))).map Row.d = xs.map fun x => D.tup [.int ((deep : Int) + 1), x.d] := by
  rw [List.map_map] <;> rfl
theorem pt_map (deep : Nat) (xs : List Part) : (xs.map (Row.pt (deep + 1))).map Row.d = xs.map fun x => D.tup [.int ((deep : Int) + 1), x.d] := by
  rw [List.map_map] <;> rfl
theorem nl_len (s : Str) : (nl s).length = s.length + 1 := by
  unfold nl
  rw [len_app, show ("\n" : Str).length = 1 by decide +kernel]
theorem sum_nl : ∀ {ls : List Str} {n : Nat}, Lns n ls → ((ls.map nl).map (·.length)).sum ≤ 1101 * ls.length
  | [], n, h => Nat.le_refl _
  | l :: ls, n, h => by
    have h1 := h.2 l (List.mem_cons_self ..)
    have h2 := sum_nl (ls := ls) (n := n) ⟨Nat.le_trans (Nat.le_succ _) h.1, fun s hs => h.2 s (List.mem_cons_of_mem _ hs)⟩
    rw [List.map_cons, List.map_cons, List.sum_cons, nl_len, List.length_cons]
    omega
theorem ifR_ok {deep d : Nat} {t : Tst} {xs ys : List Deed} (h : (Deed.ite t xs ys).ok d) (hd : deep + d < 13) : ∀ r ∈ ifR deep t xs ys, r.ok := by
  cases d with
  | zero => unfold Deed.ok at h; exact h.elim
  | succ d =>
  unfold Deed.ok at h
  obtain ⟨h1, h2, h3, h4, h5⟩ := h
  intro r hr
  unfold ifR at hr
  have el : ∀ r ∈ elseR deep ys, r.ok := by
    intro r hr
    cases ys with
    | nil => unfold elseR at hr; exact (List.not_mem_nil hr).elim
    | cons y ys => unfold elseR at hr; rw [List.mem_singleton.mp hr]; trivial
  rcases List.mem_cons.mp hr with rfl | hr
  · trivial
  · rcases List.mem_append.mp hr with hr | hr
    · obtain ⟨x, hx, rfl⟩ := List.mem_map.mp hr
      exact ⟨d, h3 x hx, by omega⟩
    · rcases List.mem_append.mp hr with hr | hr
      · exact el r hr
      · rcases List.mem_append.mp hr with hr | hr
        · obtain ⟨x, hx, rfl⟩ := List.mem_map.mp hr
          exact ⟨d, h5 x hx, by omega⟩
        · rw [List.mem_singleton.mp hr]; trivial
theorem actR_ok {deep d : Nat} {n : Str} {gs : List Giv} {k : Str} {xs : List Deed} {v : Val} (h : (Part.act n gs k xs v).ok d) (hd : deep + d < 9) : ∀ r ∈ actR deep n gs k xs v, r.ok := by
  have h' : NameOk false n ∧ GivOk gs ∧ NameOk true k ∧ xs.length ≤ 3 ∧ (∀ x ∈ xs, Deed.ok 2 x) ∧ v.ok 2 := by cases d <;> (unfold Part.ok at h; exact h)
  intro r hr
  unfold actR at hr
  rcases List.mem_cons.mp hr with rfl | hr
  · trivial
  · rcases List.mem_append.mp hr with hr | hr
    · obtain ⟨x, hx, rfl⟩ := List.mem_map.mp hr
      exact ⟨2, h'.2.2.2.2.1 x hx, by omega⟩
    · rcases List.mem_cons.mp hr with rfl | hr
      · trivial
      · rw [List.mem_singleton.mp hr]; trivial
theorem makeR_ok {deep d : Nat} {n : Str} {gs : List Giv} {vs : List Vr} {ps : List Part} (h : (Part.make n gs vs ps).ok d) (hd : deep + d < 9) : ∀ r ∈ makeR deep n gs vs ps, r.ok := by
  cases d with
  | zero => unfold Part.ok at h; exact h.elim
  | succ d =>
  unfold Part.ok at h
  obtain ⟨h1, h2, h3, h4, h5, h6⟩ := h
  intro r hr
  unfold makeR at hr
  rcases List.mem_cons.mp hr with rfl | hr
  · trivial
  · rcases List.mem_append.mp hr with hr | hr
    · obtain ⟨x, hx, rfl⟩ := List.mem_map.mp hr
      trivial
    · rcases List.mem_append.mp hr with hr | hr
      · obtain ⟨x, hx, rfl⟩ := List.mem_map.mp hr
        exact ⟨d, h6 x hx, by omega⟩
      · rw [List.mem_singleton.mp hr]; trivial
def progR (p : Prg) : List Row := p.kinds.map (fun k => Row.ln 0 (lineN 0 (kindW k))) ++ (p.vars.map (fun v => Row.ln 0 (lineN 0 (varW v))) ++ p.parts.map (Row.pt 0))
theorem progR_den (p : Prg) : rdens (progR p) = progL p := by
  unfold progR progL
  rw [rdens_app, rdens_app, rdens_ln, rdens_ln, rdens_pt]
theorem progR_ok {p : Prg} (h : p.ok) : ∀ r ∈ progR p, r.ok := by
  intro r hr
  unfold progR at hr
  rcases List.mem_append.mp hr with hr | hr
  · obtain ⟨x, hx, rfl⟩ := List.mem_map.mp hr
    trivial
  · rcases List.mem_append.mp hr with hr | hr
    · obtain ⟨x, hx, rfl⟩ := List.mem_map.mp hr
      trivial
    · obtain ⟨x, hx, rfl⟩ := List.mem_map.mp hr
      exact ⟨3, h.ps x hx, by omega⟩
theorem e_atom1 {a : Atom} {M : Mp} {Q : DK} : dIx a.d (.int 1) M Q = Q (.str a.s) M := by cases a <;> exact e_t1
theorem str_assoc (a b c : Str) : a ++ b ++ c = a ++ (b ++ c) := by
  cases a; cases b; cases c
  exact congrArg Str.mk (Array.append_assoc ..)
theorem str_empty (a : Str) : a ++ ("" : Str) = a := by
  have e : ("" : Str) = ⟨#[]⟩ := by decide +kernel
  rw [e]
  cases a
  exact congrArg Str.mk (Array.append_empty ..)
theorem empty_str (a : Str) : ("" : Str) ++ a = a := by
  have e : ("" : Str) = ⟨#[]⟩ := by decide +kernel
  rw [e]
  cases a
  exact congrArg Str.mk (Array.empty_append ..)
theorem at_last {l : List Nat} {c : Nat} (h : l.getLast? = some c) : atI l (-1) = some c := by
  have hl : 0 < l.length := by
    cases l with
    | nil => cases h
    | cons a l => simp
  have e : ixN l.length (-1) = some (l.length - 1) := by
    unfold ixN
    rw [if_neg (by omega), if_pos (by omega)]
    congr 1
    omega
  unfold atI
  rw [e]
  show l[l.length - 1]? = some c
  rw [← List.getLast?_eq_getElem?]
  exact h
theorem near_tk {L w : Str} (h : Tk L) : near L w = ((decide (L = "(") || decide (w ∈ ([";", ",", ")", ":"] : List Str))) || (decide (w = "(") && nmL L)) := by
  have h1 : L ≠ "" := fun e => by
    have := h.lo
    rw [e] at this
    exact absurd this (by decide +kernel)
  have h2 : decide (L ∈ (["", "("] : List Str)) = decide (L = "(") := by
    apply decide_eq_decide.mpr
    constructor
    · intro hm
      rcases List.mem_cons.mp hm with e | hm
      · exact absurd e h1
      · exact List.mem_singleton.mp hm
    · intro e
      rw [e]
      exact List.mem_cons_of_mem _ (List.mem_singleton.mpr rfl)
  unfold near
  rw [h2, h.nm, Bool.or_assoc]
theorem wide_line {deep : Nat} (hd : deep < 13) (ws : List Str) : Txt.mul " " ((2 * deep : Nat) : Int) ++ lineT ws = lineN deep ws := by
  unfold lineN
  rw [(blanks deep hd).1]
theorem wide_len {deep : Nat} (hd : deep < 13) : (Txt.mul " " ((2 * deep : Nat) : Int)).length = 2 * deep := by
  rw [← (blanks deep hd).1, (blanks deep hd).2.1]
theorem else_line : lineT elseW = "} else {" := by decide +kernel
theorem end_line : lineT endW = "}" := by decide +kernel
theorem wide_up (deep : Nat) : ((2 * deep : Nat) : Int) + 2 = ((2 * (deep + 1) : Nat) : Int) := by omega
theorem lineT_80 {ws : List Str} (h : Tks 80 ws) : (lineT ws).length ≤ 1040 := by
  have h1 := lineT_len fun w hw => (h.2 w hw).wd
  have := h.1
  omega
/-- the lines of rows of deeds, not many -/
theorem deeds_len {d deep : Nat} {xs : List Deed} (h : ∀ x ∈ xs, Deed.ok d x) (hd : deep + d < 13) (h2 : d ≤ 2) (hl : xs.length ≤ 3) : (deedsL deep xs).length ≤ 63 := by
  have a := (Lns.flat (n := CD d) (f := deedL deep) (xs := xs) fun x hx => ln_deed d deep x (h x hx) hd).1
  rw [← deedsL_map] at a
  have : CD d ≤ 21 := by
    have : d = 0 ∨ d = 1 ∨ d = 2 := by omega
    rcases this with rfl | rfl | rfl <;> decide
  have : CD d * xs.length ≤ 21 * 3 := Nat.mul_le_mul this hl
  omega
theorem parts_len {d deep : Nat} {xs : List Part} (h : ∀ x ∈ xs, Part.ok d x) (hd : deep + d < 9) (h2 : d ≤ 3) (hl : xs.length ≤ 3) : (partsL deep xs).length ≤ 1668 := by
  have a := (Lns.flat (n := CP d) (f := partL deep) (xs := xs) fun x hx => ln_part d deep x (h x hx) hd).1
  rw [← partsL_map] at a
  have : CP d ≤ 556 := by
    have : d = 0 ∨ d = 1 ∨ d = 2 ∨ d = 3 := by omega
    rcases this with rfl | rfl | rfl | rfl <;> decide
  have : CP d * xs.length ≤ 556 * 3 := Nat.mul_le_mul this hl
  omega
theorem deedsL_at {deep i : Nat} {xs : List Deed} {x : Deed} (h : xs[i]? = some x) : deedsL deep (xs.take (i + 1)) = deedsL deep (xs.take i) ++ deedL deep x := by
  rw [deedsL_map, deedsL_map, take_at h, List.flatMap_append, List.flatMap_singleton]
theorem partsL_at {deep i : Nat} {xs : List Part} {x : Part} (h : xs[i]? = some x) : partsL deep (xs.take (i + 1)) = partsL deep (xs.take i) ++ partL deep x := by
  rw [partsL_map, partsL_map, take_at h, List.flatMap_append, List.flatMap_singleton]
/-- lines of ours at some place, and what was there -/
def Li (M : Mp) (ls : List Str) (v : Option D) (M' : Mp) : Prop := ∃ p, v = some (.obj p) ∧ M p = none ∧ Ow M p (dStrs ls) M'
theorem Li.start {M : Mp} {p : Addr} (h : M p = none) : Li M [] (some (.obj p)) (updM M p (.lst [])) := ⟨p, rfl, h, .start h⟩
theorem Li.out {M M' : Mp} {ls : List Str} {p : Addr} {Q : DK} (h : Li M ls (some (.obj p)) M') (q : Q (.lst (dStrs ls)) M) : frz (.obj p) M' (Wk Q) := by
  obtain ⟨p', e, hp, ow⟩ := h
  cases e
  exact ow.out hp q
/-- lines = lines + .. -/
theorem Li.more {M M' : Mp} {ls : List Str} {p p' : Addr} {l : List D} {ls' : List Str} (h : Li M ls (some (.obj p)) M') (hp' : M' p' = none) (e : l = dStrs ls') : Li M ls' (some (.obj p')) (updM M' p' (.lst l)) := by
  obtain ⟨p0, e0, hp, ow⟩ := h
  cases e0
  subst e
  refine ⟨p', rfl, ?_, updM_same, fun q o hq => ?_⟩
  · cases e : M p' with
    | none => rfl
    | some o => rw [ow.rest p' o e] at hp'; cases hp'
  · have := ow.rest q o hq
    rw [updM_ne (neM this hp')]; exact this
theorem Li.put {M M' : Mp} {ls ls' : List Str} {p : Addr} {l : List D} (h : Li M ls (some (.obj p)) M') (e : l = dStrs ls') : Li M ls' (some (.obj p)) (updM M' p (.lst l)) := by
  obtain ⟨p0, e0, hp, ow⟩ := h
  cases e0
  subst e
  exact ⟨p, rfl, hp, ow.set hp⟩
theorem Li.one {M M' : Mp} {ls : List Str} {p : Addr} (h : Li M ls (some (.obj p)) M') : M' p = some (.lst (dStrs ls)) := by
  obtain ⟨p0, e0, hp, ow⟩ := h
  cases e0
  exact ow.one
end Wr
/-! The line of a kind. -/
namespace Wr
open PySem L2 DL Syn
def BAD : List Str := ["", "(", ";", ",", ")", ":"]
theorem bad_no : ∀ w ∈ BAD, (w.cps.toList.all rowC && !w.cps.toList.isEmpty) = false := by decide +kernel
theorem name_ok {g : Bool} {w : Str} (h : NameOk g w) : w ∉ BAD := fun hb => by
  have h1 := bad_no w hb
  obtain ⟨c, r, e, _⟩ := h.hd
  have h2 : w.cps.toList.all rowC = true := List.all_eq_true.mpr h.all
  rw [h2, e] at h1
  cases h1
theorem near_no {L w : Str} (h1 : L ∉ BAD) (h2 : w ∉ BAD) : near L w = false := by
  unfold near
  have a : decide (L ∈ (["", "("] : List Str)) = false := decide_eq_false fun h => h1 (by
    rcases List.mem_cons.mp h with e | h
    · rw [e]; decide +kernel
    · rw [List.mem_singleton.mp h]; decide +kernel)
  have b : decide (w ∈ ([";", ",", ")", ":"] : List Str)) = false := decide_eq_false fun h => h2 (by
    unfold BAD
    exact List.mem_cons_of_mem _ (List.mem_cons_of_mem _ h))
  have c : decide (w = "(") = false := decide_eq_false fun e => h2 (by rw [e]; decide +kernel)
  rw [a, b, c] <;> rfl
theorem near_end (L : Str) : near L ";" = true := by
  unfold near
  have b : decide ((";" : Str) ∈ ([";", ",", ")", ":"] : List Str)) = true := by decide +kernel
  rw [b, Bool.true_or, Bool.or_true]
def bar : List Str → Str
  | [] => ""
  | y :: r => " | " ++ (y ++ bar r)
theorem join_bar (x : Str) : ∀ (rest : List Str), Str.join " | " (x :: rest) = x ++ bar rest
  | [] => by
    show x = x ++ bar []
    unfold bar; rw [str_empty]
  | y :: r => by
    show x ++ " | " ++ Str.join " | " (y :: r) = x ++ bar (y :: r)
    rw [join_bar y r, str_assoc] <;> rfl
theorem stepL_no {T L w : Str} (h1 : L ∉ BAD) (h2 : w ∉ BAD) : stepL (T, L) w = (T ++ (" " ++ w), w) := by
  unfold stepL
  rw [near_no h1 h2] <;> rfl
theorem bar_no : ("|" : Str) ∉ BAD := by decide +kernel
theorem fold_bar : ∀ (rest : List Str) (T L : Str), L ∉ BAD → (∀ y ∈ rest, NameOk true y) → ((rest.flatMap fun y => [("|" : Str), y]).foldl stepL (T, L)).1 = T ++ bar rest
  | [], T, L, hL, h => by
    show T = T ++ bar []
    unfold bar; rw [str_empty]
  | y :: r, T, L, hL, h => by
    have hy := name_ok (h y (List.mem_cons_self ..))
    rw [List.flatMap_cons, List.foldl_append]
    show ((r.flatMap fun y => [("|" : Str), y]).foldl stepL (stepL (stepL (T, L) "|") y)).1 = _
    rw [stepL_no hL bar_no, stepL_no bar_no hy, fold_bar r _ y hy fun z hz => h z (List.mem_cons_of_mem _ hz)]
    show T ++ (" " ++ "|") ++ (" " ++ y) ++ bar r = T ++ (" | " ++ (y ++ bar r))
    have e : (" | " : Str) = (" " : Str) ++ "|" ++ " " := by decide +kernel
    rw [e]
    simp only [str_assoc]
theorem fold_1 (l : List Str) (p : Str × Str) : ∃ L, l.foldl stepL p = ((l.foldl stepL p).1, L) := ⟨_, rfl⟩
theorem kind_line {k : Str × List Str} (h1 : NameOk true k.1) (h2 : 1 ≤ k.2.length) (h3 : ∀ x ∈ k.2, NameOk true x) : ("kind " : Str) ++ k.1 ++ " = " ++ Txt.join " | " k.2 ++ ";" = lineN 0 (kindW k) := by
  obtain ⟨n, vs⟩ := k
  cases vs with
  | nil => exact absurd (show 1 ≤ 0 from h2) (by decide)
  | cons v vs =>
    have hv := name_ok (h3 v (List.mem_cons_self ..))
    have hn := name_ok h1
    have he : ("=" : Str) ∉ BAD := by decide +kernel
    have hk : ("kind" : Str) ∉ BAD := by decide +kernel
    have hl : lineN 0 (kindW (n, v :: vs)) = lineT (kindW (n, v :: vs)) := by
      unfold lineN
      rw [show Txt.mul "  " ((0 : Nat) : Int) = "" by decide +kernel, empty_str]
    rw [hl, TL.join_eq, join_bar]
    unfold lineT kindW
    have s0 : stepL ("", "") "kind" = (("kind" : Str), ("kind" : Str)) := by decide +kernel
    show _ = ((bars (v :: vs) ++ [(";" : Str)]).foldl stepL (stepL (stepL (stepL ("", "") "kind") n) "=")).1
    rw [s0, stepL_no hk hn, stepL_no hn he]
    have hb : ∀ X, (bars (v :: vs)).foldl stepL X = (vs.flatMap fun y => [("|" : Str), y]).foldl stepL (stepL X v) := fun X => rfl
    rw [List.foldl_append, hb, stepL_no he hv]
    have hf := fold_bar vs (("kind" : Str) ++ (" " ++ n) ++ (" " ++ "=") ++ (" " ++ v)) v hv fun y hy => h3 y (List.mem_cons_of_mem _ hy)
    obtain ⟨L, hL⟩ := fold_1 (vs.flatMap fun y => [("|" : Str), y]) (("kind" : Str) ++ (" " ++ n) ++ (" " ++ "=") ++ (" " ++ v), v)
    rw [hL, hf]
    show _ = (stepL _ ";").1
    unfold stepL
    rw [near_end]
    show _ = ("kind" : Str) ++ (" " ++ n) ++ (" " ++ "=") ++ (" " ++ v) ++ bar vs ++ ";"
    have e1 : ("kind " : Str) = ("kind" : Str) ++ " " := by decide +kernel
    have e2 : (" = " : Str) = (" " : Str) ++ "=" ++ " " := by decide +kernel
    rw [e1, e2]
    simp only [str_assoc]
end Wr
namespace K05
open PySem PySem.Spec L2 DL Syn
local macro_rules | `(tactic| walk_at "st") => `(tactic| simp only [start_def, List.map_cons, List.map_nil, List.length_cons, List.length_nil, List.cons_append, List.nil_append, Nat.zero_add, Nat.reduceAdd, Nat.reduceSub, List.replicate])
local macro_rules | `(tactic| walk_at "dl") => `(tactic| simp only [dSeq, dNext, dDrop, dRet, dRetF, dRetN, dIfS, dAsg, dAug, dPar, nGm, nTup, nCons, nNil, dVar, dC, dOp, dUn, dCons, dNil, dTup, dLst, dB, dTru, dAnd, dOr, dNot, dAndV, dOrV, dNotV, dIf, dChain, dCB, dCall, dSlE, dNoPart, dPart, dRev, dS0, dS1, dBL, dBL0, dIsi, dBreak, dCont, List.set_cons_zero, List.set_cons_succ, List.getElem?_cons_zero, List.getElem?_cons_succ, ifB_t, ifB_f, e_new_f, e_new_t, e_add_int, e_add_str, e_add_tup, e_add_lst, e_sub, e_mul, e_mul_str, e_mul_lst, e_div, e_mod, e_pow, e_neg, e_eq_int, e_eq_str, e_isN_non, e_isN_obj, e_isN_tup, e_isN_lst, e_lt_int, e_lt_str, e_le_int, e_le_str, e_gt, e_ge, e_in_str, e_t0, e_t1, e_t2, e_t3, e_t4, e_t5, e_l0, e_l1, e_l2, e_l3, e_sl_tup, e_sl_rdl, e_sl_str, e_sl_lst, e_len_str, e_len_lst, e_len_tup, e_int, e_tupC_tup, e_tupC_lst, e_iadd_int, e_iadd_str, e_isub, tru_bl, tru_int, tru_non, tru_lst, tru_tup, ex_some, bne_f, bne_t, e_nSub, lsD_lst, sz0, sz1, sz2, sz3, sz4, sz5, sz6, sz7, sz8, true_and])
def topS (i : Nat) : Stmt := PySem.Challenge.pw_outlived_k05_lines_of_a_text.main.body.getD i (.Pass ⟨0, 0, 0, 0⟩)
abbrev schain_of : Stmt := topS 1
abbrev Nchain_of : List Str := ["test", "word", "rows"]
abbrev Pchain_of : List Str := ["test"]
theorem scchain_of : FnScope Nchain_of Pchain_of (defScope schain_of) := ⟨rfl, rfl, rfl, by decide +kernel, rfl, by decide +kernel, by decide +kernel⟩
abbrev sis_small : Stmt := topS 4
abbrev Nis_small : List Str := ["sign"]
abbrev Pis_small : List Str := ["sign"]
theorem scis_small : FnScope Nis_small Pis_small (defScope sis_small) := ⟨rfl, rfl, rfl, by decide +kernel, rfl, by decide +kernel, by decide +kernel⟩
abbrev sis_great : Stmt := topS 5
abbrev Nis_great : List Str := ["sign"]
abbrev Pis_great : List Str := ["sign"]
theorem scis_great : FnScope Nis_great Pis_great (defScope sis_great) := ⟨rfl, rfl, rfl, by decide +kernel, rfl, by decide +kernel, by decide +kernel⟩
abbrev sline_of : Stmt := topS 8
abbrev Nline_of : List Str := ["deep", "words", "text", "last", "word"]
abbrev Pline_of : List Str := ["deep", "words"]
theorem scline_of : FnScope Nline_of Pline_of (defScope sline_of) := ⟨rfl, rfl, rfl, by decide +kernel, rfl, by decide +kernel, by decide +kernel⟩
abbrev s_is_name : Stmt := topS 9
abbrev N_is_name : List Str := ["word"]
abbrev P_is_name : List Str := ["word"]
theorem sc_is_name : FnScope N_is_name P_is_name (defScope s_is_name) := ⟨rfl, rfl, rfl, by decide +kernel, rfl, by decide +kernel, by decide +kernel⟩
abbrev swords_of : Stmt := topS 10
abbrev Nwords_of : List Str := ["tree", "left", "words", "part"]
abbrev Pwords_of : List Str := ["tree"]
theorem scwords_of : FnScope Nwords_of Pwords_of (defScope swords_of) := ⟨rfl, rfl, rfl, by decide +kernel, rfl, by decide +kernel, by decide +kernel⟩
abbrev s_opened : Stmt := topS 11
abbrev N_opened : List Str := ["tree", "word", "parts", "rows", "part"]
abbrev P_opened : List Str := ["tree"]
theorem sc_opened : FnScope N_opened P_opened (defScope s_opened) := ⟨rfl, rfl, rfl, by decide +kernel, rfl, by decide +kernel, by decide +kernel⟩
abbrev s_bracketed : Stmt := topS 12
abbrev N_bracketed : List Str := ["test", "words"]
abbrev P_bracketed : List Str := ["test", "words"]
theorem sc_bracketed : FnScope N_bracketed P_bracketed (defScope s_bracketed) := ⟨rfl, rfl, rfl, by decide +kernel, rfl, by decide +kernel, by decide +kernel⟩
abbrev sgivens_of : Stmt := topS 13
abbrev Ngivens_of : List Str := ["givens", "words", "at", "row"]
abbrev Pgivens_of : List Str := ["givens"]
theorem scgivens_of : FnScope Ngivens_of Pgivens_of (defScope sgivens_of) := ⟨rfl, rfl, rfl, by decide +kernel, rfl, by decide +kernel, by decide +kernel⟩
abbrev skind_line : Stmt := topS 14
abbrev Nkind_line : List Str := ["row", "words", "at", "word"]
abbrev Pkind_line : List Str := ["row"]
theorem sckind_line : FnScope Nkind_line Pkind_line (defScope skind_line) := ⟨rfl, rfl, rfl, by decide +kernel, rfl, by decide +kernel, by decide +kernel⟩
abbrev svar_line : Stmt := topS 15
abbrev Nvar_line : List Str := ["deep", "row"]
abbrev Pvar_line : List Str := ["deep", "row"]
theorem scvar_line : FnScope Nvar_line Pvar_line (defScope svar_line) := ⟨rfl, rfl, rfl, by decide +kernel, rfl, by decide +kernel, by decide +kernel⟩
abbrev splain_line : Stmt := topS 16
abbrev Nplain_line : List Str := ["deep", "deed", "words", "at", "value"]
abbrev Pplain_line : List Str := ["deep", "deed"]
theorem scplain_line : FnScope Nplain_line Pplain_line (defScope splain_line) := ⟨rfl, rfl, rfl, by decide +kernel, rfl, by decide +kernel, by decide +kernel⟩
abbrev sif_rows : Stmt := topS 17
abbrev Nif_rows : List Str := ["deep", "deed", "rows", "row"]
abbrev Pif_rows : List Str := ["deep", "deed"]
theorem scif_rows : FnScope Nif_rows Pif_rows (defScope sif_rows) := ⟨rfl, rfl, rfl, by decide +kernel, rfl, by decide +kernel, by decide +kernel⟩
abbrev sact_rows : Stmt := topS 18
abbrev Nact_rows : List Str := ["deep", "act", "head", "rows", "deed"]
abbrev Pact_rows : List Str := ["deep", "act"]
theorem scact_rows : FnScope Nact_rows Pact_rows (defScope sact_rows) := ⟨rfl, rfl, rfl, by decide +kernel, rfl, by decide +kernel, by decide +kernel⟩
abbrev smaker_rows : Stmt := topS 19
abbrev Nmaker_rows : List Str := ["deep", "maker", "rows", "row", "part"]
abbrev Pmaker_rows : List Str := ["deep", "maker"]
theorem scmaker_rows : FnScope Nmaker_rows Pmaker_rows (defScope smaker_rows) := ⟨rfl, rfl, rfl, by decide +kernel, rfl, by decide +kernel, by decide +kernel⟩
abbrev swrite : Stmt := topS 20
abbrev Nwrite : List Str := ["program", "rows", "row", "part", "left", "lines", "deep"]
abbrev Pwrite : List Str := ["program"]
theorem scwrite : FnScope Nwrite Pwrite (defScope swrite) := ⟨rfl, rfl, rfl, by decide +kernel, rfl, by decide +kernel, by decide +kernel⟩
abbrev s_law_draw : Stmt := topS 22
abbrev N_law_draw : List Str := ["script", "cell"]
abbrev P_law_draw : List Str := ["script"]
theorem sc_law_draw : FnScope N_law_draw P_law_draw (defScope s_law_draw) := ⟨rfl, rfl, rfl, by decide +kernel, rfl, by decide +kernel, by decide +kernel⟩
abbrev s_law_next : Stmt := topS 23
abbrev N_law_next : List Str := ["draw", "many", "cell", "digit"]
abbrev P_law_next : List Str := ["draw", "many"]
theorem sc_law_next : FnScope N_law_next P_law_next (defScope s_law_next) := ⟨rfl, rfl, rfl, by decide +kernel, rfl, by decide +kernel, by decide +kernel⟩
abbrev s_law_pick : Stmt := topS 24
abbrev N_law_pick : List Str := ["draw", "row"]
abbrev P_law_pick : List Str := ["draw", "row"]
theorem sc_law_pick : FnScope N_law_pick P_law_pick (defScope s_law_pick) := ⟨rfl, rfl, rfl, by decide +kernel, rfl, by decide +kernel, by decide +kernel⟩
abbrev s_law_words : Stmt := topS 25
abbrev N_law_words : List Str := []
abbrev P_law_words : List Str := []
theorem sc_law_words : FnScope N_law_words P_law_words (defScope s_law_words) := ⟨rfl, rfl, rfl, by decide +kernel, rfl, by decide +kernel, by decide +kernel⟩
abbrev s_law_spelled : Stmt := topS 26
abbrev N_law_spelled : List Str := ["draw", "great", "low", "signs", "text", "k"]
abbrev P_law_spelled : List Str := ["draw", "great"]
theorem sc_law_spelled : FnScope N_law_spelled P_law_spelled (defScope s_law_spelled) := ⟨rfl, rfl, rfl, by decide +kernel, rfl, by decide +kernel, by decide +kernel⟩
abbrev s_law_atom : Stmt := topS 27
abbrev N_law_atom : List Str := ["draw"]
abbrev P_law_atom : List Str := ["draw"]
theorem sc_law_atom : FnScope N_law_atom P_law_atom (defScope s_law_atom) := ⟨rfl, rfl, rfl, by decide +kernel, rfl, by decide +kernel, by decide +kernel⟩
abbrev s_law_value : Stmt := topS 28
abbrev N_law_value : List Str := ["draw", "deep"]
abbrev P_law_value : List Str := ["draw", "deep"]
theorem sc_law_value : FnScope N_law_value P_law_value (defScope s_law_value) := ⟨rfl, rfl, rfl, by decide +kernel, rfl, by decide +kernel, by decide +kernel⟩
abbrev s_law_test : Stmt := topS 29
abbrev N_law_test : List Str := ["draw", "deep", "what"]
abbrev P_law_test : List Str := ["draw", "deep"]
theorem sc_law_test : FnScope N_law_test P_law_test (defScope s_law_test) := ⟨rfl, rfl, rfl, by decide +kernel, rfl, by decide +kernel, by decide +kernel⟩
abbrev s_law_deeds : Stmt := topS 30
abbrev N_law_deeds : List Str := ["draw", "deep", "many", "deeds", "k", "what", "values", "n"]
abbrev P_law_deeds : List Str := ["draw", "deep", "many"]
theorem sc_law_deeds : FnScope N_law_deeds P_law_deeds (defScope s_law_deeds) := ⟨rfl, rfl, rfl, by decide +kernel, rfl, by decide +kernel, by decide +kernel⟩
abbrev s_law_givens : Stmt := topS 31
abbrev N_law_givens : List Str := ["draw", "k"]
abbrev P_law_givens : List Str := ["draw"]
theorem sc_law_givens : FnScope N_law_givens P_law_givens (defScope s_law_givens) := ⟨rfl, rfl, rfl, by decide +kernel, rfl, by decide +kernel, by decide +kernel⟩
abbrev s_law_vars : Stmt := topS 32
abbrev N_law_vars : List Str := ["draw", "many", "rows", "k"]
abbrev P_law_vars : List Str := ["draw", "many"]
theorem sc_law_vars : FnScope N_law_vars P_law_vars (defScope s_law_vars) := ⟨rfl, rfl, rfl, by decide +kernel, rfl, by decide +kernel, by decide +kernel⟩
abbrev s_law_parts : Stmt := topS 33
abbrev N_law_parts : List Str := ["draw", "deep", "many", "parts", "k", "name", "head"]
abbrev P_law_parts : List Str := ["draw", "deep", "many"]
theorem sc_law_parts : FnScope N_law_parts P_law_parts (defScope s_law_parts) := ⟨rfl, rfl, rfl, by decide +kernel, rfl, by decide +kernel, by decide +kernel⟩
abbrev s_law_program : Stmt := topS 34
abbrev N_law_program : List Str := ["draw", "kinds", "k", "name", "n"]
abbrev P_law_program : List Str := ["draw"]
theorem sc_law_program : FnScope N_law_program P_law_program (defScope s_law_program) := ⟨rfl, rfl, rfl, by decide +kernel, rfl, by decide +kernel, by decide +kernel⟩
abbrev s_law_commas : Stmt := topS 35
abbrev N_law_commas : List Str := ["rows", "row", "one"]
abbrev P_law_commas : List Str := ["rows"]
theorem sc_law_commas : FnScope N_law_commas P_law_commas (defScope s_law_commas) := ⟨rfl, rfl, rfl, by decide +kernel, rfl, by decide +kernel, by decide +kernel⟩
abbrev s_law_test_row : Stmt := topS 36
abbrev N_law_test_row : List Str := ["draw", "test", "least", "rank", "row", "pairs"]
abbrev P_law_test_row : List Str := ["draw", "test", "least"]
theorem sc_law_test_row : FnScope N_law_test_row P_law_test_row (defScope s_law_test_row) := ⟨rfl, rfl, rfl, by decide +kernel, rfl, by decide +kernel, by decide +kernel⟩
abbrev s_law_value_row : Stmt := topS 37
abbrev N_law_value_row : List Str := ["draw", "value", "row"]
abbrev P_law_value_row : List Str := ["draw", "value"]
theorem sc_law_value_row : FnScope N_law_value_row P_law_value_row (defScope s_law_value_row) := ⟨rfl, rfl, rfl, by decide +kernel, rfl, by decide +kernel, by decide +kernel⟩
abbrev s_law_deed_row : Stmt := topS 38
abbrev N_law_deed_row : List Str := ["draw", "deeds", "row", "deed", "value"]
abbrev P_law_deed_row : List Str := ["draw", "deeds"]
theorem sc_law_deed_row : FnScope N_law_deed_row P_law_deed_row (defScope s_law_deed_row) := ⟨rfl, rfl, rfl, by decide +kernel, rfl, by decide +kernel, by decide +kernel⟩
abbrev s_law_var_row : Stmt := topS 39
abbrev N_law_var_row : List Str := ["draw", "rows", "row", "one"]
abbrev P_law_var_row : List Str := ["draw", "rows"]
theorem sc_law_var_row : FnScope N_law_var_row P_law_var_row (defScope s_law_var_row) := ⟨rfl, rfl, rfl, by decide +kernel, rfl, by decide +kernel, by decide +kernel⟩
abbrev s_law_part_row : Stmt := topS 40
abbrev N_law_part_row : List Str := ["draw", "parts", "row", "part", "one"]
abbrev P_law_part_row : List Str := ["draw", "parts"]
theorem sc_law_part_row : FnScope N_law_part_row P_law_part_row (defScope s_law_part_row) := ⟨rfl, rfl, rfl, by decide +kernel, rfl, by decide +kernel, by decide +kernel⟩
abbrev s_law_tokens : Stmt := topS 41
abbrev N_law_tokens : List Str := ["draw", "program", "row", "one", "value"]
abbrev P_law_tokens : List Str := ["draw", "program"]
theorem sc_law_tokens : FnScope N_law_tokens P_law_tokens (defScope s_law_tokens) := ⟨rfl, rfl, rfl, by decide +kernel, rfl, by decide +kernel, by decide +kernel⟩
abbrev s_law_joined : Stmt := topS 42
abbrev N_law_joined : List Str := ["tokens", "text", "left", "token", "near"]
abbrev P_law_joined : List Str := ["tokens"]
theorem sc_law_joined : FnScope N_law_joined P_law_joined (defScope s_law_joined) := ⟨rfl, rfl, rfl, by decide +kernel, rfl, by decide +kernel, by decide +kernel⟩
abbrev s_law_deed_lines : Stmt := topS 43
abbrev N_law_deed_lines : List Str := ["deeds", "wide", "lines", "deed"]
abbrev P_law_deed_lines : List Str := ["deeds", "wide"]
theorem sc_law_deed_lines : FnScope N_law_deed_lines P_law_deed_lines (defScope s_law_deed_lines) := ⟨rfl, rfl, rfl, by decide +kernel, rfl, by decide +kernel, by decide +kernel⟩
abbrev s_law_var_lines : Stmt := topS 44
abbrev N_law_var_lines : List Str := ["rows", "wide", "one"]
abbrev P_law_var_lines : List Str := ["rows", "wide"]
theorem sc_law_var_lines : FnScope N_law_var_lines P_law_var_lines (defScope s_law_var_lines) := ⟨rfl, rfl, rfl, by decide +kernel, rfl, by decide +kernel, by decide +kernel⟩
abbrev s_law_part_lines : Stmt := topS 45
abbrev N_law_part_lines : List Str := ["parts", "wide", "lines", "part", "head", "one"]
abbrev P_law_part_lines : List Str := ["parts", "wide"]
theorem sc_law_part_lines : FnScope N_law_part_lines P_law_part_lines (defScope s_law_part_lines) := ⟨rfl, rfl, rfl, by decide +kernel, rfl, by decide +kernel, by decide +kernel⟩
abbrev s_law_written : Stmt := topS 46
abbrev N_law_written : List Str := ["program", "lines", "one", "line"]
abbrev P_law_written : List Str := ["program"]
theorem sc_law_written : FnScope N_law_written P_law_written (defScope s_law_written) := ⟨rfl, rfl, rfl, by decide +kernel, rfl, by decide +kernel, by decide +kernel⟩
abbrev slaw : Stmt := topS 47
abbrev Nlaw : List Str := ["script", "draw", "program", "other", "due"]
abbrev Plaw : List Str := ["script"]
theorem sclaw : FnScope Nlaw Plaw (defScope slaw) := ⟨rfl, rfl, rfl, by decide +kernel, rfl, by decide +kernel, by decide +kernel⟩
structure Txt (K : PySem.W.Frag) (mg : Str → Option Value) : Prop where
  STEP : ∃ t, mg "STEP" = some (.str "  " t)
  WORDS : GTup K mg "WORDS" ["kind", "var", "make", "act", "if", "then", "else", "do", "answer", "and", "or", "not"]
  isinstance : mg "isinstance" = none
  str : mg "str" = none
  enumerate : mg "enumerate" = none
  int : mg "int" = none
  len : mg "len" = none
  range : mg "range" = none
  tuple : mg "tuple" = none
section
variable {P : Program} {w : World} {K : PySem.W.Frag} {mg : Str → Option Value} {base : Heap}
def sp_draw : SpD := fun ds M Q _ => ∃ ns : List Int, ds = [.rdl ns] ∧ ns.length ≤ 63 ∧ ∀ a o, M a = none → DrawO o → Q (.obj a) (updM M a (.lst o))
def sp_next : SpD := fun ds M Q _ => ∃ a many, ds = [.obj a, .int many] ∧ 0 < many ∧ many < 1073741824 ∧ DrawAt M a ∧ ∀ n M', 0 ≤ n → n < many → DrN a M M' → Q (.int n) M'
theorem ok__law_draw (T : Txt K mg) {f : Addr} {fd : FuncData} (F : FunD K "_law_draw" "_law_draw" (defArgs s_law_draw) (defBody s_law_draw) (defScope s_law_draw) [] [] f fd) : FnOk P w K mg base CX0 (0 + 1) f fd P_law_draw (LSp K (sp_draw)) := by
  refine fnD0 F sc_law_draw (fun ds M Q E h => by first | (obtain ⟨rfl, _⟩ := h; rfl) | (obtain ⟨_, rfl, _⟩ := h; rfl) | (obtain ⟨_, _, rfl, _⟩ := h; rfl) | (obtain ⟨_, _, _, rfl, _⟩ := h; rfl) | (obtain ⟨_, _, _, _, rfl, _⟩ := h; rfl)) fun cdv A outer s H E F0 hr => ⟨_, (dss_one (ds_ret (de_lst (own := true) (da_cons (de_lc (own := false) (x := "cell") (j := 1) rfl sc_law_draw.nd (di_items (de_sl (own := false) (de_var (pv 0)) do_none (do_some de_int))) (blkOk_by (N := N_law_draw) (sc := defScope s_law_draw) (by decide +kernel)) (fun _ _ _ _ _ => pg_name (i := 1) sc_law_draw.nd rfl (by first | exact Or.inl rfl | exact Or.inr rfl)) (fun _ _ _ _ _ => (de_callTy cd_int rfl T.int (by decide +kernel) (da_cons (de_var (pv 1)) da_nil)))) (da_cons de_int (da_cons de_int (da_cons de_int da_nil))))))), fun ds M Q Ex h => ?_⟩
  obtain ⟨ns, rfl, hn, q⟩ := h
  walk_at "st"
  walk_at "dl"
  refine lc_pure ((cutL ns none (some 63)).map D.int) (fun d => d) (fun Kd hk => ?_) ?_ ?_ ?_
  · unfold dItems
    walk_at "dl"
    exact hk
  · rw [List.length_map]
    refine Nat.le_trans (show (cutL ns none (some ((63 : Nat) : Int))).length ≤ 63 from ?_) (by decide)
    rw [cut_to, List.length_take]
    exact Nat.min_le_left _ _
  · intro i d M2 Q2 hd _ q2
    rw [List.getElem?_map] at hd
    obtain ⟨n, _, rfl⟩ := Option.map_eq_some_iff.mp hd
    walk_at "dl"
    exact q2
  · walk_at "dl"
    refine fun a ha => Wk.here (q a _ ha ⟨cutL ns none (some 63), 0, 0, 41, ?_, by decide⟩)
    rw [List.map_id']
theorem ok__law_next (T : Txt K mg) {f : Addr} {fd : FuncData} (F : FunD K "_law_next" "_law_next" (defArgs s_law_next) (defBody s_law_next) (defScope s_law_next) [] [] f fd) : FnOk P w K mg base CX0 (0 + 1) f fd P_law_next (LSp K (sp_next)) := by
  refine fnD0 F sc_law_next (fun ds M Q E h => by first | (obtain ⟨rfl, _⟩ := h; rfl) | (obtain ⟨_, rfl, _⟩ := h; rfl) | (obtain ⟨_, _, rfl, _⟩ := h; rfl) | (obtain ⟨_, _, _, rfl, _⟩ := h; rfl) | (obtain ⟨_, _, _, _, rfl, _⟩ := h; rfl)) fun cdv A outer s H E F0 hr => ⟨_, (dss_cons (ds_if (dt_w (dw_and (dt_cmp (od_eq hr.units) (de_ix (de_var (pv 0)) de_int (fun _ _ => rfl)) de_int (nomark _)) (dw_and1 (dt_cmp (od_lt) (de_ix (de_var (pv 0)) de_int (fun _ _ => rfl)) (de_callB cd_len rfl T.len (by decide +kernel) (da_cons (de_ix (de_var (pv 0)) de_int (fun _ _ => rfl)) da_nil)) (nomark _))))) (dss_cons (ds_set (i := 2) sc_law_next.nd rfl (Or.inl rfl) (de_ix (de_ix (de_var (pv 0)) de_int (fun _ _ => rfl)) (de_ix (de_var (pv 0)) de_int (fun _ _ => rfl)) (fun _ _ => rfl)))
      (dss_cons (ds_asg (de_op (od_add (own := false)) (de_ix (de_var (pv 0)) de_int (fun _ _ => rfl)) de_int) (dg_sub (de_var (pv 0)) de_int))
      (dss_one (ds_if (dt_cmp (od_ge) (de_var (pv 2)) (de_op (od_pow) de_int de_int) (nomark _)) (dss_one (ds_asg (de_var (pv 2)) (dg_sub (de_var (pv 0)) de_int))) (dss_one (ds_asg (de_op (od_mod) (de_callTy cd_int rfl T.int (by decide +kernel) (da_cons (de_op (od_add (own := false)) (de_op (od_add (own := false)) (de_op (od_mul (own := false)) (de_ix (de_var (pv 0)) de_int (fun _ _ => rfl)) de_int) (de_op (od_mul (own := false)) (de_var (pv 2)) de_int)) de_int) da_nil)) de_int) (dg_sub (de_var (pv 0)) de_int))))))) dss_nil)
      (dss_cons (ds_if (dt_cmp (od_gt) (de_ix (de_var (pv 0)) de_int (fun _ _ => rfl)) de_int (nomark _)) (dss_cons (ds_set (i := 3) sc_law_next.nd rfl (Or.inl rfl) (de_op (od_mod) (de_callTy cd_int rfl T.int (by decide +kernel) (da_cons (de_ix (de_var (pv 0)) de_int (fun _ _ => rfl)) da_nil)) (de_var (pv 1))))
      (dss_cons (ds_asg (de_op (od_div) (de_ix (de_var (pv 0)) de_int (fun _ _ => rfl)) (de_var (pv 1))) (dg_sub (de_var (pv 0)) de_int))
      (dss_one (ds_ret (de_var (pv 3)))))) dss_nil)
      (dss_cons (ds_asg (de_op (od_mod) (de_callTy cd_int rfl T.int (by decide +kernel) (da_cons (de_op (od_add (own := false)) (de_op (od_mul (own := false)) (de_ix (de_var (pv 0)) de_int (fun _ _ => rfl)) de_int) de_int) da_nil)) de_int) (dg_sub (de_var (pv 0)) de_int))
      (dss_one (ds_ret (de_op (od_mod) (de_callTy cd_int rfl T.int (by decide +kernel) (da_cons (de_op (od_div) (de_op (od_mod) (de_callTy cd_int rfl T.int (by decide +kernel) (da_cons (de_op (od_mul (own := false)) (de_ix (de_var (pv 0)) de_int (fun _ _ => rfl)) de_int) da_nil)) de_int) de_int) da_nil)) (de_var (pv 1)))))))), fun ds M Q Ex h => ?_⟩
  obtain ⟨a, many, rfl, hm, hm2, ⟨o, ho, hO⟩, q⟩ := h
  walk_at "st"
  have e0 : M = updM M a (.lst o) := (updM_self ho).symm
  refine seq_tail (fun σ M' => ∃ c o', DrawO o' ∧ M' = updM M a (.lst o') ∧ σ = [some (.obj a), some (.int many), c, none]) ?_ ?_
  · rintro σ M' ⟨c, o', ⟨cells, at_, big, mix, rfl, h0⟩, rfl, rfl⟩
    have h1 : updM M a (.lst [.lst (cells.map D.int), .int at_, .int big, .int mix]) a = some (.lst [.lst (cells.map D.int), .int at_, .int big, .int mix]) := updM_same
    have done : ∀ (n : Int) (o : List D), DrawO o → 0 ≤ n → n < many → Wk Q (.int n) (updM (updM M a (.lst [.lst (cells.map D.int), .int at_, .int big, .int mix])) a (.lst o)) := fun n o hO h2 h3 => Wk.here (q n _ h2 h3 ⟨o, by rw [updM_updM], hO⟩)
    refine seq_tail (fun σ M' => σ = [some (.obj a), some (.int many), c, none] ∧ M' = updM M a (.lst [.lst (cells.map D.int), .int at_, .int big, .int mix])) ?_ ?_
    · rintro σ M' ⟨rfl, rfl⟩
      walk_at "dl"
      rw [e_o3 h1]
      walk_at "dl"
      refine ⟨.inr ⟨by decide, by decide⟩, by decide, a, _, 3, 3, rfl, rfl, h1, rfl, ?_⟩
      walk_at "dl"
      rw [e_o3 updM_same]
      walk_at "dl"
      refine ⟨.inr ⟨by decide, by decide⟩, by decide, ⟨by decide, by decide⟩, hm, done _ _ ⟨cells, at_, big, _, rfl, h0⟩ (Int.emod_nonneg _ (by omega)) (Int.emod_lt_of_pos _ hm)⟩
    · intro N hN
      walk_at "dl"
      rw [e_o2 h1]
      walk_at "dl"
      refine ifB (fun _ => ?_) (fun _ => hN _ _ ⟨rfl, rfl⟩)
      rw [e_o2 h1]
      walk_at "dl"
      refine ⟨hm, ?_⟩
      rw [e_o2 h1]
      walk_at "dl"
      refine ⟨⟨hm, hm2⟩, a, _, 2, 2, rfl, rfl, h1, rfl, ?_⟩
      exact done _ _ ⟨cells, at_, _, mix, rfl, h0⟩ (Int.emod_nonneg _ (by omega)) (Int.emod_lt_of_pos _ hm)
  · intro N hN
    obtain ⟨cells, at_, big, mix, rfl, h0⟩ := hO
    walk_at "dl"
    rw [e_o2 ho]
    walk_at "dl"
    refine ifB (fun _ => ?_) (fun _ => hN _ _ ⟨none, _, ⟨cells, at_, big, mix, rfl, h0⟩, e0, rfl⟩)
    rw [e_o1 ho]
    rw [e_o0 ho]
    walk_at "dl"
    refine ifB (fun hlt => ?_) (fun _ => hN _ _ ⟨none, _, ⟨cells, at_, big, mix, rfl, h0⟩, e0, rfl⟩)
    rw [e_o0 ho]
    rw [e_o1 ho]
    have hlt' : at_.toNat < cells.length := by
      have := of_decide_eq_true hlt
      rw [List.length_map] at this
      omega
    have ea : (at_.toNat : Int) = at_ := by omega
    have hx : (cells.map D.int)[at_.toNat]? = some (.int cells[at_.toNat]) := by
      rw [List.getElem?_map, List.getElem?_eq_getElem hlt'] <;> rfl
    rw [show dIx (.lst (cells.map D.int)) (.int at_) = dIx (.lst (cells.map D.int)) (.int (at_.toNat : Int)) by rw [ea]]
    refine e_ix (x := .lst (cells.map D.int)) rfl hx ?_
    generalize cells[at_.toNat] = cell
    rw [e_o1 ho]
    walk_at "dl"
    refine ⟨a, _, 1, 1, rfl, rfl, ho, rfl, ?_⟩
    refine ⟨by decide, ?_⟩
    have h1 : updM M a (.lst [.lst (cells.map D.int), .int (at_ + 1), .int big, .int mix]) a = some (.lst [.lst (cells.map D.int), .int (at_ + 1), .int big, .int mix]) := updM_same
    refine ifB (fun _ => ?_) (fun _ => ?_)
    · refine ⟨a, _, 2, 2, rfl, rfl, h1, rfl, ?_⟩
      exact hN _ _ ⟨_, _, ⟨cells, _, _, mix, rfl, by omega⟩, updM_updM, rfl⟩
    · show dIx (.obj a) (.int 3) (updM M a (.lst [.lst (cells.map D.int), .int (at_ + 1), .int big, .int mix])) _
      rw [e_o3 h1]
      walk_at "dl"
      refine ⟨.inr ⟨by decide, by decide⟩, .inr ⟨by decide, by decide⟩, by decide, a, _, 3, 3, rfl, rfl, h1, rfl, ?_⟩
      exact hN _ _ ⟨_, _, ⟨cells, _, big, _, rfl, by omega⟩, updM_updM, rfl⟩
def sp_pick : SpD := fun ds M Q _ => ∃ a x, ds = [.obj a, x] ∧ DrawAt M a ∧ ((∃ z, x = .str z ∧ 0 < z.length ∧ z.length ≤ sizeLine ∧ ∀ c M', c ∈ z.cps.toList → DrN a M M' → Q (.str ⟨#[c]⟩) M') ∨ (∃ xs, (x = .lst xs ∨ x = .tup xs) ∧ 0 < xs.length ∧ xs.length ≤ sizeLine ∧ ∀ d M', d ∈ xs → DrN a M M' → Q d M'))
theorem ok__law_pick (T : Txt K mg) {f : Addr} {fd : FuncData} (F : FunD K "_law_pick" "_law_pick" (defArgs s_law_pick) (defBody s_law_pick) (defScope s_law_pick) [] [] f fd) (h__law_next : Callee P w K mg base CX0 (1) "_law_next" P_law_next sp_next) : FnOk P w K mg base CX0 (1 + 1) f fd P_law_pick (LSp K (sp_pick)) := by
  refine fnD0 F sc_law_pick (fun ds M Q E h => by first | (obtain ⟨rfl, _⟩ := h; rfl) | (obtain ⟨_, rfl, _⟩ := h; rfl) | (obtain ⟨_, _, rfl, _⟩ := h; rfl) | (obtain ⟨_, _, _, rfl, _⟩ := h; rfl) | (obtain ⟨_, _, _, _, rfl, _⟩ := h; rfl)) fun cdv A outer s H E F0 hr => ⟨_, (dss_one (ds_ret (de_ix (de_var (pv 1)) (de_fn h__law_next (hr.mono (by omega)) rfl pass0 finX0 (da_cons (de_var (pv 0)) (da_cons (de_callB cd_len rfl T.len (by decide +kernel) (da_cons (de_var (pv 1)) da_nil)) da_nil))) (fun _ _ => rfl)))), fun ds M Q Ex h => ?_⟩
  obtain ⟨a, x, rfl, hD, q⟩ := h
  walk_at "st"
  walk_at "dl"
  rcases q with ⟨z, rfl, hz, hz2, q⟩ | ⟨xs, hx, hz, hz2, q⟩
  · rw [e_len_str]
    refine ⟨hz2, a, _, rfl, by omega, by have := sizeLine_eq; omega, hD, fun n M' h0 h1 hN => ?_⟩
    have hn : n.toNat < z.cps.toList.length := by
      have e : z.length = z.cps.toList.length := TL.len_tl z
      omega
    have en : n = (n.toNat : Int) := by omega
    rw [en]
    exact e_ix_str hz2 (List.getElem?_eq_getElem hn) (Wk.here (q _ _ (List.getElem_mem hn) hN))
  · have sq : ∀ M, sqD M x = some xs := fun M => by rcases hx with rfl | rfl <;> rfl
    rw [e_len (sq M)]
    refine ⟨a, _, rfl, by omega, by have := sizeLine_eq; omega, hD, fun n M' h0 h1 hN => ?_⟩
    have hn : n.toNat < xs.length := by omega
    have en : n = (n.toNat : Int) := by omega
    rw [en]
    exact e_ix (sq M') (List.getElem?_eq_getElem hn) (Wk.here (q _ _ (List.getElem_mem hn) hN))
def sp_words : SpD := fun ds M Q _ => ds = [] ∧ Q (.lst (WORDS.map D.str)) M
theorem split_words : Txt.split "kind var make act if then else do answer and or not" " " = WORDS := by decide +kernel
theorem ok__law_words (T : Txt K mg) {f : Addr} {fd : FuncData} (F : FunD K "_law_words" "_law_words" (defArgs s_law_words) (defBody s_law_words) (defScope s_law_words) [] [] f fd) : FnOk P w K mg base CX0 (0 + 1) f fd P_law_words (LSp K (sp_words)) := by
  refine fnD0 F sc_law_words (fun ds M Q E h => by first | (obtain ⟨rfl, _⟩ := h; rfl) | (obtain ⟨_, rfl, _⟩ := h; rfl) | (obtain ⟨_, _, rfl, _⟩ := h; rfl) | (obtain ⟨_, _, _, rfl, _⟩ := h; rfl) | (obtain ⟨_, _, _, _, rfl, _⟩ := h; rfl)) fun cdv A outer s H E F0 hr => ⟨_, (dss_one (ds_ret (de_s1 PySem.F.slot_str_split PySem.F.type_str_split (xs_split (own := false)) de_str de_str))), fun ds M Q Ex h => ?_⟩
  obtain ⟨rfl, q⟩ := h
  walk_at "st"
  walk_at "dl"
  refine ⟨by decide +kernel, by decide +kernel, ?_⟩
  rw [split_words]
  exact Wk.here q
def sp_spelled : SpD := fun ds M Q _ => ∃ a g, ds = [.obj a, .bl g] ∧ DrawAt M a ∧ ∀ s M', NameOk g s → DrN a M M' → Q (.str s) M'
theorem ok__law_spelled (T : Txt K mg) {f : Addr} {fd : FuncData} (F : FunD K "_law_spelled" "_law_spelled" (defArgs s_law_spelled) (defBody s_law_spelled) (defScope s_law_spelled) [] [] f fd) (h__law_next : Callee P w K mg base CX0 (1) "_law_next" P_law_next sp_next) (h__law_pick : Callee P w K mg base CX0 (2) "_law_pick" P_law_pick sp_pick) (h__law_words : Callee P w K mg base CX0 (1) "_law_words" P_law_words sp_words) : FnOk P w K mg base CX0 (2 + 1) f fd P_law_spelled (LSp K (sp_spelled)) := by
  refine fnD0 F sc_law_spelled (fun ds M Q E h => by first | (obtain ⟨rfl, _⟩ := h; rfl) | (obtain ⟨_, rfl, _⟩ := h; rfl) | (obtain ⟨_, _, rfl, _⟩ := h; rfl) | (obtain ⟨_, _, _, rfl, _⟩ := h; rfl) | (obtain ⟨_, _, _, _, rfl, _⟩ := h; rfl)) fun cdv A outer s H E F0 hr => ⟨_, (dss_cons (ds_set (i := 2) sc_law_spelled.nd rfl (Or.inl rfl) de_str)
      (dss_cons (ds_set (i := 3) sc_law_spelled.nd rfl (Or.inl rfl) (de_op (od_add (own := false)) (de_op (od_add (own := false)) (de_var (pv 2)) (de_s0 PySem.F.slot_str_upper PySem.F.type_str_upper xs_upper (de_var (pv 2)))) de_str))
      (dss_cons (ds_set (i := 4) sc_law_spelled.nd rfl (Or.inl rfl) (de_if (dt_tru (de_var (pv 1))) (de_ix (de_s0 PySem.F.slot_str_upper PySem.F.type_str_upper xs_upper (de_var (pv 2))) (de_fn h__law_next (hr.mono (by omega)) rfl pass0 finX0 (da_cons (de_var (pv 0)) (da_cons de_int da_nil))) (fun _ _ => rfl)) (de_ix (de_var (pv 2)) (de_fn h__law_next (hr.mono (by omega)) rfl pass0 finX0 (da_cons (de_var (pv 0)) (da_cons de_int da_nil))) (fun _ _ => rfl))))
      (dss_cons (ds_if (dt_w (dw_and (dt_not (dt_tru (de_var (pv 1)))) (dw_and1 (dt_cmp (od_eq hr.units) (de_fn h__law_next (hr.mono (by omega)) rfl pass0 finX0 (da_cons (de_var (pv 0)) (da_cons de_int da_nil))) de_int (nomark _))))) (dss_one (ds_set (i := 4) sc_law_spelled.nd rfl (Or.inl rfl) (de_op (od_add (own := false)) (de_fn h__law_pick (hr.mono (by omega)) rfl pass0 finX0 (da_cons (de_var (pv 0)) (da_cons (de_fn0 h__law_words (hr.mono (by omega)) rfl pass0 finX0) da_nil))) (de_ix (de_var (pv 3)) (de_fn h__law_next (hr.mono (by omega)) rfl pass0 finX0 (da_cons (de_var (pv 0)) (da_cons de_int da_nil))) (fun _ _ => rfl))))) dss_nil)
      (dss_cons (ds_for PassesOwn.never rfl (di_range1 rfl T.range (da_cons (de_fn h__law_next (hr.mono (by omega)) rfl pass0 finX0 (da_cons (de_var (pv 0)) (da_cons de_int da_nil))) da_nil)) (dg_name (pg_name (i := 5) sc_law_spelled.nd rfl (Or.inl rfl))) (dss_one (ds_set (i := 4) sc_law_spelled.nd rfl (Or.inl rfl) (de_op (od_add (own := false)) (de_var (pv 4)) (de_ix (de_var (pv 3)) (de_fn h__law_next (hr.mono (by omega)) rfl pass0 finX0 (da_cons (de_var (pv 0)) (da_cons de_int da_nil))) (fun _ _ => rfl))))))
      (dss_one (ds_ret (de_if (dt_cmp (od_in) (de_var (pv 4)) (de_fn0 h__law_words (hr.mono (by omega)) rfl pass0 finX0) rfl) (de_op (od_add (own := false)) (de_var (pv 4)) de_str) (de_var (pv 4)))))))))), fun ds M Q Ex h => ?_⟩
  obtain ⟨a, g, rfl, hD, q⟩ := h
  walk_at "st"
  have sigL : SIG.length ≤ sizeLine := by decide +kernel
  -- one further sign
  have sign : ∀ (M' : Mp) (Q' : DK), DrawAt M' a → (∀ c M2, rowC c = true → DrN a M' M2 → Q' (.str ⟨#[c]⟩) M2) → sp_next [D.obj a, D.int 63] M' (fun y M2 => dIx (.str SIG) y M2 Q') X0 := by
    intro M' Q' hD' hq
    refine ⟨a, 63, rfl, by decide, by decide, hD', fun n M2 h0 h1 hN => ?_⟩
    have hn : n.toNat < SIG.cps.toList.length := by
      have e : SIG.cps.toList.length = 63 := by decide +kernel
      omega
    rw [show n = (n.toNat : Int) by omega]
    exact e_ix_str sigL (List.getElem?_eq_getElem hn) (hq _ _ (sig_row _ (List.getElem_mem hn)) hN)
  refine seq_tail (fun σ M' => M' = M ∧ σ = [some (.obj a), some (.bl g), some (.str LOW), none, none, none]) ?_ (fun N hN => by walk_at "dl"; exact hN _ _ ⟨rfl, rfl⟩)
  rintro _ M0 ⟨e0, rfl⟩
  rw [e0]; clear e0 M0
  refine seq_tail (fun σ M' => M' = M ∧ σ = [some (.obj a), some (.bl g), some (.str LOW), some (.str SIG), none, none]) ?_ (fun N hN => ?_)
  rotate_left
  · walk_at "dl"
    refine ⟨by decide +kernel, ?_⟩
    rw [up_low]
    walk_at "dl"
    exact ⟨by decide +kernel, by decide +kernel, hN _ _ ⟨rfl, rfl⟩⟩
  rintro _ M0 ⟨e0, rfl⟩
  rw [e0]; clear e0 M0
  refine seq_tail (fun σ M' => DrN a M M' ∧ ∃ s, Txt0 g 1 s ∧ σ = [some (.obj a), some (.bl g), some (.str LOW), some (.str SIG), some (.str s), none]) ?_ (fun N hN => ?_)
  rotate_left
  · walk_at "dl"
    refine ifB (fun hg => ?_) (fun hg => ?_)
    · refine ⟨by decide +kernel, a, 26, rfl, by decide, by decide, hD, fun n M2 h0 h1 hN2 => ?_⟩
      rw [up_low]
      have hn : n.toNat < UP.cps.toList.length := by
        have e : UP.cps.toList.length = 26 := by decide +kernel
        omega
      rw [show n = (n.toNat : Int) by omega]
      refine e_ix_str (by decide +kernel) (List.getElem?_eq_getElem hn) (hN _ _ ⟨hN2, _, Txt0.one ?_, rfl⟩)
      rw [hg]
      exact up_great _ (List.getElem_mem hn)
    · refine ⟨a, 26, rfl, by decide, by decide, hD, fun n M2 h0 h1 hN2 => ?_⟩
      have hn : n.toNat < LOW.cps.toList.length := by
        have e : LOW.cps.toList.length = 26 := by decide +kernel
        omega
      rw [show n = (n.toNat : Int) by omega]
      refine e_ix_str (by decide +kernel) (List.getElem?_eq_getElem hn) (hN _ _ ⟨hN2, _, Txt0.one ?_, rfl⟩)
      rw [hg]
      exact low_small _ (List.getElem_mem hn)
  rintro _ M1 ⟨n1, s1, t1, rfl⟩
  refine seq_tail (fun σ M' => DrN a M M' ∧ ∃ s, Txt0 g 7 s ∧ σ = [some (.obj a), some (.bl g), some (.str LOW), some (.str SIG), some (.str s), none]) ?_ (fun N hN => ?_)
  rotate_left
  · have no : N [some (.obj a), some (.bl g), some (.str LOW), some (.str SIG), some (.str s1), none] M1 := hN _ _ ⟨n1, s1, t1.mono (by decide), rfl⟩
    walk_at "dl"
    refine ifB (fun hg => ?_) (fun _ => no)
    have eg : g = false := by simpa using hg
    subst eg
    refine ⟨a, 4, rfl, by decide, by decide, n1.at, fun n M2 h0 h1 hN2 => ?_⟩
    have n2 := n1.trans hN2
    walk_at "dl"
    refine ifB (fun _ => ?_) (fun _ => hN _ _ ⟨n2, s1, t1.mono (by decide), rfl⟩)
    refine ⟨rfl, ?_⟩
    refine ⟨a, _, rfl, n2.at, .inr ⟨WORDS.map D.str, .inl rfl, by decide, by decide, fun d M3 hd hN3 => ?_⟩⟩
    obtain ⟨x, hx, rfl⟩ := List.mem_map.mp hd
    have n3 := n2.trans hN3
    refine sign M3 _ n3.at fun c M4 hc hN4 => ?_
    walk_at "dl"
    have tx := (Txt0.word hx).app hc
    refine ⟨?_, hN _ _ ⟨n3.trans hN4, _, tx, rfl⟩⟩
    rw [← len_app]
    exact Nat.le_trans tx.len (by decide)
  rintro _ M2 ⟨n2, s2, t2, rfl⟩
  refine seq_tail (fun σ M' => DrN a M M' ∧ ∃ s c, Txt0 g 11 s ∧ σ = [some (.obj a), some (.bl g), some (.str LOW), some (.str SIG), some (.str s), c]) ?_ (fun N hN => ?_)
  rotate_left
  · refine for_gen (fun ds M' => ∃ k : Nat, k ≤ 3 ∧ ds = upto 0 k ∧ DrN a M M') (fun Kd hk => ?_) (fun ds i σ M' => DrN a M M' ∧ ds.length ≤ 3 ∧ ∃ s c, Txt0 g (7 + i) s ∧ σ = [some (.obj a), some (.bl g), some (.str LOW), some (.str SIG), some (.str s), c]) ?_ ?_ ?_
    · unfold dRange1
      walk_at "dl"
      refine ⟨a, 4, rfl, by decide, by decide, n2.at, fun n M3 h0 h1 hN3 => ?_⟩
      walk_at "dl"
      exact ⟨⟨by omega, by omega⟩, hk _ _ ⟨n.toNat, by omega, rfl, n2.trans hN3⟩⟩
    · rintro ds M' ⟨k, hk, rfl, hn⟩
      exact ⟨hn, by rw [upto_len]; exact hk, s2, none, t2, rfl⟩
    · rintro ds i d σ M' N' hd ⟨hn, hl, s, c, ts, rfl⟩ hN'
      have hi : i < ds.length := (List.getElem?_eq_some_iff.mp hd).1
      walk_at "dl"
      refine sign M' _ hn.at fun c M4 hc hN4 => ?_
      walk_at "dl"
      have tx := ts.app hc
      refine ⟨?_, hN' _ _ ⟨hn.trans hN4, hl, _, _, tx, rfl⟩⟩
      rw [← len_app]
      refine Nat.le_trans tx.len (Nat.le_trans (show 7 + i + 1 ≤ 11 by omega) (by decide))
    · rintro ds σ M' ⟨hn, hl, s, c, ts, rfl⟩
      exact hN _ _ ⟨hn, s, c, ts.mono (by omega), rfl⟩
  rintro _ M3 ⟨n3, s3, c3, t3, rfl⟩
  walk_at "dl"
  refine ⟨rfl, ?_⟩
  refine e_in (xs := WORDS) (.inr rfl) ?_
  walk_at "dl"
  refine ifB (fun _ => ?_) (fun hw => ?_)
  · have t := t3.name_
    refine ⟨?_, Wk.here (q _ _ t n3)⟩
    rw [← len_app]
    exact Nat.le_trans t.len (by decide)
  · exact Wk.here (q _ _ ((t3.mono (by decide)).name (of_decide_eq_false hw)) n3)
end
end K05
namespace K05
open PySem PySem.Spec L2 DL Syn
local macro_rules | `(tactic| walk_at "st") => `(tactic| simp only [start_def, List.map_cons, List.map_nil, List.length_cons, List.length_nil, List.cons_append, List.nil_append, Nat.zero_add, Nat.reduceAdd, Nat.reduceSub, List.replicate])
local macro_rules | `(tactic| walk_at "dl") => `(tactic| simp only [dSeq, dNext, dDrop, dRet, dRetF, dRetN, dIfS, dAsg, dAug, dPar, nGm, nTup, nCons, nNil, dVar, dC, dOp, dUn, dCons, dNil, dTup, dLst, dB, dTru, dAnd, dOr, dNot, dAndV, dOrV, dNotV, dIf, dChain, dCB, dCall, dSlE, dNoPart, dPart, dRev, dS0, dS1, dBL, dBL0, dIsi, dBreak, dCont, List.set_cons_zero, List.set_cons_succ, List.getElem?_cons_zero, List.getElem?_cons_succ, ifB_t, ifB_f, e_new_f, e_new_t, e_add_int, e_add_str, e_add_tup, e_add_lst, e_sub, e_mul, e_mul_str, e_mul_lst, e_div, e_mod, e_pow, e_neg, e_eq_int, e_eq_str, e_isN_non, e_isN_obj, e_isN_tup, e_isN_lst, e_lt_int, e_lt_str, e_le_int, e_le_str, e_gt, e_ge, e_in_str, e_t0, e_t1, e_t2, e_t3, e_t4, e_t5, e_l0, e_l1, e_l2, e_l3, e_sl_tup, e_sl_rdl, e_sl_str, e_sl_lst, e_len_str, e_len_lst, e_len_tup, e_int, e_tupC_tup, e_tupC_lst, e_iadd_int, e_iadd_str, e_isub, tru_bl, tru_int, tru_non, tru_lst, tru_tup, ex_some, bne_f, bne_t, e_nSub, lsD_lst, sz0, sz1, sz2, sz3, sz4, sz5, sz6, sz7, sz8, true_and])
section
variable {P : Program} {w : World} {K : PySem.W.Frag} {mg : Str → Option Value} {base : Heap}
def sp_atom : SpD := fun ds M Q _ => ∃ a, ds = [.obj a] ∧ DrawAt M a ∧ ∀ t M', Atom.ok t → DrN a M M' → Q t.d M'
def sp_test (n : Nat) : SpD := fun ds M Q _ => ∃ a d, ds = [.obj a, .int ((d : Nat) : Int)] ∧ d < n ∧ DrawAt M a ∧ ∀ t M', Tst.ok d t → DrN a M M' → Q t.d M'
def sp_value (n : Nat) : SpD := fun ds M Q _ => ∃ a d, ds = [.obj a, .int ((d : Nat) : Int)] ∧ d < n ∧ d < 4 ∧ DrawAt M a ∧ ∀ t M', Val.ok d t → DrN a M M' → Q t.d M'
def sp_deeds (n : Nat) : SpD := fun ds M Q _ => ∃ a d m, ds = [.obj a, .int ((d : Nat) : Int), .int ((m : Nat) : Int)] ∧ d < n ∧ m ≤ 3 ∧ DrawAt M a ∧ ∀ (xs : List Deed) M', xs.length ≤ m → (∀ x ∈ xs, Deed.ok d x) → DrN a M M' → Q (.tup (deedsD xs)) M'
def sp_givens : SpD := fun ds M Q _ => ∃ a, ds = [.obj a] ∧ DrawAt M a ∧ ∀ (gs : List Giv) M', GivOk gs → DrN a M M' → Q (.tup (gs.map givD)) M'
def sp_vars : SpD := fun ds M Q _ => ∃ a m, ds = [.obj a, .int ((m : Nat) : Int)] ∧ m ≤ 3 ∧ DrawAt M a ∧ ∀ (vs : List Vr) M', vs.length ≤ m → (∀ v ∈ vs, VrOk v) → DrN a M M' → Q (.tup (vs.map vrD)) M'
def sp_parts (n : Nat) : SpD := fun ds M Q _ => ∃ a d m, ds = [.obj a, .int ((d : Nat) : Int), .int ((m : Nat) : Int)] ∧ d < n ∧ m ≤ 3 ∧ DrawAt M a ∧ ∀ (xs : List Part) M', xs.length ≤ m → (∀ x ∈ xs, Part.ok d x) → DrN a M M' → Q (.tup (partsD xs)) M'
def sp_program : SpD := fun ds M Q _ => ∃ a, ds = [.obj a] ∧ DrawAt M a ∧ ∀ (p : Prg) M', p.ok → DrN a M M' → Q p.d M'
theorem next_small {n : Int} {m : Nat} (h0 : 0 ≤ n) (h1 : n < (m : Int)) : ∃ k : Nat, n = (k : Int) ∧ k < m := ⟨n.toNat, by omega, by omega⟩
theorem ok__law_atom (T : Txt K mg) {f : Addr} {fd : FuncData} (F : FunD K "_law_atom" "_law_atom" (defArgs s_law_atom) (defBody s_law_atom) (defScope s_law_atom) [] [] f fd) (h__law_next : Callee P w K mg base CX0 (1) "_law_next" P_law_next sp_next) (h__law_spelled : Callee P w K mg base CX0 (3) "_law_spelled" P_law_spelled sp_spelled) : FnOk P w K mg base CX0 (3 + 1) f fd P_law_atom (LSp K (sp_atom)) := by
  refine fnD0 F sc_law_atom (fun ds M Q E h => by first | (obtain ⟨rfl, _⟩ := h; rfl) | (obtain ⟨_, rfl, _⟩ := h; rfl) | (obtain ⟨_, _, rfl, _⟩ := h; rfl) | (obtain ⟨_, _, _, rfl, _⟩ := h; rfl) | (obtain ⟨_, _, _, _, rfl, _⟩ := h; rfl)) fun cdv A outer s H E F0 hr => ⟨_, (dss_cons (ds_if (dt_cmp (od_eq hr.units) (de_fn h__law_next (hr.mono (by omega)) rfl pass0 finX0 (da_cons (de_var (pv 0)) (da_cons de_int da_nil))) de_int (nomark _)) (dss_one (ds_ret (de_tup (da_cons de_str (da_cons (de_fn h__law_spelled (hr.mono (by omega)) rfl pass0 finX0 (da_cons (de_var (pv 0)) (da_cons de_bl da_nil))) da_nil))))) dss_nil)
      (dss_one (ds_ret (de_tup (da_cons de_str (da_cons (de_fn h__law_spelled (hr.mono (by omega)) rfl pass0 finX0 (da_cons (de_var (pv 0)) (da_cons de_bl da_nil))) da_nil)))))), fun ds M Q Ex h => ?_⟩
  obtain ⟨a, rfl, hD, q⟩ := h
  walk_at "st"
  walk_at "dl"
  refine ⟨a, 3, rfl, by decide, by decide, hD, fun n M1 h0 h1 hN => ?_⟩
  walk_at "dl"
  refine ifB (fun _ => ?_) (fun _ => ?_)
  · exact ⟨a, true, rfl, hN.at, fun s M2 hs hn => Wk.here (q (.vl s) _ hs (hN.trans hn))⟩
  · exact ⟨a, false, rfl, hN.at, fun s M2 hs hn => Wk.here (q (.nm s) _ hs (hN.trans hn))⟩
theorem Tst.ok_same {d : Nat} {x y : Atom} (h1 : x.ok) (h2 : y.ok) : Tst.ok d (.same x y) := by
  cases d <;> (unfold Tst.ok; exact ⟨h1, h2⟩)
theorem Val.ok_at {d : Nat} {x : Atom} (h1 : x.ok) : Val.ok d (.at x) := by
  cases d <;> (unfold Val.ok; exact h1)
variable {n : Nat}
theorem ok__law_test (T : Txt K mg) {f : Addr} {fd : FuncData} (F : FunD K "_law_test" "_law_test" (defArgs s_law_test) (defBody s_law_test) (defScope s_law_test) [] [] f fd) (h__law_next : Callee P w K mg base CX0 (1) "_law_next" P_law_next sp_next) (h__law_atom : Callee P w K mg base CX0 (4) "_law_atom" P_law_atom sp_atom) (h__law_test : Callee P w K mg base CX0 (4+n) "_law_test" P_law_test (sp_test n)) : FnOk P w K mg base CX0 (4+n + 1) f fd P_law_test (LSp K ((sp_test (n+1)))) := by
  refine fnD0 F sc_law_test (fun ds M Q E h => by first | (obtain ⟨rfl, _⟩ := h; rfl) | (obtain ⟨_, rfl, _⟩ := h; rfl) | (obtain ⟨_, _, rfl, _⟩ := h; rfl) | (obtain ⟨_, _, _, rfl, _⟩ := h; rfl) | (obtain ⟨_, _, _, _, rfl, _⟩ := h; rfl)) fun cdv A outer s H E F0 hr => ⟨_, (dss_cons (ds_set (i := 2) sc_law_test.nd rfl (Or.inl rfl) (de_fn h__law_next (hr.mono (by omega)) rfl pass0 finX0 (da_cons (de_var (pv 0)) (da_cons de_int da_nil))))
      (dss_cons (ds_if (dt_w (dw_or (dt_cmp (od_eq hr.units) (de_var (pv 1)) de_int (nomark _)) (dw_or1 (dt_cmp (od_lt) (de_var (pv 2)) de_int (nomark _))))) (dss_one (ds_ret (de_tup (da_cons de_str (da_cons (de_fn h__law_atom (hr.mono (by omega)) rfl pass0 finX0 (da_cons (de_var (pv 0)) da_nil)) (da_cons (de_fn h__law_atom (hr.mono (by omega)) rfl pass0 finX0 (da_cons (de_var (pv 0)) da_nil)) da_nil)))))) dss_nil)
      (dss_cons (ds_if (dt_cmp (od_eq hr.units) (de_var (pv 2)) de_int (nomark _)) (dss_one (ds_ret (de_tup (da_cons de_str (da_cons (de_fn h__law_test (hr.mono (by omega)) rfl pass0 finX0 (da_cons (de_var (pv 0)) (da_cons (de_op (od_sub) (de_var (pv 1)) de_int) da_nil))) da_nil))))) dss_nil)
      (dss_one (ds_ret (de_tup (da_cons (de_if (dt_cmp (od_lt) (de_var (pv 2)) de_int (nomark _)) de_str de_str) (da_cons (de_fn h__law_test (hr.mono (by omega)) rfl pass0 finX0 (da_cons (de_var (pv 0)) (da_cons (de_op (od_sub) (de_var (pv 1)) de_int) da_nil))) (da_cons (de_fn h__law_test (hr.mono (by omega)) rfl pass0 finX0 (da_cons (de_var (pv 0)) (da_cons (de_op (od_sub) (de_var (pv 1)) de_int) da_nil))) da_nil))))))))), fun ds M Q Ex h => ?_⟩
  obtain ⟨a, d, rfl, hd, hD, q⟩ := h
  walk_at "st"
  refine seq_tail (fun σ M' => DrN a M M' ∧ ∃ z : Nat, σ = [some (.obj a), some (.int d), some (.int z)]) ?_ (fun N hN => ?_)
  rotate_left
  · walk_at "dl"
    refine ⟨a, 7, rfl, by decide, by decide, hD, fun z M1 h0 h1 n1 => ?_⟩
    obtain ⟨z, rfl, _⟩ := next_small (m := 7) h0 h1
    exact hN _ _ ⟨n1, z, rfl⟩
  rintro _ M1 ⟨n1, z, rfl⟩
  have same : sp_atom [.obj a] M1 (fun x M2 => sp_atom [.obj a] M2 (fun y M3 => Wk Q (.tup [.str "same", x, y]) M3) X0) X0 :=
    ⟨a, rfl, n1.at, fun x M2 hx n2 => ⟨a, rfl, n2.at, fun y M3 hy n3 => Wk.here (q (.same x y) _ (Tst.ok_same hx hy) (n1.trans (n2.trans n3)))⟩⟩
  walk_at "dl"
  refine ifB (fun _ => same) (fun h1 => ?_)
  obtain ⟨e, rfl⟩ : ∃ e, d = e + 1 := ⟨d - 1, by have := of_decide_eq_false h1; omega⟩
  have dn : ∀ M (Q : DK), DrawAt M a → (∀ t M', Tst.ok e t → DrN a M M' → Q t.d M') → sp_test n [.obj a, .int (((e + 1 : Nat) : Int) - 1)] M Q X0 := fun M Q hD q => ⟨a, e, by rw [show ((e + 1 : Nat) : Int) - 1 = e by omega], by omega, hD, q⟩
  refine ifB (fun _ => same) (fun _ => ?_)
  refine ifB (fun _ => ?_) (fun _ => ?_)
  · exact dn _ _ n1.at fun t M2 ht n2 => Wk.here (q (.neg t) _ (by unfold Tst.ok; exact ht) (n1.trans n2))
  · refine ifB (fun _ => ?_) (fun _ => ?_)
    · exact dn _ _ n1.at fun t M2 ht n2 => dn _ _ n2.at fun u M3 hu n3 => Wk.here (q (.con t u) _ (by unfold Tst.ok; exact ⟨ht, hu⟩) (n1.trans (n2.trans n3)))
    · exact dn _ _ n1.at fun t M2 ht n2 => dn _ _ n2.at fun u M3 hu n3 => Wk.here (q (.dis t u) _ (by unfold Tst.ok; exact ⟨ht, hu⟩) (n1.trans (n2.trans n3)))
theorem ok__law_value (T : Txt K mg) {f : Addr} {fd : FuncData} (F : FunD K "_law_value" "_law_value" (defArgs s_law_value) (defBody s_law_value) (defScope s_law_value) [] [] f fd) (h__law_next : Callee P w K mg base CX0 (1) "_law_next" P_law_next sp_next) (h__law_atom : Callee P w K mg base CX0 (4) "_law_atom" P_law_atom sp_atom) (h__law_test : Callee P w K mg base CX0 (8) "_law_test" P_law_test (sp_test 4)) (h__law_value : Callee P w K mg base CX0 (8+n) "_law_value" P_law_value (sp_value n)) : FnOk P w K mg base CX0 (8+n + 1) f fd P_law_value (LSp K ((sp_value (n+1)))) := by
  refine fnD0 F sc_law_value (fun ds M Q E h => by first | (obtain ⟨rfl, _⟩ := h; rfl) | (obtain ⟨_, rfl, _⟩ := h; rfl) | (obtain ⟨_, _, rfl, _⟩ := h; rfl) | (obtain ⟨_, _, _, rfl, _⟩ := h; rfl) | (obtain ⟨_, _, _, _, rfl, _⟩ := h; rfl)) fun cdv A outer s H E F0 hr => ⟨_, (dss_cons (ds_if (dt_w (dw_or (dt_cmp (od_eq hr.units) (de_var (pv 1)) de_int (nomark _)) (dw_or1 (dt_cmp (od_gt) (de_fn h__law_next (hr.mono (by omega)) rfl pass0 finX0 (da_cons (de_var (pv 0)) (da_cons de_int da_nil))) de_int (nomark _))))) (dss_one (ds_ret (de_fn h__law_atom (hr.mono (by omega)) rfl pass0 finX0 (da_cons (de_var (pv 0)) da_nil)))) dss_nil)
      (dss_one (ds_ret (de_tup (da_cons de_str (da_cons (de_fn h__law_test (hr.mono (by omega)) rfl pass0 finX0 (da_cons (de_var (pv 0)) (da_cons (de_var (pv 1)) da_nil))) (da_cons (de_fn h__law_value (hr.mono (by omega)) rfl pass0 finX0 (da_cons (de_var (pv 0)) (da_cons (de_op (od_sub) (de_var (pv 1)) de_int) da_nil))) (da_cons (de_fn h__law_value (hr.mono (by omega)) rfl pass0 finX0 (da_cons (de_var (pv 0)) (da_cons (de_op (od_sub) (de_var (pv 1)) de_int) da_nil))) da_nil)))))))), fun ds M Q Ex h => ?_⟩
  obtain ⟨a, d, rfl, hd, hd4, hD, q⟩ := h
  walk_at "st"
  have at_ : ∀ M1, DrN a M M1 → sp_atom [.obj a] M1 (Wk Q) X0 := fun M1 n1 => ⟨a, rfl, n1.at, fun x M2 hx n2 => Wk.here (q (.at x) _ (Val.ok_at hx) (n1.trans n2))⟩
  walk_at "dl"
  refine ifB (fun _ => at_ M (.refl hD)) (fun h1 => ?_)
  obtain ⟨e, rfl⟩ : ∃ e, d = e + 1 := ⟨d - 1, by have := of_decide_eq_false h1; omega⟩
  have dn : ∀ M (Q : DK), DrawAt M a → (∀ t M', Val.ok e t → DrN a M M' → Q t.d M') → sp_value n [.obj a, .int (((e + 1 : Nat) : Int) - 1)] M Q X0 := fun M Q hD q => ⟨a, e, by rw [show ((e + 1 : Nat) : Int) - 1 = e by omega], by omega, by omega, hD, q⟩
  refine ⟨a, 3, rfl, by decide, by decide, hD, fun z M1 h0 h1 n1 => ?_⟩
  walk_at "dl"
  refine ifB (fun _ => at_ M1 n1) (fun _ => ?_)
  refine ⟨a, e + 1, rfl, hd4, n1.at, fun t M2 ht n2 => ?_⟩
  have n2 := n1.trans n2
  exact dn _ _ n2.at fun x M3 hx n3 => dn _ _ (n2.trans n3).at fun y M4 hy n4 => Wk.here (q (.ite t x y) _ (by unfold Val.ok; exact ⟨ht, hx, hy⟩) (n2.trans (n3.trans n4)))
theorem ok__law_givens (T : Txt K mg) {f : Addr} {fd : FuncData} (F : FunD K "_law_givens" "_law_givens" (defArgs s_law_givens) (defBody s_law_givens) (defScope s_law_givens) [] [] f fd) (h__law_next : Callee P w K mg base CX0 (1) "_law_next" P_law_next sp_next) (h__law_spelled : Callee P w K mg base CX0 (3) "_law_spelled" P_law_spelled sp_spelled) : FnOk P w K mg base CX0 (3 + 1) f fd P_law_givens (LSp K (sp_givens)) := by
  refine fnD0 F sc_law_givens (fun ds M Q E h => by first | (obtain ⟨rfl, _⟩ := h; rfl) | (obtain ⟨_, rfl, _⟩ := h; rfl) | (obtain ⟨_, _, rfl, _⟩ := h; rfl) | (obtain ⟨_, _, _, rfl, _⟩ := h; rfl) | (obtain ⟨_, _, _, _, rfl, _⟩ := h; rfl)) fun cdv A outer s H E F0 hr => ⟨_, (dss_one (ds_ret (de_callTy cd_tuple rfl T.tuple (by decide +kernel) (da_cons (de_lc (own := false) (x := "k") (j := 1) rfl sc_law_givens.nd (di_range1 rfl T.range (da_cons (de_fn h__law_next (hr.mono (by omega)) rfl pass0 finX0 (da_cons (de_var (pv 0)) (da_cons de_int da_nil))) da_nil)) (blkOk_by (N := N_law_givens) (sc := defScope s_law_givens) (by decide +kernel)) (fun _ _ _ _ _ => pg_name (i := 1) sc_law_givens.nd rfl (by first | exact Or.inl rfl | exact Or.inr rfl)) (fun _ _ _ _ _ => (de_tup (da_cons (de_fn h__law_spelled (hr.mono (by omega)) rfl pass0 finX0 (da_cons (de_var (pv 0)) (da_cons de_bl da_nil))) (da_cons (de_fn h__law_spelled (hr.mono (by omega)) rfl pass0 finX0 (da_cons (de_var (pv 0)) (da_cons de_bl da_nil))) da_nil))))) da_nil)))), fun ds M Q Ex h => ?_⟩
  obtain ⟨a, rfl, hD, q⟩ := h
  walk_at "st"
  walk_at "dl"
  refine lc_draw (a := a) (fun m => m ≤ 3) (fun y => ∃ g : Giv, y = givD g ∧ NameOk false g.1 ∧ NameOk true g.2) (fun m hm => Nat.le_trans hm (by decide)) (fun Kd hk => ?_) ?_ ?_
  · unfold dRange1
    walk_at "dl"
    refine ⟨a, 4, rfl, by decide, by decide, hD, fun z M1 h0 h1 n1 => ?_⟩
    obtain ⟨z, rfl, hz⟩ := next_small (m := 4) h0 h1
    exact ⟨⟨by omega, by omega⟩, hk _ _ (by omega) n1⟩
  · intro d M1 Q' hD' hq
    walk_at "dl"
    exact ⟨a, false, rfl, hD', fun s M2 hs n2 => ⟨a, true, rfl, n2.at, fun u M3 hu n3 => hq _ _ ⟨(s, u), rfl, hs, hu⟩ (n2.trans n3)⟩⟩
  · intro acc M2 hP hm n2
    obtain ⟨gs, rfl, hg⟩ := row_of hP
    rw [List.length_map] at hm
    walk_at "dl"
    exact Wk.here (q gs _ ⟨hm, hg⟩ n2)
theorem ok__law_vars (T : Txt K mg) {f : Addr} {fd : FuncData} (F : FunD K "_law_vars" "_law_vars" (defArgs s_law_vars) (defBody s_law_vars) (defScope s_law_vars) [] [] f fd) (h__law_next : Callee P w K mg base CX0 (1) "_law_next" P_law_next sp_next) (h__law_spelled : Callee P w K mg base CX0 (3) "_law_spelled" P_law_spelled sp_spelled) (h__law_value : Callee P w K mg base CX0 (11) "_law_value" P_law_value (sp_value 3)) : FnOk P w K mg base CX0 (11 + 1) f fd P_law_vars (LSp K (sp_vars)) := by
  refine fnD0 F sc_law_vars (fun ds M Q E h => by first | (obtain ⟨rfl, _⟩ := h; rfl) | (obtain ⟨_, rfl, _⟩ := h; rfl) | (obtain ⟨_, _, rfl, _⟩ := h; rfl) | (obtain ⟨_, _, _, rfl, _⟩ := h; rfl) | (obtain ⟨_, _, _, _, rfl, _⟩ := h; rfl)) fun cdv A outer s H E F0 hr => ⟨_, (dss_cons (ds_set (i := 2) sc_law_vars.nd rfl (Or.inl rfl) (de_lst (own := true) da_nil))
      (dss_cons (ds_for PassesOwn.never rfl (di_range1 rfl T.range (da_cons (de_fn h__law_next (hr.mono (by omega)) rfl pass0 finX0 (da_cons (de_var (pv 0)) (da_cons (de_op (od_add (own := false)) (de_var (pv 1)) de_int) da_nil))) da_nil)) (dg_name (pg_name (i := 3) sc_law_vars.nd rfl (Or.inl rfl))) (dss_one (ds_expr (de_bl1 PySem.F.slot_list_append PySem.F.type_list_append md_append (de_var (pv 2)) (da_cons (de_tup (da_cons (de_fn h__law_spelled (hr.mono (by omega)) rfl pass0 finX0 (da_cons (de_var (pv 0)) (da_cons de_bl da_nil))) (da_cons (de_fn h__law_spelled (hr.mono (by omega)) rfl pass0 finX0 (da_cons (de_var (pv 0)) (da_cons de_bl da_nil))) (da_cons (de_fn h__law_value (hr.mono (by omega)) rfl pass0 finX0 (da_cons (de_var (pv 0)) (da_cons de_int da_nil))) da_nil)))) da_nil)))))
      (dss_one (ds_ret (de_callTy cd_tuple rfl T.tuple (by decide +kernel) (da_cons (de_var (pv 2)) da_nil)))))), fun ds M Q Ex h => ?_⟩
  obtain ⟨a, m, rfl, hm, hD, q⟩ := h
  walk_at "st"
  refine seq_tail (fun σ M' => ∃ p, M p = none ∧ M' = updM M p (.lst []) ∧ σ = [some (.obj a), some (.int m), some (.obj p), none]) ?_ (fun N hN => by walk_at "dl"; exact fun p hp => hN _ _ ⟨p, hp, rfl, rfl⟩)
  rintro _ M0 ⟨p, hp, e0, rfl⟩
  rw [e0]; clear e0 M0
  refine seq_tail (fun σ M' => ∃ acc M2 c, (∀ y ∈ acc, ∃ v : Vr, y = vrD v ∧ VrOk v) ∧ acc.length ≤ m ∧ DrN a M M2 ∧ M2 p = none ∧ M' = updM M2 p (.lst acc) ∧ σ = [some (.obj a), some (.int m), some (.obj p), c]) ?_ (fun N hN => ?_)
  · rintro _ M0 ⟨acc, M2, c, hP, hl, n2, hp2, e0, rfl⟩
    rw [e0]; clear e0 M0
    obtain ⟨vs, rfl, hv⟩ := row_of hP
    walk_at "dl"
    rw [e_tupC_obj updM_same]
    rw [List.length_map] at hl
    exact Wk.drop hp2 (q vs _ hl hv n2)
  · refine for_draw (a := a) (fun k => k ≤ m) (fun y => ∃ v : Vr, y = vrD v ∧ VrOk v) (fun σ => ∃ c, σ = [some (.obj a), some (.int m), some (.obj p), c]) (fun k hk => Nat.le_trans hk (Nat.le_trans hm (by decide))) hD hp ⟨_, rfl⟩ (fun Kd hk => ?_) ?_ ?_
    · unfold dRange1
      walk_at "dl"
      refine ⟨a, _, rfl, by omega, by omega, hD.upd hp, fun z M1 h0 h1 n1 => ?_⟩
      obtain ⟨z, rfl, hz⟩ := next_small (m := m + 1) h0 (by omega)
      obtain ⟨M2, rfl, n2⟩ := n1.off (hD.ne hp)
      exact ⟨⟨by omega, by omega⟩, hk _ _ (by omega) n2⟩
    · rintro d σ M1 acc N' ⟨c, rfl⟩ hM hD1 hl hn
      walk_at "dl"
      refine ⟨isLst_of hM, a, false, rfl, hD1, fun s M2 hs n2 => ⟨a, true, rfl, n2.at, fun u M3 hu n3 => ?_⟩⟩
      have n3 := n2.trans n3
      refine ⟨a, 2, rfl, by decide, by decide, n3.at, fun v M4 hv n4 => ?_⟩
      have n4 := n3.trans n4
      dsimp only
      rw [e_append (n4.keep (hD.ne hp) hM)]
      exact ⟨hl, hn _ (vrD (s, u, v)) _ ⟨_, rfl⟩ ⟨(s, u, v), rfl, hs, hu, hv⟩ n4⟩
    · rintro σ acc M2 ⟨c, rfl⟩ hP hk n2 hp2
      exact hN _ _ ⟨acc, M2, c, hP, hk, n2, hp2, rfl, rfl⟩
theorem Deed.ok_set {d : Nat} {n : Str} {v : Val} (h1 : NameOk false n) (h2 : v.ok 2) : Deed.ok d (.set n v) := by
  cases d <;> (unfold Deed.ok; exact ⟨h1, h2⟩)
theorem Deed.ok_doo {d : Nat} {n f : Str} {vs : List Val} (h1 : NameOk false n) (h2 : NameOk false f) (h3 : vs.length ≤ 3) (h4 : ∀ v ∈ vs, Val.ok 1 v) : Deed.ok d (.doo n f vs) := by
  cases d <;> (unfold Deed.ok; exact ⟨h1, h2, h3, h4⟩)
theorem Part.ok_act {d : Nat} {n : Str} {gs : List Giv} {k : Str} {ds : List Deed} {v : Val} (h1 : NameOk false n) (h2 : GivOk gs) (h3 : NameOk true k) (h4 : ds.length ≤ 3) (h5 : ∀ x ∈ ds, Deed.ok 2 x) (h6 : v.ok 2) : Part.ok d (.act n gs k ds v) := by
  cases d <;> (unfold Part.ok; exact ⟨h1, h2, h3, h4, h5, h6⟩)
theorem ok__law_deeds (T : Txt K mg) {f : Addr} {fd : FuncData} (F : FunD K "_law_deeds" "_law_deeds" (defArgs s_law_deeds) (defBody s_law_deeds) (defScope s_law_deeds) [] [] f fd) (h__law_next : Callee P w K mg base CX0 (1) "_law_next" P_law_next sp_next) (h__law_spelled : Callee P w K mg base CX0 (3) "_law_spelled" P_law_spelled sp_spelled) (h__law_value : Callee P w K mg base CX0 (11) "_law_value" P_law_value (sp_value 3)) (h__law_test : Callee P w K mg base CX0 (8) "_law_test" P_law_test (sp_test 4)) (h__law_deeds : Callee P w K mg base CX0 (11+n) "_law_deeds" P_law_deeds (sp_deeds n)) : FnOk P w K mg base CX0 (11+n + 1) f fd P_law_deeds (LSp K ((sp_deeds (n+1)))) := by
  refine fnD0 F sc_law_deeds (fun ds M Q E h => by first | (obtain ⟨rfl, _⟩ := h; rfl) | (obtain ⟨_, rfl, _⟩ := h; rfl) | (obtain ⟨_, _, rfl, _⟩ := h; rfl) | (obtain ⟨_, _, _, rfl, _⟩ := h; rfl) | (obtain ⟨_, _, _, _, rfl, _⟩ := h; rfl)) fun cdv A outer s H E F0 hr => ⟨_, (dss_cons (ds_set (i := 3) sc_law_deeds.nd rfl (Or.inl rfl) (de_lst (own := true) da_nil))
      (dss_cons (ds_for PassesOwn.never rfl (di_range1 rfl T.range (da_cons (de_fn h__law_next (hr.mono (by omega)) rfl pass0 finX0 (da_cons (de_var (pv 0)) (da_cons (de_op (od_add (own := false)) (de_var (pv 2)) de_int) da_nil))) da_nil)) (dg_name (pg_name (i := 4) sc_law_deeds.nd rfl (Or.inl rfl))) (dss_cons (ds_set (i := 5) sc_law_deeds.nd rfl (Or.inl rfl) (de_fn h__law_next (hr.mono (by omega)) rfl pass0 finX0 (da_cons (de_var (pv 0)) (da_cons de_int da_nil))))
      (dss_one (ds_if (dt_w (dw_and (dt_cmp (od_eq hr.units) (de_var (pv 5)) de_int (nomark _)) (dw_and1 (dt_cmp (od_gt) (de_var (pv 1)) de_int (nomark _))))) (dss_one (ds_expr (de_bl1 PySem.F.slot_list_append PySem.F.type_list_append md_append (de_var (pv 3)) (da_cons (de_tup (da_cons de_str (da_cons (de_fn h__law_test (hr.mono (by omega)) rfl pass0 finX0 (da_cons (de_var (pv 0)) (da_cons de_int da_nil))) (da_cons (de_fn h__law_deeds (hr.mono (by omega)) rfl pass0 finX0 (da_cons (de_var (pv 0)) (da_cons (de_op (od_sub) (de_var (pv 1)) de_int) (da_cons de_int da_nil)))) (da_cons (de_fn h__law_deeds (hr.mono (by omega)) rfl pass0 finX0 (da_cons (de_var (pv 0)) (da_cons (de_op (od_sub) (de_var (pv 1)) de_int) (da_cons de_int da_nil)))) da_nil))))) da_nil)))) (dss_one (ds_if (dt_cmp (od_eq hr.units) (de_var (pv 5)) de_int (nomark _)) (dss_cons (ds_set (i := 6) sc_law_deeds.nd rfl (Or.inl rfl) (de_callTy cd_tuple rfl T.tuple (by decide +kernel) (da_cons (de_lc (own := false) (x := "n") (j := 7) rfl sc_law_deeds.nd (di_range1 rfl T.range (da_cons (de_fn h__law_next (hr.mono (by omega)) rfl pass0 finX0 (da_cons (de_var (pv 0)) (da_cons de_int da_nil))) da_nil)) (blkOk_by (N := N_law_deeds) (sc := defScope s_law_deeds) (by decide +kernel)) (fun _ _ _ _ _ => pg_name (i := 7) sc_law_deeds.nd rfl (by first | exact Or.inl rfl | exact Or.inr rfl)) (fun _ _ _ _ _ => (de_fn h__law_value (hr.mono (by omega)) rfl pass0 finX0 (da_cons (de_var (pv 0)) (da_cons de_int da_nil))))) da_nil)))
      (dss_one (ds_expr (de_bl1 PySem.F.slot_list_append PySem.F.type_list_append md_append (de_var (pv 3)) (da_cons (de_tup (da_cons de_str (da_cons (de_fn h__law_spelled (hr.mono (by omega)) rfl pass0 finX0 (da_cons (de_var (pv 0)) (da_cons de_bl da_nil))) (da_cons (de_fn h__law_spelled (hr.mono (by omega)) rfl pass0 finX0 (da_cons (de_var (pv 0)) (da_cons de_bl da_nil))) (da_cons (de_var (pv 6)) da_nil))))) da_nil))))) (dss_one (ds_expr (de_bl1 PySem.F.slot_list_append PySem.F.type_list_append md_append (de_var (pv 3)) (da_cons (de_tup (da_cons de_str (da_cons (de_fn h__law_spelled (hr.mono (by omega)) rfl pass0 finX0 (da_cons (de_var (pv 0)) (da_cons de_bl da_nil))) (da_cons (de_fn h__law_value (hr.mono (by omega)) rfl pass0 finX0 (da_cons (de_var (pv 0)) (da_cons de_int da_nil))) da_nil)))) da_nil))))))))))
      (dss_one (ds_ret (de_callTy cd_tuple rfl T.tuple (by decide +kernel) (da_cons (de_var (pv 3)) da_nil)))))), fun ds M Q Ex h => ?_⟩
  obtain ⟨a, d, m, rfl, hd, hm, hD, q⟩ := h
  walk_at "st"
  refine seq_tail (fun σ M' => ∃ p, M p = none ∧ M' = updM M p (.lst []) ∧ σ = [some (.obj a), some (.int d), some (.int m), some (.obj p), none, none, none, none]) ?_ (fun N hN => by walk_at "dl"; exact fun p hp => hN _ _ ⟨p, hp, rfl, rfl⟩)
  rintro _ M0 ⟨p, hp, e0, rfl⟩
  rw [e0]; clear e0 M0
  have ne := hD.ne hp
  refine seq_tail (fun σ M' => ∃ acc M2 c e f g, (∀ y ∈ acc, ∃ v : Deed, y = v.d ∧ Deed.ok d v) ∧ acc.length ≤ m ∧ DrN a M M2 ∧ M2 p = none ∧ M' = updM M2 p (.lst acc) ∧ σ = [some (.obj a), some (.int d), some (.int m), some (.obj p), c, e, f, g]) ?_ (fun N hN => ?_)
  · rintro _ M0 ⟨acc, M2, c, e, f, g, hP, hl, n2, hp2, e0, rfl⟩
    rw [e0]; clear e0 M0
    obtain ⟨vs, rfl, hv⟩ := row_of hP
    walk_at "dl"
    rw [e_tupC_obj updM_same]
    rw [List.length_map] at hl
    rw [← deedsD_map]
    exact Wk.drop hp2 (q vs _ hl hv n2)
  · refine for_draw (a := a) (fun k => k ≤ m) (fun y => ∃ v : Deed, y = v.d ∧ Deed.ok d v) (fun σ => ∃ c e f g, σ = [some (.obj a), some (.int d), some (.int m), some (.obj p), c, e, f, g]) (fun k hk => Nat.le_trans hk (Nat.le_trans hm (by decide))) hD hp ⟨_, _, _, _, rfl⟩ (fun Kd hk => ?_) ?_ ?_
    · unfold dRange1
      walk_at "dl"
      refine ⟨a, _, rfl, by omega, by omega, hD.upd hp, fun z M1 h0 h1 n1 => ?_⟩
      obtain ⟨z, rfl, hz⟩ := next_small (m := m + 1) h0 (by omega)
      obtain ⟨M2, rfl, n2⟩ := n1.off ne
      exact ⟨⟨by omega, by omega⟩, hk _ _ (by omega) n2⟩
    · rintro x σ M1 acc N' ⟨c, e, f, g, rfl⟩ hM hD1 hl hn
      refine seq_tail (fun σ M' => DrN a M1 M' ∧ ∃ z : Nat, σ = [some (.obj a), some (.int d), some (.int m), some (.obj p), some x, some (.int z), f, g]) ?_ (fun N hN => ?_)
      rotate_left
      · walk_at "dl"
        refine ⟨a, 4, rfl, by decide, by decide, hD1, fun z M2 h0 h1 n1 => ?_⟩
        obtain ⟨z, rfl, _⟩ := next_small (m := 4) h0 h1
        exact hN _ _ ⟨n1, z, rfl⟩
      rintro _ M2 ⟨n2, z, rfl⟩
      have last : ∀ {y : Deed} {M3 : Mp} (f g : Option D), Deed.ok d y → DrN a M1 M3 → dAppend (D.obj p) [y.d] M3 fun x' M1 => N' [some (D.obj a), some (D.int d), some (D.int m), some (D.obj p), some x, some (.int z), f, g] M1 := by
        intro y M3 f g hy n3
        rw [e_append (n3.keep ne hM)]
        exact ⟨hl, hn _ y.d _ ⟨_, _, _, _, rfl⟩ ⟨y, rfl, hy⟩ n3⟩
      have io : isLst (.obj p) M2 := isLst_of (n2.keep ne hM)
      walk_at "dl"
      rw [ifB_and]
      refine ifB (fun hb => ?_) (fun _ => ?_)
      · have hd0 : 0 < d := by
          have := of_decide_eq_true (Bool.and_eq_true_iff.mp hb).2
          omega
        obtain ⟨e, rfl⟩ : ∃ e, d = e + 1 := ⟨d - 1, by omega⟩
        refine ⟨io, a, 2, rfl, by decide, n2.at, fun t M3 ht n3 => ?_⟩
        have n3 := n2.trans n3
        refine ⟨a, e, 2, by rw [show ((e + 1 : Nat) : Int) - 1 = e by omega]; rfl, by omega, by decide, n3.at, fun xs M4 hx1 hx2 n4 => ?_⟩
        have n4 := n3.trans n4
        refine ⟨a, e, 1, by rw [show ((e + 1 : Nat) : Int) - 1 = e by omega]; rfl, by omega, by decide, n4.at, fun ys M5 hy1 hy2 n5 => ?_⟩
        exact last (y := .ite t xs ys) f g (by unfold Deed.ok; exact ⟨ht, hx1, hx2, hy1, hy2⟩) (n4.trans n5)
      · refine ifB (fun _ => ?_) (fun _ => ?_)
        · refine lc_draw (a := a) (fun m => m ≤ 3) (fun y => ∃ v : Val, y = v.d ∧ Val.ok 1 v) (fun m hm => Nat.le_trans hm (by decide)) (fun Kd hk => ?_) ?_ ?_
          · unfold dRange1
            walk_at "dl"
            refine ⟨a, 4, rfl, by decide, by decide, n2.at, fun z M3 h0 h1 n3 => ?_⟩
            obtain ⟨z, rfl, hz⟩ := next_small (m := 4) h0 h1
            exact ⟨⟨by omega, by omega⟩, hk _ _ (by omega) n3⟩
          · intro d' M3 Q' hD' hq
            walk_at "dl"
            exact ⟨a, 1, rfl, by decide, by decide, hD', fun v M4 hv n4 => hq _ _ ⟨v, rfl, hv⟩ n4⟩
          · intro acc' M3 hP' hm' n3
            have n3 := n2.trans n3
            obtain ⟨vs, rfl, hv⟩ := row_of hP'
            rw [List.length_map] at hm'
            walk_at "dl"
            refine ⟨isLst_of (n3.keep ne hM), a, false, rfl, n3.at, fun s M4 hs n4 => ?_⟩
            have n4 := n3.trans n4
            refine ⟨a, false, rfl, n4.at, fun u M5 hu n5 => ?_⟩
            exact last (y := .doo s u vs) _ g (Deed.ok_doo hs hu hm' hv) (n4.trans n5)
        · refine ⟨io, a, false, rfl, n2.at, fun s M3 hs n3 => ?_⟩
          have n3 := n2.trans n3
          refine ⟨a, 2, rfl, by decide, by decide, n3.at, fun v M4 hv n4 => ?_⟩
          exact last (y := .set s v) f g (Deed.ok_set hs hv) (n3.trans n4)
    · rintro σ acc M2 ⟨c, e, f, g, rfl⟩ hP hk n2 hp2
      exact hN _ _ ⟨acc, M2, c, e, f, g, hP, hk, n2, hp2, rfl, rfl⟩
theorem ok__law_parts (T : Txt K mg) {f : Addr} {fd : FuncData} (F : FunD K "_law_parts" "_law_parts" (defArgs s_law_parts) (defBody s_law_parts) (defScope s_law_parts) [] [] f fd) (h__law_next : Callee P w K mg base CX0 (1) "_law_next" P_law_next sp_next) (h__law_spelled : Callee P w K mg base CX0 (3) "_law_spelled" P_law_spelled sp_spelled) (h__law_givens : Callee P w K mg base CX0 (4) "_law_givens" P_law_givens sp_givens) (h__law_value : Callee P w K mg base CX0 (11) "_law_value" P_law_value (sp_value 3)) (h__law_vars : Callee P w K mg base CX0 (12) "_law_vars" P_law_vars sp_vars) (h__law_deeds : Callee P w K mg base CX0 (14) "_law_deeds" P_law_deeds (sp_deeds 3)) (h__law_parts : Callee P w K mg base CX0 (14+n) "_law_parts" P_law_parts (sp_parts n)) : FnOk P w K mg base CX0 (14+n + 1) f fd P_law_parts (LSp K ((sp_parts (n+1)))) := by
  refine fnD0 F sc_law_parts (fun ds M Q E h => by first | (obtain ⟨rfl, _⟩ := h; rfl) | (obtain ⟨_, rfl, _⟩ := h; rfl) | (obtain ⟨_, _, rfl, _⟩ := h; rfl) | (obtain ⟨_, _, _, rfl, _⟩ := h; rfl) | (obtain ⟨_, _, _, _, rfl, _⟩ := h; rfl)) fun cdv A outer s H E F0 hr => ⟨_, (dss_cons (ds_set (i := 3) sc_law_parts.nd rfl (Or.inl rfl) (de_lst (own := true) da_nil))
      (dss_cons (ds_for PassesOwn.never rfl (di_range1 rfl T.range (da_cons (de_fn h__law_next (hr.mono (by omega)) rfl pass0 finX0 (da_cons (de_var (pv 0)) (da_cons (de_op (od_add (own := false)) (de_var (pv 2)) de_int) da_nil))) da_nil)) (dg_name (pg_name (i := 4) sc_law_parts.nd rfl (Or.inl rfl))) (dss_one (ds_if (dt_w (dw_and (dt_cmp (od_gt) (de_var (pv 1)) de_int (nomark _)) (dw_and1 (dt_cmp (od_eq hr.units) (de_fn h__law_next (hr.mono (by omega)) rfl pass0 finX0 (da_cons (de_var (pv 0)) (da_cons de_int da_nil))) de_int (nomark _))))) (dss_cons (ds_set (i := 5) sc_law_parts.nd rfl (Or.inl rfl) (de_fn h__law_spelled (hr.mono (by omega)) rfl pass0 finX0 (da_cons (de_var (pv 0)) (da_cons de_bl da_nil))))
      (dss_one (ds_expr (de_bl1 PySem.F.slot_list_append PySem.F.type_list_append md_append (de_var (pv 3)) (da_cons (de_tup (da_cons de_str (da_cons (de_var (pv 5)) (da_cons (de_fn h__law_givens (hr.mono (by omega)) rfl pass0 finX0 (da_cons (de_var (pv 0)) da_nil)) (da_cons (de_fn h__law_vars (hr.mono (by omega)) rfl pass0 finX0 (da_cons (de_var (pv 0)) (da_cons de_int da_nil))) (da_cons (de_fn h__law_parts (hr.mono (by omega)) rfl pass0 finX0 (da_cons (de_var (pv 0)) (da_cons (de_op (od_sub) (de_var (pv 1)) de_int) (da_cons de_int da_nil)))) da_nil)))))) da_nil))))) (dss_cons (ds_set (i := 5) sc_law_parts.nd rfl (Or.inl rfl) (de_fn h__law_spelled (hr.mono (by omega)) rfl pass0 finX0 (da_cons (de_var (pv 0)) (da_cons de_bl da_nil))))
      (dss_cons (ds_set (i := 6) sc_law_parts.nd rfl (Or.inl rfl) (de_tup (da_cons de_str (da_cons (de_var (pv 5)) (da_cons (de_fn h__law_givens (hr.mono (by omega)) rfl pass0 finX0 (da_cons (de_var (pv 0)) da_nil)) (da_cons (de_fn h__law_spelled (hr.mono (by omega)) rfl pass0 finX0 (da_cons (de_var (pv 0)) (da_cons de_bl da_nil))) da_nil))))))
      (dss_one (ds_expr (de_bl1 PySem.F.slot_list_append PySem.F.type_list_append md_append (de_var (pv 3)) (da_cons (de_op (od_add (own := false)) (de_var (pv 6)) (de_tup (da_cons (de_fn h__law_deeds (hr.mono (by omega)) rfl pass0 finX0 (da_cons (de_var (pv 0)) (da_cons de_int (da_cons de_int da_nil)))) (da_cons (de_fn h__law_value (hr.mono (by omega)) rfl pass0 finX0 (da_cons (de_var (pv 0)) (da_cons de_int da_nil))) da_nil)))) da_nil)))))))))
      (dss_one (ds_ret (de_callTy cd_tuple rfl T.tuple (by decide +kernel) (da_cons (de_var (pv 3)) da_nil)))))), fun ds M Q Ex h => ?_⟩
  obtain ⟨a, d, m, rfl, hd, hm, hD, q⟩ := h
  walk_at "st"
  refine seq_tail (fun σ M' => ∃ p, M p = none ∧ M' = updM M p (.lst []) ∧ σ = [some (.obj a), some (.int d), some (.int m), some (.obj p), none, none, none]) ?_ (fun N hN => by walk_at "dl"; exact fun p hp => hN _ _ ⟨p, hp, rfl, rfl⟩)
  rintro _ M0 ⟨p, hp, e0, rfl⟩
  rw [e0]; clear e0 M0
  have ne := hD.ne hp
  refine seq_tail (fun σ M' => ∃ acc M2 c e f, (∀ y ∈ acc, ∃ v : Part, y = v.d ∧ Part.ok d v) ∧ acc.length ≤ m ∧ DrN a M M2 ∧ M2 p = none ∧ M' = updM M2 p (.lst acc) ∧ σ = [some (.obj a), some (.int d), some (.int m), some (.obj p), c, e, f]) ?_ (fun N hN => ?_)
  · rintro _ M0 ⟨acc, M2, c, e, f, hP, hl, n2, hp2, e0, rfl⟩
    rw [e0]; clear e0 M0
    obtain ⟨vs, rfl, hv⟩ := row_of hP
    walk_at "dl"
    rw [e_tupC_obj updM_same]
    rw [List.length_map] at hl
    rw [← partsD_map]
    exact Wk.drop hp2 (q vs _ hl hv n2)
  · refine for_draw (a := a) (fun k => k ≤ m) (fun y => ∃ v : Part, y = v.d ∧ Part.ok d v) (fun σ => ∃ c e f, σ = [some (.obj a), some (.int d), some (.int m), some (.obj p), c, e, f]) (fun k hk => Nat.le_trans hk (Nat.le_trans hm (by decide))) hD hp ⟨_, _, _, rfl⟩ (fun Kd hk => ?_) ?_ ?_
    · unfold dRange1
      walk_at "dl"
      refine ⟨a, _, rfl, by omega, by omega, hD.upd hp, fun z M1 h0 h1 n1 => ?_⟩
      obtain ⟨z, rfl, hz⟩ := next_small (m := m + 1) h0 (by omega)
      obtain ⟨M2, rfl, n2⟩ := n1.off ne
      exact ⟨⟨by omega, by omega⟩, hk _ _ (by omega) n2⟩
    · rintro x σ M1 acc N' ⟨c, e, f, rfl⟩ hM hD1 hl hn
      have last : ∀ {y : Part} {M3 : Mp} (e f : Option D), Part.ok d y → DrN a M1 M3 → dAppend (D.obj p) [y.d] M3 fun x' M1 => N' [some (D.obj a), some (D.int d), some (D.int m), some (D.obj p), some x, e, f] M1 := by
        intro y M3 e f hy n3
        rw [e_append (n3.keep ne hM)]
        exact ⟨hl, hn _ y.d _ ⟨_, _, _, rfl⟩ ⟨y, rfl, hy⟩ n3⟩
      have act : ∀ M2, DrN a M1 M2 → sp_spelled [.obj a, .bl false] M2 (fun y M3 => sp_givens [.obj a] M3 (fun g M4 => sp_spelled [.obj a, .bl true] M4 (fun k M5 => isLst (.obj p) M5 ∧ sp_deeds 3 [.obj a, .int 2, .int 3] M5 (fun ds M6 => sp_value 3 [.obj a, .int 2] M6 (fun v M7 => dAppend (D.obj p) [.tup [.str "act", y, g, k, ds, v]] M7 fun x' M1 => N' [some (D.obj a), some (D.int d), some (D.int m), some (D.obj p), some x, some y, some (.tup [.str "act", y, g, k])] M1) X0) X0) X0) X0) X0 := by
        intro M2 n2
        refine ⟨a, false, rfl, n2.at, fun s M3 hs n3 => ?_⟩
        have n3 := n2.trans n3
        refine ⟨a, rfl, n3.at, fun gs M4 hg n4 => ?_⟩
        have n4 := n3.trans n4
        refine ⟨a, true, rfl, n4.at, fun k M5 hk n5 => ?_⟩
        have n5 := n4.trans n5
        refine ⟨isLst_of (n5.keep ne hM), a, 2, 3, rfl, by decide, by decide, n5.at, fun ds M6 hd1 hd2 n6 => ?_⟩
        have n6 := n5.trans n6
        refine ⟨a, 2, rfl, by decide, by decide, n6.at, fun v M7 hv n7 => ?_⟩
        exact last (y := .act s gs k ds v) _ _ (Part.ok_act hs hg hk hd1 hd2 hv) (n6.trans n7)
      have add : ∀ (a b c d e f : D), ([a, b, c, d].length + [e, f].length ≤ sizeLine) = True := fun _ _ _ _ _ _ => eq_true (by show 6 ≤ sizeLine; decide)
      walk_at "dl"
      refine ifB (fun hb => ?_) (fun _ => ?_)
      rotate_left
      · simp only [add, true_and, List.cons_append, List.nil_append]
        exact act M1 (.refl hD1)
      have hd0 : 0 < d := by
        have := of_decide_eq_true hb
        omega
      obtain ⟨e', rfl⟩ : ∃ e, d = e + 1 := ⟨d - 1, by omega⟩
      refine ⟨a, 2, rfl, by decide, by decide, hD1, fun z M2 h0 h1 n2 => ?_⟩
      walk_at "dl"
      simp only [add, true_and, List.cons_append, List.nil_append]
      refine ifB (fun hb => ?_) (fun _ => act M2 n2)
      refine ⟨a, true, rfl, n2.at, fun s M3 hs n3 => ?_⟩
      have n3 := n2.trans n3
      refine ⟨isLst_of (n3.keep ne hM), a, rfl, n3.at, fun gs M4 hg n4 => ?_⟩
      have n4 := n3.trans n4
      refine ⟨a, 2, rfl, by decide, n4.at, fun vs M5 hv1 hv2 n5 => ?_⟩
      have n5 := n4.trans n5
      refine ⟨a, e', 2, by rw [show ((e' + 1 : Nat) : Int) - 1 = e' by omega]; rfl, by omega, by decide, n5.at, fun xs M6 hx1 hx2 n6 => ?_⟩
      exact last (y := .make s gs vs xs) _ f (by unfold Part.ok; exact ⟨hs, hg, hv1, hv2, hx1, hx2⟩) (n5.trans n6)
    · rintro σ acc M2 ⟨c, e, f, rfl⟩ hP hk n2 hp2
      exact hN _ _ ⟨acc, M2, c, e, f, hP, hk, n2, hp2, rfl, rfl⟩
theorem ok__law_program (T : Txt K mg) {f : Addr} {fd : FuncData} (F : FunD K "_law_program" "_law_program" (defArgs s_law_program) (defBody s_law_program) (defScope s_law_program) [] [] f fd) (h__law_next : Callee P w K mg base CX0 (1) "_law_next" P_law_next sp_next) (h__law_spelled : Callee P w K mg base CX0 (3) "_law_spelled" P_law_spelled sp_spelled) (h__law_vars : Callee P w K mg base CX0 (12) "_law_vars" P_law_vars sp_vars) (h__law_parts : Callee P w K mg base CX0 (18) "_law_parts" P_law_parts (sp_parts 4)) : FnOk P w K mg base CX0 (18 + 1) f fd P_law_program (LSp K (sp_program)) := by
  refine fnD0 F sc_law_program (fun ds M Q E h => by first | (obtain ⟨rfl, _⟩ := h; rfl) | (obtain ⟨_, rfl, _⟩ := h; rfl) | (obtain ⟨_, _, rfl, _⟩ := h; rfl) | (obtain ⟨_, _, _, rfl, _⟩ := h; rfl) | (obtain ⟨_, _, _, _, rfl, _⟩ := h; rfl)) fun cdv A outer s H E F0 hr => ⟨_, (dss_cons (ds_set (i := 1) sc_law_program.nd rfl (Or.inl rfl) (de_lst (own := true) da_nil))
      (dss_cons (ds_for PassesOwn.never rfl (di_range1 rfl T.range (da_cons (de_fn h__law_next (hr.mono (by omega)) rfl pass0 finX0 (da_cons (de_var (pv 0)) (da_cons de_int da_nil))) da_nil)) (dg_name (pg_name (i := 2) sc_law_program.nd rfl (Or.inl rfl))) (dss_cons (ds_set (i := 3) sc_law_program.nd rfl (Or.inl rfl) (de_fn h__law_spelled (hr.mono (by omega)) rfl pass0 finX0 (da_cons (de_var (pv 0)) (da_cons de_bl da_nil))))
      (dss_one (ds_expr (de_bl1 PySem.F.slot_list_append PySem.F.type_list_append md_append (de_var (pv 1)) (da_cons (de_tup (da_cons (de_var (pv 3)) (da_cons (de_callTy cd_tuple rfl T.tuple (by decide +kernel) (da_cons (de_lc (own := false) (x := "n") (j := 4) rfl sc_law_program.nd (di_range1 rfl T.range (da_cons (de_op (od_add (own := false)) de_int (de_fn h__law_next (hr.mono (by omega)) rfl pass0 finX0 (da_cons (de_var (pv 0)) (da_cons de_int da_nil)))) da_nil)) (blkOk_by (N := N_law_program) (sc := defScope s_law_program) (by decide +kernel)) (fun _ _ _ _ _ => pg_name (i := 4) sc_law_program.nd rfl (by first | exact Or.inl rfl | exact Or.inr rfl)) (fun _ _ _ _ _ => (de_fn h__law_spelled (hr.mono (by omega)) rfl pass0 finX0 (da_cons (de_var (pv 0)) (da_cons de_bl da_nil))))) da_nil)) da_nil))) da_nil))))))
      (dss_one (ds_ret (de_tup (da_cons de_str (da_cons (de_callTy cd_tuple rfl T.tuple (by decide +kernel) (da_cons (de_var (pv 1)) da_nil)) (da_cons (de_fn h__law_vars (hr.mono (by omega)) rfl pass0 finX0 (da_cons (de_var (pv 0)) (da_cons de_int da_nil))) (da_cons (de_fn h__law_parts (hr.mono (by omega)) rfl pass0 finX0 (da_cons (de_var (pv 0)) (da_cons de_int (da_cons de_int da_nil)))) da_nil))))))))), fun ds M Q Ex h => ?_⟩
  obtain ⟨a, rfl, hD, q⟩ := h
  walk_at "st"
  refine seq_tail (fun σ M' => ∃ p, M p = none ∧ M' = updM M p (.lst []) ∧ σ = [some (.obj a), some (.obj p), none, none, none]) ?_ (fun N hN => by walk_at "dl"; exact fun p hp => hN _ _ ⟨p, hp, rfl, rfl⟩)
  rintro _ M0 ⟨p, hp, e0, rfl⟩
  rw [e0]; clear e0 M0
  have ne := hD.ne hp
  refine seq_tail (fun σ M' => ∃ acc M2 c e f, (∀ y ∈ acc, ∃ v : Str × List Str, y = kindD v ∧ NameOk true v.1 ∧ 1 ≤ v.2.length ∧ v.2.length ≤ 5 ∧ ∀ x ∈ v.2, NameOk true x) ∧ acc.length ≤ 3 ∧ DrN a M M2 ∧ M2 p = none ∧ M' = updM M2 p (.lst acc) ∧ σ = [some (.obj a), some (.obj p), c, e, f]) ?_ (fun N hN => ?_)
  · rintro _ M0 ⟨acc, M2, c, e, f, hP, hl, n2, hp2, e0, rfl⟩
    rw [e0]; clear e0 M0
    obtain ⟨ks, rfl, hk⟩ := row_of hP
    walk_at "dl"
    rw [e_tupC_obj updM_same]
    rw [List.length_map] at hl
    refine ⟨a, 3, rfl, by decide, n2.at.upd hp2, fun vs M3 hv1 hv2 n3 => ?_⟩
    obtain ⟨M3, rfl, n5⟩ := n3.off ne
    refine ⟨a, 3, 3, rfl, by decide, by decide, (n2.trans n5).at.upd (n5.none n2.at hp2), fun ps M4 hp1 hp2' n4 => ?_⟩
    obtain ⟨M4, rfl, n6⟩ := n4.off ne
    exact Wk.drop (n6.none n5.at (n5.none n2.at hp2)) (q ⟨ks, vs, ps⟩ _ ⟨hl, hk, hv1, hv2, hp1, hp2'⟩ (n2.trans (n5.trans n6)))
  · refine for_draw (a := a) (fun k => k ≤ 3) (fun y => ∃ v : Str × List Str, y = kindD v ∧ NameOk true v.1 ∧ 1 ≤ v.2.length ∧ v.2.length ≤ 5 ∧ ∀ x ∈ v.2, NameOk true x) (fun σ => ∃ c e f, σ = [some (.obj a), some (.obj p), c, e, f]) (fun k hk => Nat.le_trans hk (by decide)) hD hp ⟨_, _, _, rfl⟩ (fun Kd hk => ?_) ?_ ?_
    · unfold dRange1
      walk_at "dl"
      refine ⟨a, _, rfl, by omega, by omega, hD.upd hp, fun z M1 h0 h1 n1 => ?_⟩
      obtain ⟨z, rfl, hz⟩ := next_small (m := 4) h0 (by omega)
      obtain ⟨M2, rfl, n2⟩ := n1.off ne
      exact ⟨⟨by omega, by omega⟩, hk _ _ (by omega) n2⟩
    · rintro x σ M1 acc N' ⟨c, e, f, rfl⟩ hM hD1 hl hn
      refine seq_tail (fun σ M' => DrN a M1 M' ∧ ∃ s, NameOk true s ∧ σ = [some (.obj a), some (.obj p), some x, some (.str s), f]) ?_ (fun N hN => ?_)
      rotate_left
      · walk_at "dl"
        exact ⟨a, true, rfl, hD1, fun s M3 hs n3 => hN _ _ ⟨n3, s, hs, rfl⟩⟩
      rintro _ M2 ⟨n2, s, hs, rfl⟩
      walk_at "dl"
      refine ⟨isLst_of (n2.keep ne hM), ?_⟩
      refine lc_draw (a := a) (fun m => 1 ≤ m ∧ m ≤ 5) (fun y => ∃ v : Str, y = .str v ∧ NameOk true v) (fun m hm => Nat.le_trans hm.2 (by decide)) (fun Kd hk => ?_) ?_ ?_
      · unfold dRange1
        walk_at "dl"
        refine ⟨a, 5, rfl, by decide, by decide, n2.at, fun z M3 h0 h1 n3 => ?_⟩
        obtain ⟨z, rfl, hz⟩ := next_small (m := 5) h0 h1
        have := hk (1 + z) _ ⟨by omega, by omega⟩ n3
        exact ⟨⟨by omega, by omega⟩, by rw [show (1 + (z : Int)).toNat = 1 + z by omega]; exact this⟩
      · intro d' M3 Q' hD' hq
        walk_at "dl"
        exact ⟨a, true, rfl, hD', fun v M4 hv n4 => hq _ _ ⟨v, rfl, hv⟩ n4⟩
      · intro acc' M3 hP' hm' n3
        have n3 := n2.trans n3
        obtain ⟨vs, rfl, hv⟩ := row_of hP'
        rw [List.length_map] at hm'
        walk_at "dl"
        rw [e_append (n3.keep ne hM)]
        exact ⟨hl, hn _ (kindD (s, vs)) _ ⟨_, _, _, rfl⟩ ⟨(s, vs), rfl, hs, hm'.1, hm'.2, hv⟩ n3⟩
    · rintro σ acc M2 ⟨c, e, f, rfl⟩ hP hk n2 hp2
      exact hN _ _ ⟨acc, M2, c, e, f, hP, hk, n2, hp2, rfl, rfl⟩
end
end K05
namespace K05
open PySem PySem.Spec L2 DL Syn Wr
local macro_rules | `(tactic| walk_at "st") => `(tactic| simp only [start_def, List.map_cons, List.map_nil, List.length_cons, List.length_nil, List.cons_append, List.nil_append, Nat.zero_add, Nat.reduceAdd, Nat.reduceSub, List.replicate])
local macro_rules | `(tactic| walk_at "dl") => `(tactic| simp only [dSeq, dNext, dDrop, dRet, dRetF, dRetN, dIfS, dAsg, dAug, dPar, nGm, nTup, nCons, nNil, dVar, dC, dOp, dUn, dCons, dNil, dTup, dLst, dB, dTru, dAnd, dOr, dNot, dAndV, dOrV, dNotV, dIf, dChain, dCB, dCall, dSlE, dNoPart, dPart, dRev, dS0, dS1, dBL, dBL0, dIsi, dBreak, dCont, List.set_cons_zero, List.set_cons_succ, List.getElem?_cons_zero, List.getElem?_cons_succ, ifB_t, ifB_f, e_new_f, e_new_t, e_add_int, e_add_str, e_add_tup, e_add_lst, e_sub, e_mul, e_mul_str, e_mul_lst, e_div, e_mod, e_pow, e_neg, e_eq_int, e_eq_str, e_isN_non, e_isN_obj, e_isN_tup, e_isN_lst, e_lt_int, e_lt_str, e_le_int, e_le_str, e_gt, e_ge, e_in_str, e_t0, e_t1, e_t2, e_t3, e_t4, e_t5, e_l0, e_l1, e_l2, e_l3, e_sl_tup, e_sl_rdl, e_sl_str, e_sl_lst, e_len_str, e_len_lst, e_len_tup, e_int, e_tupC_tup, e_tupC_lst, e_iadd_int, e_iadd_str, e_isub, tru_bl, tru_int, tru_non, tru_lst, tru_tup, ex_some, bne_f, bne_t, e_nSub, lsD_lst, sz0, sz1, sz2, sz3, sz4, sz5, sz6, sz7, sz8, true_and])
section
variable {P : Program} {w : World} {K : PySem.W.Frag} {mg : Str → Option Value} {base : Heap}
def sp_chain : SpD := fun ds M Q _ => ∃ t ch, ds = [t.d] ∧ Chn (hd t) ch ∧ (ch t).length ≤ 1000 ∧ Q (.lst ((ch t).map Tst.d)) M
theorem ok_chain_of (T : Txt K mg) {f : Addr} {fd : FuncData} (F : FunD K "chain_of" "chain_of" (defArgs schain_of) (defBody schain_of) (defScope schain_of) [] [] f fd) : FnOk P w K mg base CX0 (0 + 1) f fd Pchain_of (LSp K (sp_chain)) := by
  refine fnD0 F scchain_of (fun ds M Q E h => by first | (obtain ⟨rfl, _⟩ := h; rfl) | (obtain ⟨_, rfl, _⟩ := h; rfl) | (obtain ⟨_, _, rfl, _⟩ := h; rfl) | (obtain ⟨_, _, _, rfl, _⟩ := h; rfl) | (obtain ⟨_, _, _, _, rfl, _⟩ := h; rfl)) fun cdv A outer s H E F0 hr => ⟨_, (dss_cons (ds_set (i := 1) scchain_of.nd rfl (Or.inl rfl) (de_ix (de_var (pv 0)) de_int (fun _ _ => rfl)))
      (dss_cons (ds_set (i := 2) scchain_of.nd rfl (Or.inl rfl) (de_lst (own := true) da_nil))
      (dss_cons (ds_while PassesOwn.never (dt_cmp (od_eq hr.units) (de_ix (de_var (pv 0)) de_int (fun _ _ => rfl)) (de_var (pv 1)) (nomark _)) (dss_cons (ds_expr (de_bl1 PySem.F.slot_list_append PySem.F.type_list_append md_append (de_var (pv 2)) (da_cons (de_ix (de_var (pv 0)) de_int (fun _ _ => rfl)) da_nil)))
      (dss_one (ds_set (i := 0) scchain_of.nd rfl (Or.inl rfl) (de_ix (de_var (pv 0)) de_int (fun _ _ => rfl))))))
      (dss_cons (ds_expr (de_bl1 PySem.F.slot_list_append PySem.F.type_list_append md_append (de_var (pv 2)) (da_cons (de_var (pv 0)) da_nil)))
      (dss_one (ds_ret (de_rev (own := false) (de_var (pv 2))))))))), fun ds M Q Ex h => ?_⟩
  obtain ⟨t, ch, rfl, hc, hl, q⟩ := h
  walk_at "st"
  refine seq_tail (fun σ M' => M' = M ∧ σ = [some t.d, some (.str (hd t)), none]) ?_ (fun N hN => by walk_at "dl"; rw [e_hd]; exact hN _ _ ⟨rfl, rfl⟩)
  rintro _ M0 ⟨e0, rfl⟩
  rw [e0]; clear e0 M0
  refine seq_tail (fun σ M' => ∃ p, M p = none ∧ M' = updM M p (.lst []) ∧ σ = [some t.d, some (.str (hd t)), some (.obj p)]) ?_ (fun N hN => by walk_at "dl"; exact fun p hp => hN _ _ ⟨p, hp, rfl, rfl⟩)
  rintro _ M0 ⟨p, hp, e0, rfl⟩
  rw [e0]; clear e0 M0
  refine seq_tail (fun σ M' => ∃ u, ∃ acc : List Tst, hd u ≠ hd t ∧ ch u ++ acc.reverse = ch t ∧ M' = updM M p (.lst (acc.map Tst.d)) ∧ σ = [some u.d, some (.str (hd t)), some (.obj p)]) ?_ (fun N hN => ?_)
  rotate_left
  · refine while_gen (fun m σ M' => ∃ u, ∃ acc : List Tst, m = nodes u ∧ ch u ++ acc.reverse = ch t ∧ M' = updM M p (.lst (acc.map Tst.d)) ∧ σ = [some u.d, some (.str (hd t)), some (.obj p)]) (nodes t) ⟨t, [], rfl, by simp, rfl, rfl⟩ ?_
    rintro m σ M' N' ⟨u, acc, rfl, hacc, rfl, rfl⟩ hN'
    walk_at "dl"
    rw [e_hd]
    walk_at "dl"
    refine ifB (fun h1 => ?_) (fun h1 => hN _ _ ⟨u, acc, of_decide_eq_false h1, hacc, rfl, rfl⟩)
    obtain ⟨c, l, r, e1, e2, e3⟩ := hc.step u (of_decide_eq_true h1)
    rw [e1]
    walk_at "dl"
    have hlen : acc.length ≤ 1000 := by
      have := congrArg List.length hacc
      rw [List.length_append, List.length_reverse] at this
      omega
    refine ⟨isLst_of updM_same, ?_⟩
    rw [e_append updM_same]
    rw [updM_updM]
    refine ⟨by rw [List.length_map]; exact Nat.lt_of_le_of_lt hlen (by decide), ?_⟩
    refine hN' _ _ _ e3 ⟨l, acc ++ [r], rfl, ?_, ?_, rfl⟩
    · rw [← hacc, e2]
      simp
    · rw [List.map_append] <;> rfl
  rintro _ M0 ⟨u, acc, hu, hacc, e0, rfl⟩
  rw [e0]; clear e0 M0
  rw [hc.stop u hu] at hacc
  have hlen : acc.length ≤ 1000 := by
    have := congrArg List.length hacc
    rw [List.length_append, List.length_reverse] at this
    omega
  walk_at "dl"
  refine ⟨isLst_of updM_same, ?_⟩
  rw [e_append updM_same, updM_updM]
  refine ⟨by rw [List.length_map]; exact Nat.lt_of_le_of_lt hlen (by decide), _, lsD_o updM_same, Wk.drop hp ?_⟩
  rw [← hacc] at q
  rw [List.reverse_append, ← List.map_reverse]
  exact q
def sp_sign (f : Nat → Bool) : SpD := fun ds M Q _ => ∃ c, ds = [.str ⟨#[c]⟩] ∧ Q (.bl (f c)) M
theorem ok_is_small (T : Txt K mg) {f : Addr} {fd : FuncData} (F : FunD K "is_small" "is_small" (defArgs sis_small) (defBody sis_small) (defScope sis_small) [] [] f fd) : FnOk P w K mg base CX0 (0 + 1) f fd Pis_small (LSp K ((sp_sign smallC))) := by
  refine fnD0 F scis_small (fun ds M Q E h => by first | (obtain ⟨rfl, _⟩ := h; rfl) | (obtain ⟨_, rfl, _⟩ := h; rfl) | (obtain ⟨_, _, rfl, _⟩ := h; rfl) | (obtain ⟨_, _, _, rfl, _⟩ := h; rfl) | (obtain ⟨_, _, _, _, rfl, _⟩ := h; rfl)) fun cdv A outer s H E F0 hr => ⟨_, (dss_one (ds_ret (de_chain (od_le) (od_le) de_str (de_var (pv 0)) de_str))), fun ds M Q Ex h => ?_⟩
  obtain ⟨c, rfl, q⟩ := h
  walk_at "st"
  have e1 : decide ((⟨#[c]⟩ : Str).cps.toList < ("a" : Str).cps.toList) = decide (c < 97) := cps_lt
  have e2 : decide (("z" : Str).cps.toList < (⟨#[c]⟩ : Str).cps.toList) = decide (122 < c) := cps_lt
  walk_at "dl"
  rw [e1, e2]
  rw [small_eq] at q
  refine ifB (fun h => ?_) (fun h => ?_)
  · rw [h, Bool.true_and] at q; exact Wk.here q
  · rw [h, Bool.false_and] at q; exact Wk.here q
theorem ok_is_great (T : Txt K mg) {f : Addr} {fd : FuncData} (F : FunD K "is_great" "is_great" (defArgs sis_great) (defBody sis_great) (defScope sis_great) [] [] f fd) : FnOk P w K mg base CX0 (0 + 1) f fd Pis_great (LSp K ((sp_sign greatC))) := by
  refine fnD0 F scis_great (fun ds M Q E h => by first | (obtain ⟨rfl, _⟩ := h; rfl) | (obtain ⟨_, rfl, _⟩ := h; rfl) | (obtain ⟨_, _, rfl, _⟩ := h; rfl) | (obtain ⟨_, _, _, rfl, _⟩ := h; rfl) | (obtain ⟨_, _, _, _, rfl, _⟩ := h; rfl)) fun cdv A outer s H E F0 hr => ⟨_, (dss_one (ds_ret (de_chain (od_le) (od_le) de_str (de_var (pv 0)) de_str))), fun ds M Q Ex h => ?_⟩
  obtain ⟨c, rfl, q⟩ := h
  walk_at "st"
  have e1 : decide ((⟨#[c]⟩ : Str).cps.toList < ("A" : Str).cps.toList) = decide (c < 65) := cps_lt
  have e2 : decide (("Z" : Str).cps.toList < (⟨#[c]⟩ : Str).cps.toList) = decide (90 < c) := cps_lt
  walk_at "dl"
  rw [e1, e2]
  rw [great_eq] at q
  refine ifB (fun h => ?_) (fun h => ?_)
  · rw [h, Bool.true_and] at q; exact Wk.here q
  · rw [h, Bool.false_and] at q; exact Wk.here q
def sp_isName : SpD := fun ds M Q _ => ∃ w, ds = [.str w] ∧ 1 ≤ w.length ∧ w.length ≤ 12 ∧ Q (.bl (isNm w)) M
theorem ok__is_name (T : Txt K mg) {f : Addr} {fd : FuncData} (F : FunD K "_is_name" "_is_name" (defArgs s_is_name) (defBody s_is_name) (defScope s_is_name) [] [] f fd) (h_is_small : Callee P w K mg base CX0 (1) "is_small" Pis_small (sp_sign smallC)) (h_is_great : Callee P w K mg base CX0 (1) "is_great" Pis_great (sp_sign greatC)) : FnOk P w K mg base CX0 (1 + 1) f fd P_is_name (LSp K (sp_isName)) := by
  refine fnD0 F sc_is_name (fun ds M Q E h => by first | (obtain ⟨rfl, _⟩ := h; rfl) | (obtain ⟨_, rfl, _⟩ := h; rfl) | (obtain ⟨_, _, rfl, _⟩ := h; rfl) | (obtain ⟨_, _, _, rfl, _⟩ := h; rfl) | (obtain ⟨_, _, _, _, rfl, _⟩ := h; rfl)) fun cdv A outer s H E F0 hr => ⟨_, (dss_one (ds_ret (de_and (de_or (de_fn h_is_small (hr.mono (by omega)) rfl pass0 finX0 (da_cons (de_ix (de_var (pv 0)) de_int (fun _ _ => rfl)) da_nil)) (de_one (de_fn h_is_great (hr.mono (by omega)) rfl pass0 finX0 (da_cons (de_ix (de_var (pv 0)) de_int (fun _ _ => rfl)) da_nil)))) (de_one (de_cmp (od_notIn) (de_var (pv 0)) (de_gtupS T.WORDS rfl) rfl))))), fun ds M Q Ex h => ?_⟩
  obtain ⟨w, rfl, h1, h2, q⟩ := h
  walk_at "st"
  obtain ⟨c, r, e⟩ : ∃ c r, w.cps.toList = c :: r := by
    have h3 : 1 ≤ w.cps.toList.length := by rw [← TL.len_tl w] <;> exact h1
    cases e : w.cps.toList with
    | nil => rw [e] at h3; exact absurd h3 (by decide)
    | cons c r => exact ⟨c, r, rfl⟩
  have hz : w.length ≤ sizeLine := Nat.le_trans h2 (by decide)
  have hc : w.cps.toList[0]? = some c := by rw [e] <;> rfl
  have en : isNm w = ((smallC c || greatC c) && !decide (w ∈ WORDS)) := by unfold isNm; rw [e]
  have fin : (smallC c || greatC c) = true → dIn true (.str w) (.tup (WORDS.map D.str)) M (Wk Q) := fun hb => by
    refine e_in (xs := WORDS) (.inl rfl) ?_
    rw [bne_t]
    rw [en, hb, Bool.true_and] at q
    exact Wk.here q
  walk_at "dl"
  refine e_ix_str (n := 0) hz hc ⟨c, rfl, ?_⟩
  dsimp only
  refine ifB (fun hs => fin (by rw [hs]; rfl)) (fun hs => ?_)
  refine e_ix_str (n := 0) hz hc ⟨c, rfl, ?_⟩
  dsimp only
  refine ifB (fun hg => fin (by rw [hs, hg]; rfl)) (fun hg => ?_)
  rw [en, hs, hg] at q
  exact Wk.here q
def sp_line : SpD := fun ds M Q _ => ∃ deep ws, ds = [.int ((deep : Nat) : Int), .lst (dStrs ws)] ∧ deep < 13 ∧ ws.length ≤ 1000 ∧ (∀ w ∈ ws, Wd w) ∧ Q (.str (lineS deep ws)) M
theorem ok_line_of (T : Txt K mg) {f : Addr} {fd : FuncData} (F : FunD K "line_of" "line_of" (defArgs sline_of) (defBody sline_of) (defScope sline_of) [] [] f fd) (h__is_name : Callee P w K mg base CX0 (2) "_is_name" P_is_name sp_isName) : FnOk P w K mg base CX0 (2 + 1) f fd Pline_of (LSp K (sp_line)) := by
  refine fnD0 F scline_of (fun ds M Q E h => by first | (obtain ⟨rfl, _⟩ := h; rfl) | (obtain ⟨_, rfl, _⟩ := h; rfl) | (obtain ⟨_, _, rfl, _⟩ := h; rfl) | (obtain ⟨_, _, _, rfl, _⟩ := h; rfl) | (obtain ⟨_, _, _, _, rfl, _⟩ := h; rfl)) fun cdv A outer s H E F0 hr => ⟨_, (dss_cons (ds_set (i := 2) scline_of.nd rfl (Or.inl rfl) de_str)
      (dss_cons (ds_set (i := 3) scline_of.nd rfl (Or.inl rfl) de_str)
      (dss_cons (ds_for PassesOwn.never rfl (di_items (de_var (pv 1))) (dg_name (pg_name (i := 4) scline_of.nd rfl (Or.inl rfl))) (dss_cons (ds_if (dt_w (dw_or (dt_cmp (od_in) (de_var (pv 3)) (de_tup (da_cons de_str (da_cons de_str da_nil))) rfl) (dw_or (dt_cmp (od_in) (de_var (pv 4)) (de_tup (da_cons de_str (da_cons de_str (da_cons de_str (da_cons de_str da_nil))))) rfl) (dw_or1 (dt_w (dw_and (dt_cmp (od_eq hr.units) (de_var (pv 4)) de_str (nomark _)) (dw_and1 (dt_tru (de_fn h__is_name (hr.mono (by omega)) rfl pass0 finX0 (da_cons (de_var (pv 3)) da_nil)))))))))) (dss_one (ds_aug (i := 2) scline_of.nd rfl (Or.inl rfl) (de_var (pv 4)) od_iadd)) (dss_one (ds_aug (i := 2) scline_of.nd rfl (Or.inl rfl) (de_op (od_add (own := false)) de_str (de_var (pv 4))) od_iadd)))
      (dss_one (ds_set (i := 3) scline_of.nd rfl (Or.inl rfl) (de_var (pv 4))))))
      (dss_one (ds_ret (de_op (od_add (own := false)) (de_op (od_add (own := false)) (de_op (od_mul (own := false)) (de_gstrE T.STEP rfl) (de_var (pv 0))) (de_var (pv 2))) de_str)))))), fun ds M Q Ex h => ?_⟩
  obtain ⟨deep, ws, rfl, hd, hl, hw, q⟩ := h
  walk_at "st"
  refine seq_tail (fun σ M' => M' = M ∧ σ = [some (.int deep), some (.lst (dStrs ws)), some (.str ""), none, none]) ?_ (fun N hN => by walk_at "dl"; exact hN _ _ ⟨rfl, rfl⟩)
  rintro _ M0 ⟨e0, rfl⟩
  rw [e0]; clear e0 M0
  refine seq_tail (fun σ M' => M' = M ∧ σ = [some (.int deep), some (.lst (dStrs ws)), some (.str ""), some (.str ""), none]) ?_ (fun N hN => by walk_at "dl"; exact hN _ _ ⟨rfl, rfl⟩)
  rintro _ M0 ⟨e0, rfl⟩
  rw [e0]; clear e0 M0
  refine seq_tail (fun σ M' => M' = M ∧ ∃ a c, σ = [some (.int deep), some (.lst (dStrs ws)), some (.str (lineT ws)), a, c]) ?_ (fun N hN => ?_)
  rotate_left
  · refine for_pure (dStrs ws) (fun Kd hk => by unfold dItems; walk_at "dl"; exact hk) (fun i σ M' => M' = M ∧ ∃ c, σ = [some (.int deep), some (.lst (dStrs ws)), some (.str ((ws.take i).foldl stepL ("", "")).1), some (.str ((ws.take i).foldl stepL ("", "")).2), c]) ⟨rfl, _, rfl⟩ ?_ ?_
    · rintro i d σ M' N' hi ⟨e0, c, rfl⟩ hN'
      rw [e0]; clear e0 M'
      rw [List.getElem?_map] at hi
      obtain ⟨w, hiw, rfl⟩ := Option.map_eq_some_iff.mp hi
      have hw1 := hw w (List.mem_of_getElem? hiw)
      have hwt : ∀ x ∈ ws.take i, Wd x := fun x hx => hw x (List.mem_of_mem_take hx)
      have hlen := fold_len (ws.take i) ("", "") hwt
      have e00 : (("" : Str), ("" : Str)).1.length = 0 := by decide +kernel
      have hti : (ws.take i).length ≤ 1000 := Nat.le_trans (by rw [List.length_take]; exact Nat.min_le_right _ _) hl
      have efold := fold_at (a := ("", "")) hiw
      have hlast : ∀ x, x = ((ws.take i).foldl stepL ("", "")).2 → (decide (x ∈ (["", "("] : List Str)) = false) → 1 ≤ x.length ∧ x.length ≤ 12 := by
        intro x hx hn
        subst hx
        rcases fold_snd (ws.take i) ("", "") with h | h
        · rw [h] at hn
          exact absurd hn (by decide +kernel)
        · exact hwt _ h
      generalize hp : (ws.take i).foldl stepL ("", "") = p at *
      refine seq_tail (fun σ M' => M' = M ∧ σ = [some (.int deep), some (.lst (dStrs ws)), some (.str (stepL p w).1), some (.str p.2), some (.str w)]) ?_ (fun N hN => ?_)
      · rintro _ M0 ⟨e0, rfl⟩
        rw [e0]; clear e0 M0
        walk_at "dl"
        refine hN' _ _ ⟨rfl, some (.str w), ?_⟩
        rw [efold] <;> rfl
      · have a1 : near p.2 w = true → p.1.length + w.length ≤ sizeLine ∧ N [some (.int deep), some (.lst (dStrs ws)), some (.str (p.1 ++ w)), some (.str p.2), some (.str w)] M := fun hb => by
          refine ⟨Nat.le_trans (Nat.add_le_add hlen hw1.2) ?_, hN _ _ ⟨rfl, by unfold stepL; rw [hb] <;> rfl⟩⟩
          have : sizeLine = 16777216 := sizeLine_eq
          omega
        have a2 : near p.2 w = false → (" " : Str).length + w.length ≤ sizeLine ∧ p.1.length + (" " ++ w).length ≤ sizeLine ∧ N [some (.int deep), some (.lst (dStrs ws)), some (.str (p.1 ++ (" " ++ w))), some (.str p.2), some (.str w)] M := fun hb => by
          have : sizeLine = 16777216 := sizeLine_eq
          have e1 : (" " : Str).length = 1 := by decide +kernel
          have := hw1.2
          refine ⟨by omega, by rw [len_app]; omega, hN _ _ ⟨rfl, by unfold stepL; rw [hb] <;> rfl⟩⟩
        walk_at "dl"
        refine e_in (xs := ["", "("]) (.inl rfl) ?_
        dsimp only
        rw [bne_f]
        refine ifB (fun h1 => a1 (by unfold near; rw [h1]; rfl)) (fun h1 => ?_)
        refine e_in (xs := [";", ",", ")", ":"]) (.inl rfl) ?_
        dsimp only
        rw [bne_f]
        refine ifB (fun h2 => a1 (by unfold near; rw [h1, h2]; rfl)) (fun h2 => ?_)
        refine ifB (fun h3 => ?_) (fun h3 => a2 (by unfold near; rw [h1, h2, h3]; rfl))
        obtain ⟨h4, h5⟩ := hlast _ rfl h1
        refine ⟨p.2, rfl, h4, h5, isNm p.2, rfl, ?_⟩
        refine ifB (fun h6 => a1 (by unfold near; rw [h1, h2, h3, h6]; rfl)) (fun h6 => a2 (by unfold near; rw [h1, h2, h3, h6]; rfl))
    · rintro σ M' ⟨e0, c, rfl⟩
      refine hN _ _ ⟨e0, some (.str ((ws.take (dStrs ws).length).foldl stepL ("", "")).2), c, ?_⟩
      rw [show (dStrs ws).length = ws.length from List.length_map .., List.take_length] <;> rfl
  rintro _ M0 ⟨e0, a, c, rfl⟩
  rw [e0]; clear e0 M0
  have hL := lineT_len hw
  have hB := blanks deep hd
  have hs : sizeLine = 16777216 := sizeLine_eq
  have e1 : ("\n" : Str).length = 1 := by decide +kernel
  walk_at "dl"
  refine ⟨mulok2 hd, by rw [hB.2.1]; omega, by rw [len_app, hB.2.1]; omega, Wk.here q⟩
def sp_brack : SpD := fun ds M Q _ => ∃ t ws, ds = [t.d, .tup (dStrs ws)] ∧ ∀ p, M p = none → Q (.obj p) (updM M p (.lst ((brI (decide (hd t ∈ ws)) t).map Itm.d)))
theorem ok__bracketed (T : Txt K mg) {f : Addr} {fd : FuncData} (F : FunD K "_bracketed" "_bracketed" (defArgs s_bracketed) (defBody s_bracketed) (defScope s_bracketed) [] [] f fd) : FnOk P w K mg base CX0 (0 + 1) f fd P_bracketed (LSp K (sp_brack)) := by
  refine fnD0 F sc_bracketed (fun ds M Q E h => by first | (obtain ⟨rfl, _⟩ := h; rfl) | (obtain ⟨_, rfl, _⟩ := h; rfl) | (obtain ⟨_, _, rfl, _⟩ := h; rfl) | (obtain ⟨_, _, _, rfl, _⟩ := h; rfl) | (obtain ⟨_, _, _, _, rfl, _⟩ := h; rfl)) fun cdv A outer s H E F0 hr => ⟨_, (dss_one (ds_ret (de_if (dt_cmp (od_in) (de_ix (de_var (pv 0)) de_int (fun _ _ => rfl)) (de_var (pv 1)) rfl) (de_lst (own := true) (da_cons de_str (da_cons (de_var (pv 0)) (da_cons de_str da_nil)))) (de_lst (own := true) (da_cons (de_var (pv 0)) da_nil))))), fun ds M Q Ex h => ?_⟩
  obtain ⟨t, ws, rfl, q⟩ := h
  walk_at "st"
  walk_at "dl"
  rw [e_hd]
  refine e_in (xs := ws) (.inl rfl) ?_
  dsimp only
  rw [bne_f]
  refine ifB (fun hb => ?_) (fun hb => ?_)
  · intro p hp
    have := q p hp
    rw [hb] at this
    exact Wk.here this
  · intro p hp
    have := q p hp
    rw [hb] at this
    exact Wk.here this
def sp_opened : SpD := fun ds M Q _ => ∃ x, ds = [x.d] ∧ Opn x ∧ (den x).length ≤ 1000 ∧ ∀ ys, 2 ≤ ys.length → dens ys = den x → Q (.lst (ys.map Itm.d)) M
theorem ok__opened (T : Txt K mg) {f : Addr} {fd : FuncData} (F : FunD K "_opened" "_opened" (defArgs s_opened) (defBody s_opened) (defScope s_opened) [] [] f fd) (h_chain_of : Callee P w K mg base CX0 (1) "chain_of" Pchain_of sp_chain) (h__bracketed : Callee P w K mg base CX0 (1) "_bracketed" P_bracketed sp_brack) : FnOk P w K mg base CX0 (1 + 1) f fd P_opened (LSp K (sp_opened)) := by
  refine fnD0 F sc_opened (fun ds M Q E h => by first | (obtain ⟨rfl, _⟩ := h; rfl) | (obtain ⟨_, rfl, _⟩ := h; rfl) | (obtain ⟨_, _, rfl, _⟩ := h; rfl) | (obtain ⟨_, _, _, rfl, _⟩ := h; rfl) | (obtain ⟨_, _, _, _, rfl, _⟩ := h; rfl)) fun cdv A outer s H E F0 hr => ⟨_, (dss_cons (ds_set (i := 1) sc_opened.nd rfl (Or.inl rfl) (de_ix (de_var (pv 0)) de_int (fun _ _ => rfl)))
      (dss_cons (ds_if (dt_cmp (od_eq hr.units) (de_var (pv 1)) de_str (nomark _)) (dss_one (ds_ret (de_lst (own := false) (da_cons de_str (da_cons (de_ix (de_var (pv 0)) de_int (fun _ _ => rfl)) (da_cons de_str (da_cons (de_ix (de_var (pv 0)) de_int (fun _ _ => rfl)) (da_cons de_str (da_cons (de_ix (de_var (pv 0)) de_int (fun _ _ => rfl)) da_nil))))))))) dss_nil)
      (dss_cons (ds_if (dt_cmp (od_eq hr.units) (de_var (pv 1)) de_str (nomark _)) (dss_one (ds_ret (de_lst (own := false) (da_cons (de_ix (de_var (pv 0)) de_int (fun _ _ => rfl)) (da_cons de_str (da_cons (de_ix (de_var (pv 0)) de_int (fun _ _ => rfl)) da_nil)))))) dss_nil)
      (dss_cons (ds_if (dt_cmp (od_eq hr.units) (de_var (pv 1)) de_str (nomark _)) (dss_one (ds_ret (de_op (od_add (own := false)) (de_lst (own := false) (da_cons de_str da_nil)) (de_fn h__bracketed (hr.mono (by omega)) rfl pass0 finX0 (da_cons (de_ix (de_var (pv 0)) de_int (fun _ _ => rfl)) (da_cons (de_tup (da_cons de_str (da_cons de_str da_nil))) da_nil)))))) dss_nil)
      (dss_cons (ds_set (i := 2) sc_opened.nd rfl (Or.inl rfl) (de_fn h_chain_of (hr.mono (by omega)) rfl pass0 finX0 (da_cons (de_var (pv 0)) da_nil)))
      (dss_cons (ds_set (i := 3) sc_opened.nd rfl (Or.inl rfl) (de_fn h__bracketed (hr.mono (by omega)) rfl pass0 finX0 (da_cons (de_ix (de_var (pv 2)) de_int (fun _ _ => rfl)) (da_cons (de_if (dt_cmp (od_eq hr.units) (de_var (pv 1)) de_str (nomark _)) (de_tup (da_cons de_str da_nil)) (de_tup da_nil)) da_nil))))
      (dss_cons (ds_for PassesOwn.never rfl (di_items (de_sl (own := false) (de_var (pv 2)) (do_some de_int) do_none)) (dg_name (pg_name (i := 4) sc_opened.nd rfl (Or.inl rfl))) (dss_cons (ds_expr (de_bl1 PySem.F.slot_list_append PySem.F.type_list_append md_append (de_var (pv 3)) (da_cons (de_var (pv 1)) da_nil)))
      (dss_one (ds_aug (i := 3) sc_opened.nd rfl (Or.inl rfl) (de_fn h__bracketed (hr.mono (by omega)) rfl pass0 finX0 (da_cons (de_var (pv 4)) (da_cons (de_if (dt_cmp (od_eq hr.units) (de_var (pv 1)) de_str (nomark _)) (de_tup (da_cons de_str (da_cons de_str da_nil))) (de_tup (da_cons de_str da_nil))) da_nil))) od_iadd))))
      (dss_one (ds_retF (de_var (pv 3))))))))))), fun ds M Q Ex h => ?_⟩
  obtain ⟨x, rfl, ho, hl, q⟩ := h
  walk_at "st"
  have dec : ∀ {a b : Str} {A B : Prop}, a = b → A → IfB (decide (a = b)) A B := fun h hA => ifB (fun _ => hA) (fun h' => absurd h (of_decide_eq_false h'))
  have dec' : ∀ {a b : Str} {A B : Prop}, a ≠ b → B → IfB (decide (a = b)) A B := fun h hB => ifB (fun h' => absurd (of_decide_eq_true h') h) (fun _ => hB)
  rcases x with s | t | v
  · exact ho.elim
  · refine seq_tail (fun σ M' => M' = M ∧ σ = [some t.d, some (.str (hd t)), none, none, none]) ?_ (fun N hN => ?_)
    rotate_left
    · rw [show (Itm.tst t).d = t.d from rfl]
      walk_at "dl"
      rw [e_hd]
      exact hN _ _ ⟨rfl, rfl⟩
    rintro _ M0 ⟨e0, rfl⟩
    rw [e0]; clear e0 M0
    have hne : hd t ≠ "if" := by
      cases t with
      | same a b => exact (show ¬ (("same" : Str) = "if") by decide +kernel)
      | neg a => exact (show ¬ (("not" : Str) = "if") by decide +kernel)
      | con a b => exact (show ¬ (("and" : Str) = "if") by decide +kernel)
      | dis a b => exact (show ¬ (("or" : Str) = "if") by decide +kernel)
    refine seq_tail (fun σ M' => M' = M ∧ σ = [some t.d, some (.str (hd t)), none, none, none]) ?_ (fun N hN => by walk_at "dl"; exact dec' hne (hN _ _ ⟨rfl, rfl⟩))
    rintro _ M0 ⟨e0, rfl⟩
    rw [e0]; clear e0 M0
    refine seq_tail (fun σ M' => hd t ≠ "same" ∧ M' = M ∧ σ = [some t.d, some (.str (hd t)), none, none, none]) ?_ (fun N hN => ?_)
    rotate_left
    · walk_at "dl"
      refine ifB (fun hs => ?_) (fun hs => hN _ _ ⟨of_decide_eq_false hs, rfl, rfl⟩)
      obtain ⟨a, b, rfl⟩ := of_same (of_decide_eq_true hs)
      rw [show (Tst.same a b).d = .tup [.str "same", a.d, b.d] from rfl]
      walk_at "dl"
      exact Wk.here (q [.val (.at a), .tok "==", .val (.at b)] (show 2 ≤ 3 by decide) rfl)
    rintro _ M0 ⟨hne2, e0, rfl⟩
    rw [e0]; clear e0 M0
    refine seq_tail (fun σ M' => hd t ≠ "not" ∧ M' = M ∧ σ = [some t.d, some (.str (hd t)), none, none, none]) ?_ (fun N hN => ?_)
    rotate_left
    · walk_at "dl"
      refine ifB (fun hs => ?_) (fun hs => hN _ _ ⟨of_decide_eq_false hs, rfl, rfl⟩)
      obtain ⟨u, rfl⟩ := of_not (of_decide_eq_true hs)
      rw [show (Tst.neg u).d = .tup [.str "not", u.d] from rfl]
      walk_at "dl"
      refine ⟨u, ["and", "or"], rfl, fun p hp => ?_⟩
      rw [rank3]
      dsimp only
      rw [e_add_ro updM_same, e_new_f]
      have hb : (brI (decide (rank u < 3)) u).length ≤ 3 := brI_len
      refine ⟨Nat.le_trans (show 1 + _ ≤ 4 by rw [List.length_map]; omega) (by decide), Wk.drop hp ?_⟩
      exact q (.tok "not" :: brI (decide (rank u < 3)) u) (by have := @brI_pos (decide (rank u < 3)) u; rw [List.length_cons]; omega) (by rw [show den (.tst (.neg u)) = ("not" : Str) :: rowT u 3 from rfl, ← dens_brI rfl]; rfl)
    rintro _ M0 ⟨hne3, e0, rfl⟩
    rw [e0]; clear e0 M0
    obtain ⟨ch, wd, n0, n1, b, rs, hch, hc, hcl, hrow, hrs, hwd, hk⟩ := way hne2 hne3 hl
    refine seq_tail (fun σ M' => M' = M ∧ σ = [some t.d, some (.str (hd t)), some (.lst ((ch t).map Tst.d)), none, none]) ?_ (fun N hN => ?_)
    rotate_left
    · walk_at "dl"
      exact ⟨t, ch, rfl, hc, hcl, hN _ _ ⟨rfl, rfl⟩⟩
    rintro _ M0 ⟨e0, rfl⟩
    rw [e0]; clear e0 M0
    have hcl' : rs.length ≤ 1000 := by rw [hch, List.length_cons] at hcl; omega
    rw [hch, List.map_cons]
    refine seq_tail (fun σ M' => ∃ p, M p = none ∧ Ow M p ((brI (decide (rank b < n0)) b).map Itm.d) M' ∧ σ = [some t.d, some (.str (hd t)), some (.lst (b.d :: rs.map Tst.d)), some (.obj p), none]) ?_ (fun N hN => ?_)
    rotate_left
    · walk_at "dl"
      refine ifB (fun hw => ?_) (fun hw => ?_)
      · rcases hk with ⟨e1, e2, e3⟩ | ⟨e1, e2, e3⟩
        · refine ⟨b, ["or"], rfl, fun p hp => hN _ _ ⟨p, hp, ?_, rfl⟩⟩
          rw [rank2, e2]; exact .start hp
        · rw [hwd, e1] at hw; cases hw
      · rcases hk with ⟨e1, e2, e3⟩ | ⟨e1, e2, e3⟩
        · rw [hwd, e1] at hw; cases hw
        · refine ⟨b, [], rfl, fun p hp => hN _ _ ⟨p, hp, ?_, rfl⟩⟩
          rw [rank1, e2]; exact .start hp
    rintro _ M0 ⟨p, hp, ow, rfl⟩
    refine seq_tail (fun σ M' => ∃ c, Ow M p ((brI (decide (rank b < n0)) b ++ chI (hd t) n1 rs).map Itm.d) M' ∧ σ = [some t.d, some (.str (hd t)), some (.lst (b.d :: rs.map Tst.d)), some (.obj p), c]) ?_ (fun N hN => ?_)
    · rintro _ M2 ⟨c, ow, rfl⟩
      walk_at "dl"
      refine ow.out hp (q _ ?_ ?_)
      · have h1 := @brI_pos (decide (rank b < n0)) b
        have h2 : 1 ≤ (chI (hd t) n1 rs).length := by
          cases rs with
          | nil => exact absurd hrs (by decide)
          | cons r rs => unfold chI; simp
        rw [List.length_append]; omega
      · rw [show dens (brI (decide (rank b < n0)) b ++ chI (hd t) n1 rs) = dens (brI (decide (rank b < n0)) b) ++ dens (chI (hd t) n1 rs) from List.flatMap_append, dens_brI rfl, dens_chI]
        exact hrow.symm
    · refine for_pure (rs.map Tst.d) (fun Kd hk => ?_) (fun i σ M' => ∃ c, Ow M p ((brI (decide (rank b < n0)) b ++ chI (hd t) n1 (rs.take i)).map Itm.d) M' ∧ σ = [some t.d, some (.str (hd t)), some (.lst (b.d :: rs.map Tst.d)), some (.obj p), c]) ⟨none, by rw [List.take_zero]; simpa [chI] using ow, rfl⟩ ?_ ?_
      · unfold dItems
        walk_at "dl"
        rw [show (some (1 : Int)) = some ((1 : Nat) : Int) from rfl, cut_from]
        exact hk
      · rintro i d σ M' N' hi ⟨c, ow, rfl⟩ hN'
        rw [List.getElem?_map] at hi
        obtain ⟨r, hir, rfl⟩ := Option.map_eq_some_iff.mp hi
        have hb1 := @brI_len (decide (rank b < n0)) b
        have hb2 := @chI_len (hd t) n1 (rs.take i)
        have hb3 : (rs.take i).length ≤ 1000 := Nat.le_trans (by rw [List.length_take]; exact Nat.min_le_right _ _) hcl'
        have hb4 := @brI_len (decide (rank r < n1)) r
        have hs : sizeLine = 16777216 := sizeLine_eq
        have last : ∀ ws, decide (hd r ∈ ws) = decide (rank r < n1) → ∀ M2, Ow M p ((brI (decide (rank b < n0)) b ++ chI (hd t) n1 (rs.take i) ++ [Wr.Itm.tok (hd t)]).map Itm.d) M2 → sp_brack [r.d, .tup (dStrs ws)] M2 (fun y M3 => dIAdd (.obj p) y M3 fun z M4 => N' [some t.d, some (.str (hd t)), some (.lst (b.d :: rs.map Tst.d)), some z, some r.d] M4) X0 := by
          intro ws hws M2 ow2
          refine ⟨r, ws, rfl, fun p' hp' => ?_⟩
          rw [hws]
          have ow3 := ow2.new (q := p') (o := .lst ((brI (decide (rank r < n1)) r).map Itm.d)) hp'
          dsimp only
          rw [e_iadd_obj ow3.one (lsD_o updM_same)]
          refine ⟨by simp only [List.length_map, List.length_append, List.length_cons, List.length_nil]; omega, hN' _ _ ⟨_, ?_, rfl⟩⟩
          have := ow3.set (c := ((brI (decide (rank b < n0)) b ++ chI (hd t) n1 (rs.take (i + 1))).map Itm.d)) hp
          rw [chI_at hir] at this ⊢
          simpa using this
        walk_at "dl"
        refine ⟨isLst_of ow.one, ?_⟩
        rw [e_append ow.one]
        have ow2 := ow.set (c := ((brI (decide (rank b < n0)) b ++ chI (hd t) n1 (rs.take i) ++ [Wr.Itm.tok (hd t)]).map Itm.d)) hp
        rw [List.map_append] at ow2
        refine ⟨by simp only [List.length_map, List.length_append]; omega, ?_⟩
        refine ifB (fun hw => ?_) (fun hw => ?_)
        · rcases hk with ⟨e1, e2, e3⟩ | ⟨e1, e2, e3⟩
          · exact last ["and", "or"] (by rw [rank3, e3]) _ (by rw [List.map_append]; exact ow2)
          · rw [hwd, e1] at hw; cases hw
        · rcases hk with ⟨e1, e2, e3⟩ | ⟨e1, e2, e3⟩
          · rw [hwd, e1] at hw; cases hw
          · exact last ["or"] (by rw [rank2, e3]) _ (by rw [List.map_append]; exact ow2)
      · rintro σ M' ⟨c, ow, rfl⟩
        refine hN _ _ ⟨c, ?_, rfl⟩
        rw [List.length_map, List.take_length] at ow
        exact ow
  · rcases v with a | ⟨t, u, v⟩
    · exact ho.elim
    · refine seq_tail (fun σ M' => M' = M ∧ σ = [some (Val.ite t u v).d, some (.str "if"), none, none, none]) ?_ (fun N hN => ?_)
      rotate_left
      · rw [show (Itm.val (Val.ite t u v)).d = .tup [.str "if", t.d, u.d, v.d] from rfl]
        walk_at "dl"
        exact hN _ _ ⟨rfl, rfl⟩
      rintro _ M0 ⟨e0, rfl⟩
      rw [e0]; clear e0 M0
      refine seq_tail (fun _ _ => False) (fun _ _ h => h.elim) (fun N hN => ?_)
      rw [show (Val.ite t u v).d = .tup [.str "if", t.d, u.d, v.d] from rfl]
      walk_at "dl"
      refine ifB (fun _ => Wk.here ?_) (fun h => absurd h (by decide))
      exact q [.tok "if", .tst t, .tok "then", .val u,   .tok "else", .val v] (show 2 ≤ 6 by decide) (by simp [dens, den, valW])
def sp_words_of : SpD := fun ds M Q _ => ∃ x, ds = [x.d] ∧ (den x).length ≤ 1000 ∧ Q (.lst (dStrs (den x))) M
theorem ok_words_of (T : Txt K mg) {f : Addr} {fd : FuncData} (F : FunD K "words_of" "words_of" (defArgs swords_of) (defBody swords_of) (defScope swords_of) [] [] f fd) (h__opened : Callee P w K mg base CX0 (2) "_opened" P_opened sp_opened) : FnOk P w K mg base CX0 (2 + 1) f fd Pwords_of (LSp K (sp_words_of)) := by
  refine fnD0 F scwords_of (fun ds M Q E h => by first | (obtain ⟨rfl, _⟩ := h; rfl) | (obtain ⟨_, rfl, _⟩ := h; rfl) | (obtain ⟨_, _, rfl, _⟩ := h; rfl) | (obtain ⟨_, _, _, rfl, _⟩ := h; rfl) | (obtain ⟨_, _, _, _, rfl, _⟩ := h; rfl)) fun cdv A outer s H E F0 hr => ⟨_, (dss_cons (ds_set (i := 1) scwords_of.nd rfl (Or.inl rfl) (de_lst (own := true) (da_cons (de_var (pv 0)) da_nil)))
      (dss_cons (ds_set (i := 2) scwords_of.nd rfl (Or.inl rfl) (de_lst (own := true) da_nil))
      (dss_cons (ds_while PassesOwn.never (dt_tru (de_var (pv 1))) (dss_cons (ds_set (i := 3) scwords_of.nd rfl (Or.inl rfl) (de_bl0 PySem.F.slot_list_pop PySem.F.type_list_pop md_pop (de_var (pv 1))))
      (dss_one (ds_if (dt_tru (de_isi (n := "str") (de_var (pv 3)) rfl T.isinstance (pe_bltn rfl T.str (by decide +kernel) rfl))) (dss_one (ds_expr (de_bl1 PySem.F.slot_list_append PySem.F.type_list_append md_append (de_var (pv 2)) (da_cons (de_var (pv 3)) da_nil)))) (dss_one (ds_if (dt_w (dw_or (dt_cmp (od_eq hr.units) (de_ix (de_var (pv 3)) de_int (fun _ _ => rfl)) de_str (nomark _)) (dw_or1 (dt_cmp (od_eq hr.units) (de_ix (de_var (pv 3)) de_int (fun _ _ => rfl)) de_str (nomark _))))) (dss_one (ds_expr (de_bl1 PySem.F.slot_list_append PySem.F.type_list_append md_append (de_var (pv 2)) (da_cons (de_ix (de_var (pv 3)) de_int (fun _ _ => rfl)) da_nil)))) (dss_one (ds_aug (i := 1) scwords_of.nd rfl (Or.inl rfl) (de_rev (own := false) (de_fn h__opened (hr.mono (by omega)) rfl pass0 finX0 (da_cons (de_var (pv 3)) da_nil))) od_iadd))))))))
      (dss_one (ds_retF (de_var (pv 2))))))), fun ds M Q Ex h => ?_⟩
  obtain ⟨x, rfl, hl, q⟩ := h
  walk_at "st"
  refine seq_tail (fun σ M' => ∃ p1, M p1 = none ∧ M' = updM M p1 (.lst ([x].map Itm.d)) ∧ σ = [some x.d, some (.obj p1), none, none]) ?_ (fun N hN => by walk_at "dl"; exact fun p hp => hN _ _ ⟨p, hp, rfl, rfl⟩)
  rintro _ M0 ⟨p1, hp1, e0, rfl⟩
  rw [e0]; clear e0 M0
  refine seq_tail (fun σ M' => ∃ p2, M p2 = none ∧ p1 ≠ p2 ∧ Two M p1 p2 (([x].map Itm.d)) (dStrs []) M' ∧ σ = [some x.d, some (.obj p1), some (.obj p2), none]) ?_ (fun N hN => ?_)
  rotate_left
  · walk_at "dl"
    intro p2 hp2
    have ne : p1 ≠ p2 := neM updM_same hp2
    rw [updM_ne ne.symm] at hp2
    exact hN _ _ ⟨p2, hp2, ne, ⟨by rw [updM_ne ne]; exact updM_same, updM_same, fun q h1 h2 => by rw [updM_ne h2, updM_ne h1]⟩, rfl⟩
  rintro _ M0 ⟨p2, hp2, ne, two, rfl⟩
  refine seq_tail (fun σ M' => ∃ c, Two M p1 p2 [] (dStrs (den x)) M' ∧ σ = [some x.d, some (.obj p1), some (.obj p2), c]) ?_ (fun N hN => ?_)
  · rintro _ M2 ⟨c, tw, rfl⟩
    walk_at "dl"
    exact tw.out hp1 hp2 q
  · refine while_gen (fun m σ M' => ∃ left ws c, m = 2 * (dens left).length - left.length ∧ ws ++ dens left.reverse = den x ∧ Two M p1 p2 (left.map Itm.d) (dStrs ws) M' ∧ σ = [some x.d, some (.obj p1), some (.obj p2), c]) _ ⟨[x], [], none, rfl, by simp [dens], two, rfl⟩ ?_
    rintro m σ M' N' ⟨left, ws, c, hm, hden, tw, rfl⟩ hN'
    walk_at "dl"
    rw [tru_obj tw.one]
    refine ⟨_, rfl, ?_⟩
    have hwl : ws.length + (dens left).length ≤ 1000 := by
      have e : (dens left.reverse).length = (dens left).length := by
        unfold dens
        rw [List.length_flatMap, List.length_flatMap, List.map_reverse, List.sum_reverse]
      rw [← hden, List.length_append, e] at hl
      exact hl
    rcases List.eq_nil_or_concat left with rfl | ⟨rest, y, hrest⟩
    · refine ifB (fun h => absurd h (by decide)) (fun _ => ?_)
      refine hN _ _ ⟨c, ?_, rfl⟩
      rw [show ws ++ dens ([] : List Itm).reverse = ws from List.append_nil _] at hden
      rw [← hden]; exact tw
    · rw [List.concat_eq_append] at hrest
      subst hrest
      refine ifB (fun _ => ?_) (fun h => absurd h (by simp))
      have hone := tw.one
      rw [List.map_append, List.map_singleton] at hone
      rw [e_pop hone]
      refine ⟨isLst_of hone, ?_⟩
      have tw2 : Two M p1 p2 (rest.map Itm.d) (dStrs ws) (updM M' p1 (.lst (rest.map Itm.d))) := tw.set1 ne
      generalize updM M' p1 (.lst (rest.map Itm.d)) = M2 at tw2 ⊢
      have hdl : (dens (rest ++ [y])).length = (dens rest).length + (den y).length := by
        unfold dens
        rw [List.flatMap_append, List.length_append, List.flatMap_singleton]
      have hrl := dens_len rest
      have hs : sizeLine = 16777216 := sizeLine_eq
      rw [List.reverse_append, List.reverse_singleton, List.singleton_append, show dens (y :: rest.reverse) = den y ++ dens rest.reverse from List.flatMap_cons ..] at hden
      rw [List.length_append, List.length_singleton] at hm
      have word : ∀ (w : Str) , den y = [w] → dAppend (.obj p2) [.str w] M2 fun x' M1 => N' [some x.d, some (.obj p1), some (.obj p2), some y.d] M1 := by
        intro w hw
        rw [e_append tw2.two]
        refine ⟨by rw [List.length_map]; omega, hN' (2 * (dens rest).length - rest.length) _ _ ?_ ⟨rest, ws ++ [w], some y.d, rfl, ?_, ?_, rfl⟩⟩
        · rw [hw, List.length_singleton] at hdl
          omega
        · rw [← hden, hw]; simp
        · have := tw2.set2 (c := dStrs (ws ++ [w])) ne
          rw [show dStrs (ws ++ [w]) = dStrs ws ++ [.str w] from List.map_append ..] at this
          rw [show dStrs (ws ++ [w]) = dStrs ws ++ [.str w] from List.map_append ..]
          exact this
      have open_ : Opn y → sp_opened [y.d] M2 (fun z M3 => ∃ ds, lsD M3 z = some ds ∧ dNew false ds.reverse M3 fun u M4 => dIAdd (.obj p1) u M4 fun z M5 => N' [some x.d, some z, some (.obj p2), some y.d] M5) X0 := by
        intro ho
        refine ⟨y, rfl, ho, by omega, fun ys h2 hy => ⟨_, rfl, ?_⟩⟩
        rw [e_new_f, e_iadd_obj tw2.one rfl]
        have hyl := dens_len ys
        have hyd : (dens ys).length = (den y).length := by rw [hy]
        refine ⟨by rw [List.length_map, List.length_reverse, List.length_map]; omega, hN' (2 * (dens (rest ++ ys.reverse)).length - (rest ++ ys.reverse).length) _ _ ?_ ⟨rest ++ ys.reverse, ws, some y.d, rfl, ?_, ?_, rfl⟩⟩
        · have e : (dens (rest ++ ys.reverse)).length = (dens rest).length + (dens ys).length := by
            unfold dens
            rw [List.flatMap_append, List.length_append]
            congr 1
            rw [List.length_flatMap, List.length_flatMap, List.map_reverse, List.sum_reverse]
          rw [List.length_append, List.length_reverse, e]
          have := den_pos y
          omega
        · rw [List.reverse_append, List.reverse_reverse, show dens (ys ++ rest.reverse) = dens ys ++ dens rest.reverse from List.flatMap_append .., hy]
          exact hden
        · have := tw2.set1 (c := (rest ++ ys.reverse).map Itm.d) ne
          rw [List.map_append, List.map_reverse] at this
          rw [List.map_append, List.map_reverse]
          exact this
      have io1 := isLst_of tw2.one
      have io2 := isLst_of tw2.two
      rcases y with w | t | v
      · rw [show (Itm.tok w).d = .str w from rfl] at word ⊢
        refine ⟨"str", true, rfl, by decide +kernel, ?_⟩
        exact ⟨io2, word w rfl⟩
      · have h1 : tyD t.d M2 = some "tuple" := by cases t <;> rfl
        have hn1 : ¬ hd t = "name" := by
          cases t with
          | same a b => exact (show ¬ (("same" : Str) = "name") by decide +kernel)
          | neg a => exact (show ¬ (("not" : Str) = "name") by decide +kernel)
          | con a b => exact (show ¬ (("and" : Str) = "name") by decide +kernel)
          | dis a b => exact (show ¬ (("or" : Str) = "name") by decide +kernel)
        have hn2 : ¬ hd t = "value" := by
          cases t with
          | same a b => exact (show ¬ (("same" : Str) = "value") by decide +kernel)
          | neg a => exact (show ¬ (("not" : Str) = "value") by decide +kernel)
          | con a b => exact (show ¬ (("and" : Str) = "value") by decide +kernel)
          | dis a b => exact (show ¬ (("or" : Str) = "value") by decide +kernel)
        rw [show (Itm.tst t).d = t.d from rfl] at open_ ⊢
        refine ⟨"tuple", false, h1, by decide +kernel, ?_⟩
        rw [ifB_f, e_hd, e_eq_str, bne_f]
        refine ifB (fun h => absurd (of_decide_eq_true h) hn1) (fun _ => ?_)
        rw [e_hd, e_eq_str, bne_f]
        refine ifB (fun h => absurd (of_decide_eq_true h) hn2) (fun _ => ?_)
        exact open_ trivial
      · rcases v with a | ⟨t, u, v⟩
        · have hw := word a.s rfl
          rcases a with s | s
          · rw [show (Itm.val (.at (.nm s))).d = .tup [.str "name", .str s] from rfl] at hw ⊢
            walk_at "dl"
            refine ⟨"tuple", false, rfl, by decide +kernel, ?_⟩
            exact ⟨io2, hw⟩
          · rw [show (Itm.val (.at (.vl s))).d = .tup [.str "value", .str s] from rfl] at hw ⊢
            walk_at "dl"
            refine ⟨"tuple", false, rfl, by decide +kernel, ?_⟩
            exact ⟨io2, hw⟩
        · have ho := open_ trivial
          rw [show (Itm.val (.ite t u v)).d = .tup [.str "if", t.d, u.d, v.d] from rfl] at ho ⊢
          walk_at "dl"
          refine ⟨"tuple", false, rfl, by decide +kernel, ?_⟩
          exact ho
end
end K05
namespace K05
open PySem PySem.Spec L2 DL Syn Wr
local macro_rules | `(tactic| walk_at "st") => `(tactic| simp only [start_def, List.map_cons, List.map_nil, List.length_cons, List.length_nil, List.cons_append, List.nil_append, Nat.zero_add, Nat.reduceAdd, Nat.reduceSub, List.replicate])
local macro_rules | `(tactic| walk_at "dl") => `(tactic| simp only [dSeq, dNext, dDrop, dRet, dRetF, dRetN, dIfS, dAsg, dAug, dPar, nGm, nTup, nCons, nNil, dVar, dC, dOp, dUn, dCons, dNil, dTup, dLst, dB, dTru, dAnd, dOr, dNot, dAndV, dOrV, dNotV, dIf, dChain, dCB, dCall, dSlE, dNoPart, dPart, dRev, dS0, dS1, dBL, dBL0, dIsi, dBreak, dCont, List.set_cons_zero, List.set_cons_succ, List.getElem?_cons_zero, List.getElem?_cons_succ, ifB_t, ifB_f, e_new_f, e_new_t, e_add_int, e_add_str, e_add_tup, e_add_lst, e_sub, e_mul, e_mul_str, e_mul_lst, e_div, e_mod, e_pow, e_neg, e_eq_int, e_eq_str, e_isN_non, e_isN_obj, e_isN_tup, e_isN_lst, e_lt_int, e_lt_str, e_le_int, e_le_str, e_gt, e_ge, e_in_str, e_t0, e_t1, e_t2, e_t3, e_t4, e_t5, e_l0, e_l1, e_l2, e_l3, e_sl_tup, e_sl_rdl, e_sl_str, e_sl_lst, e_len_str, e_len_lst, e_len_tup, e_int, e_tupC_tup, e_tupC_lst, e_iadd_int, e_iadd_str, e_isub, tru_bl, tru_int, tru_non, tru_lst, tru_tup, ex_some, bne_f, bne_t, e_nSub, lsD_lst, sz0, sz1, sz2, sz3, sz4, sz5, sz6, sz7, sz8, true_and])
section
variable {P : Program} {w : World} {K : PySem.W.Frag} {mg : Str → Option Value} {base : Heap}
def sp_givens_of : SpD := fun ds M Q _ => ∃ gs : List Giv, ds = [.tup (gs.map givD)] ∧ gs.length ≤ 3 ∧ Q (.lst (dStrs (givW gs))) M
theorem ok_givens_of (T : Txt K mg) {f : Addr} {fd : FuncData} (F : FunD K "givens_of" "givens_of" (defArgs sgivens_of) (defBody sgivens_of) (defScope sgivens_of) [] [] f fd) : FnOk P w K mg base CX0 (0 + 1) f fd Pgivens_of (LSp K (sp_givens_of)) := by
  refine fnD0 F scgivens_of (fun ds M Q E h => by first | (obtain ⟨rfl, _⟩ := h; rfl) | (obtain ⟨_, rfl, _⟩ := h; rfl) | (obtain ⟨_, _, rfl, _⟩ := h; rfl) | (obtain ⟨_, _, _, rfl, _⟩ := h; rfl) | (obtain ⟨_, _, _, _, rfl, _⟩ := h; rfl)) fun cdv A outer s H E F0 hr => ⟨_, (dss_cons (ds_set (i := 1) scgivens_of.nd rfl (Or.inl rfl) (de_lst (own := true) (da_cons de_str da_nil)))
      (dss_cons (ds_for PassesOwn.never rfl (di_enum rfl T.enumerate (da_cons (de_var (pv 0)) da_nil)) (dg_tup rfl (dgs_cons (dg_name (pg_name (i := 2) scgivens_of.nd rfl (Or.inl rfl))) (dgs_cons (dg_name (pg_name (i := 3) scgivens_of.nd rfl (Or.inl rfl))) dgs_nil))) (dss_cons (ds_if (dt_tru (de_var (pv 2))) (dss_one (ds_expr (de_bl1 PySem.F.slot_list_append PySem.F.type_list_append md_append (de_var (pv 1)) (da_cons de_str da_nil)))) dss_nil)
      (dss_one (ds_aug (i := 1) scgivens_of.nd rfl (Or.inl rfl) (de_lst (own := false) (da_cons (de_ix (de_var (pv 3)) de_int (fun _ _ => rfl)) (da_cons de_str (da_cons (de_ix (de_var (pv 3)) de_int (fun _ _ => rfl)) da_nil)))) od_iadd))))
      (dss_one (ds_ret (de_op (od_add (own := false)) (de_var (pv 1)) (de_lst (own := false) (da_cons de_str da_nil))))))), fun ds M Q Ex h => ?_⟩
  obtain ⟨gs, rfl, hl, q⟩ := h
  walk_at "st"
  have hs : sizeLine = 16777216 := sizeLine_eq
  refine seq_tail (fun σ M' => ∃ p, M p = none ∧ Ow M p (dStrs ["("]) M' ∧ σ = [some (.tup (gs.map givD)), some (.obj p), none, none]) ?_ (fun N hN => by walk_at "dl"; exact fun p hp => hN _ _ ⟨p, hp, .start hp, rfl⟩)
  rintro _ M0 ⟨p, hp, ow, rfl⟩
  refine seq_tail (fun σ M' => ∃ a c, Ow M p (dStrs (("(" : Str) :: commas (gs.map fun g => [g.1, (":" : Str), g.2]))) M' ∧ σ = [some (.tup (gs.map givD)), some (.obj p), a, c]) ?_ (fun N hN => ?_)
  · rintro _ M2 ⟨a, c, ow, rfl⟩
    have hcl := commas_len (n := 3) (gs.map fun g => [g.1, (":" : Str), g.2]) (fun x hx => by obtain ⟨g, _, rfl⟩ := List.mem_map.mp hx; exact Nat.le_refl _)
    rw [List.length_map] at hcl
    walk_at "dl"
    rw [e_add_obj ow.one, e_new_f]
    refine ⟨by rw [dStrs_len, List.length_cons]; simp only [List.length_cons, List.length_nil]; omega, ow.wk ?_⟩
    have : dStrs (givW gs) = dStrs (("(" : Str) :: commas (gs.map fun g => [g.1, (":" : Str), g.2])) ++ [.str ")"] := by unfold givW; simp
    rw [← this]; exact q
  · refine for_pure (pairs (gs.map givD)) (fun Kd hk => by unfold dEnum; walk_at "dl"; exact hk) (fun i σ M' => ∃ a c, Ow M p (dStrs (("(" : Str) :: commas ((gs.map fun g => [g.1, (":" : Str), g.2]).take i))) M' ∧ σ = [some (.tup (gs.map givD)), some (.obj p), a, c]) ⟨none, none, by rw [List.take_zero]; exact ow, rfl⟩ ?_ ?_
    · rintro i d σ M' N' hi ⟨a, c, ow, rfl⟩ hN'
      obtain ⟨x, hx, rfl⟩ := pairs_of hi
      rw [List.getElem?_map] at hx
      obtain ⟨g, hg, rfl⟩ := Option.map_eq_some_iff.mp hx
      have hat : (gs.map fun g => [g.1, (":" : Str), g.2])[i]? = some [g.1, (":" : Str), g.2] := by rw [List.getElem?_map, hg] <;> rfl
      have hcl := commas_len (n := 3) ((gs.map fun g => [g.1, (":" : Str), g.2]).take i) (fun x hx => by obtain ⟨g, _, rfl⟩ := List.mem_map.mp (List.mem_of_mem_take hx); exact Nat.le_refl _)
      have hcl2 : ((gs.map fun g => [g.1, (":" : Str), g.2]).take i).length ≤ 3 := Nat.le_trans (by rw [List.length_take]; exact Nat.min_le_right _ _) (by rw [List.length_map]; exact hl)
      rw [show givD g = .tup [.str g.1, .str g.2] from rfl]
      have last : ∀ ws M2, ws.length ≤ 16 → Ow M p (dStrs ws) M2 → commas ((gs.map fun g => [g.1, (":" : Str), g.2]).take (i + 1)) = ws.tail ++ [g.1, (":" : Str), g.2] → ws.head? = some "(" → dIAdd (.obj p) (.lst [.str g.1, .str ":", .str g.2]) M2 fun z M3 => N' [some (.tup (gs.map givD)), some z, some (.int i), some (.tup [.str g.1, .str g.2])] M3 := by
        intro ws M2 hw ow2 hc hh
        rw [e_iadd_obj ow2.one rfl]
        refine ⟨by rw [dStrs_len]; simp only [List.length_cons, List.length_nil]; omega, hN' _ _ ⟨_, _, ?_, rfl⟩⟩
        rw [hc]
        cases ws with
        | nil => cases hh
        | cons w ws =>
          cases hh
          have := ow2.set (c := dStrs (("(" : Str) :: (ws ++ [g.1, (":" : Str), g.2]))) hp
          simpa using this
      walk_at "dl"
      refine ⟨rfl, ?_⟩
      refine ifB (fun h0 => ?_) (fun h0 => ?_)
      · have hi0 : ¬ i = 0 := by intro h; subst h; exact absurd h0 (by decide)
        refine ⟨ow.lst, ?_⟩
        rw [e_append ow.one]
        refine ⟨by rw [dStrs_len, List.length_cons]; omega, ?_⟩
        refine last (("(" : Str) :: (commas ((gs.map fun g => [g.1, (":" : Str), g.2]).take i) ++ [(",":Str)])) _ (by rw [List.length_cons, List.length_append, List.length_singleton]; omega) ?_ ?_ rfl
        · have := ow.set (c := dStrs (("(" : Str) :: (commas ((gs.map fun g => [g.1, (":" : Str), g.2]).take i) ++ [(",":Str)]))) hp
          simpa using this
        · rw [commas_at hat, if_neg hi0] <;> rfl
      · have hi0 : i = 0 := by
          have : ((i : Int) != 0) = false := h0
          simp at this
          omega
        refine last (("(" : Str) :: commas ((gs.map fun g => [g.1, (":" : Str), g.2]).take i)) _ (by rw [List.length_cons]; omega) ow ?_ rfl
        rw [commas_at hat, if_pos hi0, List.append_nil] <;> rfl
    · rintro σ M' ⟨a, c, ow, rfl⟩
      rw [pairs_len, show (gs.map givD).length = (gs.map fun g => [g.1, (":" : Str), g.2]).length by rw [List.length_map, List.length_map], List.take_length] at ow
      exact hN _ _ ⟨a, c, ow, rfl⟩
def sp_kline : SpD := fun ds M Q _ => ∃ k : Str × List Str, ds = [kindD k] ∧ k.2.length ≤ 5 ∧ Tks 80 (kindW k) ∧ Q (.str (nl (lineN 0 (kindW k)))) M
theorem ok_kind_line (T : Txt K mg) {f : Addr} {fd : FuncData} (F : FunD K "kind_line" "kind_line" (defArgs skind_line) (defBody skind_line) (defScope skind_line) [] [] f fd) (h_line_of : Callee P w K mg base CX0 (3) "line_of" Pline_of sp_line) : FnOk P w K mg base CX0 (3 + 1) f fd Pkind_line (LSp K (sp_kline)) := by
  refine fnD0 F sckind_line (fun ds M Q E h => by first | (obtain ⟨rfl, _⟩ := h; rfl) | (obtain ⟨_, rfl, _⟩ := h; rfl) | (obtain ⟨_, _, rfl, _⟩ := h; rfl) | (obtain ⟨_, _, _, rfl, _⟩ := h; rfl) | (obtain ⟨_, _, _, _, rfl, _⟩ := h; rfl)) fun cdv A outer s H E F0 hr => ⟨_, (dss_cons (ds_set (i := 1) sckind_line.nd rfl (Or.inl rfl) (de_lst (own := true) (da_cons de_str (da_cons (de_ix (de_var (pv 0)) de_int (fun _ _ => rfl)) (da_cons de_str da_nil)))))
      (dss_cons (ds_for PassesOwn.never rfl (di_enum rfl T.enumerate (da_cons (de_ix (de_var (pv 0)) de_int (fun _ _ => rfl)) da_nil)) (dg_tup rfl (dgs_cons (dg_name (pg_name (i := 2) sckind_line.nd rfl (Or.inl rfl))) (dgs_cons (dg_name (pg_name (i := 3) sckind_line.nd rfl (Or.inl rfl))) dgs_nil))) (dss_cons (ds_if (dt_tru (de_var (pv 2))) (dss_one (ds_expr (de_bl1 PySem.F.slot_list_append PySem.F.type_list_append md_append (de_var (pv 1)) (da_cons de_str da_nil)))) dss_nil)
      (dss_one (ds_expr (de_bl1 PySem.F.slot_list_append PySem.F.type_list_append md_append (de_var (pv 1)) (da_cons (de_var (pv 3)) da_nil))))))
      (dss_one (ds_ret (de_fn h_line_of (hr.mono (by omega)) rfl pass0 finX0 (da_cons de_int (da_cons (de_op (od_add (own := false)) (de_var (pv 1)) (de_lst (own := false) (da_cons de_str da_nil))) da_nil))))))), fun ds M Q Ex h => ?_⟩
  obtain ⟨k, rfl, hl, tk, q⟩ := h
  walk_at "st"
  have hs : sizeLine = 16777216 := sizeLine_eq
  rw [show kindD k = .tup [.str k.1, .tup (k.2.map D.str)] from rfl]
  refine seq_tail (fun σ M' => ∃ p, M p = none ∧ Ow M p (dStrs ["kind", k.1, "="]) M' ∧ σ = [some (.tup [.str k.1, .tup (k.2.map D.str)]), some (.obj p), none, none]) ?_ (fun N hN => by walk_at "dl"; exact fun p hp => hN _ _ ⟨p, hp, .start hp, rfl⟩)
  rintro _ M0 ⟨p, hp, ow, rfl⟩
  refine seq_tail (fun σ M' => ∃ a c, Ow M p (dStrs (("kind" : Str) :: k.1 :: ("=" : Str) :: bars k.2)) M' ∧ σ = [some (.tup [.str k.1, .tup (k.2.map D.str)]), some (.obj p), a, c]) ?_ (fun N hN => ?_)
  · rintro _ M2 ⟨a, c, ow, rfl⟩
    have hcl := bars_len k.2
    walk_at "dl"
    rw [e_add_obj ow.one, e_new_f]
    refine ⟨by rw [dStrs_len]; simp only [List.length_cons, List.length_nil]; omega, 0, kindW k, ?_, by decide, Nat.le_trans tk.1 (by decide), fun w hw => (tk.2 w hw).wd, ow.wk q⟩
    show [D.int 0, D.lst _] = [D.int ((0 : Nat) : Int), D.lst (dStrs (kindW k))]
    have : dStrs (kindW k) = dStrs (("kind" : Str) :: k.1 :: ("=" : Str) :: bars k.2) ++ [.str ";"] := by unfold kindW; simp
    rw [this] <;> rfl
  · refine for_pure (pairs (k.2.map D.str)) (fun Kd hk => by unfold dEnum; walk_at "dl"; exact hk) (fun i σ M' => ∃ a c, Ow M p (dStrs (("kind" : Str) :: k.1 :: ("=" : Str) :: bars (k.2.take i))) M' ∧ σ = [some (.tup [.str k.1, .tup (k.2.map D.str)]), some (.obj p), a, c]) ⟨none, none, by rw [List.take_zero]; exact ow, rfl⟩ ?_ ?_
    · rintro i d σ M' N' hi ⟨a, c, ow, rfl⟩ hN'
      obtain ⟨x, hx, rfl⟩ := pairs_of hi
      rw [List.getElem?_map] at hx
      obtain ⟨g, hg, rfl⟩ := Option.map_eq_some_iff.mp hx
      have hcl := bars_len (k.2.take i)
      have hcl2 : (k.2.take i).length ≤ 5 := Nat.le_trans (by rw [List.length_take]; exact Nat.min_le_right _ _) hl
      have last : ∀ ws M2, ws.length ≤ 20 → Ow M p (dStrs ws) M2 → ("kind" : Str) :: k.1 :: ("=" : Str) :: bars (k.2.take (i + 1)) = ws ++ [g] → dAppend (.obj p) [.str g] M2 fun z M3 => N' [some (.tup [.str k.1, .tup (k.2.map D.str)]), some (.obj p), some (.int i), some (.str g)] M3 := by
        intro ws M2 hw ow2 hc
        rw [e_append ow2.one]
        refine ⟨by rw [dStrs_len]; omega, hN' _ _ ⟨_, _, ?_, rfl⟩⟩
        rw [hc]
        have := ow2.set (c := dStrs (ws ++ [g])) hp
        simpa using this
      walk_at "dl"
      refine ⟨rfl, ?_⟩
      refine ifB (fun h0 => ?_) (fun h0 => ?_)
      · have hi0 : ¬ i = 0 := by intro h; subst h; exact absurd h0 (by decide)
        refine ⟨ow.lst, ?_⟩
        rw [e_append ow.one]
        have ow2 := ow.set (c := dStrs (("kind" : Str) :: k.1 :: ("=" : Str) :: (bars (k.2.take i) ++ [("|" : Str)]))) hp
        have hlen : (("kind" : Str) :: k.1 :: ("=" : Str) :: (bars (k.2.take i) ++ [("|" : Str)])).length ≤ 20 := by
          simp only [List.length_cons, List.length_append, List.length_nil]; omega
        rw [show dStrs (("kind" : Str) :: k.1 :: ("=" : Str) :: (bars (k.2.take i) ++ [("|" : Str)])) = dStrs (("kind" : Str) :: k.1 :: ("=" : Str) :: bars (k.2.take i)) ++ [.str "|"] by simp] at ow2
        refine ⟨by rw [dStrs_len]; simp only [List.length_cons]; omega, isLst_of ow2.one, ?_⟩
        refine last (("kind" : Str) :: k.1 :: ("=" : Str) :: (bars (k.2.take i) ++ [("|" : Str)])) _ hlen ?_ ?_
        · rw [show dStrs (("kind" : Str) :: k.1 :: ("=" : Str) :: (bars (k.2.take i) ++ [("|" : Str)])) = dStrs (("kind" : Str) :: k.1 :: ("=" : Str) :: bars (k.2.take i)) ++ [.str "|"] by simp]
          exact ow2
        · rw [bars_at hg, if_neg hi0] <;> rfl
      · have hi0 : i = 0 := by
          have : ((i : Int) != 0) = false := h0
          simp at this
          omega
        refine ⟨ow.lst, ?_⟩
        refine last (("kind" : Str) :: k.1 :: ("=" : Str) :: bars (k.2.take i)) _ (by simp only [List.length_cons]; omega) ow ?_
        rw [bars_at hg, if_pos hi0, List.append_nil] <;> rfl
    · rintro σ M' ⟨a, c, ow, rfl⟩
      rw [pairs_len, List.length_map, List.take_length] at ow
      exact hN _ _ ⟨a, c, ow, rfl⟩
def sp_vline : SpD := fun ds M Q _ => ∃ (deep : Nat) (v : Vr), ds = [.int deep, vrD v] ∧ deep < 13 ∧ Tks 80 (varW v) ∧ Q (.str (nl (lineN deep (varW v)))) M
theorem valW_len {v : Val} {a b : List Str} {n : Nat} (h : Tks n (a ++ (valW v ++ b))) : (valW v).length ≤ n := by
  have := h.1
  rw [List.length_append, List.length_append] at this
  omega
theorem ok_var_line (T : Txt K mg) {f : Addr} {fd : FuncData} (F : FunD K "var_line" "var_line" (defArgs svar_line) (defBody svar_line) (defScope svar_line) [] [] f fd) (h_line_of : Callee P w K mg base CX0 (3) "line_of" Pline_of sp_line) (h_words_of : Callee P w K mg base CX0 (3) "words_of" Pwords_of sp_words_of) : FnOk P w K mg base CX0 (3 + 1) f fd Pvar_line (LSp K (sp_vline)) := by
  refine fnD0 F scvar_line (fun ds M Q E h => by first | (obtain ⟨rfl, _⟩ := h; rfl) | (obtain ⟨_, rfl, _⟩ := h; rfl) | (obtain ⟨_, _, rfl, _⟩ := h; rfl) | (obtain ⟨_, _, _, rfl, _⟩ := h; rfl) | (obtain ⟨_, _, _, _, rfl, _⟩ := h; rfl)) fun cdv A outer s H E F0 hr => ⟨_, (dss_one (ds_ret (de_fn h_line_of (hr.mono (by omega)) rfl pass0 finX0 (da_cons (de_var (pv 0)) (da_cons (de_op (od_add (own := false)) (de_op (od_add (own := false)) (de_lst (own := false) (da_cons de_str (da_cons (de_ix (de_var (pv 1)) de_int (fun _ _ => rfl)) (da_cons de_str (da_cons (de_ix (de_var (pv 1)) de_int (fun _ _ => rfl)) (da_cons de_str da_nil)))))) (de_fn h_words_of (hr.mono (by omega)) rfl pass0 finX0 (da_cons (de_ix (de_var (pv 1)) de_int (fun _ _ => rfl)) da_nil))) (de_lst (own := false) (da_cons de_str da_nil))) da_nil))))), fun ds M Q Ex h => ?_⟩
  obtain ⟨deep, v, rfl, hd, tk, q⟩ := h
  walk_at "st"
  have hs : sizeLine = 16777216 := sizeLine_eq
  have hv := valW_len (a := ["var", v.1, ":", v.2.1, "="]) (b := [";"]) tk
  rw [show vrD v = .tup [.str v.1, .str v.2.1, v.2.2.d] from rfl]
  walk_at "dl"
  refine ⟨.val v.2.2, rfl, Nat.le_trans hv (by decide), ?_⟩
  walk_at "dl"
  refine ⟨?_, ?_, deep, varW v, ?_, hd, Nat.le_trans tk.1 (by decide), fun w hw => (tk.2 w hw).wd, Wk.here q⟩
  · show _ + (dStrs (valW v.2.2)).length ≤ _
    rw [dStrs_len]; simp only [List.length_cons, List.length_nil]; omega
  · show (_ ++ dStrs (valW v.2.2)).length + _ ≤ _
    rw [List.length_append, dStrs_len]; simp only [List.length_cons, List.length_nil]; omega
  · unfold varW
    simp [den]
def sp_pline : SpD := fun ds M Q _ => ∃ (deep : Nat) (x : Deed), ds = [.int deep, x.d] ∧ deep < 13 ∧ ((∃ n v, x = .set n v ∧ Tks 80 (setW n v) ∧ Q (.str (nl (lineN deep (setW n v)))) M) ∨ (∃ n f vs, x = .doo n f vs ∧ vs.length ≤ 3 ∧ (∀ v ∈ vs, (valW v).length ≤ 16) ∧ Tks 80 (dooW n f vs) ∧ Q (.str (nl (lineN deep (dooW n f vs)))) M))
theorem ok_plain_line (T : Txt K mg) {f : Addr} {fd : FuncData} (F : FunD K "plain_line" "plain_line" (defArgs splain_line) (defBody splain_line) (defScope splain_line) [] [] f fd) (h_line_of : Callee P w K mg base CX0 (3) "line_of" Pline_of sp_line) (h_words_of : Callee P w K mg base CX0 (3) "words_of" Pwords_of sp_words_of) : FnOk P w K mg base CX0 (3 + 1) f fd Pplain_line (LSp K (sp_pline)) := by
  refine fnD0 F scplain_line (fun ds M Q E h => by first | (obtain ⟨rfl, _⟩ := h; rfl) | (obtain ⟨_, rfl, _⟩ := h; rfl) | (obtain ⟨_, _, rfl, _⟩ := h; rfl) | (obtain ⟨_, _, _, rfl, _⟩ := h; rfl) | (obtain ⟨_, _, _, _, rfl, _⟩ := h; rfl)) fun cdv A outer s H E F0 hr => ⟨_, (dss_cons (ds_if (dt_cmp (od_eq hr.units) (de_ix (de_var (pv 1)) de_int (fun _ _ => rfl)) de_str (nomark _)) (dss_one (ds_ret (de_fn h_line_of (hr.mono (by omega)) rfl pass0 finX0 (da_cons (de_var (pv 0)) (da_cons (de_op (od_add (own := false)) (de_op (od_add (own := false)) (de_lst (own := false) (da_cons (de_ix (de_var (pv 1)) de_int (fun _ _ => rfl)) (da_cons de_str da_nil))) (de_fn h_words_of (hr.mono (by omega)) rfl pass0 finX0 (da_cons (de_ix (de_var (pv 1)) de_int (fun _ _ => rfl)) da_nil))) (de_lst (own := false) (da_cons de_str da_nil))) da_nil))))) dss_nil)
      (dss_cons (ds_set (i := 2) scplain_line.nd rfl (Or.inl rfl) (de_lst (own := true) (da_cons (de_ix (de_var (pv 1)) de_int (fun _ _ => rfl)) (da_cons de_str (da_cons de_str (da_cons (de_ix (de_var (pv 1)) de_int (fun _ _ => rfl)) (da_cons de_str da_nil)))))))
      (dss_cons (ds_for PassesOwn.never rfl (di_enum rfl T.enumerate (da_cons (de_ix (de_var (pv 1)) de_int (fun _ _ => rfl)) da_nil)) (dg_tup rfl (dgs_cons (dg_name (pg_name (i := 3) scplain_line.nd rfl (Or.inl rfl))) (dgs_cons (dg_name (pg_name (i := 4) scplain_line.nd rfl (Or.inl rfl))) dgs_nil))) (dss_cons (ds_if (dt_tru (de_var (pv 3))) (dss_one (ds_expr (de_bl1 PySem.F.slot_list_append PySem.F.type_list_append md_append (de_var (pv 2)) (da_cons de_str da_nil)))) dss_nil)
      (dss_one (ds_aug (i := 2) scplain_line.nd rfl (Or.inl rfl) (de_fn h_words_of (hr.mono (by omega)) rfl pass0 finX0 (da_cons (de_var (pv 4)) da_nil)) od_iadd))))
      (dss_one (ds_ret (de_fn h_line_of (hr.mono (by omega)) rfl pass0 finX0 (da_cons (de_var (pv 0)) (da_cons (de_op (od_add (own := false)) (de_var (pv 2)) (de_lst (own := false) (da_cons de_str (da_cons de_str da_nil)))) da_nil)))))))), fun ds M Q Ex h => ?_⟩
  obtain ⟨deep, x, rfl, hd, ⟨n, v, rfl, tk, q⟩ | ⟨n, g, vs, rfl, hl, hvs, tk, q⟩⟩ := h
  · walk_at "st"
    have hs : sizeLine = 16777216 := sizeLine_eq
    have hv := valW_len (a := [n, ":="]) (b := [";"]) tk
    refine seq_tail (fun _ _ => False) (fun _ _ h => h.elim) (fun N hN => ?_)
    rw [show (Deed.set n v).d = .tup [.str "set", .str n, v.d] by unfold Deed.d; rfl]
    walk_at "dl"
    refine ifB (fun _ => ?_) (fun h => absurd h (by decide))
    refine ⟨.val v, rfl, Nat.le_trans hv (by decide), ?_⟩
    walk_at "dl"
    refine ⟨?_, ?_, deep, setW n v, ?_, hd, Nat.le_trans tk.1 (by decide), fun w hw => (tk.2 w hw).wd, Wk.here q⟩
    · show _ + (dStrs (valW v)).length ≤ _
      rw [dStrs_len]; simp only [List.length_cons, List.length_nil]; omega
    · show (_ ++ dStrs (valW v)).length + _ ≤ _
      rw [List.length_append, dStrs_len]; simp only [List.length_cons, List.length_nil]; omega
    · unfold setW
      simp [den]
  · walk_at "st"
    have hs : sizeLine = 16777216 := sizeLine_eq
    rw [show (Deed.doo n g vs).d = .tup [.str "do", .str n, .str g, .tup (vs.map Val.d)] by unfold Deed.d; rfl]
    refine seq_tail (fun σ M' => M' = M ∧ σ = [some (.int deep), some (.tup [.str "do", .str n, .str g, .tup (vs.map Val.d)]), none, none, none]) ?_ (fun N hN => by walk_at "dl"; exact ifB (fun h => absurd h (by decide +kernel)) (fun _ => hN _ _ ⟨rfl, rfl⟩))
    rintro _ M0 ⟨e0, rfl⟩
    rw [e0]; clear e0 M0
    refine seq_tail (fun σ M' => ∃ p, M p = none ∧ Ow M p (dStrs [n, ":=", "do", g, "("]) M' ∧ σ = [some (.int deep), some (.tup [.str "do", .str n, .str g, .tup (vs.map Val.d)]), some (.obj p), none, none]) ?_ (fun N hN => by walk_at "dl"; exact fun p hp => hN _ _ ⟨p, hp, .start hp, rfl⟩)
    rintro _ M0 ⟨p, hp, ow, rfl⟩
    refine seq_tail (fun σ M' => ∃ a c, Ow M p (dStrs ([n, (":=" : Str), "do", g, "("] ++ commas (vs.map valW))) M' ∧ σ = [some (.int deep), some (.tup [.str "do", .str n, .str g, .tup (vs.map Val.d)]), some (.obj p), a, c]) ?_ (fun N hN => ?_)
    · rintro _ M2 ⟨a, c, ow, rfl⟩
      have hcl := commas_len (n := 16) (vs.map valW) (fun x hx => by obtain ⟨v, hv, rfl⟩ := List.mem_map.mp hx; exact hvs v hv)
      rw [List.length_map] at hcl
      walk_at "dl"
      rw [e_add_obj ow.one, e_new_f]
      refine ⟨by rw [dStrs_len, List.length_append]; simp only [List.length_cons, List.length_nil]; omega, deep, dooW n g vs, ?_, hd, Nat.le_trans tk.1 (by decide), fun w hw => (tk.2 w hw).wd, ow.wk q⟩
      unfold dooW
      simp
    · refine for_pure (pairs (vs.map Val.d)) (fun Kd hk => by unfold dEnum; walk_at "dl"; exact hk) (fun i σ M' => ∃ a c, Ow M p (dStrs ([n, (":=" : Str), "do", g, "("] ++ commas ((vs.map valW).take i))) M' ∧ σ = [some (.int deep), some (.tup [.str "do", .str n, .str g, .tup (vs.map Val.d)]), some (.obj p), a, c]) ⟨none, none, by rw [List.take_zero]; exact ow, rfl⟩ ?_ ?_
      · rintro i d σ M' N' hi ⟨a, c, ow, rfl⟩ hN'
        obtain ⟨x, hx, rfl⟩ := pairs_of hi
        rw [List.getElem?_map] at hx
        obtain ⟨v, hg, rfl⟩ := Option.map_eq_some_iff.mp hx
        have hat : (vs.map valW)[i]? = some (valW v) := by rw [List.getElem?_map, hg] <;> rfl
        have hv16 := hvs v (List.mem_of_getElem? hg)
        have hcl := commas_len (n := 16) ((vs.map valW).take i) (fun x hx => by obtain ⟨v, hv, rfl⟩ := List.mem_map.mp (List.mem_of_mem_take hx); exact hvs v hv)
        have hcl2 : ((vs.map valW).take i).length ≤ 3 := Nat.le_trans (by rw [List.length_take]; exact Nat.min_le_right _ _) (by rw [List.length_map]; exact hl)
        have last : ∀ ws M2, ws.length ≤ 100 → Ow M p (dStrs ws) M2 → [n, (":=" : Str), "do", g, "("] ++ commas ((vs.map valW).take (i + 1)) = ws ++ valW v → sp_words_of [v.d] M2 (fun y M2 => dIAdd (.obj p) y M2 fun z M3 => N' [some (.int deep), some (.tup [.str "do", .str n, .str g, .tup (vs.map Val.d)]), some z, some (.int i), some v.d] M3) X0 := by
          intro ws M2 hw ow2 hc
          refine ⟨.val v, rfl, Nat.le_trans hv16 (by decide), ?_⟩
          dsimp only
          rw [e_iadd_obj ow2.one rfl]
          refine ⟨by rw [dStrs_len, dStrs_len]; show _ + (valW v).length ≤ _; omega, hN' _ _ ⟨_, _, ?_, rfl⟩⟩
          rw [hc]
          have := ow2.set (c := dStrs (ws ++ valW v)) hp
          rw [dStrs_app] at this ⊢
          exact this
        walk_at "dl"
        refine ⟨rfl, ?_⟩
        refine ifB (fun h0 => ?_) (fun h0 => ?_)
        · have hi0 : ¬ i = 0 := by intro h; subst h; exact absurd h0 (by decide)
          refine ⟨ow.lst, ?_⟩
          rw [e_append ow.one]
          refine ⟨by rw [dStrs_len, List.length_append]; simp only [List.length_cons, List.length_nil]; omega, ?_⟩
          refine last ([n, (":=" : Str), "do", g, "("] ++ (commas ((vs.map valW).take i) ++ [(",":Str)])) _ (by simp only [List.length_append, List.length_cons, List.length_nil]; omega) ?_ ?_
          · have := ow.set (c := dStrs ([n, (":=" : Str), "do", g, "("] ++ (commas ((vs.map valW).take i) ++ [(",":Str)]))) hp
            simpa using this
          · rw [commas_at hat, if_neg hi0]; simp
        · have hi0 : i = 0 := by
            have : ((i : Int) != 0) = false := h0
            simp at this
            omega
          refine last ([n, (":=" : Str), "do", g, "("] ++ commas ((vs.map valW).take i)) _ (by simp only [List.length_append, List.length_cons, List.length_nil]; omega) ow ?_
          rw [commas_at hat, if_pos hi0, List.append_nil]; simp
      · rintro σ M' ⟨a, c, ow, rfl⟩
        rw [pairs_len, show (vs.map Val.d).length = (vs.map valW).length by rw [List.length_map, List.length_map], List.take_length] at ow
        exact hN _ _ ⟨a, c, ow, rfl⟩
end
end K05
namespace K05
open PySem PySem.Spec L2 DL Syn Wr
local macro_rules | `(tactic| walk_at "st") => `(tactic| simp only [start_def, List.map_cons, List.map_nil, List.length_cons, List.length_nil, List.cons_append, List.nil_append, Nat.zero_add, Nat.reduceAdd, Nat.reduceSub, List.replicate])
local macro_rules | `(tactic| walk_at "dl") => `(tactic| simp only [dSeq, dNext, dDrop, dRet, dRetF, dRetN, dIfS, dAsg, dAug, dPar, nGm, nTup, nCons, nNil, dVar, dC, dOp, dUn, dCons, dNil, dTup, dLst, dB, dTru, dAnd, dOr, dNot, dAndV, dOrV, dNotV, dIf, dChain, dCB, dCall, dSlE, dNoPart, dPart, dRev, dS0, dS1, dBL, dBL0, dIsi, dBreak, dCont, List.set_cons_zero, List.set_cons_succ, List.getElem?_cons_zero, List.getElem?_cons_succ, ifB_t, ifB_f, e_new_f, e_new_t, e_add_int, e_add_str, e_add_tup, e_add_lst, e_sub, e_mul, e_mul_str, e_mul_lst, e_div, e_mod, e_pow, e_neg, e_eq_int, e_eq_str, e_isN_non, e_isN_obj, e_isN_tup, e_isN_lst, e_lt_int, e_lt_str, e_le_int, e_le_str, e_gt, e_ge, e_in_str, e_t0, e_t1, e_t2, e_t3, e_t4, e_t5, e_l0, e_l1, e_l2, e_l3, e_sl_tup, e_sl_rdl, e_sl_str, e_sl_lst, e_len_str, e_len_lst, e_len_tup, e_int, e_tupC_tup, e_tupC_lst, e_iadd_int, e_iadd_str, e_isub, tru_bl, tru_int, tru_non, tru_lst, tru_tup, ex_some, bne_f, bne_t, e_nSub, lsD_lst, sz0, sz1, sz2, sz3, sz4, sz5, sz6, sz7, sz8, true_and])
section
variable {P : Program} {w : World} {K : PySem.W.Frag} {mg : Str → Option Value} {base : Heap}
def sp_ifrows : SpD := fun ds M Q _ => ∃ (deep d : Nat) (t : Tst) (xs ys : List Deed), ds = [.int deep, (Deed.ite t xs ys).d] ∧ (Deed.ite t xs ys).ok d ∧ deep + d < 13 ∧ Q (.lst ((ifR deep t xs ys).map Row.d)) M
theorem ok_if_rows (T : Txt K mg) {f : Addr} {fd : FuncData} (F : FunD K "if_rows" "if_rows" (defArgs sif_rows) (defBody sif_rows) (defScope sif_rows) [] [] f fd) (h_line_of : Callee P w K mg base CX0 (3) "line_of" Pline_of sp_line) (h_words_of : Callee P w K mg base CX0 (3) "words_of" Pwords_of sp_words_of) : FnOk P w K mg base CX0 (3 + 1) f fd Pif_rows (LSp K (sp_ifrows)) := by
  refine fnD0 F scif_rows (fun ds M Q E h => by first | (obtain ⟨rfl, _⟩ := h; rfl) | (obtain ⟨_, rfl, _⟩ := h; rfl) | (obtain ⟨_, _, rfl, _⟩ := h; rfl) | (obtain ⟨_, _, _, rfl, _⟩ := h; rfl) | (obtain ⟨_, _, _, _, rfl, _⟩ := h; rfl) | (obtain ⟨_, _, _, _, _, rfl, _⟩ := h; rfl) | (obtain ⟨_, _, _, _, _, _, rfl, _⟩ := h; rfl) | (obtain ⟨_, _, _, _, _, _, _, rfl, _⟩ := h; rfl)) fun cdv A outer s H E F0 hr => ⟨_, (dss_cons (ds_set (i := 2) scif_rows.nd rfl (Or.inl rfl) (de_lst (own := true) (da_cons (de_tup (da_cons (de_var (pv 0)) (da_cons (de_fn h_line_of (hr.mono (by omega)) rfl pass0 finX0 (da_cons (de_var (pv 0)) (da_cons (de_op (od_add (own := false)) (de_op (od_add (own := false)) (de_lst (own := false) (da_cons de_str da_nil)) (de_fn h_words_of (hr.mono (by omega)) rfl pass0 finX0 (da_cons (de_ix (de_var (pv 1)) de_int (fun _ _ => rfl)) da_nil))) (de_lst (own := false) (da_cons de_str da_nil))) da_nil))) da_nil))) da_nil)))
      (dss_cons (ds_aug (i := 2) scif_rows.nd rfl (Or.inl rfl) (de_lc (own := false) (x := "row") (j := 3) rfl scif_rows.nd (di_items (de_ix (de_var (pv 1)) de_int (fun _ _ => rfl))) (blkOk_by (N := Nif_rows) (sc := defScope sif_rows) (by decide +kernel)) (fun _ _ _ _ _ => pg_name (i := 3) scif_rows.nd rfl (by first | exact Or.inl rfl | exact Or.inr rfl)) (fun _ _ _ _ _ => (de_tup (da_cons (de_op (od_add (own := false)) (de_var (pv 0)) de_int) (da_cons (de_var (pv 3)) da_nil))))) od_iadd)
      (dss_cons (ds_if (dt_cmp (od_ne hr.units) (de_ix (de_var (pv 1)) de_int (fun _ _ => rfl)) (de_tup da_nil) (nomark _)) (dss_cons (ds_expr (de_bl1 PySem.F.slot_list_append PySem.F.type_list_append md_append (de_var (pv 2)) (da_cons (de_tup (da_cons (de_var (pv 0)) (da_cons (de_fn h_line_of (hr.mono (by omega)) rfl pass0 finX0 (da_cons (de_var (pv 0)) (da_cons (de_lst (own := false) (da_cons de_str (da_cons de_str (da_cons de_str da_nil)))) da_nil))) da_nil))) da_nil)))
      (dss_one (ds_aug (i := 2) scif_rows.nd rfl (Or.inl rfl) (de_lc (own := false) (x := "row") (j := 3) rfl scif_rows.nd (di_items (de_ix (de_var (pv 1)) de_int (fun _ _ => rfl))) (blkOk_by (N := Nif_rows) (sc := defScope sif_rows) (by decide +kernel)) (fun _ _ _ _ _ => pg_name (i := 3) scif_rows.nd rfl (by first | exact Or.inl rfl | exact Or.inr rfl)) (fun _ _ _ _ _ => (de_tup (da_cons (de_op (od_add (own := false)) (de_var (pv 0)) de_int) (da_cons (de_var (pv 3)) da_nil))))) od_iadd))) dss_nil)
      (dss_one (ds_ret (de_op (od_add (own := false)) (de_var (pv 2)) (de_lst (own := false) (da_cons (de_tup (da_cons (de_var (pv 0)) (da_cons (de_fn h_line_of (hr.mono (by omega)) rfl pass0 finX0 (da_cons (de_var (pv 0)) (da_cons (de_lst (own := false) (da_cons de_str da_nil)) da_nil))) da_nil))) da_nil)))))))), fun ds M Q Ex h => ?_⟩
  obtain ⟨deep, d, t, xs, ys, rfl, ok, hd, q⟩ := h
  cases d with
  | zero => unfold Deed.ok at ok; exact ok.elim
  | succ d =>
  unfold Deed.ok at ok
  obtain ⟨h1, h2, h3, h4, h5⟩ := ok
  walk_at "st"
  have hs : sizeLine = 16777216 := sizeLine_eq
  have tki := tk_if h1
  have hbody : (body t).length ≤ 80 := by
    have := tki.1
    unfold ifW at this
    rw [List.length_cons, List.length_append] at this
    omega
  rw [show (Deed.ite t xs ys).d = .tup [.str "if", t.d, .tup (deedsD xs), .tup (deedsD ys)] by rw [Deed.d]]
  have line : ∀ ws M' (Q : DK), Tks 80 ws → Q (.str (nl (lineN deep ws))) M' → sp_line [.int deep, .lst (dStrs ws)] M' Q X0 := fun ws M' Q tk q => ⟨deep, ws, rfl, by omega, Nat.le_trans tk.1 (by decide), fun w hw => (tk.2 w hw).wd, q⟩
  have com : ∀ zs : List Deed, zs.length ≤ 2 → ∀ (σ : DS) (M' : Mp) (Q : DK), σ = [some (.int deep), some (.tup [.str "if", t.d, .tup (deedsD xs), .tup (deedsD ys)]), σ.getD 2 none, σ.getD 3 none] → Q (.lst ((zs.map (Row.dd (deep + 1))).map Row.d)) M' → ∀ wi : DTI, (∀ Kd : List D → (Mp → Prop) → Mp → Prop, Kd (zs.map Deed.d) (fun _ => True) M' → wi σ M' Kd) → dLc false 3 wi (dTup (dCons (dOp (dAdd false) (dVar 0) (dC (.int 1))) (dCons (dVar 3) dNil))) σ M' Q := by
    intro zs hz σ M' Q hσ q wi hwi
    refine lc_row zs Deed.d (fun x => .tup [.int ((deep : Int) + 1), x.d]) hwi (by omega) (fun i x M2 Q2 hx _ q2 => ?_) (by rw [← dd_map]; exact q)
    rw [hσ]
    walk_at "dl"
    exact q2
  refine seq_tail (fun σ M' => ∃ p, M p = none ∧ Ow M p ([Row.ln deep (lineN deep (ifW t))].map Row.d) M' ∧ σ = [some (.int deep), some (.tup [.str "if", t.d, .tup (deedsD xs), .tup (deedsD ys)]), some (.obj p), none]) ?_ (fun N hN => ?_)
  rotate_left
  · walk_at "dl"
    refine ⟨.tst t, rfl, by show (body t).length ≤ _; omega, ?_⟩
    walk_at "dl"
    refine ⟨?_, ?_, ?_⟩
    · show _ + (dStrs (body t)).length ≤ _
      rw [dStrs_len]; simp only [List.length_cons, List.length_nil]; omega
    · show (_ ++ dStrs (body t)).length + _ ≤ _
      rw [List.length_append, dStrs_len]; simp only [List.length_cons, List.length_nil]; omega
    · have e : [D.str "if"] ++ dStrs (den (.tst t)) ++ [.str "{"] = dStrs (ifW t) := by unfold ifW; simp [den]
      rw [e]
      exact line _ _ _ tki fun p hp => hN _ _ ⟨p, hp, .start hp, rfl⟩
  rintro _ M0 ⟨p, hp, ow, rfl⟩
  refine seq_tail (fun σ M' => Ow M p ((Row.ln deep (lineN deep (ifW t)) :: xs.map (Row.dd (deep + 1))).map Row.d) M' ∧ σ = [some (.int deep), some (.tup [.str "if", t.d, .tup (deedsD xs), .tup (deedsD ys)]), some (.obj p), none]) ?_ (fun N hN => ?_)
  rotate_left
  · unfold dAug
    dsimp only [List.getElem?_cons_succ, List.getElem?_cons_zero]
    refine com xs h2 _ _ _ rfl ?_ _ (fun Kd hk => by unfold dItems; walk_at "dl"; rw [deedsD_map]; exact hk)
    rw [e_iadd_obj ow.one rfl]
    refine ⟨by rw [List.length_map, List.length_map, List.length_map, List.length_singleton]; omega, hN _ _ ⟨?_, rfl⟩⟩
    have := ow.set (c := (Row.ln deep (lineN deep (ifW t)) :: xs.map (Row.dd (deep + 1))).map Row.d) hp
    exact this
  rintro _ M1 ⟨ow1, rfl⟩
  refine seq_tail (fun σ M' => Ow M p ((Row.ln deep (lineN deep (ifW t)) :: (xs.map (Row.dd (deep + 1)) ++ (elseR deep ys ++ ys.map (Row.dd (deep + 1))))).map Row.d) M' ∧ σ = [some (.int deep), some (.tup [.str "if", t.d, .tup (deedsD xs), .tup (deedsD ys)]), some (.obj p), none]) ?_ (fun N hN => ?_)
  rotate_left
  · walk_at "dl"
    refine e_ne_nil (n := 2 * d + 7) (sh_deeds h5) (by omega) ?_
    dsimp only
    refine ifB (fun hb => ?_) (fun hb => ?_)
    · obtain ⟨y, zs, rfl⟩ : ∃ y zs, ys = y :: zs := by
        cases ys with
        | nil => unfold deedsD at hb; cases hb
        | cons y zs => exact ⟨y, zs, rfl⟩
      refine ⟨ow1.lst, ?_⟩
      refine line elseW _ _ tk_else ?_
      rw [e_append ow1.one]
      have ow2 := ow1.set (c := (Row.ln deep (lineN deep (ifW t)) :: (xs.map (Row.dd (deep + 1)) ++ [.ln deep (lineN deep elseW)])).map Row.d) hp
      have e2 : ((Row.ln deep (lineN deep (ifW t)) :: (xs.map (Row.dd (deep + 1)) ++ [.ln deep (lineN deep elseW)])).map Row.d) = (Row.ln deep (lineN deep (ifW t)) :: xs.map (Row.dd (deep + 1))).map Row.d ++ [.tup [.int deep, .str (nl (lineN deep elseW))]] := by simp [Row.d]
      rw [e2] at ow2
      refine ⟨by rw [List.length_map, List.length_cons, List.length_map]; omega, ?_⟩
      refine com (y :: zs) (by omega) _ _ _ rfl ?_ _ (fun Kd hk => by unfold dItems; walk_at "dl"; rw [deedsD_map]; exact hk)
      rw [e_iadd_obj ow2.one rfl]
      refine ⟨by simp only [List.length_append, List.length_map, List.length_cons, List.length_nil] at h4 ⊢; omega, hN _ _ ⟨?_, rfl⟩⟩
      have := ow2.set (c := (Row.ln deep (lineN deep (ifW t)) :: (xs.map (Row.dd (deep + 1)) ++ (elseR deep (y :: zs) ++ (y :: zs).map (Row.dd (deep + 1))))).map Row.d) hp
      have e3 : (Row.ln deep (lineN deep (ifW t)) :: (xs.map (Row.dd (deep + 1)) ++ (elseR deep (y :: zs) ++ (y :: zs).map (Row.dd (deep + 1))))).map Row.d = (Row.ln deep (lineN deep (ifW t)) :: xs.map (Row.dd (deep + 1))).map Row.d ++ [.tup [.int deep, .str (nl (lineN deep elseW))]] ++ ((y :: zs).map (Row.dd (deep + 1))).map Row.d := by simp [Row.d, elseR]
      rw [e3] at this ⊢
      exact this
    · have hy : ys = [] := by
        cases ys with
        | nil => rfl
        | cons y zs => unfold deedsD at hb; cases hb
      subst hy
      refine hN _ _ ⟨?_, rfl⟩
      simpa [elseR] using ow1
  rintro _ M2 ⟨ow2, rfl⟩
  walk_at "dl"
  refine line endW _ _ tk_end ?_
  try dsimp only
  rw [e_add_obj ow2.one, e_new_f]
  have hel : (elseR deep ys).length ≤ 1 := by cases ys <;> (unfold elseR; simp)
  refine ⟨by simp only [List.length_append, List.length_map, List.length_cons, List.length_nil]; omega, ow2.wk ?_⟩
  have e : (ifR deep t xs ys).map Row.d = (Row.ln deep (lineN deep (ifW t)) :: (xs.map (Row.dd (deep + 1)) ++ (elseR deep ys ++ ys.map (Row.dd (deep + 1))))).map Row.d ++ [.tup [.int deep, .str (nl (lineN deep endW))]] := by
    unfold ifR
    simp [Row.d]
  rw [← e]
  exact q
def sp_actrows : SpD := fun ds M Q _ => ∃ (deep d : Nat) (n : Str) (gs : List Giv) (k : Str) (xs : List Deed) (v : Val), ds = [.int deep, (Part.act n gs k xs v).d] ∧ (Part.act n gs k xs v).ok d ∧ deep < 9 ∧ Q (.lst ((actR deep n gs k xs v).map Row.d)) M
theorem line_at {deep : Nat} (hd : deep < 13) : ∀ ws M' (Q : DK), Tks 80 ws → Q (.str (nl (lineN deep ws))) M' → sp_line [.int deep, .lst (dStrs ws)] M' Q X0 := fun ws M' Q tk q => ⟨deep, ws, rfl, hd, Nat.le_trans tk.1 (by decide), fun w hw => (tk.2 w hw).wd, q⟩
theorem ok_act_rows (T : Txt K mg) {f : Addr} {fd : FuncData} (F : FunD K "act_rows" "act_rows" (defArgs sact_rows) (defBody sact_rows) (defScope sact_rows) [] [] f fd) (h_line_of : Callee P w K mg base CX0 (3) "line_of" Pline_of sp_line) (h_words_of : Callee P w K mg base CX0 (3) "words_of" Pwords_of sp_words_of) (h_givens_of : Callee P w K mg base CX0 (1) "givens_of" Pgivens_of sp_givens_of) : FnOk P w K mg base CX0 (3 + 1) f fd Pact_rows (LSp K (sp_actrows)) := by
  refine fnD0 F scact_rows (fun ds M Q E h => by first | (obtain ⟨rfl, _⟩ := h; rfl) | (obtain ⟨_, rfl, _⟩ := h; rfl) | (obtain ⟨_, _, rfl, _⟩ := h; rfl) | (obtain ⟨_, _, _, rfl, _⟩ := h; rfl) | (obtain ⟨_, _, _, _, rfl, _⟩ := h; rfl) | (obtain ⟨_, _, _, _, _, rfl, _⟩ := h; rfl) | (obtain ⟨_, _, _, _, _, _, rfl, _⟩ := h; rfl) | (obtain ⟨_, _, _, _, _, _, _, rfl, _⟩ := h; rfl)) fun cdv A outer s H E F0 hr => ⟨_, (dss_cons (ds_set (i := 2) scact_rows.nd rfl (Or.inl rfl) (de_op (od_add (own := false)) (de_op (od_add (own := false)) (de_lst (own := false) (da_cons de_str (da_cons (de_ix (de_var (pv 1)) de_int (fun _ _ => rfl)) da_nil))) (de_fn h_givens_of (hr.mono (by omega)) rfl pass0 finX0 (da_cons (de_ix (de_var (pv 1)) de_int (fun _ _ => rfl)) da_nil))) (de_lst (own := false) (da_cons de_str (da_cons (de_ix (de_var (pv 1)) de_int (fun _ _ => rfl)) (da_cons de_str da_nil))))))
      (dss_cons (ds_set (i := 3) scact_rows.nd rfl (Or.inl rfl) (de_lst (own := true) (da_cons (de_tup (da_cons (de_var (pv 0)) (da_cons (de_fn h_line_of (hr.mono (by omega)) rfl pass0 finX0 (da_cons (de_var (pv 0)) (da_cons (de_var (pv 2)) da_nil))) da_nil))) da_nil)))
      (dss_cons (ds_aug (i := 3) scact_rows.nd rfl (Or.inl rfl) (de_lc (own := false) (x := "deed") (j := 4) rfl scact_rows.nd (di_items (de_ix (de_var (pv 1)) de_int (fun _ _ => rfl))) (blkOk_by (N := Nact_rows) (sc := defScope sact_rows) (by decide +kernel)) (fun _ _ _ _ _ => pg_name (i := 4) scact_rows.nd rfl (by first | exact Or.inl rfl | exact Or.inr rfl)) (fun _ _ _ _ _ => (de_tup (da_cons (de_op (od_add (own := false)) (de_var (pv 0)) de_int) (da_cons (de_var (pv 4)) da_nil))))) od_iadd)
      (dss_cons (ds_expr (de_bl1 PySem.F.slot_list_append PySem.F.type_list_append md_append (de_var (pv 3)) (da_cons (de_tup (da_cons (de_op (od_add (own := false)) (de_var (pv 0)) de_int) (da_cons (de_fn h_line_of (hr.mono (by omega)) rfl pass0 finX0 (da_cons (de_op (od_add (own := false)) (de_var (pv 0)) de_int) (da_cons (de_op (od_add (own := false)) (de_op (od_add (own := false)) (de_lst (own := false) (da_cons de_str da_nil)) (de_fn h_words_of (hr.mono (by omega)) rfl pass0 finX0 (da_cons (de_ix (de_var (pv 1)) de_int (fun _ _ => rfl)) da_nil))) (de_lst (own := false) (da_cons de_str da_nil))) da_nil))) da_nil))) da_nil)))
      (dss_one (ds_ret (de_op (od_add (own := false)) (de_var (pv 3)) (de_lst (own := false) (da_cons (de_tup (da_cons (de_var (pv 0)) (da_cons (de_fn h_line_of (hr.mono (by omega)) rfl pass0 finX0 (da_cons (de_var (pv 0)) (da_cons (de_lst (own := false) (da_cons de_str da_nil)) da_nil))) da_nil))) da_nil))))))))), fun ds M Q Ex h => ?_⟩
  obtain ⟨deep, d, n, gs, k, xs, v, rfl, ok, hd, q⟩ := h
  have ok' : NameOk false n ∧ GivOk gs ∧ NameOk true k ∧ xs.length ≤ 3 ∧ (∀ x ∈ xs, Deed.ok 2 x) ∧ v.ok 2 := by cases d <;> (unfold Part.ok at ok; exact ok)
  obtain ⟨h1, h2, h3, h4, h5, h6⟩ := ok'
  walk_at "st"
  have hs : sizeLine = 16777216 := sizeLine_eq
  have tkg := tk_giv h2
  have tkh := tk_act h1 h2 h3
  have tka := tk_ans h6
  have hv : (valW v).length ≤ 62 := (tk_val 2 v h6).1
  rw [show (Part.act n gs k xs v).d = .tup [.str "act", .str n, .tup (gs.map givD), .str k, .tup (deedsD xs), v.d] by rw [Part.d]]
  refine seq_tail (fun σ M' => M' = M ∧ σ = [some (.int deep), some (.tup [.str "act", .str n, .tup (gs.map givD), .str k, .tup (deedsD xs), v.d]), some (.lst (dStrs (actW n gs k))), none, none]) ?_ (fun N hN => ?_)
  rotate_left
  · walk_at "dl"
    refine ⟨gs, rfl, h2.1, ?_⟩
    walk_at "dl"
    refine ⟨?_, ?_, ?_⟩
    · rw [dStrs_len]; have := tkg.1; simp only [List.length_cons, List.length_nil]; omega
    · rw [List.length_append, dStrs_len]; have := tkg.1; simp only [List.length_cons, List.length_nil]; omega
    · have e : [D.str "act", D.str n] ++ dStrs (givW gs) ++ [.str ":", .str k, .str "{"] = dStrs (actW n gs k) := by unfold actW; simp
      rw [e]
      exact hN _ _ ⟨rfl, rfl⟩
  rintro _ M0 ⟨e0, rfl⟩
  rw [e0]; clear e0 M0
  refine seq_tail (fun σ M' => ∃ p, M p = none ∧ Ow M p ([Row.ln deep (lineN deep (actW n gs k))].map Row.d) M' ∧ σ = [some (.int deep), some (.tup [.str "act", .str n, .tup (gs.map givD), .str k, .tup (deedsD xs), v.d]), some (.lst (dStrs (actW n gs k))), some (.obj p), none]) ?_ (fun N hN => ?_)
  rotate_left
  · walk_at "dl"
    exact line_at (by omega) _ _ _ tkh fun p hp => hN _ _ ⟨p, hp, .start hp, rfl⟩
  rintro _ M0 ⟨p, hp, ow, rfl⟩
  refine seq_tail (fun σ M' => Ow M p ((Row.ln deep (lineN deep (actW n gs k)) :: xs.map (Row.dd (deep + 1))).map Row.d) M' ∧ σ = [some (.int deep), some (.tup [.str "act", .str n, .tup (gs.map givD), .str k, .tup (deedsD xs), v.d]), some (.lst (dStrs (actW n gs k))), some (.obj p), none]) ?_ (fun N hN => ?_)
  rotate_left
  · unfold dAug
    dsimp only [List.getElem?_cons_succ, List.getElem?_cons_zero]
    refine lc_row xs Deed.d (fun x => .tup [.int ((deep : Int) + 1), x.d]) (fun Kd hk => by unfold dItems; walk_at "dl"; rw [deedsD_map]; exact hk) (by omega) (fun i x M2 Q2 hx _ q2 => by walk_at "dl"; exact q2) ?_
    rw [← dd_map, e_new_f, e_iadd_obj ow.one rfl]
    refine ⟨by rw [List.length_map, List.length_map, List.length_map, List.length_singleton]; omega, hN _ _ ⟨?_, rfl⟩⟩
    exact ow.set (c := (Row.ln deep (lineN deep (actW n gs k)) :: xs.map (Row.dd (deep + 1))).map Row.d) hp
  rintro _ M1 ⟨ow1, rfl⟩
  refine seq_tail (fun σ M' => Ow M p ((Row.ln deep (lineN deep (actW n gs k)) :: (xs.map (Row.dd (deep + 1)) ++ [.ln (deep + 1) (lineN (deep + 1) (ansW v))])).map Row.d) M' ∧ σ = [some (.int deep), some (.tup [.str "act", .str n, .tup (gs.map givD), .str k, .tup (deedsD xs), v.d]), some (.lst (dStrs (actW n gs k))), some (.obj p), none]) ?_ (fun N hN => ?_)
  rotate_left
  · walk_at "dl"
    refine ⟨ow1.lst, .val v, rfl, by show (valW v).length ≤ _; omega, ?_⟩
    walk_at "dl"
    refine ⟨?_, ?_, ?_⟩
    · show _ + (dStrs (valW v)).length ≤ _
      rw [dStrs_len]; simp only [List.length_cons, List.length_nil]; omega
    · show (_ ++ dStrs (valW v)).length + _ ≤ _
      rw [List.length_append, dStrs_len]; simp only [List.length_cons, List.length_nil]; omega
    · have e : [D.str "answer"] ++ dStrs (den (.val v)) ++ [.str ";"] = dStrs (ansW v) := by unfold ansW; simp [den]
      rw [e]
      refine line_at (deep := deep + 1) (by omega) _ _ _ tka ?_
      try dsimp only
      rw [e_append ow1.one]
      refine ⟨by rw [List.length_map, List.length_cons, List.length_map]; omega, hN _ _ ⟨?_, rfl⟩⟩
      have := ow1.set (c := (Row.ln deep (lineN deep (actW n gs k)) :: (xs.map (Row.dd (deep + 1)) ++ [.ln (deep + 1) (lineN (deep + 1) (ansW v))])).map Row.d) hp
      have e3 : (Row.ln deep (lineN deep (actW n gs k)) :: (xs.map (Row.dd (deep + 1)) ++ [.ln (deep + 1) (lineN (deep + 1) (ansW v))])).map Row.d = (Row.ln deep (lineN deep (actW n gs k)) :: xs.map (Row.dd (deep + 1))).map Row.d ++ [.tup [.int ((deep : Int) + 1), .str (nl (lineN (deep + 1) (ansW v)))]] := by simp [Row.d]
      rw [e3] at this ⊢
      exact this
  rintro _ M2 ⟨ow2, rfl⟩
  walk_at "dl"
  refine line_at (by omega) endW _ _ tk_end ?_
  try dsimp only
  rw [e_add_obj ow2.one, e_new_f]
  refine ⟨by simp only [List.length_append, List.length_map, List.length_cons, List.length_nil]; omega, ow2.wk ?_⟩
  have e : (actR deep n gs k xs v).map Row.d = (Row.ln deep (lineN deep (actW n gs k)) :: (xs.map (Row.dd (deep + 1)) ++ [.ln (deep + 1) (lineN (deep + 1) (ansW v))])).map Row.d ++ [.tup [.int deep, .str (nl (lineN deep endW))]] := by
    unfold actR
    simp [Row.d]
  rw [← e]
  exact q
def sp_makerows : SpD := fun ds M Q _ => ∃ (deep d : Nat) (n : Str) (gs : List Giv) (vs : List Vr) (ps : List Part), ds = [.int deep, (Part.make n gs vs ps).d] ∧ (Part.make n gs vs ps).ok d ∧ deep < 9 ∧ Q (.lst ((makeR deep n gs vs ps).map Row.d)) M
theorem ok_maker_rows (T : Txt K mg) {f : Addr} {fd : FuncData} (F : FunD K "maker_rows" "maker_rows" (defArgs smaker_rows) (defBody smaker_rows) (defScope smaker_rows) [] [] f fd) (h_line_of : Callee P w K mg base CX0 (3) "line_of" Pline_of sp_line) (h_givens_of : Callee P w K mg base CX0 (1) "givens_of" Pgivens_of sp_givens_of) (h_var_line : Callee P w K mg base CX0 (4) "var_line" Pvar_line sp_vline) : FnOk P w K mg base CX0 (4 + 1) f fd Pmaker_rows (LSp K (sp_makerows)) := by
  refine fnD0 F scmaker_rows (fun ds M Q E h => by first | (obtain ⟨rfl, _⟩ := h; rfl) | (obtain ⟨_, rfl, _⟩ := h; rfl) | (obtain ⟨_, _, rfl, _⟩ := h; rfl) | (obtain ⟨_, _, _, rfl, _⟩ := h; rfl) | (obtain ⟨_, _, _, _, rfl, _⟩ := h; rfl) | (obtain ⟨_, _, _, _, _, rfl, _⟩ := h; rfl) | (obtain ⟨_, _, _, _, _, _, rfl, _⟩ := h; rfl) | (obtain ⟨_, _, _, _, _, _, _, rfl, _⟩ := h; rfl)) fun cdv A outer s H E F0 hr => ⟨_, (dss_cons (ds_set (i := 2) scmaker_rows.nd rfl (Or.inl rfl) (de_lst (own := true) (da_cons (de_tup (da_cons (de_var (pv 0)) (da_cons (de_fn h_line_of (hr.mono (by omega)) rfl pass0 finX0 (da_cons (de_var (pv 0)) (da_cons (de_op (od_add (own := false)) (de_op (od_add (own := false)) (de_lst (own := false) (da_cons de_str (da_cons (de_ix (de_var (pv 1)) de_int (fun _ _ => rfl)) da_nil))) (de_fn h_givens_of (hr.mono (by omega)) rfl pass0 finX0 (da_cons (de_ix (de_var (pv 1)) de_int (fun _ _ => rfl)) da_nil))) (de_lst (own := false) (da_cons de_str da_nil))) da_nil))) da_nil))) da_nil)))
      (dss_cons (ds_aug (i := 2) scmaker_rows.nd rfl (Or.inl rfl) (de_lc (own := false) (x := "row") (j := 3) rfl scmaker_rows.nd (di_items (de_ix (de_var (pv 1)) de_int (fun _ _ => rfl))) (blkOk_by (N := Nmaker_rows) (sc := defScope smaker_rows) (by decide +kernel)) (fun _ _ _ _ _ => pg_name (i := 3) scmaker_rows.nd rfl (by first | exact Or.inl rfl | exact Or.inr rfl)) (fun _ _ _ _ _ => (de_tup (da_cons (de_op (od_add (own := false)) (de_var (pv 0)) de_int) (da_cons (de_fn h_var_line (hr.mono (by omega)) rfl pass0 finX0 (da_cons (de_op (od_add (own := false)) (de_var (pv 0)) de_int) (da_cons (de_var (pv 3)) da_nil))) da_nil))))) od_iadd)
      (dss_cons (ds_aug (i := 2) scmaker_rows.nd rfl (Or.inl rfl) (de_lc (own := false) (x := "part") (j := 4) rfl scmaker_rows.nd (di_items (de_ix (de_var (pv 1)) de_int (fun _ _ => rfl))) (blkOk_by (N := Nmaker_rows) (sc := defScope smaker_rows) (by decide +kernel)) (fun _ _ _ _ _ => pg_name (i := 4) scmaker_rows.nd rfl (by first | exact Or.inl rfl | exact Or.inr rfl)) (fun _ _ _ _ _ => (de_tup (da_cons (de_op (od_add (own := false)) (de_var (pv 0)) de_int) (da_cons (de_var (pv 4)) da_nil))))) od_iadd)
      (dss_one (ds_ret (de_op (od_add (own := false)) (de_var (pv 2)) (de_lst (own := false) (da_cons (de_tup (da_cons (de_var (pv 0)) (da_cons (de_fn h_line_of (hr.mono (by omega)) rfl pass0 finX0 (da_cons (de_var (pv 0)) (da_cons (de_lst (own := false) (da_cons de_str da_nil)) da_nil))) da_nil))) da_nil)))))))), fun ds M Q Ex h => ?_⟩
  obtain ⟨deep, d, n, gs, vs, ps, rfl, ok, hd, q⟩ := h
  cases d with
  | zero => unfold Part.ok at ok; exact ok.elim
  | succ d =>
  unfold Part.ok at ok
  obtain ⟨h1, h2, h3, h4, h5, h6⟩ := ok
  walk_at "st"
  have hs : sizeLine = 16777216 := sizeLine_eq
  have tkg := tk_giv h2
  have tkh := tk_make h1 h2
  rw [show (Part.make n gs vs ps).d = .tup [.str "make", .str n, .tup (gs.map givD), .tup (vs.map vrD), .tup (partsD ps)] by rw [Part.d]]
  refine seq_tail (fun σ M' => ∃ p, M p = none ∧ Ow M p ([Row.ln deep (lineN deep (makeW n gs))].map Row.d) M' ∧ σ = [some (.int deep), some (.tup [.str "make", .str n, .tup (gs.map givD), .tup (vs.map vrD), .tup (partsD ps)]), some (.obj p), none, none]) ?_ (fun N hN => ?_)
  rotate_left
  · walk_at "dl"
    refine ⟨gs, rfl, h2.1, ?_⟩
    walk_at "dl"
    refine ⟨?_, ?_, ?_⟩
    · rw [dStrs_len]; have := tkg.1; simp only [List.length_cons, List.length_nil]; omega
    · rw [List.length_append, dStrs_len]; have := tkg.1; simp only [List.length_cons, List.length_nil]; omega
    · have e : [D.str "make", D.str n] ++ dStrs (givW gs) ++ [.str "{"] = dStrs (makeW n gs) := by unfold makeW; simp
      rw [e]
      exact line_at (by omega) _ _ _ tkh fun p hp => hN _ _ ⟨p, hp, .start hp, rfl⟩
  rintro _ M0 ⟨p, hp, ow, rfl⟩
  refine seq_tail (fun σ M' => Ow M p ((Row.ln deep (lineN deep (makeW n gs)) :: vs.map (fun v => Row.ln (deep + 1) (lineN (deep + 1) (varW v)))).map Row.d) M' ∧ σ = [some (.int deep), some (.tup [.str "make", .str n, .tup (gs.map givD), .tup (vs.map vrD), .tup (partsD ps)]), some (.obj p), none, none]) ?_ (fun N hN => ?_)
  rotate_left
  · unfold dAug
    dsimp only [List.getElem?_cons_succ, List.getElem?_cons_zero]
    refine lc_row vs vrD (fun v => .tup [.int ((deep : Int) + 1), .str (nl (lineN (deep + 1) (varW v)))]) (fun Kd hk => by unfold dItems; walk_at "dl"; exact hk) (by omega) (fun i x M2 Q2 hx _ q2 => ?_) ?_
    · walk_at "dl"
      exact ⟨deep + 1, x, rfl, by omega, tk_var (h4 x (List.mem_of_getElem? hx)), q2⟩
    · rw [e_new_f, e_iadd_obj ow.one rfl]
      refine ⟨by rw [List.length_map, List.length_map, List.length_singleton]; omega, hN _ _ ⟨?_, rfl⟩⟩
      have := ow.set (c := (Row.ln deep (lineN deep (makeW n gs)) :: vs.map (fun v => Row.ln (deep + 1) (lineN (deep + 1) (varW v)))).map Row.d) hp
      rw [List.map_cons, List.map_map] at this ⊢
      exact this
  rintro _ M1 ⟨ow1, rfl⟩
  refine seq_tail (fun σ M' => Ow M p ((Row.ln deep (lineN deep (makeW n gs)) :: (vs.map (fun v => Row.ln (deep + 1) (lineN (deep + 1) (varW v))) ++ ps.map (Row.pt (deep + 1)))).map Row.d) M' ∧ σ = [some (.int deep), some (.tup [.str "make", .str n, .tup (gs.map givD), .tup (vs.map vrD), .tup (partsD ps)]), some (.obj p), none, none]) ?_ (fun N hN => ?_)
  rotate_left
  · unfold dAug
    dsimp only [List.getElem?_cons_succ, List.getElem?_cons_zero]
    refine lc_row ps Part.d (fun x => .tup [.int ((deep : Int) + 1), x.d]) (fun Kd hk => by unfold dItems; walk_at "dl"; rw [partsD_map]; exact hk) (by omega) (fun i x M2 Q2 hx _ q2 => by walk_at "dl"; exact q2) ?_
    rw [← pt_map, e_new_f, e_iadd_obj ow1.one rfl]
    refine ⟨by simp only [List.length_map, List.length_cons]; omega, hN _ _ ⟨?_, rfl⟩⟩
    have := ow1.set (c := (Row.ln deep (lineN deep (makeW n gs)) :: (vs.map (fun v => Row.ln (deep + 1) (lineN (deep + 1) (varW v))) ++ ps.map (Row.pt (deep + 1)))).map Row.d) hp
    rw [show (Row.ln deep (lineN deep (makeW n gs)) :: (vs.map (fun v => Row.ln (deep + 1) (lineN (deep + 1) (varW v))) ++ ps.map (Row.pt (deep + 1)))) = (Row.ln deep (lineN deep (makeW n gs)) :: vs.map (fun v => Row.ln (deep + 1) (lineN (deep + 1) (varW v)))) ++ ps.map (Row.pt (deep + 1)) from rfl, List.map_append] at this ⊢
    exact this
  rintro _ M2 ⟨ow2, rfl⟩
  walk_at "dl"
  refine line_at (by omega) endW _ _ tk_end ?_
  try dsimp only
  rw [e_add_obj ow2.one, e_new_f]
  refine ⟨by simp only [List.length_append, List.length_map, List.length_cons, List.length_nil]; omega, ow2.wk ?_⟩
  have e : (makeR deep n gs vs ps).map Row.d = (Row.ln deep (lineN deep (makeW n gs)) :: (vs.map (fun v => Row.ln (deep + 1) (lineN (deep + 1) (varW v))) ++ ps.map (Row.pt (deep + 1)))).map Row.d ++ [.tup [.int deep, .str (nl (lineN deep endW))]] := by
    unfold makeR
    simp [Row.d]
  rw [← e]
  exact q
end
end K05
namespace K05
open PySem PySem.Spec L2 DL Syn Wr
local macro_rules | `(tactic| walk_at "st") => `(tactic| simp only [start_def, List.map_cons, List.map_nil, List.length_cons, List.length_nil, List.cons_append, List.nil_append, Nat.zero_add, Nat.reduceAdd, Nat.reduceSub, List.replicate])
local macro_rules | `(tactic| walk_at "dl") => `(tactic| simp only [dSeq, dNext, dDrop, dRet, dRetF, dRetN, dIfS, dAsg, dAug, dPar, nGm, nTup, nCons, nNil, dVar, dC, dOp, dUn, dCons, dNil, dTup, dLst, dB, dTru, dAnd, dOr, dNot, dAndV, dOrV, dNotV, dIf, dChain, dCB, dCall, dSlE, dNoPart, dPart, dRev, dS0, dS1, dBL, dBL0, dIsi, dBreak, dCont, List.set_cons_zero, List.set_cons_succ, List.getElem?_cons_zero, List.getElem?_cons_succ, ifB_t, ifB_f, e_new_f, e_new_t, e_add_int, e_add_str, e_add_tup, e_add_lst, e_sub, e_mul, e_mul_str, e_mul_lst, e_div, e_mod, e_pow, e_neg, e_eq_int, e_eq_str, e_isN_non, e_isN_obj, e_isN_tup, e_isN_lst, e_lt_int, e_lt_str, e_le_int, e_le_str, e_gt, e_ge, e_in_str, e_t0, e_t1, e_t2, e_t3, e_t4, e_t5, e_l0, e_l1, e_l2, e_l3, e_sl_tup, e_sl_rdl, e_sl_str, e_sl_lst, e_len_str, e_len_lst, e_len_tup, e_int, e_tupC_tup, e_tupC_lst, e_iadd_int, e_iadd_str, e_isub, tru_bl, tru_int, tru_non, tru_lst, tru_tup, ex_some, bne_f, bne_t, e_nSub, lsD_lst, sz0, sz1, sz2, sz3, sz4, sz5, sz6, sz7, sz8, true_and])
section
variable {P : Program} {w : World} {K : PySem.W.Frag} {mg : Str → Option Value} {base : Heap}
def sp_write : SpD := fun ds M Q _ => ∃ p : Prg, ds = [p.d] ∧ p.ok ∧ Q (.str (progT p)) M
theorem ok_write (T : Txt K mg) {f : Addr} {fd : FuncData} (F : FunD K "write" "write" (defArgs swrite) (defBody swrite) (defScope swrite) [] [] f fd) (h_kind_line : Callee P w K mg base CX0 (4) "kind_line" Pkind_line sp_kline) (h_var_line : Callee P w K mg base CX0 (4) "var_line" Pvar_line sp_vline) (h_plain_line : Callee P w K mg base CX0 (4) "plain_line" Pplain_line sp_pline) (h_if_rows : Callee P w K mg base CX0 (4) "if_rows" Pif_rows sp_ifrows) (h_act_rows : Callee P w K mg base CX0 (4) "act_rows" Pact_rows sp_actrows) (h_maker_rows : Callee P w K mg base CX0 (5) "maker_rows" Pmaker_rows sp_makerows) : FnOk P w K mg base CX0 (5 + 1) f fd Pwrite (LSp K (sp_write)) := by
  refine fnD0 F scwrite (fun ds M Q E h => by first | (obtain ⟨rfl, _⟩ := h; rfl) | (obtain ⟨_, rfl, _⟩ := h; rfl) | (obtain ⟨_, _, rfl, _⟩ := h; rfl) | (obtain ⟨_, _, _, rfl, _⟩ := h; rfl) | (obtain ⟨_, _, _, _, rfl, _⟩ := h; rfl) | (obtain ⟨_, _, _, _, _, rfl, _⟩ := h; rfl) | (obtain ⟨_, _, _, _, _, _, rfl, _⟩ := h; rfl) | (obtain ⟨_, _, _, _, _, _, _, rfl, _⟩ := h; rfl)) fun cdv A outer s H E F0 hr => ⟨_, (dss_cons (ds_setLc (own := true) (x := "row") (j := 2) rfl scwrite.nd (i := 1) rfl rfl (sw_true rfl rfl rfl (by decide +kernel)) (di_items (de_ix (de_var (pv 0)) de_int (fun _ _ => rfl))) (blkOk_by (N := Nwrite) (sc := defScope swrite) (by decide +kernel)) (fun _ _ _ _ _ => pg_name (i := 2) scwrite.nd rfl (by first | exact Or.inl rfl | exact Or.inr rfl)) (fun _ _ _ _ _ => (de_tup (da_cons de_int (da_cons (de_fn h_kind_line (hr.mono (by omega)) rfl pass0 finX0 (da_cons (de_var (pv 2)) da_nil)) da_nil)))))
      (dss_cons (ds_aug (i := 1) scwrite.nd rfl (Or.inl rfl) (de_lc (own := false) (x := "row") (j := 2) rfl scwrite.nd (di_items (de_ix (de_var (pv 0)) de_int (fun _ _ => rfl))) (blkOk_by (N := Nwrite) (sc := defScope swrite) (by decide +kernel)) (fun _ _ _ _ _ => pg_name (i := 2) scwrite.nd rfl (by first | exact Or.inl rfl | exact Or.inr rfl)) (fun _ _ _ _ _ => (de_tup (da_cons de_int (da_cons (de_fn h_var_line (hr.mono (by omega)) rfl pass0 finX0 (da_cons de_int (da_cons (de_var (pv 2)) da_nil))) da_nil))))) od_iadd)
      (dss_cons (ds_aug (i := 1) scwrite.nd rfl (Or.inl rfl) (de_lc (own := false) (x := "part") (j := 3) rfl scwrite.nd (di_items (de_ix (de_var (pv 0)) de_int (fun _ _ => rfl))) (blkOk_by (N := Nwrite) (sc := defScope swrite) (by decide +kernel)) (fun _ _ _ _ _ => pg_name (i := 3) scwrite.nd rfl (by first | exact Or.inl rfl | exact Or.inr rfl)) (fun _ _ _ _ _ => (de_tup (da_cons de_int (da_cons (de_var (pv 3)) da_nil))))) od_iadd)
      (dss_cons (ds_set (i := 4) scwrite.nd rfl (Or.inl rfl) (de_rev (own := true) (de_var (pv 1))))
      (dss_cons (ds_set (i := 5) scwrite.nd rfl (Or.inl rfl) (de_lst (own := true) da_nil))
      (dss_cons (ds_while PassesOwn.never (dt_tru (de_var (pv 4))) (dss_cons (ds_asg (de_bl0 PySem.F.slot_list_pop PySem.F.type_list_pop md_pop (de_var (pv 4))) (dg_tup rfl (dgs_cons (dg_name (pg_name (i := 6) scwrite.nd rfl (Or.inl rfl))) (dgs_cons (dg_name (pg_name (i := 2) scwrite.nd rfl (Or.inl rfl))) dgs_nil))))
      (dss_one (ds_if (dt_tru (de_isi (n := "str") (de_var (pv 2)) rfl T.isinstance (pe_bltn rfl T.str (by decide +kernel) rfl))) (dss_one (ds_expr (de_bl1 PySem.F.slot_list_append PySem.F.type_list_append md_append (de_var (pv 5)) (da_cons (de_var (pv 2)) da_nil)))) (dss_one (ds_if (dt_cmp (od_eq hr.units) (de_ix (de_var (pv 2)) de_int (fun _ _ => rfl)) de_str (nomark _)) (dss_one (ds_aug (i := 4) scwrite.nd rfl (Or.inl rfl) (de_rev (own := false) (de_fn h_maker_rows (hr.mono (by omega)) rfl pass0 finX0 (da_cons (de_var (pv 6)) (da_cons (de_var (pv 2)) da_nil)))) od_iadd)) (dss_one (ds_if (dt_cmp (od_eq hr.units) (de_ix (de_var (pv 2)) de_int (fun _ _ => rfl)) de_str (nomark _)) (dss_one (ds_aug (i := 4) scwrite.nd rfl (Or.inl rfl) (de_rev (own := false) (de_fn h_act_rows (hr.mono (by omega)) rfl pass0 finX0 (da_cons (de_var (pv 6)) (da_cons (de_var (pv 2)) da_nil)))) od_iadd)) (dss_one (ds_if (dt_cmp (od_eq hr.units) (de_ix (de_var (pv 2)) de_int (fun _ _ => rfl)) de_str (nomark _)) (dss_one (ds_aug (i := 4) scwrite.nd rfl (Or.inl rfl) (de_rev (own := false) (de_fn h_if_rows (hr.mono (by omega)) rfl pass0 finX0 (da_cons (de_var (pv 6)) (da_cons (de_var (pv 2)) da_nil)))) od_iadd)) (dss_one (ds_expr (de_bl1 PySem.F.slot_list_append PySem.F.type_list_append md_append (de_var (pv 5)) (da_cons (de_fn h_plain_line (hr.mono (by omega)) rfl pass0 finX0 (da_cons (de_var (pv 6)) (da_cons (de_var (pv 2)) da_nil))) da_nil))))))))))))))
      (dss_one (ds_ret (de_s1 PySem.F.slot_str_join PySem.F.type_str_join xs_join de_str (de_var (pv 5))))))))))), fun ds M Q Ex h => ?_⟩
  obtain ⟨p, rfl, ok, q⟩ := h
  walk_at "st"
  have hs : sizeLine = 16777216 := sizeLine_eq
  have lns := ln_prog ok
  have sum := sum_nl lns
  have hn := lns.1
  rw [show p.d = .tup [.str "program", .tup (p.kinds.map kindD), .tup (p.vars.map vrD), .tup (partsD p.parts)] from rfl]
  generalize hP : D.tup [.str "program", .tup (p.kinds.map kindD), .tup (p.vars.map vrD), .tup (partsD p.parts)] = P0
  have g1 : ∀ M (Q : DK), dIx P0 (.int 1) M Q = Q (.tup (p.kinds.map kindD)) M := fun M Q => by rw [← hP]; exact e_t1
  have g2 : ∀ M (Q : DK), dIx P0 (.int 2) M Q = Q (.tup (p.vars.map vrD)) M := fun M Q => by rw [← hP]; exact e_t2
  have g3 : ∀ M (Q : DK), dIx P0 (.int 3) M Q = Q (.tup (partsD p.parts)) M := fun M Q => by rw [← hP]; exact e_t3
  have k1 := ok.kn
  have k2 := ok.vn
  have k3 := ok.pn
  refine seq_tail (fun σ M' => ∃ r, M r = none ∧ Ow M r ((p.kinds.map (fun k => Row.ln 0 (lineN 0 (kindW k)))).map Row.d) M' ∧ σ = [some P0, some (.obj r), none, none, none, none, none]) ?_ (fun N hN => ?_)
  rotate_left
  · unfold dAsg
    refine lc_row p.kinds kindD (fun k => .tup [.int 0, .str (nl (lineN 0 (kindW k)))]) (fun Kd hk => by unfold dItems; walk_at "dl"; rw [g1]; exact hk) (by omega) (fun i x M2 Q2 hx _ q2 => ?_) ?_
    · walk_at "dl"
      have hk := ok.ks x (List.mem_of_getElem? hx)
      exact ⟨x, rfl, hk.2.2.1, tk_kind hk.1 hk.2.2.1 hk.2.2.2, q2⟩
    · walk_at "dl"
      intro r hr
      refine hN _ _ ⟨r, hr, ?_, rfl⟩
      rw [List.map_map]
      exact .start hr
  rintro _ M0 ⟨r, hr, ow, rfl⟩
  refine seq_tail (fun σ M' => Ow M r ((p.kinds.map (fun k => Row.ln 0 (lineN 0 (kindW k))) ++ p.vars.map (fun v => Row.ln 0 (lineN 0 (varW v)))).map Row.d) M' ∧ σ = [some P0, some (.obj r), none, none, none, none, none]) ?_ (fun N hN => ?_)
  rotate_left
  · unfold dAug
    dsimp only [List.getElem?_cons_succ, List.getElem?_cons_zero]
    refine lc_row p.vars vrD (fun v => .tup [.int 0, .str (nl (lineN 0 (varW v)))]) (fun Kd hk => by unfold dItems; walk_at "dl"; rw [g2]; exact hk) (by omega) (fun i x M2 Q2 hx _ q2 => ?_) ?_
    · walk_at "dl"
      exact ⟨0, x, rfl, by decide, tk_var (ok.vs x (List.mem_of_getElem? hx)), q2⟩
    · rw [e_new_f, e_iadd_obj ow.one rfl]
      refine ⟨by simp only [List.length_map]; omega, hN _ _ ⟨?_, rfl⟩⟩
      have := ow.set (c := (p.kinds.map (fun k => Row.ln 0 (lineN 0 (kindW k))) ++ p.vars.map (fun v => Row.ln 0 (lineN 0 (varW v)))).map Row.d) hr
      rw [List.map_append, show (p.vars.map (fun v => Row.ln 0 (lineN 0 (varW v)))).map Row.d = p.vars.map (fun v => .tup [.int 0, .str (nl (lineN 0 (varW v)))]) by rw [List.map_map]; rfl] at this ⊢
      exact this
  rintro _ M1 ⟨ow1, rfl⟩
  refine seq_tail (fun σ M' => Ow M r ((progR p).map Row.d) M' ∧ σ = [some P0, some (.obj r), none, none, none, none, none]) ?_ (fun N hN => ?_)
  rotate_left
  · unfold dAug
    dsimp only [List.getElem?_cons_succ, List.getElem?_cons_zero]
    refine lc_row p.parts Part.d (fun x => .tup [.int 0, x.d]) (fun Kd hk => by unfold dItems; walk_at "dl"; rw [g3, partsD_map]; exact hk) (by omega) (fun i x M2 Q2 hx _ q2 => by walk_at "dl"; exact q2) ?_
    rw [e_new_f, e_iadd_obj ow1.one rfl]
    refine ⟨by simp only [List.length_map, List.length_append]; omega, hN _ _ ⟨?_, rfl⟩⟩
    have := ow1.set (c := (progR p).map Row.d) hr
    rw [show (progR p).map Row.d = (p.kinds.map (fun k => Row.ln 0 (lineN 0 (kindW k))) ++ p.vars.map (fun v => Row.ln 0 (lineN 0 (varW v)))).map Row.d ++ p.parts.map (fun x => .tup [.int 0, x.d]) by unfold progR; rw [← List.append_assoc, List.map_append, List.map_map (l := p.parts)]; rfl] at this ⊢
    exact this
  rintro _ M2 ⟨ow2, rfl⟩
  refine seq_tail (fun σ M' => ∃ p1, M p1 = none ∧ Ow M p1 ((progR p).reverse.map Row.d) M' ∧ σ = [some P0, some (.obj r), none, none, some (.obj p1), none, none]) ?_ (fun N hN => ?_)
  rotate_left
  · walk_at "dl"
    refine ⟨_, lsD_o ow2.one, fun p1 hp1 => hN _ _ ⟨p1, ?_, ?_, rfl⟩⟩
    · cases e : M p1 with
      | none => rfl
      | some o => rw [ow2.rest p1 o e] at hp1; cases hp1
    · refine ⟨by rw [updM_same, List.map_reverse], fun q o hq => ?_⟩
      have := ow2.rest q o hq
      rw [updM_ne (neM this hp1)]; exact this
  rintro _ M3 ⟨p1, hp1, ow3, rfl⟩
  refine seq_tail (fun σ M' => ∃ p2, M p2 = none ∧ p1 ≠ p2 ∧ Tw M p1 p2 ((progR p).reverse.map Row.d) (dStrs []) M' ∧ σ = [some P0, some (.obj r), none, none, some (.obj p1), some (.obj p2), none]) ?_ (fun N hN => ?_)
  rotate_left
  · walk_at "dl"
    refine fun p2 hp2 => hN _ _ ⟨p2, ?_, neM ow3.one hp2, ?_, rfl⟩
    · cases e : M p2 with
      | none => rfl
      | some o => rw [ow3.rest p2 o e] at hp2; cases hp2
    · refine ⟨by rw [updM_ne (neM ow3.one hp2)]; exact ow3.one, updM_same, fun q o hq => ?_⟩
      have := ow3.rest q o hq
      rw [updM_ne (neM this hp2)]; exact this
  rintro _ M4 ⟨p2, hp2, ne, tw, rfl⟩
  refine seq_tail (fun σ M' => ∃ a b, Tw M p1 p2 [] (dStrs ((progL p).map nl)) M' ∧ σ = [some P0, some (.obj r), a, none, some (.obj p1), some (.obj p2), b]) ?_ (fun N hN => ?_)
  · rintro _ M5 ⟨a, b, tw, rfl⟩
    walk_at "dl"
    refine ⟨(progL p).map nl, ?_, ?_, M, tw.rest, q⟩
    · rw [sqD_obj tw.two]
      exact DL.strsD_map _
    · rw [show ("" : Str).length = 0 by decide +kernel]
      omega
  · refine while_gen (fun m σ M' => ∃ left ls a b, m = 2 * (rdens left).length - left.length ∧ ls ++ rdens left.reverse = progL p ∧ (∀ r ∈ left, Row.ok r) ∧ Tw M p1 p2 (left.map Row.d) (dStrs (ls.map nl)) M' ∧ σ = [some P0, some (.obj r), a, none, some (.obj p1), some (.obj p2), b]) _ ⟨(progR p).reverse, [], none, none, rfl, by rw [List.reverse_reverse, progR_den, List.nil_append], fun r hr => progR_ok ok r (List.mem_reverse.mp hr), tw, rfl⟩ ?_
    rintro m σ M' N' ⟨left, ls, a, b, hm, hden, hok, tw, rfl⟩ hN'
    unfold dTru dVar
    dsimp only [List.getElem?_cons_succ, List.getElem?_cons_zero]
    rw [tru_obj tw.one]
    refine ⟨_, rfl, ?_⟩
    rcases List.eq_nil_or_concat left with rfl | ⟨rest, y, hrest⟩
    · refine ifB (fun h => absurd h (by decide)) (fun _ => ?_)
      refine hN _ _ ⟨a, b, ?_, rfl⟩
      rw [show ls ++ rdens ([] : List Wr.Row).reverse = ls from List.append_nil _] at hden
      rw [← hden]; exact tw
    · rw [List.concat_eq_append] at hrest
      subst hrest
      refine ifB (fun _ => ?_) (fun h => absurd h (by simp))
      have hone := tw.one
      rw [List.map_append, List.map_singleton] at hone
      have hy := hok y (List.mem_append_right _ (List.mem_singleton.mpr rfl))
      have hok2 : ∀ r ∈ rest, Row.ok r := fun r hr => hok r (List.mem_append_left _ hr)
      have hdl : (rdens (rest ++ [y])).length = (rdens rest).length + (rden y).length := by
        rw [rdens_app, List.length_append, show rdens [y] = rden y from List.flatMap_singleton ..]
      have hrl := rdens_len rest
      have hrev : (rdens rest.reverse).length = (rdens rest).length := by
        unfold rdens
        rw [List.length_flatMap, List.length_flatMap, List.map_reverse, List.sum_reverse]
      have hyp := rden_pos y
      rw [List.reverse_append, List.reverse_singleton, List.singleton_append, show rdens (y :: rest.reverse) = rden y ++ rdens rest.reverse from List.flatMap_cons ..] at hden
      rw [List.length_append, List.length_singleton] at hm
      have hwl : ls.length + ((rden y).length + (rdens rest).length) ≤ 1700 := by
        rw [← hden, List.length_append, List.length_append, hrev] at hn
        exact hn
      obtain ⟨deep, X, hyd⟩ : ∃ (deep : Nat) (X : D), y.d = .tup [.int deep, X] := by cases y <;> exact ⟨_, _, rfl⟩
      refine seq_tail (fun σ M2 => Tw M p1 p2 (rest.map Row.d) (dStrs (ls.map nl)) M2 ∧ σ = [some P0, some (.obj r), some X, none, some (.obj p1), some (.obj p2), some (.int deep)]) ?_ (fun N hN => ?_)
      rotate_left
      · walk_at "dl"
        rw [e_pop hone, hyd]
        refine ⟨isLst_of hone, rfl, rfl, hN _ _ ⟨tw.set1 ne hp1, rfl⟩⟩
      rintro σ2 M2 ⟨tw2, rfl⟩
      have word : ∀ (w : Str) , rden y = [w] → dAppend (.obj p2) [.str (nl w)] M2 fun x' M1 => N' [some P0, some (.obj r), some X, none, some (.obj p1), some (.obj p2), some (.int deep)] M1 := by
        intro w hw
        rw [e_append tw2.two]
        refine ⟨by rw [List.length_map, List.length_map]; omega, hN' (2 * (rdens rest).length - rest.length) _ _ ?_ ⟨rest, ls ++ [w], some X, some (.int deep), rfl, ?_, hok2, ?_, rfl⟩⟩
        · rw [hw, List.length_singleton] at hdl
          omega
        · rw [← hden, hw]; simp
        · have := tw2.set2 (c := dStrs ((ls ++ [w]).map nl)) ne hp2
          rw [show dStrs ((ls ++ [w]).map nl) = dStrs (ls.map nl) ++ [.str (nl w)] by simp] at this ⊢
          exact this
      have open_ : ∀ ys : List Wr.Row, 2 ≤ ys.length → rdens ys = rden y → (∀ r ∈ ys, Row.ok r) → ∃ ds, lsD M2 (.lst (ys.map Row.d)) = some ds ∧ dNew false ds.reverse M2 fun u M4 => dIAdd (.obj p1) u M4 fun z M5 => N' [some P0, some (.obj r), some X, none, some z, some (.obj p2), some (.int deep)] M5 := by
        intro ys h2 hyd2 hyok
        refine ⟨_, rfl, ?_⟩
        rw [e_new_f, e_iadd_obj tw2.one rfl]
        have hyl := rdens_len ys
        have hyd3 : (rdens ys).length = (rden y).length := by rw [hyd2]
        refine ⟨by rw [List.length_map, List.length_reverse, List.length_map]; omega, hN' (2 * (rdens (rest ++ ys.reverse)).length - (rest ++ ys.reverse).length) _ _ ?_ ⟨rest ++ ys.reverse, ls, some X, some (.int deep), rfl, ?_, ?_, ?_, rfl⟩⟩
        · have e : (rdens (rest ++ ys.reverse)).length = (rdens rest).length + (rdens ys).length := by
            rw [rdens_app, List.length_append]
            congr 1
            unfold rdens
            rw [List.length_flatMap, List.length_flatMap, List.map_reverse, List.sum_reverse]
          rw [List.length_append, List.length_reverse, e]
          omega
        · rw [List.reverse_append, List.reverse_reverse, rdens_app, hyd2]
          exact hden
        · intro x hx
          rcases List.mem_append.mp hx with hx | hx
          · exact hok2 x hx
          · exact hyok x (List.mem_reverse.mp hx)
        · have := tw2.set1 (c := (rest ++ ys.reverse).map Row.d) ne hp1
          rw [List.map_append, List.map_reverse] at this ⊢
          exact this
      have io1 := isLst_of tw2.one
      have io2 := isLst_of tw2.two
      rcases y with ⟨dp, s⟩ | ⟨dp, x⟩ | ⟨dp, x⟩
      · cases hyd
        walk_at "dl"
        refine ⟨"str", true, rfl, by decide +kernel, ?_⟩
        exact ⟨io2, word s rfl⟩
      · obtain ⟨d, hxo, hxd⟩ := hy
        cases hyd
        cases x with
        | set n v =>
          have ok' : NameOk false n ∧ v.ok 2 := by cases d <;> (unfold Deed.ok at hxo; exact hxo)
          have e : (Deed.set n v).d = .tup [.str "set", .str n, v.d] := by rw [Deed.d]
          have hw := word (lineN deep (setW n v)) (by unfold rden deedL; rfl)
          rw [e] at hw ⊢
          walk_at "dl"
          refine ⟨"tuple", false, rfl, by decide +kernel, ?_⟩
          rw [ifB_f]
          refine ifB (fun h => absurd h (by decide +kernel)) (fun _ => ?_)
          refine ifB (fun h => absurd h (by decide +kernel)) (fun _ => ?_)
          refine ifB (fun h => absurd h (by decide +kernel)) (fun _ => ?_)
          exact ⟨io2, deep, .set n v, by rw [e], by omega, .inl ⟨n, v, rfl, tk_set ok'.1 ok'.2, hw⟩⟩
        | doo n f vs =>
          have ok' : NameOk false n ∧ NameOk false f ∧ vs.length ≤ 3 ∧ ∀ v ∈ vs, Val.ok 1 v := by cases d <;> (unfold Deed.ok at hxo; exact hxo)
          have e : (Deed.doo n f vs).d = .tup [.str "do", .str n, .str f, .tup (vs.map Val.d)] := by rw [Deed.d]
          have hw := word (lineN deep (dooW n f vs)) (by unfold rden deedL; rfl)
          rw [e] at hw ⊢
          walk_at "dl"
          refine ⟨"tuple", false, rfl, by decide +kernel, ?_⟩
          rw [ifB_f]
          refine ifB (fun h => absurd h (by decide +kernel)) (fun _ => ?_)
          refine ifB (fun h => absurd h (by decide +kernel)) (fun _ => ?_)
          refine ifB (fun h => absurd h (by decide +kernel)) (fun _ => ?_)
          exact ⟨io2, deep, .doo n f vs, by rw [e], by omega, .inr ⟨n, f, vs, rfl, ok'.2.2.1, fun v hv => (tk_val 1 v (ok'.2.2.2 v hv)).1, tk_doo ok'.1 ok'.2.1 ok'.2.2.1 ok'.2.2.2, hw⟩⟩
        | ite t xs ys =>
          have e : (Deed.ite t xs ys).d = .tup [.str "if", t.d, .tup (deedsD xs), .tup (deedsD ys)] := by rw [Deed.d]
          have ho := open_ (ifR deep t xs ys) (by unfold ifR; simp only [List.length_cons, List.length_append, List.length_nil]; omega) (by rw [ifR_den]; unfold rden; rfl) (ifR_ok hxo hxd)
          rw [e] at ho ⊢
          walk_at "dl"
          refine ⟨"tuple", false, rfl, by decide +kernel, ?_⟩
          rw [ifB_f]
          refine ifB (fun h => absurd h (by decide +kernel)) (fun _ => ?_)
          refine ifB (fun h => absurd h (by decide +kernel)) (fun _ => ?_)
          refine ifB (fun _ => ?_) (fun h => absurd h (by decide +kernel))
          exact ⟨deep, d, t, xs, ys, by rw [e], hxo, hxd, ho⟩
      · obtain ⟨d, hxo, hxd⟩ := hy
        cases hyd
        cases x with
        | make n gs vs ps =>
          have e : (Part.make n gs vs ps).d = .tup [.str "make", .str n, .tup (gs.map givD), .tup (vs.map vrD), .tup (partsD ps)] := by rw [Part.d]
          have ho := open_ (makeR deep n gs vs ps) (by unfold makeR; simp only [List.length_cons, List.length_append, List.length_nil]; omega) (by rw [makeR_den]; unfold rden; rfl) (makeR_ok hxo hxd)
          rw [e] at ho ⊢
          walk_at "dl"
          refine ⟨"tuple", false, rfl, by decide +kernel, ?_⟩
          rw [ifB_f]
          refine ifB (fun _ => ?_) (fun h => absurd h (by decide +kernel))
          exact ⟨deep, d, n, gs, vs, ps, by rw [e], hxo, by omega, ho⟩
        | act n gs k ds v =>
          have e : (Part.act n gs k ds v).d = .tup [.str "act", .str n, .tup (gs.map givD), .str k, .tup (deedsD ds), v.d] := by rw [Part.d]
          have ho := open_ (actR deep n gs k ds v) (by unfold actR; simp only [List.length_cons, List.length_append, List.length_nil]; omega) (by rw [actR_den]; unfold rden; rfl) (actR_ok hxo hxd)
          rw [e] at ho ⊢
          walk_at "dl"
          refine ⟨"tuple", false, rfl, by decide +kernel, ?_⟩
          rw [ifB_f]
          refine ifB (fun h => absurd h (by decide +kernel)) (fun _ => ?_)
          refine ifB (fun _ => ?_) (fun h => absurd h (by decide +kernel))
          exact ⟨deep, d, n, gs, k, ds, v, by rw [e], hxo, by omega, ho⟩
end
end K05
namespace K05
open PySem PySem.Spec L2 DL Syn Wr
local macro_rules | `(tactic| walk_at "st") => `(tactic| simp only [start_def, List.map_cons, List.map_nil, List.length_cons, List.length_nil, List.cons_append, List.nil_append, Nat.zero_add, Nat.reduceAdd, Nat.reduceSub, List.replicate])
local macro_rules | `(tactic| walk_at "dl") => `(tactic| simp only [dSeq, dNext, dDrop, dRet, dRetF, dRetN, dIfS, dAsg, dAug, dPar, nGm, nTup, nCons, nNil, dVar, dC, dOp, dUn, dCons, dNil, dTup, dLst, dB, dTru, dAnd, dOr, dNot, dAndV, dOrV, dNotV, dIf, dChain, dCB, dCall, dSlE, dNoPart, dPart, dRev, dS0, dS1, dBL, dBL0, dIsi, dBreak, dCont, List.set_cons_zero, List.set_cons_succ, List.getElem?_cons_zero, List.getElem?_cons_succ, ifB_t, ifB_f, e_new_f, e_new_t, e_add_int, e_add_str, e_add_tup, e_add_lst, e_sub, e_mul, e_mul_str, e_mul_lst, e_div, e_mod, e_pow, e_neg, e_eq_int, e_eq_str, e_isN_non, e_isN_obj, e_isN_tup, e_isN_lst, e_lt_int, e_lt_str, e_le_int, e_le_str, e_gt, e_ge, e_in_str, e_t0, e_t1, e_t2, e_t3, e_t4, e_t5, e_l0, e_l1, e_l2, e_l3, e_sl_tup, e_sl_rdl, e_sl_str, e_sl_lst, e_len_str, e_len_lst, e_len_tup, e_int, e_tupC_tup, e_tupC_lst, e_iadd_int, e_iadd_str, e_isub, tru_bl, tru_int, tru_non, tru_lst, tru_tup, ex_some, bne_f, bne_t, e_nSub, lsD_lst, sz0, sz1, sz2, sz3, sz4, sz5, sz6, sz7, sz8, true_and])
section
variable {P : Program} {w : World} {K : PySem.W.Frag} {mg : Str → Option Value} {base : Heap} {n : Nat}
/-- never called -/
def sp_no : SpD := fun _ _ _ _ => False
def sp_commas : SpD := fun ds M Q _ => ∃ xs : List (List Str), ds = [.lst (xs.map fun x => .lst (dStrs x))] ∧ xs.length ≤ 3 ∧ (∀ x ∈ xs, 1 ≤ x.length ∧ x.length ≤ 62) ∧ Q (.lst (dStrs (commas xs))) M
theorem ok__law_commas (T : Txt K mg) {f : Addr} {fd : FuncData} (F : FunD K "_law_commas" "_law_commas" (defArgs s_law_commas) (defBody s_law_commas) (defScope s_law_commas) [] [] f fd) : FnOk P w K mg base CX0 (0 + 1) f fd P_law_commas (LSp K (sp_commas)) := by
  refine fnD0 F sc_law_commas (fun ds M Q E h => by first | (obtain ⟨rfl, _⟩ := h; rfl) | (obtain ⟨_, rfl, _⟩ := h; rfl) | (obtain ⟨_, _, rfl, _⟩ := h; rfl) | (obtain ⟨_, _, _, rfl, _⟩ := h; rfl) | (obtain ⟨_, _, _, _, rfl, _⟩ := h; rfl) | (obtain ⟨_, _, _, _, _, rfl, _⟩ := h; rfl) | (obtain ⟨_, _, _, _, _, _, rfl, _⟩ := h; rfl) | (obtain ⟨_, _, _, _, _, _, _, rfl, _⟩ := h; rfl)) fun cdv A outer s H E F0 hr => ⟨_, (dss_cons (ds_set (i := 1) sc_law_commas.nd rfl (Or.inl rfl) (de_lst (own := false) da_nil))
      (dss_cons (ds_for PassesOwn.never rfl (di_items (de_var (pv 0))) (dg_name (pg_name (i := 2) sc_law_commas.nd rfl (Or.inl rfl))) (dss_one (ds_set (i := 1) sc_law_commas.nd rfl (Or.inl rfl) (de_op (od_add (own := false)) (de_op (od_add (own := false)) (de_var (pv 1)) (de_if (dt_cmp (od_gt) (de_callB cd_len rfl T.len (by decide +kernel) (da_cons (de_var (pv 1)) da_nil)) de_int (nomark _)) (de_lst (own := false) (da_cons de_str da_nil)) (de_lst (own := false) da_nil))) (de_var (pv 2))))))
      (dss_one (ds_ret (de_var (pv 1)))))), fun ds M Q Ex h => ?_⟩
  obtain ⟨xs, rfl, hl, hx, q⟩ := h
  walk_at "st"
  have hs : sizeLine = 16777216 := sizeLine_eq
  refine seq_tail (fun σ M' => M' = M ∧ σ = [some (.lst (xs.map fun x => .lst (dStrs x))), some (.lst (dStrs [])), none]) ?_ (fun N hN => by walk_at "dl"; exact hN _ _ ⟨rfl, rfl⟩)
  rintro _ M0 ⟨e0, rfl⟩
  rw [e0]; clear e0 M0
  refine seq_tail (fun σ M' => ∃ c, M' = M ∧ σ = [some (.lst (xs.map fun x => .lst (dStrs x))), some (.lst (dStrs (commas xs))), c]) ?_ (fun N hN => ?_)
  · rintro _ M0 ⟨c, e0, rfl⟩
    rw [e0]; clear e0 M0
    walk_at "dl"
    exact Wk.here q
  · refine for_pure (xs.map fun x => .lst (dStrs x)) (fun Kd hk => by unfold dItems; walk_at "dl"; exact hk) (fun i σ M' => ∃ c, M' = M ∧ σ = [some (.lst (xs.map fun x => .lst (dStrs x))), some (.lst (dStrs (commas (xs.take i)))), c]) ⟨none, rfl, by rw [List.take_zero]; rfl⟩ ?_ ?_
    · rintro i d σ M' N' hi ⟨c, e0, rfl⟩ hN'
      rw [e0]; clear e0 M'
      rw [List.getElem?_map] at hi
      obtain ⟨x, hix, rfl⟩ := Option.map_eq_some_iff.mp hi
      have hcl := commas_len (n := 62) (xs.take i) (fun y hy => (hx y (List.mem_of_mem_take hy)).2)
      have hcl2 : (xs.take i).length ≤ 3 := Nat.le_trans (by rw [List.length_take]; exact Nat.min_le_right _ _) hl
      have hx2 := (hx x (List.mem_of_getElem? hix)).2
      have hii : i < xs.length := (List.getElem?_eq_some_iff.mp hix).1
      have eat := commas_at hix
      walk_at "dl"
      rw [dStrs_len]
      refine ifB (fun h0 => ?_) (fun h0 => ?_)
      · have hi0 : ¬ i = 0 := by
          intro h; subst h
          have := of_decide_eq_true h0
          rw [List.take_zero] at this
          exact absurd this (by decide)
        refine ⟨by rw [List.length_singleton]; omega, by rw [List.length_append, dStrs_len, dStrs_len]; simp only [List.length_cons, List.length_nil]; omega, hN' _ _ ⟨some (.lst (dStrs x)), rfl, ?_⟩⟩
        rw [eat, if_neg hi0, dStrs_app, dStrs_app] <;> rfl
      · have hi0 : i = 0 := by
          have h1 := of_decide_eq_false h0
          cases i with
          | zero => rfl
          | succ i =>
            exfalso
            apply h1
            cases xs with
            | nil => exact absurd hii (by simp)
            | cons y ys =>
              have := (hx y (List.mem_cons_self ..)).1
              rw [List.take_succ_cons]
              unfold commas
              rw [List.length_append]
              omega
        refine ⟨by rw [List.length_nil]; omega, by rw [List.length_append, dStrs_len, dStrs_len]; simp only [List.length_nil]; omega, hN' _ _ ⟨some (.lst (dStrs x)), rfl, ?_⟩⟩
        rw [eat, if_pos hi0, dStrs_app, dStrs_app] <;> rfl
    · rintro σ M' ⟨c, e0, rfl⟩
      refine hN _ _ ⟨c, e0, ?_⟩
      rw [List.length_map, List.take_length]
def sp_trow (n : Nat) : SpD := fun ds M Q _ => ∃ (t : Tst) (d least : Nat), ds = [.non, t.d, .int least] ∧ t.ok d ∧ d < n ∧ d ≤ 3 ∧ Q (.lst (dStrs (rowT t least))) M
theorem Tst.ok_len {t : Tst} {d : Nat} (h : t.ok d) (hd : d ≤ 3) : (body t).length ≤ 59 := by
  have h1 := (tk_body d t h).1
  have : d = 0 ∨ d = 1 ∨ d = 2 ∨ d = 3 := by omega
  rcases this with rfl | rfl | rfl | rfl <;> omega
theorem rowT_len {t : Tst} {n k : Nat} (h : (body t).length ≤ n) : (rowT t k).length ≤ n + 2 := by
  unfold rowT
  split
  · simp; omega
  · omega
theorem ok__law_test_row (T : Txt K mg) {f : Addr} {fd : FuncData} (F : FunD K "_law_test_row" "_law_test_row" (defArgs s_law_test_row) (defBody s_law_test_row) (defScope s_law_test_row) [] [] f fd) (h__law_next : Callee P w K mg base CX0 (1) "_law_next" P_law_next sp_no) (h__law_test_row : Callee P w K mg base CX0 (1+n) "_law_test_row" P_law_test_row (sp_trow n)) : FnOk P w K mg base CX0 (1+n + 1) f fd P_law_test_row (LSp K ((sp_trow (n+1)))) := by
  refine fnD0 F sc_law_test_row (fun ds M Q E h => by first | (obtain ⟨rfl, _⟩ := h; rfl) | (obtain ⟨_, rfl, _⟩ := h; rfl) | (obtain ⟨_, _, rfl, _⟩ := h; rfl) | (obtain ⟨_, _, _, rfl, _⟩ := h; rfl) | (obtain ⟨_, _, _, _, rfl, _⟩ := h; rfl) | (obtain ⟨_, _, _, _, _, rfl, _⟩ := h; rfl) | (obtain ⟨_, _, _, _, _, _, rfl, _⟩ := h; rfl) | (obtain ⟨_, _, _, _, _, _, _, rfl, _⟩ := h; rfl)) fun cdv A outer s H E F0 hr => ⟨_, (dss_cons (ds_set (i := 3) sc_law_test_row.nd rfl (Or.inl rfl) de_int)
      (dss_cons (ds_if (dt_cmp (od_eq hr.units) (de_ix (de_var (pv 1)) de_int (fun _ _ => rfl)) de_str (nomark _)) (dss_cons (ds_set (i := 3) sc_law_test_row.nd rfl (Or.inl rfl) de_int)
      (dss_one (ds_set (i := 4) sc_law_test_row.nd rfl (Or.inl rfl) (de_op (od_add (own := false)) (de_op (od_add (own := false)) (de_fn h__law_test_row (hr.mono (by omega)) rfl pass0 finX0 (da_cons (de_var (pv 0)) (da_cons (de_ix (de_var (pv 1)) de_int (fun _ _ => rfl)) (da_cons de_int da_nil)))) (de_lst (own := false) (da_cons de_str da_nil))) (de_fn h__law_test_row (hr.mono (by omega)) rfl pass0 finX0 (da_cons (de_var (pv 0)) (da_cons (de_ix (de_var (pv 1)) de_int (fun _ _ => rfl)) (da_cons de_int da_nil)))))))) (dss_one (ds_if (dt_cmp (od_eq hr.units) (de_ix (de_var (pv 1)) de_int (fun _ _ => rfl)) de_str (nomark _)) (dss_cons (ds_set (i := 3) sc_law_test_row.nd rfl (Or.inl rfl) de_int)
      (dss_one (ds_set (i := 4) sc_law_test_row.nd rfl (Or.inl rfl) (de_op (od_add (own := false)) (de_op (od_add (own := false)) (de_fn h__law_test_row (hr.mono (by omega)) rfl pass0 finX0 (da_cons (de_var (pv 0)) (da_cons (de_ix (de_var (pv 1)) de_int (fun _ _ => rfl)) (da_cons de_int da_nil)))) (de_lst (own := false) (da_cons de_str da_nil))) (de_fn h__law_test_row (hr.mono (by omega)) rfl pass0 finX0 (da_cons (de_var (pv 0)) (da_cons (de_ix (de_var (pv 1)) de_int (fun _ _ => rfl)) (da_cons de_int da_nil)))))))) (dss_one (ds_if (dt_cmp (od_eq hr.units) (de_ix (de_var (pv 1)) de_int (fun _ _ => rfl)) de_str (nomark _)) (dss_one (ds_set (i := 4) sc_law_test_row.nd rfl (Or.inl rfl) (de_op (od_add (own := false)) (de_lst (own := false) (da_cons de_str da_nil)) (de_fn h__law_test_row (hr.mono (by omega)) rfl pass0 finX0 (da_cons (de_var (pv 0)) (da_cons (de_ix (de_var (pv 1)) de_int (fun _ _ => rfl)) (da_cons de_int da_nil))))))) (dss_one (ds_set (i := 4) sc_law_test_row.nd rfl (Or.inl rfl) (de_lst (own := false) (da_cons (de_ix (de_ix (de_var (pv 1)) de_int (fun _ _ => rfl)) de_int (fun _ _ => rfl)) (da_cons de_str (da_cons (de_ix (de_ix (de_var (pv 1)) de_int (fun _ _ => rfl)) de_int (fun _ _ => rfl)) da_nil)))))))))))
      (dss_cons (ds_set (i := 5) sc_law_test_row.nd rfl (Or.inl rfl) (de_if (dt_cmp (od_lt) (de_var (pv 3)) (de_var (pv 2)) (nomark _)) de_int de_int))
      (dss_cons (ds_if (dt_w (dw_and (dt_cmp od_notN (de_var (pv 0)) de_non (nomark _)) (dw_and1 (dt_cmp (od_eq hr.units) (de_fn h__law_next (hr.mono (by omega)) rfl pass0 finX0 (da_cons (de_var (pv 0)) (da_cons de_int da_nil))) de_int (nomark _))))) (dss_one (ds_set (i := 5) sc_law_test_row.nd rfl (Or.inl rfl) (de_op (od_add (own := false)) (de_op (od_add (own := false)) (de_var (pv 5)) de_int) (de_fn h__law_next (hr.mono (by omega)) rfl pass0 finX0 (da_cons (de_var (pv 0)) (da_cons de_int da_nil)))))) dss_nil)
      (dss_one (ds_ret (de_op (od_add (own := false)) (de_op (od_add (own := false)) (de_op (od_mul (own := false)) (de_lst (own := false) (da_cons de_str da_nil)) (de_var (pv 5))) (de_var (pv 4))) (de_op (od_mul (own := false)) (de_lst (own := false) (da_cons de_str da_nil)) (de_var (pv 5)))))))))), fun ds M Q Ex h => ?_⟩
  obtain ⟨t, d, least, rfl, ok, hd, hd3, q⟩ := h
  walk_at "st"
  have hs : sizeLine = 16777216 := sizeLine_eq
  have hb := Tst.ok_len ok hd3
  refine seq_tail (fun σ M' => M' = M ∧ σ = [some .non, some t.d, some (.int least), some (.int 3), none, none]) ?_ (fun N hN => by walk_at "dl"; exact hN _ _ ⟨rfl, rfl⟩)
  rintro _ M0 ⟨e0, rfl⟩
  rw [e0]; clear e0 M0
  refine seq_tail (fun σ M' => M' = M ∧ σ = [some .non, some t.d, some (.int least), some (.int (rank t : Nat)), some (.lst (dStrs (body t))), none]) ?_ (fun N hN => ?_)
  · rintro _ M0 ⟨e0, rfl⟩
    rw [e0]; clear e0 M0
    refine seq_tail (fun σ M' => M' = M ∧ ∃ k : Nat, k = (if rank t < least then 1 else 0) ∧ σ = [some .non, some t.d, some (.int least), some (.int (rank t : Nat)), some (.lst (dStrs (body t))), some (.int k)]) ?_ (fun N hN => ?_)
    · rintro _ M0 ⟨e0, k, hk, rfl⟩
      rw [e0]; clear e0 M0
      refine seq_tail (fun σ M' => M' = M ∧ σ = [some .non, some t.d, some (.int least), some (.int (rank t : Nat)), some (.lst (dStrs (body t))), some (.int k)]) ?_ (fun N hN => by walk_at "dl"; exact hN _ _ ⟨rfl, rfl⟩)
      rintro _ M0 ⟨e0, rfl⟩
      rw [e0]; clear e0 M0
      have hk1 : k ≤ 1 := by rw [hk]; split <;> omega
      walk_at "dl"
      have ek : ((k : Nat) : Int).toNat = k := Int.toNat_natCast k
      rw [ek]
      have rl : ∀ x : D, (List.replicate k [x]).flatten.length = k := fun x => by
        have : k = 0 ∨ k = 1 := by omega
        rcases this with rfl | rfl <;> rfl
      simp only [rl, List.length_append, dStrs_len, List.length_cons, List.length_nil]
      refine ⟨by omega, by omega, by omega, by omega, by omega, by omega, by omega, by omega, Wk.here ?_⟩
      have : (List.replicate k [D.str "("]).flatten ++ dStrs (body t) ++ (List.replicate k [D.str ")"]).flatten = dStrs (rowT t least) := by
        unfold rowT
        by_cases hr : rank t < least
        · rw [if_pos hr] at hk; subst hk; rw [if_pos hr]; simp
        · rw [if_neg hr] at hk; subst hk; rw [if_neg hr]; simp
      rw [this]; exact q
    · walk_at "dl"
      refine ifB (fun hr => hN _ _ ⟨rfl, 1, ?_, rfl⟩) (fun hr => hN _ _ ⟨rfl, 0, ?_, rfl⟩)
      · rw [if_pos (by have := of_decide_eq_true hr; omega)]
      · rw [if_neg (by have := of_decide_eq_false hr; omega)]
  · cases t with
    | same a b =>
      rw [show (Tst.same a b).d = .tup [.str "same", a.d, b.d] from rfl] at hN ⊢
      walk_at "dl"
      refine ifB (fun h => absurd h (by decide +kernel)) (fun _ => ?_)
      refine ifB (fun h => absurd h (by decide +kernel)) (fun _ => ?_)
      refine ifB (fun h => absurd h (by decide +kernel)) (fun _ => ?_)
      rw [e_atom1, e_atom1]
      exact hN _ _ ⟨rfl, rfl⟩
    | neg u =>
      obtain ⟨e, rfl⟩ : ∃ e, d = e + 1 := by
        cases d with
        | zero => exact ok.elim
        | succ e => exact ⟨e, rfl⟩
      have b1 := rowT_len (k := 3) (Tst.ok_len (show u.ok e from ok) (by omega))
      rw [show (Tst.neg u).d = .tup [.str "not", u.d] from rfl] at hN ⊢
      walk_at "dl"
      refine ifB (fun h => absurd h (by decide +kernel)) (fun _ => ?_)
      refine ifB (fun h => absurd h (by decide +kernel)) (fun _ => ?_)
      refine ifB (fun _ => ?_) (fun h => absurd h (by decide +kernel))
      refine ⟨u, e, 3, rfl, ok, by omega, by omega, ?_⟩
      walk_at "dl"
      refine ⟨by rw [dStrs_len, List.length_singleton]; omega, hN _ _ ⟨rfl, ?_⟩⟩
      rw [body_neg] <;> rfl
    | con l r =>
      obtain ⟨e, rfl⟩ : ∃ e, d = e + 1 := by
        cases d with
        | zero => exact ok.elim
        | succ e => exact ⟨e, rfl⟩
      have b1 := rowT_len (k := 2) (Tst.ok_len ok.1 (by omega))
      have b2 := rowT_len (k := 3) (Tst.ok_len ok.2 (by omega))
      rw [show (Tst.con l r).d = .tup [.str "and", l.d, r.d] from rfl] at hN ⊢
      walk_at "dl"
      refine ifB (fun h => absurd h (by decide +kernel)) (fun _ => ?_)
      refine ifB (fun _ => ?_) (fun h => absurd h (by decide +kernel))
      refine ⟨l, e, 2, rfl, ok.1, by omega, by omega, ?_⟩
      walk_at "dl"
      refine ⟨by rw [dStrs_len, List.length_singleton]; omega, r, e, 3, rfl, ok.2, by omega, by omega, ?_⟩
      walk_at "dl"
      refine ⟨by rw [List.length_append, dStrs_len, dStrs_len, List.length_singleton]; omega, hN _ _ ⟨rfl, ?_⟩⟩
      have : dStrs (rowT l 2) ++ [D.str "and"] ++ dStrs (rowT r 3) = dStrs (body (.con l r)) := by rw [body_con]; simp
      rw [this] <;> rfl
    | dis l r =>
      obtain ⟨e, rfl⟩ : ∃ e, d = e + 1 := by
        cases d with
        | zero => exact ok.elim
        | succ e => exact ⟨e, rfl⟩
      have b1 := rowT_len (k := 1) (Tst.ok_len ok.1 (by omega))
      have b2 := rowT_len (k := 2) (Tst.ok_len ok.2 (by omega))
      rw [show (Tst.dis l r).d = .tup [.str "or", l.d, r.d] from rfl] at hN ⊢
      walk_at "dl"
      refine ifB (fun _ => ?_) (fun h => absurd h (by decide +kernel))
      refine ⟨l, e, 1, rfl, ok.1, by omega, by omega, ?_⟩
      walk_at "dl"
      refine ⟨by rw [dStrs_len, List.length_singleton]; omega, r, e, 2, rfl, ok.2, by omega, by omega, ?_⟩
      walk_at "dl"
      refine ⟨by rw [List.length_append, dStrs_len, dStrs_len, List.length_singleton]; omega, hN _ _ ⟨rfl, ?_⟩⟩
      have : dStrs (rowT l 1) ++ [D.str "or"] ++ dStrs (rowT r 2) = dStrs (body (.dis l r)) := by rw [body_dis]; simp
      rw [this] <;> rfl
def sp_vrow (n : Nat) : SpD := fun ds M Q _ => ∃ (v : Val) (d : Nat), ds = [.non, v.d] ∧ v.ok d ∧ d < n ∧ d ≤ 2 ∧ Q (.lst (dStrs (valW v))) M
theorem Val.ok_len {v : Val} {d : Nat} (h : v.ok d) (hd : d ≤ 2) : (valW v).length ≤ 62 := by
  have h1 := (tk_val d v h).1
  have : d = 0 ∨ d = 1 ∨ d = 2 := by omega
  rcases this with rfl | rfl | rfl
  · exact Nat.le_trans h1 (by decide)
  · exact Nat.le_trans h1 (by decide)
  · exact Nat.le_trans h1 (by decide)
theorem ok__law_value_row (T : Txt K mg) {f : Addr} {fd : FuncData} (F : FunD K "_law_value_row" "_law_value_row" (defArgs s_law_value_row) (defBody s_law_value_row) (defScope s_law_value_row) [] [] f fd) (h__law_test_row : Callee P w K mg base CX0 (5) "_law_test_row" P_law_test_row (sp_trow 4)) (h__law_value_row : Callee P w K mg base CX0 (5+n) "_law_value_row" P_law_value_row (sp_vrow n)) : FnOk P w K mg base CX0 (5+n + 1) f fd P_law_value_row (LSp K ((sp_vrow (n+1)))) := by
  refine fnD0 F sc_law_value_row (fun ds M Q E h => by first | (obtain ⟨rfl, _⟩ := h; rfl) | (obtain ⟨_, rfl, _⟩ := h; rfl) | (obtain ⟨_, _, rfl, _⟩ := h; rfl) | (obtain ⟨_, _, _, rfl, _⟩ := h; rfl) | (obtain ⟨_, _, _, _, rfl, _⟩ := h; rfl) | (obtain ⟨_, _, _, _, _, rfl, _⟩ := h; rfl) | (obtain ⟨_, _, _, _, _, _, rfl, _⟩ := h; rfl) | (obtain ⟨_, _, _, _, _, _, _, rfl, _⟩ := h; rfl)) fun cdv A outer s H E F0 hr => ⟨_, (dss_cons (ds_if (dt_cmp (od_ne hr.units) (de_ix (de_var (pv 1)) de_int (fun _ _ => rfl)) de_str (nomark _)) (dss_one (ds_ret (de_lst (own := false) (da_cons (de_ix (de_var (pv 1)) de_int (fun _ _ => rfl)) da_nil)))) dss_nil)
      (dss_cons (ds_set (i := 2) sc_law_value_row.nd rfl (Or.inl rfl) (de_op (od_add (own := false)) (de_op (od_add (own := false)) (de_op (od_add (own := false)) (de_lst (own := false) (da_cons de_str da_nil)) (de_fn h__law_test_row (hr.mono (by omega)) rfl pass0 finX0 (da_cons (de_var (pv 0)) (da_cons (de_ix (de_var (pv 1)) de_int (fun _ _ => rfl)) (da_cons de_int da_nil))))) (de_lst (own := false) (da_cons de_str da_nil))) (de_fn h__law_value_row (hr.mono (by omega)) rfl pass0 finX0 (da_cons (de_var (pv 0)) (da_cons (de_ix (de_var (pv 1)) de_int (fun _ _ => rfl)) da_nil)))))
      (dss_one (ds_ret (de_op (od_add (own := false)) (de_op (od_add (own := false)) (de_var (pv 2)) (de_lst (own := false) (da_cons de_str da_nil))) (de_fn h__law_value_row (hr.mono (by omega)) rfl pass0 finX0 (da_cons (de_var (pv 0)) (da_cons (de_ix (de_var (pv 1)) de_int (fun _ _ => rfl)) da_nil)))))))), fun ds M Q Ex h => ?_⟩
  obtain ⟨v, d, rfl, ok, hd, hd2, q⟩ := h
  walk_at "st"
  have hs : sizeLine = 16777216 := sizeLine_eq
  rcases v with a | ⟨t, x, y⟩
  · refine seq_tail (fun _ _ => False) (fun _ _ h => h.elim) (fun N hN => ?_)
    have e : ∀ a : Atom, ¬ (a.d = D.str "x") → True := fun _ _ => trivial
    rcases a with s | s
    · rw [show (Val.at (.nm s)).d = .tup [.str "name", .str s] from rfl]
      walk_at "dl"
      exact ifB (fun _ => Wk.here q) (fun h => absurd h (by decide +kernel))
    · rw [show (Val.at (.vl s)).d = .tup [.str "value", .str s] from rfl]
      walk_at "dl"
      exact ifB (fun _ => Wk.here q) (fun h => absurd h (by decide +kernel))
  · obtain ⟨e, rfl⟩ : ∃ e, d = e + 1 := by
      cases d with
      | zero => exact ok.elim
      | succ e => exact ⟨e, rfl⟩
    have b1 := rowT_len (k := 1) (Tst.ok_len ok.1 (by omega))
    have b2 := Val.ok_len ok.2.1 (by omega)
    have b3 := Val.ok_len ok.2.2 (by omega)
    have e1 : rowT t 1 = body t := by unfold rowT; rw [if_neg (by have : 1 ≤ rank t := (by cases t <;> simp [rank]); omega)]
    rw [show (Val.ite t x y).d = .tup [.str "if", t.d, x.d, y.d] from rfl]
    refine seq_tail (fun σ M' => M' = M ∧ σ = [some .non, some (.tup [.str "if", t.d, x.d, y.d]), none]) ?_ (fun N hN => by walk_at "dl"; exact ifB (fun h => absurd h (by decide +kernel)) (fun _ => hN _ _ ⟨rfl, rfl⟩))
    rintro _ M0 ⟨e0, rfl⟩
    rw [e0]; clear e0 M0
    walk_at "dl"
    refine ⟨t, e + 1, 1, rfl, ok.1, by omega, by omega, ?_⟩
    walk_at "dl"
    simp only [List.length_append, dStrs_len, List.length_cons, List.length_nil]
    refine ⟨by omega, by omega, x, e, rfl, ok.2.1, by omega, by omega, ?_⟩
    walk_at "dl"
    simp only [List.length_append, dStrs_len, List.length_cons, List.length_nil]
    refine ⟨by omega, by omega, y, e, rfl, ok.2.2, by omega, by omega, ?_⟩
    walk_at "dl"
    simp only [List.length_append, dStrs_len, List.length_cons, List.length_nil]
    refine ⟨by omega, Wk.here ?_⟩
    have e2 : [D.str "if"] ++ dStrs (rowT t 1) ++ [D.str "then"] ++ dStrs (valW x) ++ [D.str "else"] ++ dStrs (valW y) = dStrs (valW (.ite t x y)) := by
      rw [e1, show valW (.ite t x y) = ("if" : Str) :: (body t ++ ("then" : Str) :: (valW x ++ ("else" : Str) :: valW y)) from rfl]; simp
    simp only [List.append_assoc] at e2 ⊢
    rw [e2]
    exact q
def sp_deedrow : SpD := fun ds M Q _ => ∃ x : Deed, ds = [.non, .tup [x.d]] ∧ ((∃ n v, x = .set n v ∧ v.ok 2 ∧ Q (.lst (dStrs (setW n v))) M) ∨ ∃ n f vs, x = .doo n f vs ∧ vs.length ≤ 3 ∧ (∀ v ∈ vs, Val.ok 1 v) ∧ Q (.lst (dStrs (dooW n f vs))) M)
theorem ok__law_deed_row (T : Txt K mg) {f : Addr} {fd : FuncData} (F : FunD K "_law_deed_row" "_law_deed_row" (defArgs s_law_deed_row) (defBody s_law_deed_row) (defScope s_law_deed_row) [] [] f fd) (h__law_next : Callee P w K mg base CX0 (1) "_law_next" P_law_next sp_no) (h__law_test_row : Callee P w K mg base CX0 (5) "_law_test_row" P_law_test_row (sp_trow 4)) (h__law_value_row : Callee P w K mg base CX0 (8) "_law_value_row" P_law_value_row (sp_vrow 3)) (h__law_commas : Callee P w K mg base CX0 (1) "_law_commas" P_law_commas sp_commas) (h__law_deed_row : Callee P w K mg base CX0 (1) "_law_deed_row" P_law_deed_row sp_no) : FnOk P w K mg base CX0 (8 + 1) f fd P_law_deed_row (LSp K (sp_deedrow)) := by
  refine fnD0 F sc_law_deed_row (fun ds M Q E h => by first | (obtain ⟨rfl, _⟩ := h; rfl) | (obtain ⟨_, rfl, _⟩ := h; rfl) | (obtain ⟨_, _, rfl, _⟩ := h; rfl) | (obtain ⟨_, _, _, rfl, _⟩ := h; rfl) | (obtain ⟨_, _, _, _, rfl, _⟩ := h; rfl) | (obtain ⟨_, _, _, _, _, rfl, _⟩ := h; rfl) | (obtain ⟨_, _, _, _, _, _, rfl, _⟩ := h; rfl) | (obtain ⟨_, _, _, _, _, _, _, rfl, _⟩ := h; rfl)) fun cdv A outer s H E F0 hr => ⟨_, (dss_cons (ds_set (i := 2) sc_law_deed_row.nd rfl (Or.inl rfl) (de_lst (own := false) da_nil))
      (dss_cons (ds_for PassesOwn.never rfl (di_items (de_var (pv 1))) (dg_name (pg_name (i := 3) sc_law_deed_row.nd rfl (Or.inl rfl))) (dss_one (ds_if (dt_cmp (od_eq hr.units) (de_ix (de_var (pv 3)) de_int (fun _ _ => rfl)) de_str (nomark _)) (dss_cons (ds_set (i := 2) sc_law_deed_row.nd rfl (Or.inl rfl) (de_op (od_add (own := false)) (de_op (od_add (own := false)) (de_op (od_add (own := false)) (de_op (od_add (own := false)) (de_op (od_add (own := false)) (de_var (pv 2)) (de_lst (own := false) (da_cons de_str da_nil))) (de_fn h__law_test_row (hr.mono (by omega)) rfl pass0 finX0 (da_cons (de_var (pv 0)) (da_cons (de_ix (de_var (pv 3)) de_int (fun _ _ => rfl)) (da_cons de_int da_nil))))) (de_lst (own := false) (da_cons de_str da_nil))) (de_fn h__law_deed_row (hr.mono (by omega)) rfl pass0 finX0 (da_cons (de_var (pv 0)) (da_cons (de_ix (de_var (pv 3)) de_int (fun _ _ => rfl)) da_nil)))) (de_lst (own := false) (da_cons de_str da_nil))))
      (dss_one (ds_if (dt_w (dw_or (dt_cmp (od_gt) (de_callB cd_len rfl T.len (by decide +kernel) (da_cons (de_ix (de_var (pv 3)) de_int (fun _ _ => rfl)) da_nil)) de_int (nomark _)) (dw_or1 (dt_w (dw_and (dt_cmp od_notN (de_var (pv 0)) de_non (nomark _)) (dw_and1 (dt_cmp (od_eq hr.units) (de_fn h__law_next (hr.mono (by omega)) rfl pass0 finX0 (da_cons (de_var (pv 0)) (da_cons de_int da_nil))) de_int (nomark _)))))))) (dss_one (ds_set (i := 2) sc_law_deed_row.nd rfl (Or.inl rfl) (de_op (od_add (own := false)) (de_op (od_add (own := false)) (de_op (od_add (own := false)) (de_var (pv 2)) (de_lst (own := false) (da_cons de_str (da_cons de_str da_nil)))) (de_fn h__law_deed_row (hr.mono (by omega)) rfl pass0 finX0 (da_cons (de_var (pv 0)) (da_cons (de_ix (de_var (pv 3)) de_int (fun _ _ => rfl)) da_nil)))) (de_lst (own := false) (da_cons de_str da_nil))))) dss_nil))) (dss_one (ds_if (dt_cmp (od_eq hr.units) (de_ix (de_var (pv 3)) de_int (fun _ _ => rfl)) de_str (nomark _)) (dss_cons (ds_set (i := 2) sc_law_deed_row.nd rfl (Or.inl rfl) (de_op (od_add (own := false)) (de_var (pv 2)) (de_lst (own := false) (da_cons (de_ix (de_var (pv 3)) de_int (fun _ _ => rfl)) (da_cons de_str (da_cons de_str (da_cons (de_ix (de_var (pv 3)) de_int (fun _ _ => rfl)) (da_cons de_str da_nil))))))))
      (dss_one (ds_set (i := 2) sc_law_deed_row.nd rfl (Or.inl rfl) (de_op (od_add (own := false)) (de_op (od_add (own := false)) (de_var (pv 2)) (de_fn h__law_commas (hr.mono (by omega)) rfl pass0 finX0 (da_cons (de_lc (own := false) (x := "value") (j := 4) rfl sc_law_deed_row.nd (di_items (de_ix (de_var (pv 3)) de_int (fun _ _ => rfl))) (blkOk_by (N := N_law_deed_row) (sc := defScope s_law_deed_row) (by decide +kernel)) (fun _ _ _ _ _ => pg_name (i := 4) sc_law_deed_row.nd rfl (by first | exact Or.inl rfl | exact Or.inr rfl)) (fun _ _ _ _ _ => (de_fn h__law_value_row (hr.mono (by omega)) rfl pass0 finX0 (da_cons (de_var (pv 0)) (da_cons (de_var (pv 4)) da_nil))))) da_nil))) (de_lst (own := false) (da_cons de_str (da_cons de_str da_nil))))))) (dss_one (ds_set (i := 2) sc_law_deed_row.nd rfl (Or.inl rfl) (de_op (od_add (own := false)) (de_op (od_add (own := false)) (de_op (od_add (own := false)) (de_var (pv 2)) (de_lst (own := false) (da_cons (de_ix (de_var (pv 3)) de_int (fun _ _ => rfl)) (da_cons de_str da_nil)))) (de_fn h__law_value_row (hr.mono (by omega)) rfl pass0 finX0 (da_cons (de_var (pv 0)) (da_cons (de_ix (de_var (pv 3)) de_int (fun _ _ => rfl)) da_nil)))) (de_lst (own := false) (da_cons de_str da_nil))))))))))
      (dss_one (ds_ret (de_var (pv 2)))))), fun ds M Q Ex h => ?_⟩
  obtain ⟨x, rfl, q⟩ := h
  walk_at "st"
  have hs : sizeLine = 16777216 := sizeLine_eq
  refine seq_tail (fun σ M' => M' = M ∧ σ = [some .non, some (.tup [x.d]), some (.lst []), none, none]) ?_ (fun N hN => by walk_at "dl"; exact hN _ _ ⟨rfl, rfl⟩)
  rintro _ M0 ⟨e0, rfl⟩
  rw [e0]; clear e0 M0
  refine seq_tail (fun σ M' => ∃ a b ws, σ = [some .non, some (.tup [x.d]), some (.lst (dStrs ws)), a, b] ∧ Q (.lst (dStrs ws)) M') ?_ (fun N hN => ?_)
  · rintro _ M0 ⟨a, b, ws, rfl, q⟩
    walk_at "dl"
    exact Wk.here q
  · refine for_pure [x.d] (fun Kd hk => by unfold dItems; walk_at "dl"; exact hk) (fun i σ M' => (i = 0 ∧ M' = M ∧ σ = [some .non, some (.tup [x.d]), some (.lst []), none, none]) ∨ (i = 1 ∧ ∃ a b ws, σ = [some .non, some (.tup [x.d]), some (.lst (dStrs ws)), a, b] ∧ Q (.lst (dStrs ws)) M')) (.inl ⟨rfl, rfl, rfl⟩) ?_ ?_
    · rintro i d σ M' N' hi hw hN'
      rcases hw with ⟨rfl, e0, rfl⟩ | ⟨rfl, _⟩
      · rw [e0]; clear e0 M'
        cases hi
        have fin : ∀ (X : D) (ws : List Str) (a b : Option D) (l : List D), x.d = X → l = dStrs ws → Q (.lst (dStrs ws)) M → N' [some .non, some (.tup [X]), some (.lst l), a, b] M := fun X ws a b l eX e q => by subst e eX; exact hN' _ _ (.inr ⟨rfl, a, b, ws, rfl, q⟩)
        rcases q with ⟨n, v, rfl, ok, q⟩ | ⟨n, g, vs, rfl, hl, hvs, q⟩
        · rw [show (Deed.set n v).d = .tup [.str "set", .str n, v.d] by rw [Deed.d]] at hN' ⊢
          have b2 := Val.ok_len ok (by omega)
          walk_at "dl"
          refine ifB (fun h => absurd h (by decide +kernel)) (fun _ => ?_)
          refine ifB (fun h => absurd h (by decide +kernel)) (fun _ => ?_)
          simp only [List.length_append, List.length_cons, List.length_nil, List.nil_append]
          refine ⟨by omega, v, 2, rfl, ok, by decide, by decide, ?_⟩
          walk_at "dl"
          simp only [List.length_append, dStrs_len, List.length_cons, List.length_nil]
          exact ⟨by omega, by omega, fin _ (setW n v) _ _ _ (by rw [Deed.d]) (by unfold setW; simp) q⟩
        · rw [show (Deed.doo n g vs).d = .tup [.str "do", .str n, .str g, .tup (vs.map Val.d)] by rw [Deed.d]] at hN' ⊢
          have hcl := commas_len (n := 62) (vs.map valW) (fun x hx => by obtain ⟨v, hv, rfl⟩ := List.mem_map.mp hx; exact Val.ok_len (hvs v hv) (by decide))
          rw [List.length_map] at hcl
          walk_at "dl"
          refine ifB (fun h => absurd h (by decide +kernel)) (fun _ => ?_)
          refine ifB (fun _ => ?_) (fun h => absurd h (by decide +kernel))
          refine ⟨by simp only [List.length_cons, List.length_nil]; omega, ?_⟩
          refine lc_row vs Val.d (fun v => .lst (dStrs (valW v))) (fun Kd hk => by unfold dItems; walk_at "dl"; exact hk) (by omega) (fun i x M2 Q2 hx _ q2 => ?_) ?_
          · walk_at "dl"
            exact ⟨x, 1, rfl, hvs x (List.mem_of_getElem? hx), by decide, by decide, q2⟩
          · walk_at "dl"
            refine ⟨vs.map valW, by rw [List.map_map]; rfl, by rw [List.length_map]; exact hl, fun x hx => ?_, ?_⟩
            · obtain ⟨v, hv, rfl⟩ := List.mem_map.mp hx
              exact ⟨valW_pos v, Val.ok_len (hvs v hv) (by decide)⟩
            · walk_at "dl"
              simp only [List.length_append, dStrs_len, List.length_cons, List.length_nil, List.nil_append]
              exact ⟨by omega, by omega, fin _ (dooW n g vs) _ _ _ (by rw [Deed.d]) (by unfold dooW; simp) q⟩
      · cases hi
    · rintro σ M' hw
      rcases hw with ⟨h, _⟩ | ⟨_, a, b, ws, rfl, q⟩
      · cases h
      · exact hN _ _ ⟨a, b, ws, rfl, q⟩
end
end K05
namespace K05
open PySem PySem.Spec L2 DL Syn Wr
local macro_rules | `(tactic| walk_at "st") => `(tactic| simp only [start_def, List.map_cons, List.map_nil, List.length_cons, List.length_nil, List.cons_append, List.nil_append, Nat.zero_add, Nat.reduceAdd, Nat.reduceSub, List.replicate])
local macro_rules | `(tactic| walk_at "dl") => `(tactic| simp only [dSeq, dNext, dDrop, dRet, dRetF, dRetN, dIfS, dAsg, dAug, dPar, nGm, nTup, nCons, nNil, dVar, dC, dOp, dUn, dCons, dNil, dTup, dLst, dB, dTru, dAnd, dOr, dNot, dAndV, dOrV, dNotV, dIf, dChain, dCB, dCall, dSlE, dNoPart, dPart, dRev, dS0, dS1, dBL, dBL0, dIsi, dBreak, dCont, List.set_cons_zero, List.set_cons_succ, List.getElem?_cons_zero, List.getElem?_cons_succ, ifB_t, ifB_f, e_new_f, e_new_t, e_add_int, e_add_str, e_add_tup, e_add_lst, e_sub, e_mul, e_mul_str, e_mul_lst, e_div, e_mod, e_pow, e_neg, e_eq_int, e_eq_str, e_isN_non, e_isN_obj, e_isN_tup, e_isN_lst, e_lt_int, e_lt_str, e_le_int, e_le_str, e_gt, e_ge, e_in_str, e_t0, e_t1, e_t2, e_t3, e_t4, e_t5, e_l0, e_l1, e_l2, e_l3, e_sl_tup, e_sl_rdl, e_sl_str, e_sl_lst, e_len_str, e_len_lst, e_len_tup, e_int, e_tupC_tup, e_tupC_lst, e_iadd_int, e_iadd_str, e_isub, tru_bl, tru_int, tru_non, tru_lst, tru_tup, ex_some, bne_f, bne_t, e_nSub, lsD_lst, sz0, sz1, sz2, sz3, sz4, sz5, sz6, sz7, sz8, true_and])
section
variable {P : Program} {w : World} {K : PySem.W.Frag} {mg : Str → Option Value} {base : Heap} {n : Nat}
def sp_varrow : SpD := fun ds M Q _ => ∃ v : Vr, ds = [.non, .tup [vrD v]] ∧ v.2.2.ok 2 ∧ Q (.lst (dStrs (varW v))) M
theorem ok__law_var_row (T : Txt K mg) {f : Addr} {fd : FuncData} (F : FunD K "_law_var_row" "_law_var_row" (defArgs s_law_var_row) (defBody s_law_var_row) (defScope s_law_var_row) [] [] f fd) (h__law_value_row : Callee P w K mg base CX0 (8) "_law_value_row" P_law_value_row (sp_vrow 3)) : FnOk P w K mg base CX0 (8 + 1) f fd P_law_var_row (LSp K (sp_varrow)) := by
  refine fnD0 F sc_law_var_row (fun ds M Q E h => by first | (obtain ⟨rfl, _⟩ := h; rfl) | (obtain ⟨_, rfl, _⟩ := h; rfl) | (obtain ⟨_, _, rfl, _⟩ := h; rfl) | (obtain ⟨_, _, _, rfl, _⟩ := h; rfl) | (obtain ⟨_, _, _, _, rfl, _⟩ := h; rfl) | (obtain ⟨_, _, _, _, _, rfl, _⟩ := h; rfl) | (obtain ⟨_, _, _, _, _, _, rfl, _⟩ := h; rfl) | (obtain ⟨_, _, _, _, _, _, _, rfl, _⟩ := h; rfl)) fun cdv A outer s H E F0 hr => ⟨_, (dss_cons (ds_set (i := 2) sc_law_var_row.nd rfl (Or.inl rfl) (de_lst (own := false) da_nil))
      (dss_cons (ds_for PassesOwn.never rfl (di_items (de_var (pv 1))) (dg_name (pg_name (i := 3) sc_law_var_row.nd rfl (Or.inl rfl))) (dss_one (ds_set (i := 2) sc_law_var_row.nd rfl (Or.inl rfl) (de_op (od_add (own := false)) (de_op (od_add (own := false)) (de_op (od_add (own := false)) (de_var (pv 2)) (de_lst (own := false) (da_cons de_str (da_cons (de_ix (de_var (pv 3)) de_int (fun _ _ => rfl)) (da_cons de_str (da_cons (de_ix (de_var (pv 3)) de_int (fun _ _ => rfl)) (da_cons de_str da_nil))))))) (de_fn h__law_value_row (hr.mono (by omega)) rfl pass0 finX0 (da_cons (de_var (pv 0)) (da_cons (de_ix (de_var (pv 3)) de_int (fun _ _ => rfl)) da_nil)))) (de_lst (own := false) (da_cons de_str da_nil))))))
      (dss_one (ds_ret (de_var (pv 2)))))), fun ds M Q Ex h => ?_⟩
  obtain ⟨v, rfl, ok, q⟩ := h
  walk_at "st"
  have hs : sizeLine = 16777216 := sizeLine_eq
  have b2 := Val.ok_len ok (by omega)
  rw [show vrD v = .tup [.str v.1, .str v.2.1, v.2.2.d] from rfl]
  refine seq_tail (fun σ M' => M' = M ∧ σ = [some .non, some (.tup [.tup [.str v.1, .str v.2.1, v.2.2.d]]), some (.lst []), none]) ?_ (fun N hN => by walk_at "dl"; exact hN _ _ ⟨rfl, rfl⟩)
  rintro _ M0 ⟨e0, rfl⟩
  rw [e0]; clear e0 M0
  refine seq_tail (fun σ M' => ∃ a ws, σ = [some .non, some (.tup [.tup [.str v.1, .str v.2.1, v.2.2.d]]), some (.lst (dStrs ws)), a] ∧ Q (.lst (dStrs ws)) M') ?_ (fun N hN => ?_)
  · rintro _ M0 ⟨a, ws, rfl, q⟩
    walk_at "dl"
    exact Wk.here q
  · refine for_pure [.tup [.str v.1, .str v.2.1, v.2.2.d]] (fun Kd hk => by unfold dItems; walk_at "dl"; exact hk) (fun i σ M' => (i = 0 ∧ M' = M ∧ σ = [some .non, some (.tup [.tup [.str v.1, .str v.2.1, v.2.2.d]]), some (.lst []), none]) ∨ (i = 1 ∧ ∃ a ws, σ = [some .non, some (.tup [.tup [.str v.1, .str v.2.1, v.2.2.d]]), some (.lst (dStrs ws)), a] ∧ Q (.lst (dStrs ws)) M')) (.inl ⟨rfl, rfl, rfl⟩) ?_ ?_
    · rintro i d σ M' N' hi hw hN'
      rcases hw with ⟨rfl, e0, rfl⟩ | ⟨rfl, _⟩
      · rw [e0]; clear e0 M'
        cases hi
        have fin : ∀ (ws : List Str) (a : Option D) (l : List D), l = dStrs ws → Q (.lst (dStrs ws)) M → N' [some .non, some (.tup [.tup [.str v.1, .str v.2.1, v.2.2.d]]), some (.lst l), a] M := fun ws a l e q => by subst e; exact hN' _ _ (.inr ⟨rfl, a, ws, rfl, q⟩)
        walk_at "dl"
        simp only [List.length_append, List.length_cons, List.length_nil, List.nil_append]
        refine ⟨by omega, v.2.2, 2, rfl, ok, by decide, by decide, ?_⟩
        walk_at "dl"
        simp only [List.length_append, dStrs_len, List.length_cons, List.length_nil]
        exact ⟨by omega, by omega, fin (varW v) _ _ (by unfold varW; simp) q⟩
      · cases hi
    · rintro σ M' hw
      rcases hw with ⟨h, _⟩ | ⟨_, a, ws, rfl, q⟩
      · cases h
      · exact hN _ _ ⟨a, ws, rfl, q⟩
def sp_joined : SpD := fun ds M Q _ => ∃ ws, ds = [.lst (dStrs ws)] ∧ Tks 80 ws ∧ Q (.str (lineT ws)) M
theorem ok__law_joined (T : Txt K mg) {f : Addr} {fd : FuncData} (F : FunD K "_law_joined" "_law_joined" (defArgs s_law_joined) (defBody s_law_joined) (defScope s_law_joined) [] [] f fd) (h__law_words : Callee P w K mg base CX0 (1) "_law_words" P_law_words sp_words) : FnOk P w K mg base CX0 (1 + 1) f fd P_law_joined (LSp K (sp_joined)) := by
  refine fnD0 F sc_law_joined (fun ds M Q E h => by first | (obtain ⟨rfl, _⟩ := h; rfl) | (obtain ⟨_, rfl, _⟩ := h; rfl) | (obtain ⟨_, _, rfl, _⟩ := h; rfl) | (obtain ⟨_, _, _, rfl, _⟩ := h; rfl) | (obtain ⟨_, _, _, _, rfl, _⟩ := h; rfl) | (obtain ⟨_, _, _, _, _, rfl, _⟩ := h; rfl) | (obtain ⟨_, _, _, _, _, _, rfl, _⟩ := h; rfl) | (obtain ⟨_, _, _, _, _, _, _, rfl, _⟩ := h; rfl)) fun cdv A outer s H E F0 hr => ⟨_, (dss_cons (ds_set (i := 1) sc_law_joined.nd rfl (Or.inl rfl) de_str)
      (dss_cons (ds_set (i := 2) sc_law_joined.nd rfl (Or.inl rfl) de_str)
      (dss_cons (ds_for PassesOwn.never rfl (di_items (de_var (pv 0))) (dg_name (pg_name (i := 3) sc_law_joined.nd rfl (Or.inl rfl))) (dss_cons (ds_set (i := 4) sc_law_joined.nd rfl (Or.inl rfl) (de_or (de_cmp (od_eq hr.units) (de_var (pv 2)) de_str (nomark _)) (de_one (de_cmp (od_in) (de_var (pv 3)) (de_tup (da_cons de_str (da_cons de_str (da_cons de_str (da_cons de_str da_nil))))) rfl))))
      (dss_cons (ds_if (dt_w (dw_and (dt_cmp (od_eq hr.units) (de_var (pv 3)) de_str (nomark _)) (dw_and (dt_w (dw_or (dt_tru (de_s0 PySem.F.slot_str_isalnum PySem.F.type_str_isalnum xs_isalnum (de_ix (de_var (pv 2)) (de_un ud_neg de_int) (fun _ _ => rfl)))) (dw_or1 (dt_cmp (od_eq hr.units) (de_ix (de_var (pv 2)) (de_un ud_neg de_int) (fun _ _ => rfl)) de_str (nomark _))))) (dw_and1 (dt_cmp (od_notIn) (de_var (pv 2)) (de_fn0 h__law_words (hr.mono (by omega)) rfl pass0 finX0) rfl))))) (dss_one (ds_set (i := 4) sc_law_joined.nd rfl (Or.inl rfl) de_bl)) dss_nil)
      (dss_cons (ds_set (i := 1) sc_law_joined.nd rfl (Or.inl rfl) (de_op (od_add (own := false)) (de_op (od_add (own := false)) (de_var (pv 1)) (de_if (dt_tru (de_var (pv 4))) de_str de_str)) (de_var (pv 3))))
      (dss_one (ds_set (i := 2) sc_law_joined.nd rfl (Or.inl rfl) (de_var (pv 3))))))))
      (dss_one (ds_ret (de_var (pv 1))))))), fun ds M Q Ex h => ?_⟩
  obtain ⟨ws, rfl, tk, q⟩ := h
  walk_at "st"
  have hs : sizeLine = 16777216 := sizeLine_eq
  refine seq_tail (fun σ M' => M' = M ∧ σ = [some (.lst (dStrs ws)), some (.str ""), none, none, none]) ?_ (fun N hN => by walk_at "dl"; exact hN _ _ ⟨rfl, rfl⟩)
  rintro _ M0 ⟨e0, rfl⟩
  rw [e0]; clear e0 M0
  refine seq_tail (fun σ M' => M' = M ∧ σ = [some (.lst (dStrs ws)), some (.str ""), some (.str "("), none, none]) ?_ (fun N hN => by walk_at "dl"; exact hN _ _ ⟨rfl, rfl⟩)
  rintro _ M0 ⟨e0, rfl⟩
  rw [e0]; clear e0 M0
  refine seq_tail (fun σ M' => M' = M ∧ ∃ a b c, σ = [some (.lst (dStrs ws)), some (.str (lineT ws)), a, b, c]) ?_ (fun N hN => ?_)
  · rintro _ M0 ⟨e0, a, b, c, rfl⟩
    rw [e0]; clear e0 M0
    walk_at "dl"
    exact Wk.here q
  · refine for_pure (dStrs ws) (fun Kd hk => by unfold dItems; walk_at "dl"; exact hk) (fun i σ M' => M' = M ∧ ∃ L b c, Tk L ∧ (∀ w, near ((ws.take i).foldl stepL ("", "")).2 w = near L w) ∧ σ = [some (.lst (dStrs ws)), some (.str ((ws.take i).foldl stepL ("", "")).1), some (.str L), b, c]) ⟨rfl, "(", none, none, tk_fix (by decide +kernel), fun w => ?_, rfl⟩ ?_ ?_
    · unfold near
      rfl
    · rintro i d σ M' N' hi ⟨e0, L, b, c, hL, hnear, rfl⟩ hN'
      rw [e0]; clear e0 M'
      rw [List.getElem?_map] at hi
      obtain ⟨w, hiw, rfl⟩ := Option.map_eq_some_iff.mp hi
      have hw1 := tk.2 w (List.mem_of_getElem? hiw)
      have hlen := fold_len (ws.take i) ("", "") fun x hx => (tk.2 x (List.mem_of_mem_take hx)).wd
      have e00 : (("" : Str), ("" : Str)).1.length = 0 := by decide +kernel
      have hti : (ws.take i).length ≤ 80 := Nat.le_trans (by rw [List.length_take]; exact Nat.min_le_right _ _) tk.1
      have efold := fold_at (a := ("", "")) hiw
      generalize hp : (ws.take i).foldl stepL ("", "") = p at *
      refine seq_tail (fun σ M' => M' = M ∧ σ = [some (.lst (dStrs ws)), some (.str p.1), some (.str L), some (.str w), some (.bl (decide (L = "(") || decide (w ∈ ([";", ",", ")", ":"] : List Str))))]) ?_ (fun N hN => ?_)
      rotate_left
      · walk_at "dl"
        refine ifB (fun h => ?_) (fun h => ?_)
        · exact hN _ _ ⟨rfl, by rw [h, Bool.true_or]⟩
        · refine e_in (xs := [";", ",", ")", ":"]) (.inl rfl) ?_
          rw [bne_f]
          exact hN _ _ ⟨rfl, by rw [h, Bool.false_or]⟩
      rintro _ M0 ⟨e0, rfl⟩
      rw [e0]; clear e0 M0
      generalize hx : (decide (L = "(") || decide (w ∈ ([";", ",", ")", ":"] : List Str))) = nx at *
      refine seq_tail (fun σ M' => M' = M ∧ σ = [some (.lst (dStrs ws)), some (.str p.1), some (.str L), some (.str w), some (.bl (near L w))]) ?_ (fun N hN => ?_)
      rotate_left
      · have en := @near_tk L w hL
        rw [hx] at en
        have hLz : L.length ≤ sizeLine := by have := hL.hi; omega
        obtain ⟨c1, hc1⟩ : ∃ c, L.cps.toList.getLast? = some c := by
          cases e : L.cps.toList.getLast? with
          | some c => exact ⟨c, rfl⟩
          | none =>
            rw [List.getLast?_eq_none_iff] at e
            have h1 := hL.lo
            rw [TL.len_tl] at h1
            have h2 : 1 ≤ L.cps.toList.length := h1
            rw [e] at h2
            exact absurd h2 (by decide)
        have hnm : nmL L = ((Txt.isalnum ⟨#[c1]⟩ || c1 == 95) && !decide (L ∈ WORDS)) := by unfold nmL; rw [hc1]
        have ix : ∀ M (Q : DK), Q (.str ⟨#[c1]⟩) M → dIx (.str L) (.int (-1)) M Q := fun M Q q => ⟨hLz, c1, at_last hc1, q⟩
        have no : (decide (w = "(") && nmL L) = false → N [some (.lst (dStrs ws)), some (.str p.1), some (.str L), some (.str w), some (.bl nx)] M := fun h => hN _ _ ⟨rfl, by rw [en, h, Bool.or_false]⟩
        have yes : (decide (w = "(") && nmL L) = true → N [some (.lst (dStrs ws)), some (.str p.1), some (.str L), some (.str w), some (.bl true)] M := fun h => hN _ _ ⟨rfl, by rw [en, h, Bool.or_true]⟩
        have ec : decide ((⟨#[c1]⟩ : Str) = "_") = (c1 == 95) := by
          have e : ("_" : Str) = ⟨#[95]⟩ := by decide +kernel
          rw [e, Bool.eq_iff_iff, decide_eq_true_iff, beq_iff_eq]
          constructor
          · intro h; injection h with h; injection h with h; injection h
          · intro h; rw [h]
        have fin : decide (w = "(") = true → (Txt.isalnum ⟨#[c1]⟩ || c1 == 95) = true → IfB (true != decide (L ∈ WORDS)) (N [some (.lst (dStrs ws)), some (.str p.1), some (.str L), some (.str w), some (.bl true)] M) (N [some (.lst (dStrs ws)), some (.str p.1), some (.str L), some (.str w), some (.bl nx)] M) := fun h0 h => by
          rw [bne_t]
          refine ifB (fun h2 => yes (by rw [h0, hnm, h, h2]; rfl)) (fun h2 => no (by rw [hnm, h2, Bool.and_false, Bool.and_false]))
        walk_at "dl"
        refine ifB (fun hw0 => ?_) (fun hw0 => no (by rw [hw0]; rfl))
        refine ix _ _ ?_
        refine ⟨_, rfl, ?_⟩
        refine ifB (fun h1 => ⟨rfl, e_in (xs := WORDS) (.inr rfl) (fin hw0 (by rw [h1]; rfl))⟩) (fun h1 => ?_)
        refine ix _ _ ?_
        rw [e_eq_str, bne_f, ec]
        refine ifB (fun h2 => ⟨rfl, e_in (xs := WORDS) (.inr rfl) (fin hw0 (by rw [h2, Bool.or_true]))⟩) (fun h2 => no (by rw [hnm, h1, h2]; simp))
      rintro _ M0 ⟨e0, rfl⟩
      rw [e0]; clear e0 M0
      refine seq_tail (fun σ M' => M' = M ∧ σ = [some (.lst (dStrs ws)), some (.str (stepL p w).1), some (.str L), some (.str w), some (.bl (near L w))]) ?_ (fun N hN => ?_)
      · rintro _ M0 ⟨e0, rfl⟩
        rw [e0]; clear e0 M0
        walk_at "dl"
        refine hN' _ _ ⟨rfl, w, some (.str w), some (.bl (near L w)), hw1, fun v => ?_, ?_⟩
        · rw [efold]; rfl
        · rw [efold]
      · have hw12 := hw1.hi
        walk_at "dl"
        refine ifB (fun h => ?_) (fun h => ?_)
        · have e0' : ("" : Str).length = 0 := by decide +kernel
          refine ⟨by omega, by rw [len_app]; omega, hN _ _ ⟨rfl, ?_⟩⟩
          unfold stepL
          rw [hnear, h, str_empty] <;> rfl
        · have e1' : (" " : Str).length = 1 := by decide +kernel
          refine ⟨by omega, by rw [len_app]; omega, hN _ _ ⟨rfl, ?_⟩⟩
          unfold stepL
          rw [hnear, h, str_assoc] <;> rfl
    · rintro σ M' ⟨e0, L, b, c, _, _, rfl⟩
      refine hN _ _ ⟨e0, some (.str L), b, c, ?_⟩
      rw [show (dStrs ws).length = ws.length from List.length_map .., List.take_length] <;> rfl
end
end K05
namespace K05
open PySem PySem.Spec L2 DL Syn Wr
local macro_rules | `(tactic| walk_at "st") => `(tactic| simp only [start_def, List.map_cons, List.map_nil, List.length_cons, List.length_nil, List.cons_append, List.nil_append, Nat.zero_add, Nat.reduceAdd, Nat.reduceSub, List.replicate])
local macro_rules | `(tactic| walk_at "dl") => `(tactic| simp only [dSeq, dNext, dDrop, dRet, dRetF, dRetN, dIfS, dAsg, dAug, dPar, nGm, nTup, nCons, nNil, dVar, dC, dOp, dUn, dCons, dNil, dTup, dLst, dB, dTru, dAnd, dOr, dNot, dAndV, dOrV, dNotV, dIf, dChain, dCB, dCall, dSlE, dNoPart, dPart, dRev, dS0, dS1, dBL, dBL0, dIsi, dBreak, dCont, List.set_cons_zero, List.set_cons_succ, List.getElem?_cons_zero, List.getElem?_cons_succ, ifB_t, ifB_f, e_new_f, e_new_t, e_add_int, e_add_str, e_add_tup, e_add_lst, e_sub, e_mul, e_mul_str, e_mul_lst, e_div, e_mod, e_pow, e_neg, e_eq_int, e_eq_str, e_isN_non, e_isN_obj, e_isN_tup, e_isN_lst, e_lt_int, e_lt_str, e_le_int, e_le_str, e_gt, e_ge, e_in_str, e_t0, e_t1, e_t2, e_t3, e_t4, e_t5, e_l0, e_l1, e_l2, e_l3, e_sl_tup, e_sl_rdl, e_sl_str, e_sl_lst, e_len_str, e_len_lst, e_len_tup, e_int, e_tupC_tup, e_tupC_lst, e_iadd_int, e_iadd_str, e_isub, tru_bl, tru_int, tru_non, tru_lst, tru_tup, ex_some, bne_f, bne_t, e_nSub, lsD_lst, sz0, sz1, sz2, sz3, sz4, sz5, sz6, sz7, sz8, true_and])
section
variable {P : Program} {w : World} {K : PySem.W.Frag} {mg : Str → Option Value} {base : Heap} {n : Nat}
def sp_dlines (n : Nat) : SpD := fun ds M Q _ => ∃ (xs : List Deed) (d deep : Nat), ds = [.tup (deedsD xs), .int ((2 * deep : Nat) : Int)] ∧ (∀ x ∈ xs, x.ok d) ∧ xs.length ≤ 3 ∧ d < n ∧ d ≤ 2 ∧ deep + d < 13 ∧ Q (.lst (dStrs (deedsL deep xs))) M
theorem ok__law_deed_lines (T : Txt K mg) {f : Addr} {fd : FuncData} (F : FunD K "_law_deed_lines" "_law_deed_lines" (defArgs s_law_deed_lines) (defBody s_law_deed_lines) (defScope s_law_deed_lines) [] [] f fd) (h__law_joined : Callee P w K mg base CX0 (2) "_law_joined" P_law_joined sp_joined) (h__law_deed_row : Callee P w K mg base CX0 (9) "_law_deed_row" P_law_deed_row sp_deedrow) (h__law_test_row : Callee P w K mg base CX0 (5) "_law_test_row" P_law_test_row (sp_trow 4)) (h__law_deed_lines : Callee P w K mg base CX0 (9+n) "_law_deed_lines" P_law_deed_lines (sp_dlines n)) : FnOk P w K mg base CX0 (9+n + 1) f fd P_law_deed_lines (LSp K ((sp_dlines (n+1)))) := by
  refine fnD0 F sc_law_deed_lines (fun ds M Q E h => by first | (obtain ⟨rfl, _⟩ := h; rfl) | (obtain ⟨_, rfl, _⟩ := h; rfl) | (obtain ⟨_, _, rfl, _⟩ := h; rfl) | (obtain ⟨_, _, _, rfl, _⟩ := h; rfl) | (obtain ⟨_, _, _, _, rfl, _⟩ := h; rfl) | (obtain ⟨_, _, _, _, _, rfl, _⟩ := h; rfl) | (obtain ⟨_, _, _, _, _, _, rfl, _⟩ := h; rfl) | (obtain ⟨_, _, _, _, _, _, _, rfl, _⟩ := h; rfl)) fun cdv A outer s H E F0 hr => ⟨_, (dss_cons (ds_set (i := 2) sc_law_deed_lines.nd rfl (Or.inl rfl) (de_lst (own := true) da_nil))
      (dss_cons (ds_for PassesOwn.never rfl (di_items (de_var (pv 0))) (dg_name (pg_name (i := 3) sc_law_deed_lines.nd rfl (Or.inl rfl))) (dss_cons (ds_if (dt_cmp (od_ne hr.units) (de_ix (de_var (pv 3)) de_int (fun _ _ => rfl)) de_str (nomark _)) (dss_cons (ds_expr (de_bl1 PySem.F.slot_list_append PySem.F.type_list_append md_append (de_var (pv 2)) (da_cons (de_op (od_add (own := false)) (de_op (od_mul (own := false)) de_str (de_var (pv 1))) (de_fn h__law_joined (hr.mono (by omega)) rfl pass0 finX0 (da_cons (de_fn h__law_deed_row (hr.mono (by omega)) rfl pass0 finX0 (da_cons de_non (da_cons (de_tup (da_cons (de_var (pv 3)) da_nil)) da_nil))) da_nil))) da_nil)))
      (dss_one ds_continue)) dss_nil)
      (dss_cons (ds_expr (de_bl1 PySem.F.slot_list_append PySem.F.type_list_append md_append (de_var (pv 2)) (da_cons (de_op (od_add (own := false)) (de_op (od_mul (own := false)) de_str (de_var (pv 1))) (de_fn h__law_joined (hr.mono (by omega)) rfl pass0 finX0 (da_cons (de_op (od_add (own := false)) (de_op (od_add (own := false)) (de_lst (own := false) (da_cons de_str da_nil)) (de_fn h__law_test_row (hr.mono (by omega)) rfl pass0 finX0 (da_cons de_non (da_cons (de_ix (de_var (pv 3)) de_int (fun _ _ => rfl)) (da_cons de_int da_nil))))) (de_lst (own := false) (da_cons de_str da_nil))) da_nil))) da_nil)))
      (dss_cons (ds_set (i := 2) sc_law_deed_lines.nd rfl (Or.inl rfl) (de_op (od_add (own := true)) (de_var (pv 2)) (de_fn h__law_deed_lines (hr.mono (by omega)) rfl pass0 finX0 (da_cons (de_ix (de_var (pv 3)) de_int (fun _ _ => rfl)) (da_cons (de_op (od_add (own := false)) (de_var (pv 1)) de_int) da_nil)))))
      (dss_cons (ds_if (dt_cmp (od_gt) (de_callB cd_len rfl T.len (by decide +kernel) (da_cons (de_ix (de_var (pv 3)) de_int (fun _ _ => rfl)) da_nil)) de_int (nomark _)) (dss_one (ds_set (i := 2) sc_law_deed_lines.nd rfl (Or.inl rfl) (de_op (od_add (own := true)) (de_op (od_add (own := false)) (de_var (pv 2)) (de_lst (own := false) (da_cons (de_op (od_add (own := false)) (de_op (od_mul (own := false)) de_str (de_var (pv 1))) de_str) da_nil))) (de_fn h__law_deed_lines (hr.mono (by omega)) rfl pass0 finX0 (da_cons (de_ix (de_var (pv 3)) de_int (fun _ _ => rfl)) (da_cons (de_op (od_add (own := false)) (de_var (pv 1)) de_int) da_nil)))))) dss_nil)
      (dss_one (ds_expr (de_bl1 PySem.F.slot_list_append PySem.F.type_list_append md_append (de_var (pv 2)) (da_cons (de_op (od_add (own := false)) (de_op (od_mul (own := false)) de_str (de_var (pv 1))) de_str) da_nil)))))))))
      (dss_one (ds_retF (de_var (pv 2)))))), fun ds M Q Ex h => ?_⟩
  obtain ⟨xs, d, deep, rfl, ok, hl, hd, hd2, hdp, q⟩ := h
  walk_at "st"
  have hs : sizeLine = 16777216 := sizeLine_eq
  have hdeep : deep < 13 := by omega
  have hmul : MulOk " " ((2 * deep : Nat) : Int) := mulok1 (by omega)
  have hml := wide_len hdeep
  refine seq_tail (fun σ M' => ∃ p, Li M [] (some (.obj p)) M' ∧ σ = [some (.tup (deedsD xs)), some (.int ((2 * deep : Nat) : Int)), some (.obj p), none]) ?_ (fun N hN => by walk_at "dl"; exact fun p hp => hN _ _ ⟨p, .start hp, rfl⟩)
  rintro _ M0 ⟨p, li, rfl⟩
  refine seq_tail (fun σ M' => ∃ p c, Li M (deedsL deep xs) (some (.obj p)) M' ∧ σ = [some (.tup (deedsD xs)), some (.int ((2 * deep : Nat) : Int)), some (.obj p), c]) ?_ (fun N hN => ?_)
  · rintro _ M1 ⟨p, c, li, rfl⟩
    walk_at "dl"
    exact li.out q
  · refine for_pure (xs.map Deed.d) (fun Kd hk => by unfold dItems; walk_at "dl"; rw [deedsD_map]; exact hk) (fun i σ M' => ∃ p c, Li M (deedsL deep (xs.take i)) (some (.obj p)) M' ∧ σ = [some (.tup (deedsD xs)), some (.int ((2 * deep : Nat) : Int)), some (.obj p), c]) ⟨p, none, by rw [List.take_zero]; exact li, rfl⟩ ?_ ?_
    · rintro i y σ M' N' hi ⟨p, c, li, rfl⟩ hN'
      rw [List.getElem?_map] at hi
      obtain ⟨x, hix, rfl⟩ := Option.map_eq_some_iff.mp hi
      have hx := ok x (List.mem_of_getElem? hix)
      have hlen : (deedsL deep (xs.take i)).length ≤ 63 := deeds_len (fun x hx => ok x (List.mem_of_mem_take hx)) hdp hd2 (Nat.le_trans (by rw [List.length_take]; exact Nat.min_le_right _ _) hl)
      have eat := deedsL_at (deep := deep) hix
      generalize deedsL deep (xs.take i) = ls at *
      -- a line put at the end, and what stands in the slots then
      have fin1 : ∀ (X : D) {l : Str} {ls' : List Str} {M2 : Mp} {p2 : Addr}, x.d = X → Li M ls' (some (.obj p2)) M2 → ls'.length ≤ 1000 → deedsL deep (xs.take (i + 1)) = ls' ++ [l] → dAppend (.obj p2) [.str l] M2 fun z M3 => N' [some (.tup (deedsD xs)), some (.int ((2 * deep : Nat) : Int)), some (.obj p2), some X] M3 := by
        intro X l ls' M2 p2 eX li2 hl2 e
        subst eX
        rw [e_append li2.one]
        refine ⟨by rw [dStrs_len]; omega, hN' _ _ ⟨p2, some x.d, ?_, rfl⟩⟩
        rw [e]
        exact li2.put (by rw [dStrs_app] <;> rfl)
      cases x with
      | set n v =>
        have ok' : NameOk false n ∧ v.ok 2 := by cases d <;> (unfold Deed.ok at hx; exact hx)
        have tk := tk_set ok'.1 ok'.2
        have l80 := lineT_80 tk
        have e : (Deed.set n v).d = .tup [.str "set", .str n, v.d] := by rw [Deed.d]
        rw [show deedL deep (.set n v) = [lineN deep (setW n v)] by rw [deedL]] at eat
        have f := fin1 _ e li (by omega) eat
        rw [e]
        walk_at "dl"
        refine ifB (fun _ => ?_) (fun h => absurd h (by decide +kernel))
        refine ⟨isLst_of li.one, hmul, .set n v, by rw [e], .inl ⟨n, v, rfl, ok'.2, ?_⟩⟩
        refine ⟨_, rfl, tk, ?_⟩
        walk_at "dl"
        rw [wide_line hdeep]
        exact ⟨by omega, f⟩
      | doo n g vs =>
        have ok' : NameOk false n ∧ NameOk false g ∧ vs.length ≤ 3 ∧ ∀ v ∈ vs, Val.ok 1 v := by cases d <;> (unfold Deed.ok at hx; exact hx)
        have tk := tk_doo ok'.1 ok'.2.1 ok'.2.2.1 ok'.2.2.2
        have l80 := lineT_80 tk
        have e : (Deed.doo n g vs).d = .tup [.str "do", .str n, .str g, .tup (vs.map Val.d)] := by rw [Deed.d]
        rw [show deedL deep (.doo n g vs) = [lineN deep (dooW n g vs)] by rw [deedL]] at eat
        have f := fin1 _ e li (by omega) eat
        rw [e]
        walk_at "dl"
        refine ifB (fun _ => ?_) (fun h => absurd h (by decide +kernel))
        refine ⟨isLst_of li.one, hmul, .doo n g vs, by rw [e], .inr ⟨n, g, vs, rfl, ok'.2.2.1, ok'.2.2.2, ?_⟩⟩
        refine ⟨_, rfl, tk, ?_⟩
        walk_at "dl"
        rw [wide_line hdeep]
        exact ⟨by omega, f⟩
      | ite t ys zs =>
        obtain ⟨e, rfl⟩ : ∃ e, d = e + 1 := by
          cases d with
          | zero => unfold Deed.ok at hx; exact hx.elim
          | succ e => exact ⟨e, rfl⟩
        unfold Deed.ok at hx
        obtain ⟨h1, h2, h3, h4, h5⟩ := hx
        have tk := tk_if h1
        have l80 := lineT_80 tk
        have b1 := rowT_len (k := 1) (Tst.ok_len h1 (by omega))
        have ly := deeds_len (deep := deep + 1) h3 (by omega) (by omega) (by omega)
        have lz := deeds_len (deep := deep + 1) h5 (by omega) (by omega) (by omega)
        have e1 : rowT t 1 = body t := by unfold rowT; rw [if_neg (by have : 1 ≤ rank t := (by cases t <;> simp [rank]); omega)]
        have ed : (Deed.ite t ys zs).d = .tup [.str "if", t.d, .tup (deedsD ys), .tup (deedsD zs)] := by rw [Deed.d]
        have le : (elseL deep zs).length ≤ 1 := by cases zs <;> simp [elseL]
        have eif : deedL deep (.ite t ys zs) = lineN deep (ifW t) :: (deedsL (deep + 1) ys ++ (elseL deep zs ++ (deedsL (deep + 1) zs ++ [lineN deep endW]))) := by rw [deedL]
        have f : ∀ {M2 : Mp} {p2 : Addr}, Li M (ls ++ lineN deep (ifW t) :: (deedsL (deep + 1) ys ++ (elseL deep zs ++ deedsL (deep + 1) zs))) (some (.obj p2)) M2 → dAppend (.obj p2) [.str (lineN deep endW)] M2 fun z M3 => N' [some (.tup (deedsD xs)), some (.int ((2 * deep : Nat) : Int)), some (.obj p2), some (.tup [.str "if", t.d, .tup (deedsD ys), .tup (deedsD zs)])] M3 := fun li2 =>
          fin1 _ ed li2 (by simp only [List.length_append, List.length_cons]; omega) (by rw [eat, eif]; simp)
        rw [ed]
        refine seq_tail (fun σ M2 => M2 = M' ∧ σ = [some (.tup (deedsD xs)), some (.int ((2 * deep : Nat) : Int)), some (.obj p), some (.tup [.str "if", t.d, .tup (deedsD ys), .tup (deedsD zs)])]) ?_ (fun N hN => by walk_at "dl"; exact ifB (fun h => absurd h (by decide +kernel)) (fun _ => hN _ _ ⟨rfl, rfl⟩))
        rintro _ M2 ⟨e0, rfl⟩
        rw [e0]; clear e0 M2
        refine seq_tail (fun σ M2 => Li M (ls ++ [lineN deep (ifW t)]) (some (.obj p)) M2 ∧ σ = [some (.tup (deedsD xs)), some (.int ((2 * deep : Nat) : Int)), some (.obj p), some (.tup [.str "if", t.d, .tup (deedsD ys), .tup (deedsD zs)])]) ?_ (fun N hN => ?_)
        rotate_left
        · walk_at "dl"
          refine ⟨isLst_of li.one, hmul, t, 2, 1, rfl, h1, by decide, by decide, ?_⟩
          walk_at "dl"
          simp only [List.length_append, dStrs_len, List.length_cons, List.length_nil]
          refine ⟨by omega, by omega, ifW t, ?_, tk, ?_⟩
          · rw [e1]; unfold ifW; simp
          · walk_at "dl"
            rw [wide_line hdeep]
            refine ⟨by omega, ?_⟩
            rw [e_append li.one]
            refine ⟨by rw [dStrs_len]; omega, hN _ _ ⟨li.put (by rw [dStrs_app] <;> rfl), rfl⟩⟩
        rintro _ M2 ⟨li2, rfl⟩
        refine seq_tail (fun σ M2 => ∃ p, Li M (ls ++ lineN deep (ifW t) :: deedsL (deep + 1) ys) (some (.obj p)) M2 ∧ σ = [some (.tup (deedsD xs)), some (.int ((2 * deep : Nat) : Int)), some (.obj p), some (.tup [.str "if", t.d, .tup (deedsD ys), .tup (deedsD zs)])]) ?_ (fun N hN => ?_)
        rotate_left
        · walk_at "dl"
          refine ⟨ys, e, deep + 1, by rw [wide_up], h3, by omega, by omega, by omega, by omega, ?_⟩
          walk_at "dl"
          rw [e_add_obj li2.one, e_new_t]
          refine ⟨by rw [dStrs_len, dStrs_len, List.length_append]; simp only [List.length_cons, List.length_nil]; omega, fun p' hp' => hN _ _ ⟨p', li2.more hp' ?_, rfl⟩⟩
          rw [← dStrs_app, List.append_assoc] <;> rfl
        rintro _ M3 ⟨p3, li3, rfl⟩
        refine seq_tail (fun σ M2 => ∃ p, Li M (ls ++ lineN deep (ifW t) :: (deedsL (deep + 1) ys ++ (elseL deep zs ++ deedsL (deep + 1) zs))) (some (.obj p)) M2 ∧ σ = [some (.tup (deedsD xs)), some (.int ((2 * deep : Nat) : Int)), some (.obj p), some (.tup [.str "if", t.d, .tup (deedsD ys), .tup (deedsD zs)])]) ?_ (fun N hN => ?_)
        · rintro _ M4 ⟨p4, li4, rfl⟩
          have l80e := lineT_80 tk_end
          walk_at "dl"
          refine ⟨isLst_of li4.one, hmul, ?_⟩
          rw [show (Str.ofString "}") = lineT endW from end_line.symm, wide_line hdeep]
          exact ⟨by omega, f li4⟩
        · walk_at "dl"
          refine ifB (fun hb => ?_) (fun hb => ?_)
          · have hz : elseL deep zs = [lineN deep elseW] := by
              cases zs with
              | nil => exact absurd hb (by unfold deedsD; decide)
              | cons z zs => rfl
            have l80e := lineT_80 tk_else
            refine ⟨hmul, ?_⟩
            rw [show (Str.ofString "} else {") = lineT elseW from else_line.symm, wide_line hdeep]
            refine ⟨by omega, ?_⟩
            rw [e_add_obj li3.one, e_new_f]
            refine ⟨by rw [dStrs_len]; simp only [List.length_append, List.length_cons, List.length_nil]; omega, zs, e, deep + 1, by rw [wide_up], h5, by omega, by omega, by omega, by omega, ?_⟩
            walk_at "dl"
            refine ⟨by simp only [List.length_append, dStrs_len, List.length_cons, List.length_nil]; omega, fun p' hp' => hN _ _ ⟨p', li3.more hp' ?_, rfl⟩⟩
            rw [hz]
            simp
          · have hz : zs = [] := by
              cases zs with
              | nil => rfl
              | cons z zs => unfold deedsD at hb; simp at hb
            subst hz
            refine hN _ _ ⟨p3, ?_, rfl⟩
            rw [show deedsL (deep + 1) ys ++ (elseL deep [] ++ deedsL (deep + 1) []) = deedsL (deep + 1) ys by rw [deedsL_map (deep + 1) []]; simp [elseL]]
            exact li3
    · rintro σ M' ⟨p, c, li, rfl⟩
      refine hN _ _ ⟨p, c, ?_, rfl⟩
      rw [List.length_map, List.take_length] at li
      exact li
end
end K05
namespace K05
open PySem PySem.Spec L2 DL Syn Wr
local macro_rules | `(tactic| walk_at "st") => `(tactic| simp only [start_def, List.map_cons, List.map_nil, List.length_cons, List.length_nil, List.cons_append, List.nil_append, Nat.zero_add, Nat.reduceAdd, Nat.reduceSub, List.replicate])
local macro_rules | `(tactic| walk_at "dl") => `(tactic| simp only [dSeq, dNext, dDrop, dRet, dRetF, dRetN, dIfS, dAsg, dAug, dPar, nGm, nTup, nCons, nNil, dVar, dC, dOp, dUn, dCons, dNil, dTup, dLst, dB, dTru, dAnd, dOr, dNot, dAndV, dOrV, dNotV, dIf, dChain, dCB, dCall, dSlE, dNoPart, dPart, dRev, dS0, dS1, dBL, dBL0, dIsi, dBreak, dCont, List.set_cons_zero, List.set_cons_succ, List.getElem?_cons_zero, List.getElem?_cons_succ, ifB_t, ifB_f, e_new_f, e_new_t, e_add_int, e_add_str, e_add_tup, e_add_lst, e_sub, e_mul, e_mul_str, e_mul_lst, e_div, e_mod, e_pow, e_neg, e_eq_int, e_eq_str, e_isN_non, e_isN_obj, e_isN_tup, e_isN_lst, e_lt_int, e_lt_str, e_le_int, e_le_str, e_gt, e_ge, e_in_str, e_t0, e_t1, e_t2, e_t3, e_t4, e_t5, e_l0, e_l1, e_l2, e_l3, e_sl_tup, e_sl_rdl, e_sl_str, e_sl_lst, e_len_str, e_len_lst, e_len_tup, e_int, e_tupC_tup, e_tupC_lst, e_iadd_int, e_iadd_str, e_isub, tru_bl, tru_int, tru_non, tru_lst, tru_tup, ex_some, bne_f, bne_t, e_nSub, lsD_lst, sz0, sz1, sz2, sz3, sz4, sz5, sz6, sz7, sz8, true_and])
section
variable {P : Program} {w : World} {K : PySem.W.Frag} {mg : Str → Option Value} {base : Heap} {n : Nat}
def sp_vlines : SpD := fun ds M Q _ => ∃ (vs : List Vr) (deep : Nat), ds = [.tup (vs.map vrD), .int ((2 * deep : Nat) : Int)] ∧ (∀ v ∈ vs, VrOk v) ∧ vs.length ≤ 3 ∧ deep < 13 ∧ Q (.lst (dStrs (vs.map fun v => lineN deep (varW v)))) M
theorem ok__law_var_lines (T : Txt K mg) {f : Addr} {fd : FuncData} (F : FunD K "_law_var_lines" "_law_var_lines" (defArgs s_law_var_lines) (defBody s_law_var_lines) (defScope s_law_var_lines) [] [] f fd) (h__law_joined : Callee P w K mg base CX0 (2) "_law_joined" P_law_joined sp_joined) (h__law_var_row : Callee P w K mg base CX0 (9) "_law_var_row" P_law_var_row sp_varrow) : FnOk P w K mg base CX0 (9 + 1) f fd P_law_var_lines (LSp K (sp_vlines)) := by
  refine fnD0 F sc_law_var_lines (fun ds M Q E h => by first | (obtain ⟨rfl, _⟩ := h; rfl) | (obtain ⟨_, rfl, _⟩ := h; rfl) | (obtain ⟨_, _, rfl, _⟩ := h; rfl) | (obtain ⟨_, _, _, rfl, _⟩ := h; rfl) | (obtain ⟨_, _, _, _, rfl, _⟩ := h; rfl) | (obtain ⟨_, _, _, _, _, rfl, _⟩ := h; rfl) | (obtain ⟨_, _, _, _, _, _, rfl, _⟩ := h; rfl) | (obtain ⟨_, _, _, _, _, _, _, rfl, _⟩ := h; rfl)) fun cdv A outer s H E F0 hr => ⟨_, (dss_one (ds_ret (de_lc (own := false) (x := "one") (j := 2) rfl sc_law_var_lines.nd (di_items (de_var (pv 0))) (blkOk_by (N := N_law_var_lines) (sc := defScope s_law_var_lines) (by decide +kernel)) (fun _ _ _ _ _ => pg_name (i := 2) sc_law_var_lines.nd rfl (by first | exact Or.inl rfl | exact Or.inr rfl)) (fun _ _ _ _ _ => (de_op (od_add (own := false)) (de_op (od_mul (own := false)) de_str (de_var (pv 1))) (de_fn h__law_joined (hr.mono (by omega)) rfl pass0 finX0 (da_cons (de_fn h__law_var_row (hr.mono (by omega)) rfl pass0 finX0 (da_cons de_non (da_cons (de_tup (da_cons (de_var (pv 2)) da_nil)) da_nil))) da_nil))))))), fun ds M Q Ex h => ?_⟩
  obtain ⟨vs, deep, rfl, ok, hl, hd, q⟩ := h
  walk_at "st"
  have hs : sizeLine = 16777216 := sizeLine_eq
  have hmul : MulOk " " ((2 * deep : Nat) : Int) := mulok1 (by omega)
  have hml := wide_len hd
  walk_at "dl"
  refine lc_row vs vrD (fun v => .str (lineN deep (varW v))) (fun Kd hk => by unfold dItems; walk_at "dl"; exact hk) (by omega) (fun i x M2 Q2 hx _ q2 => ?_) ?_
  · have hv := ok x (List.mem_of_getElem? hx)
    have tk := tk_var hv
    have l80 := lineT_80 tk
    walk_at "dl"
    refine ⟨hmul, x, rfl, hv.2.2, varW x, rfl, tk, ?_⟩
    dsimp only
    rw [e_add_str, wide_line hd]
    exact ⟨by omega, q2⟩
  · rw [e_new_f]
    rw [show dStrs (vs.map fun v => lineN deep (varW v)) = vs.map (fun v => .str (lineN deep (varW v))) from List.map_map ..] at q
    exact Wk.here q
def sp_plines (n : Nat) : SpD := fun ds M Q _ => ∃ (xs : List Part) (d deep : Nat), ds = [.tup (partsD xs), .int ((2 * deep : Nat) : Int)] ∧ (∀ x ∈ xs, x.ok d) ∧ xs.length ≤ 3 ∧ d < n ∧ d ≤ 3 ∧ deep + d < 9 ∧ Q (.lst (dStrs (partsL deep xs))) M
theorem ok__law_part_lines (T : Txt K mg) {f : Addr} {fd : FuncData} (F : FunD K "_law_part_lines" "_law_part_lines" (defArgs s_law_part_lines) (defBody s_law_part_lines) (defScope s_law_part_lines) [] [] f fd) (h__law_joined : Callee P w K mg base CX0 (2) "_law_joined" P_law_joined sp_joined) (h__law_commas : Callee P w K mg base CX0 (1) "_law_commas" P_law_commas sp_commas) (h__law_value_row : Callee P w K mg base CX0 (8) "_law_value_row" P_law_value_row (sp_vrow 3)) (h__law_deed_lines : Callee P w K mg base CX0 (12) "_law_deed_lines" P_law_deed_lines (sp_dlines 3)) (h__law_var_lines : Callee P w K mg base CX0 (10) "_law_var_lines" P_law_var_lines sp_vlines) (h__law_part_lines : Callee P w K mg base CX0 (12+n) "_law_part_lines" P_law_part_lines (sp_plines n)) : FnOk P w K mg base CX0 (12+n + 1) f fd P_law_part_lines (LSp K ((sp_plines (n+1)))) := by
  refine fnD0 F sc_law_part_lines (fun ds M Q E h => by first | (obtain ⟨rfl, _⟩ := h; rfl) | (obtain ⟨_, rfl, _⟩ := h; rfl) | (obtain ⟨_, _, rfl, _⟩ := h; rfl) | (obtain ⟨_, _, _, rfl, _⟩ := h; rfl) | (obtain ⟨_, _, _, _, rfl, _⟩ := h; rfl) | (obtain ⟨_, _, _, _, _, rfl, _⟩ := h; rfl) | (obtain ⟨_, _, _, _, _, _, rfl, _⟩ := h; rfl) | (obtain ⟨_, _, _, _, _, _, _, rfl, _⟩ := h; rfl)) fun cdv A outer s H E F0 hr => ⟨_, (dss_cons (ds_set (i := 2) sc_law_part_lines.nd rfl (Or.inl rfl) (de_lst (own := true) da_nil))
      (dss_cons (ds_for PassesOwn.never rfl (di_items (de_var (pv 0))) (dg_name (pg_name (i := 3) sc_law_part_lines.nd rfl (Or.inl rfl))) (dss_cons (ds_set (i := 4) sc_law_part_lines.nd rfl (Or.inl rfl) (de_op (od_add (own := false)) (de_op (od_add (own := false)) (de_lst (own := false) (da_cons (de_ix (de_var (pv 3)) de_int (fun _ _ => rfl)) (da_cons (de_ix (de_var (pv 3)) de_int (fun _ _ => rfl)) (da_cons de_str da_nil)))) (de_fn h__law_commas (hr.mono (by omega)) rfl pass0 finX0 (da_cons (de_lc (own := false) (x := "one") (j := 5) rfl sc_law_part_lines.nd (di_items (de_ix (de_var (pv 3)) de_int (fun _ _ => rfl))) (blkOk_by (N := N_law_part_lines) (sc := defScope s_law_part_lines) (by decide +kernel)) (fun _ _ _ _ _ => pg_name (i := 5) sc_law_part_lines.nd rfl (by first | exact Or.inl rfl | exact Or.inr rfl)) (fun _ _ _ _ _ => (de_lst (own := false) (da_cons (de_ix (de_var (pv 5)) de_int (fun _ _ => rfl)) (da_cons de_str (da_cons (de_ix (de_var (pv 5)) de_int (fun _ _ => rfl)) da_nil)))))) da_nil))) (de_lst (own := false) (da_cons de_str da_nil))))
      (dss_cons (ds_if (dt_cmp (od_eq hr.units) (de_ix (de_var (pv 3)) de_int (fun _ _ => rfl)) de_str (nomark _)) (dss_cons (ds_expr (de_bl1 PySem.F.slot_list_append PySem.F.type_list_append md_append (de_var (pv 2)) (da_cons (de_op (od_add (own := false)) (de_op (od_mul (own := false)) de_str (de_var (pv 1))) (de_fn h__law_joined (hr.mono (by omega)) rfl pass0 finX0 (da_cons (de_op (od_add (own := false)) (de_var (pv 4)) (de_lst (own := false) (da_cons de_str da_nil))) da_nil))) da_nil)))
      (dss_one (ds_set (i := 2) sc_law_part_lines.nd rfl (Or.inl rfl) (de_op (od_add (own := true)) (de_op (od_add (own := false)) (de_var (pv 2)) (de_fn h__law_var_lines (hr.mono (by omega)) rfl pass0 finX0 (da_cons (de_ix (de_var (pv 3)) de_int (fun _ _ => rfl)) (da_cons (de_op (od_add (own := false)) (de_var (pv 1)) de_int) da_nil)))) (de_fn h__law_part_lines (hr.mono (by omega)) rfl pass0 finX0 (da_cons (de_ix (de_var (pv 3)) de_int (fun _ _ => rfl)) (da_cons (de_op (od_add (own := false)) (de_var (pv 1)) de_int) da_nil))))))) (dss_cons (ds_expr (de_bl1 PySem.F.slot_list_append PySem.F.type_list_append md_append (de_var (pv 2)) (da_cons (de_op (od_add (own := false)) (de_op (od_mul (own := false)) de_str (de_var (pv 1))) (de_fn h__law_joined (hr.mono (by omega)) rfl pass0 finX0 (da_cons (de_op (od_add (own := false)) (de_var (pv 4)) (de_lst (own := false) (da_cons de_str (da_cons (de_ix (de_var (pv 3)) de_int (fun _ _ => rfl)) (da_cons de_str da_nil))))) da_nil))) da_nil)))
      (dss_cons (ds_set (i := 2) sc_law_part_lines.nd rfl (Or.inl rfl) (de_op (od_add (own := true)) (de_var (pv 2)) (de_fn h__law_deed_lines (hr.mono (by omega)) rfl pass0 finX0 (da_cons (de_ix (de_var (pv 3)) de_int (fun _ _ => rfl)) (da_cons (de_op (od_add (own := false)) (de_var (pv 1)) de_int) da_nil)))))
      (dss_one (ds_expr (de_bl1 PySem.F.slot_list_append PySem.F.type_list_append md_append (de_var (pv 2)) (da_cons (de_op (od_add (own := false)) (de_op (od_add (own := false)) (de_op (od_mul (own := false)) de_str (de_var (pv 1))) de_str) (de_fn h__law_joined (hr.mono (by omega)) rfl pass0 finX0 (da_cons (de_op (od_add (own := false)) (de_op (od_add (own := false)) (de_lst (own := false) (da_cons de_str da_nil)) (de_fn h__law_value_row (hr.mono (by omega)) rfl pass0 finX0 (da_cons de_non (da_cons (de_ix (de_var (pv 3)) de_int (fun _ _ => rfl)) da_nil)))) (de_lst (own := false) (da_cons de_str da_nil))) da_nil))) da_nil)))))))
      (dss_one (ds_expr (de_bl1 PySem.F.slot_list_append PySem.F.type_list_append md_append (de_var (pv 2)) (da_cons (de_op (od_add (own := false)) (de_op (od_mul (own := false)) de_str (de_var (pv 1))) de_str) da_nil)))))))
      (dss_one (ds_retF (de_var (pv 2)))))), fun ds M Q Ex h => ?_⟩
  obtain ⟨xs, d, deep, rfl, ok, hl, hd, hd2, hdp, q⟩ := h
  walk_at "st"
  have hs : sizeLine = 16777216 := sizeLine_eq
  have hdeep : deep < 13 := by omega
  have hmul : MulOk " " ((2 * deep : Nat) : Int) := mulok1 (by omega)
  have hml := wide_len hdeep
  refine seq_tail (fun σ M' => ∃ p, Li M [] (some (.obj p)) M' ∧ σ = [some (.tup (partsD xs)), some (.int ((2 * deep : Nat) : Int)), some (.obj p), none, none, none]) ?_ (fun N hN => by walk_at "dl"; exact fun p hp => hN _ _ ⟨p, .start hp, rfl⟩)
  rintro _ M0 ⟨p, li, rfl⟩
  refine seq_tail (fun σ M' => ∃ p c h, Li M (partsL deep xs) (some (.obj p)) M' ∧ σ = [some (.tup (partsD xs)), some (.int ((2 * deep : Nat) : Int)), some (.obj p), c, h, none]) ?_ (fun N hN => ?_)
  · rintro _ M1 ⟨p, c, h, li, rfl⟩
    walk_at "dl"
    exact li.out q
  · refine for_pure (xs.map Part.d) (fun Kd hk => by unfold dItems; walk_at "dl"; rw [partsD_map]; exact hk) (fun i σ M' => ∃ p c h, Li M (partsL deep (xs.take i)) (some (.obj p)) M' ∧ σ = [some (.tup (partsD xs)), some (.int ((2 * deep : Nat) : Int)), some (.obj p), c, h, none]) ⟨p, none, none, by rw [List.take_zero]; exact li, rfl⟩ ?_ ?_
    · rintro i y σ M' N' hi ⟨p, c, h, li, rfl⟩ hN'
      rw [List.getElem?_map] at hi
      obtain ⟨x, hix, rfl⟩ := Option.map_eq_some_iff.mp hi
      have hx := ok x (List.mem_of_getElem? hix)
      have hlen : (partsL deep (xs.take i)).length ≤ 1668 := parts_len (fun x hx => ok x (List.mem_of_mem_take hx)) hdp hd2 (Nat.le_trans (by rw [List.length_take]; exact Nat.min_le_right _ _) hl)
      have eat := partsL_at (deep := deep) hix
      generalize partsL deep (xs.take i) = ls at *
      have l80e := lineT_80 tk_end
      -- the head of a part
      have head : ∀ (w n : Str) (gs : List Giv) (R : List D) (M2 : Mp) (N : DS → Mp → Prop) (p : Addr) (c h : Option D), GivOk gs → N [some (.tup (partsD xs)), some (.int ((2 * deep : Nat) : Int)), some (.obj p), some (.tup (.str w :: .str n :: .tup (gs.map givD) :: R)), some (.lst (dStrs (w :: n :: givW gs))), none] M2 →
          sizeLine = 16777216 → dLc false 5 (dItems (dOp dIx (dVar 3) (dC (.int 2)))) (dLst false (dCons (dOp dIx (dVar 5) (dC (.int 0))) (dCons (dC (.str ":")) (dCons (dOp dIx (dVar 5) (dC (.int 1))) dNil)))) [some (.tup (partsD xs)), some (.int ((2 * deep : Nat) : Int)), some (.obj p), some (.tup (.str w :: .str n :: .tup (gs.map givD) :: R)), h, none] M2 (fun y M3 => sp_commas [y] M3 (fun z M4 => dAdd false (.lst [.str w, .str n, .str "("]) z M4 fun u M5 => dAdd false u (.lst [.str ")"]) M5 fun v M6 => N [some (.tup (partsD xs)), some (.int ((2 * deep : Nat) : Int)), some (.obj p), some (.tup (.str w :: .str n :: .tup (gs.map givD) :: R)), some v, none] M6) X0) := by
        intro w n gs R M2 N p c h hg hN2 _
        refine lc_row gs givD (fun g => .lst (dStrs [g.1, ":", g.2])) (fun Kd hk => by unfold dItems; walk_at "dl"; exact hk) (by have := hg.1; omega) (fun i x M2 Q2 hx _ q2 => ?_) ?_
        · rw [show givD x = .tup [.str x.1, .str x.2] from rfl]
          walk_at "dl"
          exact q2
        · have hcl := commas_len (n := 3) (gs.map fun g => [g.1, (":" : Str), g.2]) (fun x hx => by obtain ⟨g, _, rfl⟩ := List.mem_map.mp hx; exact Nat.le_refl _)
          rw [List.length_map] at hcl
          have := hg.1
          rw [e_new_f]
          refine ⟨gs.map fun g => [g.1, (":" : Str), g.2], by rw [List.map_map]; rfl, by rw [List.length_map]; exact hg.1, fun x hx => ?_, ?_⟩
          · obtain ⟨g, _, rfl⟩ := List.mem_map.mp hx
            exact ⟨show 1 ≤ 3 by decide, show 3 ≤ 62 by decide⟩
          · dsimp only
            rw [e_add_lst, e_new_f, e_add_lst, e_new_f]
            simp only [List.length_append, dStrs_len, List.length_cons, List.length_nil]
            refine ⟨by omega, by omega, ?_⟩
            have e : [D.str w, .str n, .str "("] ++ dStrs (commas (gs.map fun g => [g.1, (":" : Str), g.2])) ++ [.str ")"] = dStrs (w :: n :: givW gs) := by unfold givW; simp
            rw [e]
            exact hN2
      have fin1 : ∀ (X : D) (h : Option D) {l : Str} {ls' : List Str} {M2 : Mp} {p2 : Addr}, x.d = X → Li M ls' (some (.obj p2)) M2 → ls'.length ≤ 10000 → partsL deep (xs.take (i + 1)) = ls' ++ [l] → dAppend (.obj p2) [.str l] M2 fun z M3 => N' [some (.tup (partsD xs)), some (.int ((2 * deep : Nat) : Int)), some (.obj p2), some X, h, none] M3 := by
        intro X h l ls' M2 p2 eX li2 hl2 e
        subst eX
        rw [e_append li2.one]
        refine ⟨by rw [dStrs_len]; omega, hN' _ _ ⟨p2, some x.d, h, ?_, rfl⟩⟩
        rw [e]
        exact li2.put (by rw [dStrs_app] <;> rfl)
      cases x with
      | make n gs vs ps =>
        obtain ⟨e, rfl⟩ : ∃ e, d = e + 1 := by
          cases d with
          | zero => unfold Part.ok at hx; exact hx.elim
          | succ e => exact ⟨e, rfl⟩
        unfold Part.ok at hx
        obtain ⟨h1, h2, h3, h4, h5, h6⟩ := hx
        have tk := tk_make h1 h2
        have l80 := lineT_80 tk
        have lp := parts_len (deep := deep + 1) h6 (by omega) (by omega) (by omega)
        have ed : (Part.make n gs vs ps).d = .tup [.str "make", .str n, .tup (gs.map givD), .tup (vs.map vrD), .tup (partsD ps)] := by rw [Part.d]
        have em : partL deep (.make n gs vs ps) = lineN deep (makeW n gs) :: (vs.map (fun v => lineN (deep + 1) (varW v)) ++ (partsL (deep + 1) ps ++ [lineN deep endW])) := by rw [partL]
        rw [ed]
        refine seq_tail (fun σ M2 => M2 = M' ∧ σ = [some (.tup (partsD xs)), some (.int ((2 * deep : Nat) : Int)), some (.obj p), some (.tup [.str "make", .str n, .tup (gs.map givD), .tup (vs.map vrD), .tup (partsD ps)]), some (.lst (dStrs ("make" :: n :: givW gs))), none]) ?_ (fun N hN => ?_)
        rotate_left
        · walk_at "dl"
          exact head "make" n gs _ M' N p c h h2 (hN _ _ ⟨rfl, rfl⟩) hs
        rintro _ M2 ⟨e0, rfl⟩
        rw [e0]; clear e0 M2
        refine seq_tail (fun σ M2 => ∃ p, Li M (ls ++ lineN deep (makeW n gs) :: (vs.map (fun v => lineN (deep + 1) (varW v)) ++ partsL (deep + 1) ps)) (some (.obj p)) M2 ∧ σ = [some (.tup (partsD xs)), some (.int ((2 * deep : Nat) : Int)), some (.obj p), some (.tup [.str "make", .str n, .tup (gs.map givD), .tup (vs.map vrD), .tup (partsD ps)]), some (.lst (dStrs ("make" :: n :: givW gs))), none]) ?_ (fun N hN => ?_)
        · rintro _ M4 ⟨p4, li4, rfl⟩
          walk_at "dl"
          refine ⟨isLst_of li4.one, hmul, ?_⟩
          rw [show (Str.ofString "}") = lineT endW from end_line.symm, wide_line hdeep]
          refine ⟨by omega, fin1 _ _ ed li4 (by simp only [List.length_append, List.length_cons, List.length_map]; omega) (by rw [eat, em]; simp)⟩
        · have tg := (tk_giv h2).1
          walk_at "dl"
          refine ifB (fun _ => ?_) (fun h => absurd h (by decide +kernel))
          refine ⟨isLst_of li.one, hmul, by simp only [dStrs_len, List.length_cons, List.length_nil]; omega, makeW n gs, by unfold makeW; simp, tk, ?_⟩
          walk_at "dl"
          rw [wide_line hdeep, e_append li.one]
          have li2 := li.put (l := dStrs ls ++ [.str (lineN deep (makeW n gs))]) (ls' := ls ++ [lineN deep (makeW n gs)]) (by rw [dStrs_app] <;> rfl)
          refine ⟨by omega, by rw [dStrs_len]; omega, vs, deep + 1, by rw [wide_up], h4, by omega, by omega, ?_⟩
          try dsimp only
          rw [e_add_obj li2.one, e_new_f]
          simp only [List.length_append, dStrs_len, List.length_cons, List.length_nil, List.length_map]
          refine ⟨by omega, ps, e, deep + 1, by rw [wide_up], h6, by omega, by omega, by omega, by omega, ?_⟩
          try dsimp only
          rw [e_add_lst, e_new_t]
          simp only [List.length_append, dStrs_len, List.length_cons, List.length_nil, List.length_map]
          refine ⟨by omega, fun p' hp' => hN _ _ ⟨p', li2.more hp' ?_, rfl⟩⟩
          simp
      | act n gs k ys v =>
        have hx' : NameOk false n ∧ GivOk gs ∧ NameOk true k ∧ ys.length ≤ 3 ∧ (∀ x ∈ ys, Deed.ok 2 x) ∧ v.ok 2 := by cases d <;> (unfold Part.ok at hx; exact hx)
        obtain ⟨h1, h2, h3, h4, h5, h6⟩ := hx'
        have tk := tk_act h1 h2 h3
        have l80 := lineT_80 tk
        have tka := tk_ans h6
        have l80a := lineT_80 tka
        have bv := Val.ok_len h6 (by omega)
        have ly := deeds_len (deep := deep + 1) h5 (by omega) (by omega) (by omega)
        have ed : (Part.act n gs k ys v).d = .tup [.str "act", .str n, .tup (gs.map givD), .str k, .tup (deedsD ys), v.d] := by rw [Part.d]
        have em : partL deep (.act n gs k ys v) = lineN deep (actW n gs k) :: (deedsL (deep + 1) ys ++ [lineN (deep + 1) (ansW v), lineN deep endW]) := by rw [partL]
        rw [ed]
        refine seq_tail (fun σ M2 => M2 = M' ∧ σ = [some (.tup (partsD xs)), some (.int ((2 * deep : Nat) : Int)), some (.obj p), some (.tup [.str "act", .str n, .tup (gs.map givD), .str k, .tup (deedsD ys), v.d]), some (.lst (dStrs ("act" :: n :: givW gs))), none]) ?_ (fun N hN => ?_)
        rotate_left
        · walk_at "dl"
          exact head "act" n gs _ M' N p c h h2 (hN _ _ ⟨rfl, rfl⟩) hs
        rintro _ M2 ⟨e0, rfl⟩
        rw [e0]; clear e0 M2
        refine seq_tail (fun σ M2 => ∃ p, Li M (ls ++ lineN deep (actW n gs k) :: (deedsL (deep + 1) ys ++ [lineN (deep + 1) (ansW v)])) (some (.obj p)) M2 ∧ σ = [some (.tup (partsD xs)), some (.int ((2 * deep : Nat) : Int)), some (.obj p), some (.tup [.str "act", .str n, .tup (gs.map givD), .str k, .tup (deedsD ys), v.d]), some (.lst (dStrs ("act" :: n :: givW gs))), none]) ?_ (fun N hN => ?_)
        · rintro _ M4 ⟨p4, li4, rfl⟩
          walk_at "dl"
          refine ⟨isLst_of li4.one, hmul, ?_⟩
          rw [show (Str.ofString "}") = lineT endW from end_line.symm, wide_line hdeep]
          refine ⟨by omega, fin1 _ _ ed li4 (by simp only [List.length_append, List.length_cons, List.length_nil]; omega) (by rw [eat, em]; simp)⟩
        · have tg := (tk_giv h2).1
          walk_at "dl"
          refine ifB (fun h => absurd h (by decide +kernel)) (fun _ => ?_)
          refine ⟨isLst_of li.one, hmul, by simp only [dStrs_len, List.length_cons, List.length_nil]; omega, actW n gs k, by unfold actW; simp, tk, ?_⟩
          walk_at "dl"
          rw [wide_line hdeep, e_append li.one]
          have li2 := li.put (l := dStrs ls ++ [.str (lineN deep (actW n gs k))]) (ls' := ls ++ [lineN deep (actW n gs k)]) (by rw [dStrs_app] <;> rfl)
          refine ⟨by omega, by rw [dStrs_len]; omega, ys, 2, deep + 1, by rw [wide_up], h5, by omega, by omega, by omega, by omega, ?_⟩
          try dsimp only
          rw [e_add_obj li2.one, e_new_t]
          simp only [List.length_append, dStrs_len, List.length_cons, List.length_nil, List.length_map]
          refine ⟨by omega, fun p' hp' => ?_⟩
          have li3 := li2.more (l := dStrs (ls ++ [lineN deep (actW n gs k)]) ++ dStrs (deedsL (deep + 1) ys)) (ls' := ls ++ lineN deep (actW n gs k) :: deedsL (deep + 1) ys) hp' (by simp)
          refine ⟨isLst_of li3.one, hmul, ?_⟩
          rw [(blanks deep hdeep).2.2]
          have hb2 := (blanks (deep + 1) (by omega)).2.1
          have e2 : ("  " : Str).length = 2 := by decide +kernel
          refine ⟨by omega, v, 2, rfl, h6, by decide, by decide, ?_⟩
          walk_at "dl"
          simp only [List.length_append, dStrs_len, List.length_cons, List.length_nil, List.length_map]
          refine ⟨by omega, by omega, ansW v, by unfold ansW; simp, tka, ?_⟩
          walk_at "dl"
          refine ⟨by omega, ?_⟩
          rw [e_append li3.one]
          refine ⟨by simp only [List.length_append, dStrs_len, List.length_cons, List.length_nil, List.length_map]; omega, hN _ _ ⟨p', li3.put ?_, rfl⟩⟩
          have : lineN (deep + 1) (ansW v) = Txt.mul "  " ((deep + 1 : Nat) : Int) ++ lineT (ansW v) := rfl
          rw [this]
          simp
    · rintro σ M' ⟨p, c, h, li, rfl⟩
      refine hN _ _ ⟨p, c, h, ?_, rfl⟩
      rw [List.length_map, List.take_length] at li
      exact li
end
end K05
namespace K05
open PySem PySem.Spec L2 DL Syn Wr
local macro_rules | `(tactic| walk_at "st") => `(tactic| simp only [start_def, List.map_cons, List.map_nil, List.length_cons, List.length_nil, List.cons_append, List.nil_append, Nat.zero_add, Nat.reduceAdd, Nat.reduceSub, List.replicate])
local macro_rules | `(tactic| walk_at "dl") => `(tactic| simp only [dSeq, dNext, dDrop, dRet, dRetF, dRetN, dIfS, dAsg, dAug, dPar, nGm, nTup, nCons, nNil, dVar, dC, dOp, dUn, dCons, dNil, dTup, dLst, dB, dTru, dAnd, dOr, dNot, dAndV, dOrV, dNotV, dIf, dChain, dCB, dCall, dSlE, dNoPart, dPart, dRev, dS0, dS1, dBL, dBL0, dIsi, dBreak, dCont, List.set_cons_zero, List.set_cons_succ, List.getElem?_cons_zero, List.getElem?_cons_succ, ifB_t, ifB_f, e_new_f, e_new_t, e_add_int, e_add_str, e_add_tup, e_add_lst, e_sub, e_mul, e_mul_str, e_mul_lst, e_div, e_mod, e_pow, e_neg, e_eq_int, e_eq_str, e_isN_non, e_isN_obj, e_isN_tup, e_isN_lst, e_lt_int, e_lt_str, e_le_int, e_le_str, e_gt, e_ge, e_in_str, e_t0, e_t1, e_t2, e_t3, e_t4, e_t5, e_l0, e_l1, e_l2, e_l3, e_sl_tup, e_sl_rdl, e_sl_str, e_sl_lst, e_len_str, e_len_lst, e_len_tup, e_int, e_tupC_tup, e_tupC_lst, e_iadd_int, e_iadd_str, e_isub, tru_bl, tru_int, tru_non, tru_lst, tru_tup, ex_some, bne_f, bne_t, e_nSub, lsD_lst, sz0, sz1, sz2, sz3, sz4, sz5, sz6, sz7, sz8, true_and])
section
variable {P : Program} {w : World} {K : PySem.W.Frag} {mg : Str → Option Value} {base : Heap} {n : Nat}
def sp_written : SpD := fun ds M Q _ => ∃ p : Prg, ds = [p.d] ∧ p.ok ∧ Q (.str (progT p)) M
theorem sum_nl' {ls : List Str} {n : Nat} (h : Lns n ls) : ((ls.map nl).map (·.length)).sum ≤ 1101 * ls.length := sum_nl h
theorem ok__law_written (T : Txt K mg) {f : Addr} {fd : FuncData} (F : FunD K "_law_written" "_law_written" (defArgs s_law_written) (defBody s_law_written) (defScope s_law_written) [] [] f fd) (h__law_var_lines : Callee P w K mg base CX0 (10) "_law_var_lines" P_law_var_lines sp_vlines) (h__law_part_lines : Callee P w K mg base CX0 (16) "_law_part_lines" P_law_part_lines (sp_plines 4)) : FnOk P w K mg base CX0 (16 + 1) f fd P_law_written (LSp K (sp_written)) := by
  refine fnD0 F sc_law_written (fun ds M Q E h => by first | (obtain ⟨rfl, _⟩ := h; rfl) | (obtain ⟨_, rfl, _⟩ := h; rfl) | (obtain ⟨_, _, rfl, _⟩ := h; rfl) | (obtain ⟨_, _, _, rfl, _⟩ := h; rfl) | (obtain ⟨_, _, _, _, rfl, _⟩ := h; rfl) | (obtain ⟨_, _, _, _, _, rfl, _⟩ := h; rfl) | (obtain ⟨_, _, _, _, _, _, rfl, _⟩ := h; rfl) | (obtain ⟨_, _, _, _, _, _, _, rfl, _⟩ := h; rfl)) fun cdv A outer s H E F0 hr => ⟨_, (dss_cons (ds_setLc (own := false) (x := "one") (j := 2) rfl sc_law_written.nd (i := 1) rfl rfl (sw_true rfl rfl rfl (by decide +kernel)) (di_items (de_ix (de_var (pv 0)) de_int (fun _ _ => rfl))) (blkOk_by (N := N_law_written) (sc := defScope s_law_written) (by decide +kernel)) (fun _ _ _ _ _ => pg_name (i := 2) sc_law_written.nd rfl (by first | exact Or.inl rfl | exact Or.inr rfl)) (fun _ _ _ _ _ => (de_op (od_add (own := false)) (de_op (od_add (own := false)) (de_op (od_add (own := false)) (de_op (od_add (own := false)) de_str (de_ix (de_var (pv 2)) de_int (fun _ _ => rfl))) de_str) (de_s1 PySem.F.slot_str_join PySem.F.type_str_join xs_join de_str (de_ix (de_var (pv 2)) de_int (fun _ _ => rfl)))) de_str)))
      (dss_cons (ds_set (i := 1) sc_law_written.nd rfl (Or.inl rfl) (de_op (od_add (own := false)) (de_op (od_add (own := false)) (de_var (pv 1)) (de_fn h__law_var_lines (hr.mono (by omega)) rfl pass0 finX0 (da_cons (de_ix (de_var (pv 0)) de_int (fun _ _ => rfl)) (da_cons de_int da_nil)))) (de_fn h__law_part_lines (hr.mono (by omega)) rfl pass0 finX0 (da_cons (de_ix (de_var (pv 0)) de_int (fun _ _ => rfl)) (da_cons de_int da_nil)))))
      (dss_one (ds_ret (de_s1 PySem.F.slot_str_join PySem.F.type_str_join xs_join de_str (de_lc (own := false) (x := "line") (j := 3) rfl sc_law_written.nd (di_items (de_var (pv 1))) (blkOk_by (N := N_law_written) (sc := defScope s_law_written) (by decide +kernel)) (fun _ _ _ _ _ => pg_name (i := 3) sc_law_written.nd rfl (by first | exact Or.inl rfl | exact Or.inr rfl)) (fun _ _ _ _ _ => (de_op (od_add (own := false)) (de_var (pv 3)) de_str)))))))), fun ds M Q Ex h => ?_⟩
  obtain ⟨p, rfl, ok, q⟩ := h
  walk_at "st"
  have hs : sizeLine = 16777216 := sizeLine_eq
  have lns := ln_prog ok
  have sum := sum_nl lns
  have hn := lns.1
  have k1 := ok.kn
  have k2 := ok.vn
  have k3 := ok.pn
  have lp := parts_len (deep := 0) ok.ps (by omega) (by omega) k3
  rw [show p.d = .tup [.str "program", .tup (p.kinds.map kindD), .tup (p.vars.map vrD), .tup (partsD p.parts)] from rfl]
  generalize hP : D.tup [.str "program", .tup (p.kinds.map kindD), .tup (p.vars.map vrD), .tup (partsD p.parts)] = P0
  have g1 : ∀ M (Q : DK), dIx P0 (.int 1) M Q = Q (.tup (p.kinds.map kindD)) M := fun M Q => by rw [← hP]; exact e_t1
  have g2 : ∀ M (Q : DK), dIx P0 (.int 2) M Q = Q (.tup (p.vars.map vrD)) M := fun M Q => by rw [← hP]; exact e_t2
  have g3 : ∀ M (Q : DK), dIx P0 (.int 3) M Q = Q (.tup (partsD p.parts)) M := fun M Q => by rw [← hP]; exact e_t3
  refine seq_tail (fun σ M' => M' = M ∧ σ = [some P0, some (.lst (dStrs (p.kinds.map fun k => lineN 0 (kindW k)))), none, none]) ?_ (fun N hN => ?_)
  rotate_left
  · unfold dAsg
    refine lc_row p.kinds kindD (fun k => .str (lineN 0 (kindW k))) (fun Kd hk => by unfold dItems; walk_at "dl"; rw [g1]; exact hk) (by omega) (fun i x M2 Q2 hx _ q2 => ?_) ?_
    · have hk := ok.ks x (List.mem_of_getElem? hx)
      rw [show kindD x = .tup [.str x.1, .tup (x.2.map D.str)] from rfl]
      walk_at "dl"
      have hx1 := hk.1.len
      have e1 : ("kind " : Str).length = 5 := by decide +kernel
      have e2 : (" = " : Str).length = 3 := by decide +kernel
      have e3 : (" | " : Str).length = 3 := by decide +kernel
      have e4 : (";" : Str).length = 1 := by decide +kernel
      have hsum : ∀ (l : List Str), (∀ x ∈ l, NameOk true x) → (l.map (·.length)).sum ≤ 12 * l.length := by
        intro l
        induction l with
        | nil => intro _; exact Nat.le_refl _
        | cons y l ih =>
          intro h
          have := (h y (List.mem_cons_self ..)).len
          have := ih fun z hz => h z (List.mem_cons_of_mem _ hz)
          rw [List.map_cons, List.sum_cons, List.length_cons]; omega
      have hs1 := hsum x.2 hk.2.2.2
      have hl5 := hk.2.2.1
      have hjl : (Txt.join " | " x.2).length ≤ 100 := by
        rw [TL.join_eq]
        have := StrLaws.join_length_le " | " x.2
        rw [e3] at this
        omega
      have hkl := kind_line hk.1 hk.2.1 hk.2.2.2
      simp only [len_app]
      refine ⟨by omega, by omega, x.2, DL.strsD_map _, by rw [e3]; omega, ?_⟩
      walk_at "dl"
      simp only [len_app]
      refine ⟨by omega, by omega, ?_⟩
      rw [hkl]
      exact q2
    · walk_at "dl"
      refine hN _ _ ⟨rfl, ?_⟩
      rw [show dStrs (p.kinds.map fun k => lineN 0 (kindW k)) = p.kinds.map (fun k => .str (lineN 0 (kindW k))) from List.map_map ..]
  rintro _ M0 ⟨e0, rfl⟩
  rw [e0]; clear e0 M0
  refine seq_tail (fun σ M' => M' = M ∧ σ = [some P0, some (.lst (dStrs (progL p))), none, none]) ?_ (fun N hN => ?_)
  rotate_left
  · walk_at "dl"
    rw [g2]
    refine ⟨p.vars, 0, rfl, ok.vs, k2, by decide, ?_⟩
    walk_at "dl"
    simp only [List.length_append, dStrs_len, List.length_cons, List.length_nil, List.length_map]
    refine ⟨by omega, ?_⟩
    rw [g3]
    refine ⟨p.parts, 3, 0, rfl, ok.ps, k3, by decide, by decide, by decide, ?_⟩
    walk_at "dl"
    simp only [List.length_append, dStrs_len, List.length_cons, List.length_nil, List.length_map]
    refine ⟨by omega, hN _ _ ⟨rfl, ?_⟩⟩
    unfold progL
    simp
  rintro _ M0 ⟨e0, rfl⟩
  rw [e0]; clear e0 M0
  walk_at "dl"
  refine lc_row (progL p) D.str (fun s => .str (nl s)) (fun Kd hk => by unfold dItems; walk_at "dl"; exact hk) (by omega) (fun i x M2 Q2 hx _ q2 => ?_) ?_
  · have hx1 := lns.2 x (List.mem_of_getElem? hx)
    walk_at "dl"
    have e4 : ("\n" : Str).length = 1 := by decide +kernel
    exact ⟨by omega, q2⟩
  · rw [e_new_f]
    have em : (progL p).map (fun s => D.str (nl s)) = dStrs ((progL p).map nl) := (List.map_map ..).symm
    rw [em]
    refine ⟨(progL p).map nl, DL.strsD_map _, ?_, Wk.here q⟩
    rw [show ("" : Str).length = 0 by decide +kernel]
    omega
theorem ok_nil : Prg.ok ⟨[], [], []⟩ := ⟨by decide, fun _ h => (List.not_mem_nil h).elim, by decide, fun _ h => (List.not_mem_nil h).elim, by decide, fun _ h => (List.not_mem_nil h).elim⟩
theorem ok_vars {vs : List Vr} (h1 : vs.length ≤ 3) (h2 : ∀ v ∈ vs, VrOk v) : Prg.ok ⟨[], vs, []⟩ := ⟨by show 0 ≤ 3; decide, fun _ h => (List.not_mem_nil h).elim, h1, h2, by show 0 ≤ 3; decide, fun _ h => (List.not_mem_nil h).elim⟩
def sp_law : SpD := fun ds M Q _ => ∃ ns : List Int, ds = [.rdl ns] ∧ ns.length ≤ 63 ∧ ∀ M', Q (.bl true) M'
theorem ok_law (T : Txt K mg) {f : Addr} {fd : FuncData} (F : FunD K "law" "law" (defArgs slaw) (defBody slaw) (defScope slaw) [] [] f fd) (h__law_draw : Callee P w K mg base CX0 (1) "_law_draw" P_law_draw sp_draw) (h__law_program : Callee P w K mg base CX0 (19) "_law_program" P_law_program sp_program) (h__law_vars : Callee P w K mg base CX0 (12) "_law_vars" P_law_vars sp_vars) (h__law_written : Callee P w K mg base CX0 (17) "_law_written" P_law_written sp_written) (h_write : Callee P w K mg base CX0 (6) "write" Pwrite sp_write) : FnOk P w K mg base CX0 (20 + 1) f fd Plaw (LSp K (sp_law)) := by
  refine fnD0 F sclaw (fun ds M Q E h => by first | (obtain ⟨rfl, _⟩ := h; rfl) | (obtain ⟨_, rfl, _⟩ := h; rfl) | (obtain ⟨_, _, rfl, _⟩ := h; rfl) | (obtain ⟨_, _, _, rfl, _⟩ := h; rfl) | (obtain ⟨_, _, _, _, rfl, _⟩ := h; rfl) | (obtain ⟨_, _, _, _, _, rfl, _⟩ := h; rfl) | (obtain ⟨_, _, _, _, _, _, rfl, _⟩ := h; rfl) | (obtain ⟨_, _, _, _, _, _, _, rfl, _⟩ := h; rfl)) fun cdv A outer s H E F0 hr => ⟨_, (dss_cons (ds_set (i := 1) sclaw.nd rfl (Or.inl rfl) (de_fn h__law_draw (hr.mono (by omega)) rfl pass0 finX0 (da_cons (de_var (pv 0)) da_nil)))
      (dss_cons (ds_set (i := 2) sclaw.nd rfl (Or.inl rfl) (de_fn h__law_program (hr.mono (by omega)) rfl pass0 finX0 (da_cons (de_var (pv 1)) da_nil)))
      (dss_cons (ds_set (i := 3) sclaw.nd rfl (Or.inl rfl) (de_tup (da_cons de_str (da_cons (de_tup da_nil) (da_cons (de_fn h__law_vars (hr.mono (by omega)) rfl pass0 finX0 (da_cons (de_var (pv 1)) (da_cons de_int da_nil))) (da_cons (de_tup da_nil) da_nil))))))
      (dss_cons (ds_set (i := 4) sclaw.nd rfl (Or.inl rfl) (de_fn h__law_written (hr.mono (by omega)) rfl pass0 finX0 (da_cons (de_var (pv 2)) da_nil)))
      (dss_cons (ds_if (dt_w (dw_or (dt_cmp (od_ne hr.units) (de_fn h_write (hr.mono (by omega)) rfl pass0 finX0 (da_cons (de_var (pv 2)) da_nil)) (de_var (pv 4)) (nomark _)) (dw_or1 (dt_cmp (od_ne hr.units) (de_fn h_write (hr.mono (by omega)) rfl pass0 finX0 (da_cons (de_var (pv 3)) da_nil)) (de_fn h__law_written (hr.mono (by omega)) rfl pass0 finX0 (da_cons (de_var (pv 3)) da_nil)) (nomark _))))) (dss_one (ds_ret de_bl)) dss_nil)
      (dss_one (ds_ret (de_and (de_cmp (od_eq hr.units) (de_fnK h_write (hr.mono (by omega)) rfl pass0 finX0 (dk_cons (de_var (pv 2)) dk_nil)) (de_var (pv 4)) (nomark _)) (de_one (de_cmp (od_eq hr.units) (de_fn h_write (hr.mono (by omega)) rfl pass0 finX0 (da_cons (de_tup (da_cons de_str (da_cons (de_tup da_nil) (da_cons (de_tup da_nil) (da_cons (de_tup da_nil) da_nil))))) da_nil)) de_str (nomark _))))))))))), fun ds M Q Ex h => ?_⟩
  obtain ⟨ns, rfl, hn, q⟩ := h
  walk_at "st"
  refine seq_tail (fun σ M' => ∃ a, DrawAt M' a ∧ σ = [some (.rdl ns), some (.obj a), none, none, none]) ?_ (fun N hN => ?_)
  rotate_left
  · walk_at "dl"
    exact ⟨ns, rfl, hn, fun a o ha hO => hN _ _ ⟨a, ⟨o, updM_same, hO⟩, rfl⟩⟩
  rintro _ M1 ⟨a, hD, rfl⟩
  refine seq_tail (fun σ M' => DrawAt M' a ∧ ∃ p : Prg, p.ok ∧ σ = [some (.rdl ns), some (.obj a), some p.d, none, none]) ?_ (fun N hN => ?_)
  rotate_left
  · walk_at "dl"
    exact ⟨a, rfl, hD, fun p M2 hp n2 => hN _ _ ⟨n2.at, p, hp, rfl⟩⟩
  rintro _ M2 ⟨hD2, p, hp, rfl⟩
  refine seq_tail (fun σ M' => ∃ o : Prg, o.ok ∧ σ = [some (.rdl ns), some (.obj a), some p.d, some o.d, none]) ?_ (fun N hN => ?_)
  rotate_left
  · walk_at "dl"
    exact ⟨a, 3, rfl, by decide, hD2, fun vs M3 h1 h2 n3 => hN _ _ ⟨⟨[], vs, []⟩, ok_vars h1 h2, rfl⟩⟩
  rintro _ M3 ⟨o, ho, rfl⟩
  refine seq_tail (fun σ M' => σ = [some (.rdl ns), some (.obj a), some p.d, some o.d, some (.str (progT p))]) ?_ (fun N hN => ?_)
  rotate_left
  · walk_at "dl"
    exact ⟨p, rfl, hp, hN _ _ rfl⟩
  rintro _ M4 rfl
  refine seq_tail (fun σ M' => σ = [some (.rdl ns), some (.obj a), some p.d, some o.d, some (.str (progT p))]) ?_ (fun N hN => ?_)
  rotate_left
  · walk_at "dl"
    refine ⟨p, rfl, hp, ?_⟩
    walk_at "dl"
    refine ifB (fun h => absurd h (by simp)) (fun _ => ?_)
    refine ⟨o, rfl, ho, o, rfl, ho, ?_⟩
    walk_at "dl"
    exact ifB (fun h => absurd h (by simp)) (fun _ => hN _ _ rfl)
  rintro _ M5 rfl
  walk_at "dl"
  refine ⟨p, rfl, hp, ?_⟩
  walk_at "dl"
  refine ifB (fun _ => ?_) (fun h => absurd h (by simp))
  refine ⟨⟨[], [], []⟩, by show _ = [D.tup [.str "program", .tup [], .tup [], .tup (partsD [])]]; unfold partsD; rfl, ok_nil, ?_⟩
  rw [show progT ⟨[], [], []⟩ = "" by unfold progT progL partsL; decide +kernel]
  walk_at "dl"
  exact Wk.here (q _)
end
end K05
namespace K05
open PySem PySem.Spec PyProof.Rows L2 DL Syn Wr
abbrev dD (i : Nat) (x : Str) : He.DefD := ⟨(x, none), x, x, defArgs (topS i), defBody (topS i), defScope (topS i), [], []⟩
def fn : List He.DefD := [dD 22 "_law_draw", dD 23 "_law_next", dD 24 "_law_pick", dD 25 "_law_words", dD 26 "_law_spelled", dD 27 "_law_atom", dD 29 "_law_test", dD 28 "_law_value", dD 30 "_law_deeds", dD 31 "_law_givens", dD 32 "_law_vars", dD 33 "_law_parts", dD 34 "_law_program", dD 1 "chain_of", dD 4 "is_small", dD 5 "is_great", dD 9 "_is_name", dD 8 "line_of", dD 12 "_bracketed", dD 11 "_opened", dD 10 "words_of", dD 13 "givens_of", dD 14 "kind_line", dD 15 "var_line", dD 16 "plain_line", dD 17 "if_rows", dD 18 "act_rows", dD 19 "maker_rows", dD 20 "write", dD 35 "_law_commas", dD 36 "_law_test_row", dD 37 "_law_value_row", dD 38 "_law_deed_row", dD 39 "_law_var_row", dD 42 "_law_joined", dD 43 "_law_deed_lines", dD 44 "_law_var_lines", dD 45 "_law_part_lines", dD 46 "_law_written", dD 47 "law"]
def fa : List He.Fa := [.glo "_law_draw", .glo "_law_next", .glo "_law_pick", .glo "_law_words", .glo "_law_spelled", .glo "_law_atom", .glo "_law_test", .glo "_law_value", .glo "_law_deeds", .glo "_law_givens", .glo "_law_vars", .glo "_law_parts", .glo "_law_program", .glo "chain_of", .glo "is_small", .glo "is_great", .glo "_is_name", .glo "line_of", .glo "_bracketed", .glo "_opened", .glo "words_of", .glo "givens_of", .glo "kind_line", .glo "var_line", .glo "plain_line", .glo "if_rows", .glo "act_rows", .glo "maker_rows", .glo "write", .glo "_law_commas", .glo "_law_test_row", .glo "_law_value_row", .glo "_law_deed_row", .glo "_law_var_row", .glo "_law_joined", .glo "_law_deed_lines", .glo "_law_var_lines", .glo "_law_part_lines", .glo "_law_written", .glo "law", .glo "WORDS", .str "STEP" "  ", .free "isinstance", .free "str", .free "enumerate", .free "int", .free "len", .free "range", .free "tuple"]
def ex (K : PySem.W.Frag) : Bool := He.tupB K "WORDS" (Syn.WORDS.map He.Dv.str)
abbrev R : PySem.W.OpenRow := PySem.W.OpenLaw.row PySem.Challenge.rw_outlived_k05_lines_of_a_text
abbrev hk : PySem.W.Hook := hookP 4 fa fn ex
def ob (s : PySem.W.SharedT) : AlP := obsP 4 fa fn ex (HandSHeadRun.getT s)
theorem ob_eq (s : PySem.W.SharedT) : ob s = hk.obs s.abs := obsP_eq (HandSHeadRun.getT_eq s)
abbrev LOOSE : List Str := [("chain_of" : Str), ("WORDS" : Str), ("is_small" : Str), ("is_great" : Str), ("STEP" : Str), ("line_of" : Str), ("_is_name" : Str), ("words_of" : Str), ("_opened" : Str), ("_bracketed" : Str), ("givens_of" : Str), ("kind_line" : Str), ("var_line" : Str), ("plain_line" : Str), ("if_rows" : Str), ("act_rows" : Str), ("maker_rows" : Str), ("write" : Str), ("_law_draw" : Str), ("_law_next" : Str), ("_law_pick" : Str), ("_law_words" : Str), ("_law_spelled" : Str), ("_law_atom" : Str), ("_law_value" : Str), ("_law_test" : Str), ("_law_deeds" : Str), ("_law_givens" : Str), ("_law_vars" : Str), ("_law_parts" : Str), ("_law_program" : Str), ("_law_commas" : Str), ("_law_test_row" : Str), ("_law_value_row" : Str), ("_law_deed_row" : Str), ("_law_var_row" : Str), ("_law_part_row" : Str), ("_law_tokens" : Str), ("_law_joined" : Str), ("_law_deed_lines" : Str), ("_law_var_lines" : Str), ("_law_part_lines" : Str), ("_law_written" : Str)]
theorem run (w : World) : HandSHeadRun.RunEq R (PySem.W.view R.prog [47]) hk ob 4000 LOOSE w := by
  intro os
  kernel_rfl
theorem facts {P : Program} {w : World} {K : PySem.W.Frag} {h : Heap} {mg : Str → Option Value} {f : Addr} (X : K.In h) (G : h.Ns mainGlobals mg) (hfa : mg ("law" : Str) = some (.ref f)) (c : He.SaysD fa fn K) (ce : ex K = true) :
    ∃ fd : FuncData, (∀ (s : Shared) (v : Value), BindsTo s fd ⟨[v], []⟩ [("script", v)]) ∧ ∀ base : Heap, K.In base → base.Ns mainGlobals mg → FnOk P w K mg base CX0 21 f fd ["script"] (LSp K sp_law) := by
  obtain ⟨fd__law_draw, F__law_draw⟩ := c.def_ 0 (d := dD 22 "_law_draw") rfl
  obtain ⟨fd__law_next, F__law_next⟩ := c.def_ 1 (d := dD 23 "_law_next") rfl
  obtain ⟨fd__law_pick, F__law_pick⟩ := c.def_ 2 (d := dD 24 "_law_pick") rfl
  obtain ⟨fd__law_words, F__law_words⟩ := c.def_ 3 (d := dD 25 "_law_words") rfl
  obtain ⟨fd__law_spelled, F__law_spelled⟩ := c.def_ 4 (d := dD 26 "_law_spelled") rfl
  obtain ⟨fd__law_atom, F__law_atom⟩ := c.def_ 5 (d := dD 27 "_law_atom") rfl
  obtain ⟨fd__law_test, F__law_test⟩ := c.def_ 6 (d := dD 29 "_law_test") rfl
  obtain ⟨fd__law_value, F__law_value⟩ := c.def_ 7 (d := dD 28 "_law_value") rfl
  obtain ⟨fd__law_deeds, F__law_deeds⟩ := c.def_ 8 (d := dD 30 "_law_deeds") rfl
  obtain ⟨fd__law_givens, F__law_givens⟩ := c.def_ 9 (d := dD 31 "_law_givens") rfl
  obtain ⟨fd__law_vars, F__law_vars⟩ := c.def_ 10 (d := dD 32 "_law_vars") rfl
  obtain ⟨fd__law_parts, F__law_parts⟩ := c.def_ 11 (d := dD 33 "_law_parts") rfl
  obtain ⟨fd__law_program, F__law_program⟩ := c.def_ 12 (d := dD 34 "_law_program") rfl
  obtain ⟨fd_chain_of, F_chain_of⟩ := c.def_ 13 (d := dD 1 "chain_of") rfl
  obtain ⟨fd_is_small, F_is_small⟩ := c.def_ 14 (d := dD 4 "is_small") rfl
  obtain ⟨fd_is_great, F_is_great⟩ := c.def_ 15 (d := dD 5 "is_great") rfl
  obtain ⟨fd__is_name, F__is_name⟩ := c.def_ 16 (d := dD 9 "_is_name") rfl
  obtain ⟨fd_line_of, F_line_of⟩ := c.def_ 17 (d := dD 8 "line_of") rfl
  obtain ⟨fd__bracketed, F__bracketed⟩ := c.def_ 18 (d := dD 12 "_bracketed") rfl
  obtain ⟨fd__opened, F__opened⟩ := c.def_ 19 (d := dD 11 "_opened") rfl
  obtain ⟨fd_words_of, F_words_of⟩ := c.def_ 20 (d := dD 10 "words_of") rfl
  obtain ⟨fd_givens_of, F_givens_of⟩ := c.def_ 21 (d := dD 13 "givens_of") rfl
  obtain ⟨fd_kind_line, F_kind_line⟩ := c.def_ 22 (d := dD 14 "kind_line") rfl
  obtain ⟨fd_var_line, F_var_line⟩ := c.def_ 23 (d := dD 15 "var_line") rfl
  obtain ⟨fd_plain_line, F_plain_line⟩ := c.def_ 24 (d := dD 16 "plain_line") rfl
  obtain ⟨fd_if_rows, F_if_rows⟩ := c.def_ 25 (d := dD 17 "if_rows") rfl
  obtain ⟨fd_act_rows, F_act_rows⟩ := c.def_ 26 (d := dD 18 "act_rows") rfl
  obtain ⟨fd_maker_rows, F_maker_rows⟩ := c.def_ 27 (d := dD 19 "maker_rows") rfl
  obtain ⟨fd_write, F_write⟩ := c.def_ 28 (d := dD 20 "write") rfl
  obtain ⟨fd__law_commas, F__law_commas⟩ := c.def_ 29 (d := dD 35 "_law_commas") rfl
  obtain ⟨fd__law_test_row, F__law_test_row⟩ := c.def_ 30 (d := dD 36 "_law_test_row") rfl
  obtain ⟨fd__law_value_row, F__law_value_row⟩ := c.def_ 31 (d := dD 37 "_law_value_row") rfl
  obtain ⟨fd__law_deed_row, F__law_deed_row⟩ := c.def_ 32 (d := dD 38 "_law_deed_row") rfl
  obtain ⟨fd__law_var_row, F__law_var_row⟩ := c.def_ 33 (d := dD 39 "_law_var_row") rfl
  obtain ⟨fd__law_joined, F__law_joined⟩ := c.def_ 34 (d := dD 42 "_law_joined") rfl
  obtain ⟨fd__law_deed_lines, F__law_deed_lines⟩ := c.def_ 35 (d := dD 43 "_law_deed_lines") rfl
  obtain ⟨fd__law_var_lines, F__law_var_lines⟩ := c.def_ 36 (d := dD 44 "_law_var_lines") rfl
  obtain ⟨fd__law_part_lines, F__law_part_lines⟩ := c.def_ 37 (d := dD 45 "_law_part_lines") rfl
  obtain ⟨fd__law_written, F__law_written⟩ := c.def_ 38 (d := dD 46 "_law_written") rfl
  obtain ⟨fd_law, F_law⟩ := c.def_ 39 (d := dD 47 "law") rfl
  have T : Txt K mg := ⟨He.str_ok X G (c.fact 41 (f := .str "STEP" "  ") rfl), gtup_of X G (c.fact 40 (f := .glo "WORDS") rfl) ce, He.free_ok X G (c.fact 42 (f := .free "isinstance") rfl), He.free_ok X G (c.fact 43 (f := .free "str") rfl), He.free_ok X G (c.fact 44 (f := .free "enumerate") rfl), He.free_ok X G (c.fact 45 (f := .free "int") rfl), He.free_ok X G (c.fact 46 (f := .free "len") rfl), He.free_ok X G (c.fact 47 (f := .free "range") rfl), He.free_ok X G (c.fact 48 (f := .free "tuple") rfl)⟩
  have e := hfa.symm.trans (He.glo_ok X G (c.fact 39 (f := .glo "law") rfl))
  cases e
  have b := FunD.bindsA (ps := ["script"]) F_law fun _ _ _ _ _ _ us hl => match us, hl with | [_], _ => rfl
  refine ⟨fd_law, fun s v => b s [v] rfl, fun base _ _ => ?_⟩
  have m__law_draw : ∀ {k : Nat} {sp : SpD}, FnOk P w K mg base CX0 k (He.ga K "_law_draw") fd__law_draw P_law_draw (LSp K sp) → Callee P w K mg base CX0 k "_law_draw" P_law_draw sp := fun ok => callee_of F__law_draw ok (He.glo_ok X G (c.fact 0 (f := .glo "_law_draw") rfl)) (fun _ _ _ _ _ _ us hl => match us, hl with | [_], _ => rfl) (fun _ _ _ _ _ _ us hl => match us, hl with | [_], _ => rfl)
  have m__law_next : ∀ {k : Nat} {sp : SpD}, FnOk P w K mg base CX0 k (He.ga K "_law_next") fd__law_next P_law_next (LSp K sp) → Callee P w K mg base CX0 k "_law_next" P_law_next sp := fun ok => callee_of F__law_next ok (He.glo_ok X G (c.fact 1 (f := .glo "_law_next") rfl)) (fun _ _ _ _ _ _ us hl => match us, hl with | [_, _], _ => rfl) (fun _ _ _ _ _ _ us hl => match us, hl with | [_, _], _ => rfl)
  have m__law_pick : ∀ {k : Nat} {sp : SpD}, FnOk P w K mg base CX0 k (He.ga K "_law_pick") fd__law_pick P_law_pick (LSp K sp) → Callee P w K mg base CX0 k "_law_pick" P_law_pick sp := fun ok => callee_of F__law_pick ok (He.glo_ok X G (c.fact 2 (f := .glo "_law_pick") rfl)) (fun _ _ _ _ _ _ us hl => match us, hl with | [_, _], _ => rfl) (fun _ _ _ _ _ _ us hl => match us, hl with | [_, _], _ => rfl)
  have m__law_words : ∀ {k : Nat} {sp : SpD}, FnOk P w K mg base CX0 k (He.ga K "_law_words") fd__law_words P_law_words (LSp K sp) → Callee P w K mg base CX0 k "_law_words" P_law_words sp := fun ok => callee_of F__law_words ok (He.glo_ok X G (c.fact 3 (f := .glo "_law_words") rfl)) (fun _ _ _ _ _ _ us hl => match us, hl with | [], _ => rfl) (fun _ _ _ _ _ _ us hl => match us, hl with | [], _ => rfl)
  have m__law_spelled : ∀ {k : Nat} {sp : SpD}, FnOk P w K mg base CX0 k (He.ga K "_law_spelled") fd__law_spelled P_law_spelled (LSp K sp) → Callee P w K mg base CX0 k "_law_spelled" P_law_spelled sp := fun ok => callee_of F__law_spelled ok (He.glo_ok X G (c.fact 4 (f := .glo "_law_spelled") rfl)) (fun _ _ _ _ _ _ us hl => match us, hl with | [_, _], _ => rfl) (fun _ _ _ _ _ _ us hl => match us, hl with | [_, _], _ => rfl)
  have m__law_atom : ∀ {k : Nat} {sp : SpD}, FnOk P w K mg base CX0 k (He.ga K "_law_atom") fd__law_atom P_law_atom (LSp K sp) → Callee P w K mg base CX0 k "_law_atom" P_law_atom sp := fun ok => callee_of F__law_atom ok (He.glo_ok X G (c.fact 5 (f := .glo "_law_atom") rfl)) (fun _ _ _ _ _ _ us hl => match us, hl with | [_], _ => rfl) (fun _ _ _ _ _ _ us hl => match us, hl with | [_], _ => rfl)
  have m__law_test : ∀ {k : Nat} {sp : SpD}, FnOk P w K mg base CX0 k (He.ga K "_law_test") fd__law_test P_law_test (LSp K sp) → Callee P w K mg base CX0 k "_law_test" P_law_test sp := fun ok => callee_of F__law_test ok (He.glo_ok X G (c.fact 6 (f := .glo "_law_test") rfl)) (fun _ _ _ _ _ _ us hl => match us, hl with | [_, _], _ => rfl) (fun _ _ _ _ _ _ us hl => match us, hl with | [_, _], _ => rfl)
  have m__law_value : ∀ {k : Nat} {sp : SpD}, FnOk P w K mg base CX0 k (He.ga K "_law_value") fd__law_value P_law_value (LSp K sp) → Callee P w K mg base CX0 k "_law_value" P_law_value sp := fun ok => callee_of F__law_value ok (He.glo_ok X G (c.fact 7 (f := .glo "_law_value") rfl)) (fun _ _ _ _ _ _ us hl => match us, hl with | [_, _], _ => rfl) (fun _ _ _ _ _ _ us hl => match us, hl with | [_, _], _ => rfl)
  have m__law_deeds : ∀ {k : Nat} {sp : SpD}, FnOk P w K mg base CX0 k (He.ga K "_law_deeds") fd__law_deeds P_law_deeds (LSp K sp) → Callee P w K mg base CX0 k "_law_deeds" P_law_deeds sp := fun ok => callee_of F__law_deeds ok (He.glo_ok X G (c.fact 8 (f := .glo "_law_deeds") rfl)) (fun _ _ _ _ _ _ us hl => match us, hl with | [_, _, _], _ => rfl) (fun _ _ _ _ _ _ us hl => match us, hl with | [_, _, _], _ => rfl)
  have m__law_givens : ∀ {k : Nat} {sp : SpD}, FnOk P w K mg base CX0 k (He.ga K "_law_givens") fd__law_givens P_law_givens (LSp K sp) → Callee P w K mg base CX0 k "_law_givens" P_law_givens sp := fun ok => callee_of F__law_givens ok (He.glo_ok X G (c.fact 9 (f := .glo "_law_givens") rfl)) (fun _ _ _ _ _ _ us hl => match us, hl with | [_], _ => rfl) (fun _ _ _ _ _ _ us hl => match us, hl with | [_], _ => rfl)
  have m__law_vars : ∀ {k : Nat} {sp : SpD}, FnOk P w K mg base CX0 k (He.ga K "_law_vars") fd__law_vars P_law_vars (LSp K sp) → Callee P w K mg base CX0 k "_law_vars" P_law_vars sp := fun ok => callee_of F__law_vars ok (He.glo_ok X G (c.fact 10 (f := .glo "_law_vars") rfl)) (fun _ _ _ _ _ _ us hl => match us, hl with | [_, _], _ => rfl) (fun _ _ _ _ _ _ us hl => match us, hl with | [_, _], _ => rfl)
  have m__law_parts : ∀ {k : Nat} {sp : SpD}, FnOk P w K mg base CX0 k (He.ga K "_law_parts") fd__law_parts P_law_parts (LSp K sp) → Callee P w K mg base CX0 k "_law_parts" P_law_parts sp := fun ok => callee_of F__law_parts ok (He.glo_ok X G (c.fact 11 (f := .glo "_law_parts") rfl)) (fun _ _ _ _ _ _ us hl => match us, hl with | [_, _, _], _ => rfl) (fun _ _ _ _ _ _ us hl => match us, hl with | [_, _, _], _ => rfl)
  have m__law_program : ∀ {k : Nat} {sp : SpD}, FnOk P w K mg base CX0 k (He.ga K "_law_program") fd__law_program P_law_program (LSp K sp) → Callee P w K mg base CX0 k "_law_program" P_law_program sp := fun ok => callee_of F__law_program ok (He.glo_ok X G (c.fact 12 (f := .glo "_law_program") rfl)) (fun _ _ _ _ _ _ us hl => match us, hl with | [_], _ => rfl) (fun _ _ _ _ _ _ us hl => match us, hl with | [_], _ => rfl)
  have m_chain_of : ∀ {k : Nat} {sp : SpD}, FnOk P w K mg base CX0 k (He.ga K "chain_of") fd_chain_of Pchain_of (LSp K sp) → Callee P w K mg base CX0 k "chain_of" Pchain_of sp := fun ok => callee_of F_chain_of ok (He.glo_ok X G (c.fact 13 (f := .glo "chain_of") rfl)) (fun _ _ _ _ _ _ us hl => match us, hl with | [_], _ => rfl) (fun _ _ _ _ _ _ us hl => match us, hl with | [_], _ => rfl)
  have m_is_small : ∀ {k : Nat} {sp : SpD}, FnOk P w K mg base CX0 k (He.ga K "is_small") fd_is_small Pis_small (LSp K sp) → Callee P w K mg base CX0 k "is_small" Pis_small sp := fun ok => callee_of F_is_small ok (He.glo_ok X G (c.fact 14 (f := .glo "is_small") rfl)) (fun _ _ _ _ _ _ us hl => match us, hl with | [_], _ => rfl) (fun _ _ _ _ _ _ us hl => match us, hl with | [_], _ => rfl)
  have m_is_great : ∀ {k : Nat} {sp : SpD}, FnOk P w K mg base CX0 k (He.ga K "is_great") fd_is_great Pis_great (LSp K sp) → Callee P w K mg base CX0 k "is_great" Pis_great sp := fun ok => callee_of F_is_great ok (He.glo_ok X G (c.fact 15 (f := .glo "is_great") rfl)) (fun _ _ _ _ _ _ us hl => match us, hl with | [_], _ => rfl) (fun _ _ _ _ _ _ us hl => match us, hl with | [_], _ => rfl)
  have m__is_name : ∀ {k : Nat} {sp : SpD}, FnOk P w K mg base CX0 k (He.ga K "_is_name") fd__is_name P_is_name (LSp K sp) → Callee P w K mg base CX0 k "_is_name" P_is_name sp := fun ok => callee_of F__is_name ok (He.glo_ok X G (c.fact 16 (f := .glo "_is_name") rfl)) (fun _ _ _ _ _ _ us hl => match us, hl with | [_], _ => rfl) (fun _ _ _ _ _ _ us hl => match us, hl with | [_], _ => rfl)
  have m_line_of : ∀ {k : Nat} {sp : SpD}, FnOk P w K mg base CX0 k (He.ga K "line_of") fd_line_of Pline_of (LSp K sp) → Callee P w K mg base CX0 k "line_of" Pline_of sp := fun ok => callee_of F_line_of ok (He.glo_ok X G (c.fact 17 (f := .glo "line_of") rfl)) (fun _ _ _ _ _ _ us hl => match us, hl with | [_, _], _ => rfl) (fun _ _ _ _ _ _ us hl => match us, hl with | [_, _], _ => rfl)
  have m__bracketed : ∀ {k : Nat} {sp : SpD}, FnOk P w K mg base CX0 k (He.ga K "_bracketed") fd__bracketed P_bracketed (LSp K sp) → Callee P w K mg base CX0 k "_bracketed" P_bracketed sp := fun ok => callee_of F__bracketed ok (He.glo_ok X G (c.fact 18 (f := .glo "_bracketed") rfl)) (fun _ _ _ _ _ _ us hl => match us, hl with | [_, _], _ => rfl) (fun _ _ _ _ _ _ us hl => match us, hl with | [_, _], _ => rfl)
  have m__opened : ∀ {k : Nat} {sp : SpD}, FnOk P w K mg base CX0 k (He.ga K "_opened") fd__opened P_opened (LSp K sp) → Callee P w K mg base CX0 k "_opened" P_opened sp := fun ok => callee_of F__opened ok (He.glo_ok X G (c.fact 19 (f := .glo "_opened") rfl)) (fun _ _ _ _ _ _ us hl => match us, hl with | [_], _ => rfl) (fun _ _ _ _ _ _ us hl => match us, hl with | [_], _ => rfl)
  have m_words_of : ∀ {k : Nat} {sp : SpD}, FnOk P w K mg base CX0 k (He.ga K "words_of") fd_words_of Pwords_of (LSp K sp) → Callee P w K mg base CX0 k "words_of" Pwords_of sp := fun ok => callee_of F_words_of ok (He.glo_ok X G (c.fact 20 (f := .glo "words_of") rfl)) (fun _ _ _ _ _ _ us hl => match us, hl with | [_], _ => rfl) (fun _ _ _ _ _ _ us hl => match us, hl with | [_], _ => rfl)
  have m_givens_of : ∀ {k : Nat} {sp : SpD}, FnOk P w K mg base CX0 k (He.ga K "givens_of") fd_givens_of Pgivens_of (LSp K sp) → Callee P w K mg base CX0 k "givens_of" Pgivens_of sp := fun ok => callee_of F_givens_of ok (He.glo_ok X G (c.fact 21 (f := .glo "givens_of") rfl)) (fun _ _ _ _ _ _ us hl => match us, hl with | [_], _ => rfl) (fun _ _ _ _ _ _ us hl => match us, hl with | [_], _ => rfl)
  have m_kind_line : ∀ {k : Nat} {sp : SpD}, FnOk P w K mg base CX0 k (He.ga K "kind_line") fd_kind_line Pkind_line (LSp K sp) → Callee P w K mg base CX0 k "kind_line" Pkind_line sp := fun ok => callee_of F_kind_line ok (He.glo_ok X G (c.fact 22 (f := .glo "kind_line") rfl)) (fun _ _ _ _ _ _ us hl => match us, hl with | [_], _ => rfl) (fun _ _ _ _ _ _ us hl => match us, hl with | [_], _ => rfl)
  have m_var_line : ∀ {k : Nat} {sp : SpD}, FnOk P w K mg base CX0 k (He.ga K "var_line") fd_var_line Pvar_line (LSp K sp) → Callee P w K mg base CX0 k "var_line" Pvar_line sp := fun ok => callee_of F_var_line ok (He.glo_ok X G (c.fact 23 (f := .glo "var_line") rfl)) (fun _ _ _ _ _ _ us hl => match us, hl with | [_, _], _ => rfl) (fun _ _ _ _ _ _ us hl => match us, hl with | [_, _], _ => rfl)
  have m_plain_line : ∀ {k : Nat} {sp : SpD}, FnOk P w K mg base CX0 k (He.ga K "plain_line") fd_plain_line Pplain_line (LSp K sp) → Callee P w K mg base CX0 k "plain_line" Pplain_line sp := fun ok => callee_of F_plain_line ok (He.glo_ok X G (c.fact 24 (f := .glo "plain_line") rfl)) (fun _ _ _ _ _ _ us hl => match us, hl with | [_, _], _ => rfl) (fun _ _ _ _ _ _ us hl => match us, hl with | [_, _], _ => rfl)
  have m_if_rows : ∀ {k : Nat} {sp : SpD}, FnOk P w K mg base CX0 k (He.ga K "if_rows") fd_if_rows Pif_rows (LSp K sp) → Callee P w K mg base CX0 k "if_rows" Pif_rows sp := fun ok => callee_of F_if_rows ok (He.glo_ok X G (c.fact 25 (f := .glo "if_rows") rfl)) (fun _ _ _ _ _ _ us hl => match us, hl with | [_, _], _ => rfl) (fun _ _ _ _ _ _ us hl => match us, hl with | [_, _], _ => rfl)
  have m_act_rows : ∀ {k : Nat} {sp : SpD}, FnOk P w K mg base CX0 k (He.ga K "act_rows") fd_act_rows Pact_rows (LSp K sp) → Callee P w K mg base CX0 k "act_rows" Pact_rows sp := fun ok => callee_of F_act_rows ok (He.glo_ok X G (c.fact 26 (f := .glo "act_rows") rfl)) (fun _ _ _ _ _ _ us hl => match us, hl with | [_, _], _ => rfl) (fun _ _ _ _ _ _ us hl => match us, hl with | [_, _], _ => rfl)
  have m_maker_rows : ∀ {k : Nat} {sp : SpD}, FnOk P w K mg base CX0 k (He.ga K "maker_rows") fd_maker_rows Pmaker_rows (LSp K sp) → Callee P w K mg base CX0 k "maker_rows" Pmaker_rows sp := fun ok => callee_of F_maker_rows ok (He.glo_ok X G (c.fact 27 (f := .glo "maker_rows") rfl)) (fun _ _ _ _ _ _ us hl => match us, hl with | [_, _], _ => rfl) (fun _ _ _ _ _ _ us hl => match us, hl with | [_, _], _ => rfl)
  have m_write : ∀ {k : Nat} {sp : SpD}, FnOk P w K mg base CX0 k (He.ga K "write") fd_write Pwrite (LSp K sp) → Callee P w K mg base CX0 k "write" Pwrite sp := fun ok => callee_of F_write ok (He.glo_ok X G (c.fact 28 (f := .glo "write") rfl)) (fun _ _ _ _ _ _ us hl => match us, hl with | [_], _ => rfl) (fun _ _ _ _ _ _ us hl => match us, hl with | [_], _ => rfl)
  have m__law_commas : ∀ {k : Nat} {sp : SpD}, FnOk P w K mg base CX0 k (He.ga K "_law_commas") fd__law_commas P_law_commas (LSp K sp) → Callee P w K mg base CX0 k "_law_commas" P_law_commas sp := fun ok => callee_of F__law_commas ok (He.glo_ok X G (c.fact 29 (f := .glo "_law_commas") rfl)) (fun _ _ _ _ _ _ us hl => match us, hl with | [_], _ => rfl) (fun _ _ _ _ _ _ us hl => match us, hl with | [_], _ => rfl)
  have m__law_test_row : ∀ {k : Nat} {sp : SpD}, FnOk P w K mg base CX0 k (He.ga K "_law_test_row") fd__law_test_row P_law_test_row (LSp K sp) → Callee P w K mg base CX0 k "_law_test_row" P_law_test_row sp := fun ok => callee_of F__law_test_row ok (He.glo_ok X G (c.fact 30 (f := .glo "_law_test_row") rfl)) (fun _ _ _ _ _ _ us hl => match us, hl with | [_, _, _], _ => rfl) (fun _ _ _ _ _ _ us hl => match us, hl with | [_, _, _], _ => rfl)
  have m__law_value_row : ∀ {k : Nat} {sp : SpD}, FnOk P w K mg base CX0 k (He.ga K "_law_value_row") fd__law_value_row P_law_value_row (LSp K sp) → Callee P w K mg base CX0 k "_law_value_row" P_law_value_row sp := fun ok => callee_of F__law_value_row ok (He.glo_ok X G (c.fact 31 (f := .glo "_law_value_row") rfl)) (fun _ _ _ _ _ _ us hl => match us, hl with | [_, _], _ => rfl) (fun _ _ _ _ _ _ us hl => match us, hl with | [_, _], _ => rfl)
  have m__law_deed_row : ∀ {k : Nat} {sp : SpD}, FnOk P w K mg base CX0 k (He.ga K "_law_deed_row") fd__law_deed_row P_law_deed_row (LSp K sp) → Callee P w K mg base CX0 k "_law_deed_row" P_law_deed_row sp := fun ok => callee_of F__law_deed_row ok (He.glo_ok X G (c.fact 32 (f := .glo "_law_deed_row") rfl)) (fun _ _ _ _ _ _ us hl => match us, hl with | [_, _], _ => rfl) (fun _ _ _ _ _ _ us hl => match us, hl with | [_, _], _ => rfl)
  have m__law_var_row : ∀ {k : Nat} {sp : SpD}, FnOk P w K mg base CX0 k (He.ga K "_law_var_row") fd__law_var_row P_law_var_row (LSp K sp) → Callee P w K mg base CX0 k "_law_var_row" P_law_var_row sp := fun ok => callee_of F__law_var_row ok (He.glo_ok X G (c.fact 33 (f := .glo "_law_var_row") rfl)) (fun _ _ _ _ _ _ us hl => match us, hl with | [_, _], _ => rfl) (fun _ _ _ _ _ _ us hl => match us, hl with | [_, _], _ => rfl)
  have m__law_joined : ∀ {k : Nat} {sp : SpD}, FnOk P w K mg base CX0 k (He.ga K "_law_joined") fd__law_joined P_law_joined (LSp K sp) → Callee P w K mg base CX0 k "_law_joined" P_law_joined sp := fun ok => callee_of F__law_joined ok (He.glo_ok X G (c.fact 34 (f := .glo "_law_joined") rfl)) (fun _ _ _ _ _ _ us hl => match us, hl with | [_], _ => rfl) (fun _ _ _ _ _ _ us hl => match us, hl with | [_], _ => rfl)
  have m__law_deed_lines : ∀ {k : Nat} {sp : SpD}, FnOk P w K mg base CX0 k (He.ga K "_law_deed_lines") fd__law_deed_lines P_law_deed_lines (LSp K sp) → Callee P w K mg base CX0 k "_law_deed_lines" P_law_deed_lines sp := fun ok => callee_of F__law_deed_lines ok (He.glo_ok X G (c.fact 35 (f := .glo "_law_deed_lines") rfl)) (fun _ _ _ _ _ _ us hl => match us, hl with | [_, _], _ => rfl) (fun _ _ _ _ _ _ us hl => match us, hl with | [_, _], _ => rfl)
  have m__law_var_lines : ∀ {k : Nat} {sp : SpD}, FnOk P w K mg base CX0 k (He.ga K "_law_var_lines") fd__law_var_lines P_law_var_lines (LSp K sp) → Callee P w K mg base CX0 k "_law_var_lines" P_law_var_lines sp := fun ok => callee_of F__law_var_lines ok (He.glo_ok X G (c.fact 36 (f := .glo "_law_var_lines") rfl)) (fun _ _ _ _ _ _ us hl => match us, hl with | [_, _], _ => rfl) (fun _ _ _ _ _ _ us hl => match us, hl with | [_, _], _ => rfl)
  have m__law_part_lines : ∀ {k : Nat} {sp : SpD}, FnOk P w K mg base CX0 k (He.ga K "_law_part_lines") fd__law_part_lines P_law_part_lines (LSp K sp) → Callee P w K mg base CX0 k "_law_part_lines" P_law_part_lines sp := fun ok => callee_of F__law_part_lines ok (He.glo_ok X G (c.fact 37 (f := .glo "_law_part_lines") rfl)) (fun _ _ _ _ _ _ us hl => match us, hl with | [_, _], _ => rfl) (fun _ _ _ _ _ _ us hl => match us, hl with | [_, _], _ => rfl)
  have m__law_written : ∀ {k : Nat} {sp : SpD}, FnOk P w K mg base CX0 k (He.ga K "_law_written") fd__law_written P_law_written (LSp K sp) → Callee P w K mg base CX0 k "_law_written" P_law_written sp := fun ok => callee_of F__law_written ok (He.glo_ok X G (c.fact 38 (f := .glo "_law_written") rfl)) (fun _ _ _ _ _ _ us hl => match us, hl with | [_], _ => rfl) (fun _ _ _ _ _ _ us hl => match us, hl with | [_], _ => rfl)
  have n__law_next : Callee P w K mg base CX0 1 "_law_next" P_law_next sp_no := m__law_next (fnok_no fun _ _ _ _ h => h)
  have n__law_deed_row : Callee P w K mg base CX0 1 "_law_deed_row" P_law_deed_row sp_no := m__law_deed_row (fnok_no fun _ _ _ _ h => h)
  have c__law_draw := m__law_draw (ok__law_draw T F__law_draw )
  have c__law_next := m__law_next (ok__law_next T F__law_next )
  have c__law_pick := m__law_pick (ok__law_pick T F__law_pick c__law_next)
  have c__law_words := m__law_words (ok__law_words T F__law_words )
  have c__law_spelled := m__law_spelled (ok__law_spelled T F__law_spelled c__law_next c__law_pick c__law_words)
  have c__law_atom := m__law_atom (ok__law_atom T F__law_atom c__law_next c__law_spelled)
  have c__law_test : ∀ n, Callee P w K mg base CX0 (4 + n) "_law_test" P_law_test (sp_test n) := fun n => by
    induction n with
    | zero => exact m__law_test (fnok_no fun _ _ _ _ ⟨_, _, _, h, _⟩ => absurd h (Nat.not_lt_zero _))
    | succ n ih => exact m__law_test (ok__law_test T F__law_test c__law_next c__law_atom ih)
  have c__law_value : ∀ n, Callee P w K mg base CX0 (8 + n) "_law_value" P_law_value (sp_value n) := fun n => by
    induction n with
    | zero => exact m__law_value (fnok_no fun _ _ _ _ ⟨_, _, _, h, _⟩ => absurd h (Nat.not_lt_zero _))
    | succ n ih => exact m__law_value (ok__law_value T F__law_value c__law_next c__law_atom (c__law_test 4) ih)
  have c__law_deeds : ∀ n, Callee P w K mg base CX0 (11 + n) "_law_deeds" P_law_deeds (sp_deeds n) := fun n => by
    induction n with
    | zero => exact m__law_deeds (fnok_no fun _ _ _ _ ⟨_, _, _, _, h, _⟩ => absurd h (Nat.not_lt_zero _))
    | succ n ih => exact m__law_deeds (ok__law_deeds T F__law_deeds c__law_next c__law_spelled (c__law_value 3) (c__law_test 4) ih)
  have c__law_givens := m__law_givens (ok__law_givens T F__law_givens c__law_next c__law_spelled)
  have c__law_vars := m__law_vars (ok__law_vars T F__law_vars c__law_next c__law_spelled (c__law_value 3))
  have c__law_parts : ∀ n, Callee P w K mg base CX0 (14 + n) "_law_parts" P_law_parts (sp_parts n) := fun n => by
    induction n with
    | zero => exact m__law_parts (fnok_no fun _ _ _ _ ⟨_, _, _, _, h, _⟩ => absurd h (Nat.not_lt_zero _))
    | succ n ih => exact m__law_parts (ok__law_parts T F__law_parts c__law_next c__law_spelled c__law_givens (c__law_value 3) c__law_vars (c__law_deeds 3) ih)
  have c__law_program := m__law_program (ok__law_program T F__law_program c__law_next c__law_spelled c__law_vars (c__law_parts 4))
  have c_chain_of := m_chain_of (ok_chain_of T F_chain_of )
  have c_is_small := m_is_small (ok_is_small T F_is_small )
  have c_is_great := m_is_great (ok_is_great T F_is_great )
  have c__is_name := m__is_name (ok__is_name T F__is_name c_is_small c_is_great)
  have c_line_of := m_line_of (ok_line_of T F_line_of c__is_name)
  have c__bracketed := m__bracketed (ok__bracketed T F__bracketed )
  have c__opened := m__opened (ok__opened T F__opened c_chain_of c__bracketed)
  have c_words_of := m_words_of (ok_words_of T F_words_of c__opened)
  have c_givens_of := m_givens_of (ok_givens_of T F_givens_of )
  have c_kind_line := m_kind_line (ok_kind_line T F_kind_line c_line_of)
  have c_var_line := m_var_line (ok_var_line T F_var_line c_line_of c_words_of)
  have c_plain_line := m_plain_line (ok_plain_line T F_plain_line c_line_of c_words_of)
  have c_if_rows := m_if_rows (ok_if_rows T F_if_rows c_line_of c_words_of)
  have c_act_rows := m_act_rows (ok_act_rows T F_act_rows c_line_of c_words_of c_givens_of)
  have c_maker_rows := m_maker_rows (ok_maker_rows T F_maker_rows c_line_of c_givens_of c_var_line)
  have c_write := m_write (ok_write T F_write c_kind_line c_var_line c_plain_line c_if_rows c_act_rows c_maker_rows)
  have c__law_commas := m__law_commas (ok__law_commas T F__law_commas )
  have c__law_test_row : ∀ n, Callee P w K mg base CX0 (1 + n) "_law_test_row" P_law_test_row (sp_trow n) := fun n => by
    induction n with
    | zero => exact m__law_test_row (fnok_no fun _ _ _ _ ⟨_, _, _, _, _, h, _⟩ => absurd h (Nat.not_lt_zero _))
    | succ n ih => exact m__law_test_row (ok__law_test_row T F__law_test_row n__law_next ih)
  have c__law_value_row : ∀ n, Callee P w K mg base CX0 (5 + n) "_law_value_row" P_law_value_row (sp_vrow n) := fun n => by
    induction n with
    | zero => exact m__law_value_row (fnok_no fun _ _ _ _ ⟨_, _, _, _, h, _⟩ => absurd h (Nat.not_lt_zero _))
    | succ n ih => exact m__law_value_row (ok__law_value_row T F__law_value_row (c__law_test_row 4) ih)
  have c__law_deed_row := m__law_deed_row (ok__law_deed_row T F__law_deed_row n__law_next (c__law_test_row 4) (c__law_value_row 3) c__law_commas n__law_deed_row)
  have c__law_var_row := m__law_var_row (ok__law_var_row T F__law_var_row (c__law_value_row 3))
  have c__law_joined := m__law_joined (ok__law_joined T F__law_joined c__law_words)
  have c__law_deed_lines : ∀ n, Callee P w K mg base CX0 (9 + n) "_law_deed_lines" P_law_deed_lines (sp_dlines n) := fun n => by
    induction n with
    | zero => exact m__law_deed_lines (fnok_no fun _ _ _ _ ⟨_, _, _, _, _, _, h, _⟩ => absurd h (Nat.not_lt_zero _))
    | succ n ih => exact m__law_deed_lines (ok__law_deed_lines T F__law_deed_lines c__law_joined c__law_deed_row (c__law_test_row 4) ih)
  have c__law_var_lines := m__law_var_lines (ok__law_var_lines T F__law_var_lines c__law_joined c__law_var_row)
  have c__law_part_lines : ∀ n, Callee P w K mg base CX0 (12 + n) "_law_part_lines" P_law_part_lines (sp_plines n) := fun n => by
    induction n with
    | zero => exact m__law_part_lines (fnok_no fun _ _ _ _ ⟨_, _, _, _, _, _, h, _⟩ => absurd h (Nat.not_lt_zero _))
    | succ n ih => exact m__law_part_lines (ok__law_part_lines T F__law_part_lines c__law_joined c__law_commas (c__law_value_row 3) (c__law_deed_lines 3) c__law_var_lines ih)
  have c__law_written := m__law_written (ok__law_written T F__law_written c__law_var_lines (c__law_part_lines 4))
  exact ok_law T F_law c__law_draw c__law_program c__law_vars c__law_written c_write
end K05
open PySem PySem.W PySem.Calls PyProof.Rows
theorem PySem.Challenge.cw_outlived_k05_lines_of_a_text_holds : PySem.Challenge.rw_outlived_k05_lines_of_a_text.Holds := by
  w_on; o_law
  refine HandSHeadRun.head_any (r := OpenLaw.row PySem.Challenge.rw_outlived_k05_lines_of_a_text) (q := view (OpenLaw.row PySem.Challenge.rw_outlived_k05_lines_of_a_text).prog [47]) (H := K05.hk) (ob := K05.ob) (M := 4000) (loose := K05.LOOSE) (d := HandSHeadRun.topDef (OpenLaw.row PySem.Challenge.rw_outlived_k05_lines_of_a_text).prog 47) (kwd := []) K05.ob_eq
    (by kernel_rfl) (fun s => by kernel_rfl) K05.run (by kernel_rfl) (by kernel_rfl) (by kernel_rfl) (by rfl) (by first | assumption | decide +kernel) (by decide +kernel) ⟨rfl, rfl, rfl, rfl, rfl, by decide +kernel⟩ ?hw ?hc
  case hw => w_witness2
  case hc =>
    refine L2.walk_ofE (l := PySem.Challenge.rw_outlived_k05_lines_of_a_text) (n := 63) (k := 21) (x := "script") (CX := L2.CX0) rfl (by decide) (by kernel_rfl) ⟨rfl, by decide, by decide⟩ ?F (fun _ _ _ _ z => z)
    intro w mg fa h Y G hmg0
    obtain ⟨K, KX, c, ce⟩ := Y
    have hmg : mg ("law" : PySem.Str) = some (.ref fa) := by
      have e : (HandSHeadRun.topDef (OpenLaw.row PySem.Challenge.rw_outlived_k05_lines_of_a_text).prog 47).name = ("law" : PySem.Str) := by kernel_rfl
      rw [← e]
      exact hmg0
    obtain ⟨fd, hb, hF⟩ := K05.facts (P := (PySem.Challenge.rw_outlived_k05_lines_of_a_text).prog) (w := w) KX G hmg c ce
    exact ⟨K, fd, DL.LSp K K05.sp_law, KX, hb, fun H a ns hl _ hS => DL.law_sp hl hS fun M Q E q => ⟨ns, rfl, hl, q⟩, hF⟩
