import PyProof.Rows.All
import Wide.All
import OpenK.AllK
import Wide.FinOn
import HandS.ForMost
import HandS.Style
import HandS.TupAny
import HandS.IsInst
import HandS.StrMore
import HandS.Conv
import HandS.Defaults
import KE.GoesMore
import HandS.Head0
import HandS.Head1
import HandS.Head2
import HandS.HeadEnd
import HandS.HeadHook1
import HandS.HeadHook2
import PySem.Challenge.RW_outlived_k01_whole_any_layout
set_option Elab.async false
set_option linter.all false
set_option maxRecDepth 100000
set_option maxHeartbeats 0
/-! A layer over HandS: tuples and lists that nobody changes any more are plain data; lists that are still changed and instances stand in a map by address. -/
namespace DL
open PySem L2

/-- data: rdl: a list of ints that is only read (the script) -/
inductive D where
  | non | bl (b : Bool) | int (i : Int) | str (x : Str) | obj (a : Addr) | rdl (ns : List Int)
  | tup (ds : List D) | lst (ds : List D)
instance : Inhabited D := ⟨.non⟩

section
variable (K : PySem.W.Frag)
mutual
def Rep (F : Hp) : D → V → Prop
  | .non, v => v = .non
  | .bl b, v => v = .bl b
  | .int i, v => v = .int i
  | .str x, v => v = .str x
  | .obj a, v => v = .ref a
  | .rdl ns, v => ∃ a, v = .ref a ∧ SqL K F a (ns.map V.int)
  | .tup ds, v => ∃ a vs, v = .ref a ∧ SqT K F a vs ∧ Reps F ds vs
  | .lst ds, v => ∃ a vs, v = .ref a ∧ F a = some (.lst vs) ∧ Reps F ds vs
def Reps (F : Hp) : List D → List V → Prop
  | [], [] => True
  | d :: ds, v :: vs => Rep F d v ∧ Reps F ds vs
  | _, _ => False
end
/-- names and data -/
def FReps (F : Hp) : List (Str × D) → List (Str × V) → Prop
  | [], [] => True
  | p :: fs, q :: gs => p.1 = q.1 ∧ Rep K F p.2 q.2 ∧ FReps F fs gs
  | _, _ => False
abbrev DS := List (Option D)
def SRep (F : Hp) : DS → St → Prop
  | [], [] => True
  | none :: r, _ :: s => SRep F r s
  | some d :: r, some v :: s => Rep K F d v ∧ SRep F r s
  | _, _ => False
end

/-- what may change -/
inductive MO where
  | lst (ds : List D) | ins (C : Addr) (fs : List (Str × D))
abbrev Mp := Addr → Option MO
def updM (M : Mp) (a : Addr) (o : MO) : Mp := fun b => if b = a then some o else M b
theorem updM_same {M : Mp} {a : Addr} {o : MO} : updM M a o a = some o := by unfold updM; rw [if_pos rfl]
theorem updM_ne {M : Mp} {a b : Addr} {o : MO} (h : b ≠ a) : updM M a o b = M b := by unfold updM; rw [if_neg h]
theorem updM_updM {M : Mp} {a : Addr} {o u : MO} : updM (updM M a o) a u = updM M a u := by
  funext b; unfold updM; split <;> rfl
theorem updM_comm {M : Mp} {a b : Addr} {o u : MO} (h : a ≠ b) : updM (updM M a o) b u = updM (updM M b u) a o := by
  funext c; unfold updM
  by_cases h1 : c = b
  · subst h1; rw [if_pos rfl, if_neg (Ne.symm h), if_pos rfl]
  · rw [if_neg h1, if_neg h1]
theorem updM_self {M : Mp} {a : Addr} {o : MO} (h : M a = some o) : updM M a o = M := by
  funext b; unfold updM; split
  · rename_i e; rw [e, h]
  · rfl
theorem neM {M : Mp} {a b : Addr} {o : MO} (h : M a = some o) (h' : M b = none) : a ≠ b := by
  intro e; subst e; rw [h] at h'; cases h'

def MRep (K : PySem.W.Frag) (F H : Hp) (a : Addr) : MO → Prop
  | .lst ds => ∃ vs, H a = some (.lst vs) ∧ Reps K F ds vs
  | .ins C fs => ∃ dx gs, H a = some (.ins C dx gs) ∧ F dx = some (.own a) ∧ FReps K F fs gs
/-- M and the frozen part F lie apart within H -/
structure R (K : PySem.W.Frag) (M : Mp) (F H : Hp) : Prop where
  fr : Same F H
  ap : ∀ a mo, M a = some mo → F a = none
  mem : ∀ a mo, M a = some mo → MRep K F H a mo

section
variable {K : PySem.W.Frag} {F F' H H' : Hp} {M : Mp}
theorem sqT_mono (e : Same F F') {a : Addr} {xs : List V} (h : SqT K F a xs) : SqT K F' a xs := by
  rcases h with (h | ⟨o, h⟩) | h
  · exact .inl (.inl (e _ _ h))
  · exact .inl (.inr ⟨o, e _ _ h⟩)
  · exact .inr h
mutual
theorem Rep.mono (e : Same F F') : ∀ {d : D} {v : V}, Rep K F d v → Rep K F' d v
  | .non, _, h => h
  | .bl _, _, h => h
  | .int _, _, h => h
  | .str _, _, h => h
  | .obj _, _, h => h
  | .rdl _, _, h => by
    unfold Rep at h ⊢
    obtain ⟨a, h1, h2⟩ := h
    exact ⟨a, h1, e.seq h2⟩
  | .tup ds, _, h => by
    unfold Rep at h ⊢
    obtain ⟨a, vs, h1, h2, h3⟩ := h
    exact ⟨a, vs, h1, sqT_mono e h2, Reps.mono e h3⟩
  | .lst ds, _, h => by
    unfold Rep at h ⊢
    obtain ⟨a, vs, h1, h2, h3⟩ := h
    exact ⟨a, vs, h1, e _ _ h2, Reps.mono e h3⟩
theorem Reps.mono (e : Same F F') : ∀ {ds : List D} {vs : List V}, Reps K F ds vs → Reps K F' ds vs
  | [], [], _ => by unfold Reps; trivial
  | [], _ :: _, h => by unfold Reps at h; exact h.elim
  | _ :: _, [], h => by unfold Reps at h; exact h.elim
  | d :: ds, v :: vs, h => by
    unfold Reps at h ⊢
    exact ⟨Rep.mono e h.1, Reps.mono e h.2⟩
end
theorem FReps.mono (e : Same F F') : ∀ {fs : List (Str × D)} {gs : List (Str × V)}, FReps K F fs gs → FReps K F' fs gs
  | [], [], _ => trivial
  | [], _ :: _, h => h.elim
  | _ :: _, [], h => h.elim
  | _ :: _, _ :: _, h => ⟨h.1, h.2.1.mono e, h.2.2.mono e⟩
theorem SRep.mono (e : Same F F') : ∀ {σd : DS} {σ : St}, SRep K F σd σ → SRep K F' σd σ
  | [], [], _ => trivial
  | [], _ :: _, h => h.elim
  | none :: _, [], h => h.elim
  | some _ :: _, [], h => h.elim
  | none :: r, _ :: s, h => SRep.mono e (σd := r) (σ := s) h
  | some _ :: _, none :: _, h => h.elim
  | some _ :: _, some _ :: _, h => ⟨h.1.mono e, SRep.mono e h.2⟩
theorem Reps.length : ∀ {ds : List D} {vs : List V}, Reps K F ds vs → ds.length = vs.length
  | [], [], _ => rfl
  | [], _ :: _, h => by unfold Reps at h; exact h.elim
  | _ :: _, [], h => by unfold Reps at h; exact h.elim
  | d :: ds, v :: vs, h => by
    unfold Reps at h
    simp [Reps.length h.2]
theorem Reps.get : ∀ {ds : List D} {vs : List V}, Reps K F ds vs → ∀ {i : Nat} {v : V}, vs[i]? = some v → ∃ d, ds[i]? = some d ∧ Rep K F d v
  | [], [], _, i, v, e => by simp at e
  | [], _ :: _, h, _, _, _ => by unfold Reps at h; exact h.elim
  | _ :: _, [], h, _, _, _ => by unfold Reps at h; exact h.elim
  | d :: ds, v :: vs, h, 0, _, e => by
    unfold Reps at h
    simp at e; subst e
    exact ⟨d, by simp, h.1⟩
  | d :: ds, v :: vs, h, i + 1, _, e => by
    unfold Reps at h
    obtain ⟨d', h1, h2⟩ := Reps.get h.2 (i := i) (by simpa using e)
    exact ⟨d', by simpa using h1, h2⟩
theorem Reps.getD : ∀ {ds : List D} {vs : List V}, Reps K F ds vs → ∀ {i : Nat} {d : D}, ds[i]? = some d → ∃ v, vs[i]? = some v ∧ Rep K F d v
  | [], [], _, i, v, e => by simp at e
  | [], _ :: _, h, _, _, _ => by unfold Reps at h; exact h.elim
  | _ :: _, [], h, _, _, _ => by unfold Reps at h; exact h.elim
  | d :: ds, v :: vs, h, 0, _, e => by
    unfold Reps at h
    simp at e; subst e
    exact ⟨v, by simp, h.1⟩
  | d :: ds, v :: vs, h, i + 1, _, e => by
    unfold Reps at h
    obtain ⟨d', h1, h2⟩ := Reps.getD h.2 (i := i) (by simpa using e)
    exact ⟨d', by simpa using h1, h2⟩
theorem Reps.nil : Reps K F [] [] := by unfold Reps; trivial
theorem Reps.cons {d : D} {v : V} {ds : List D} {vs : List V} (h : Rep K F d v) (t : Reps K F ds vs) : Reps K F (d :: ds) (v :: vs) := by unfold Reps; exact ⟨h, t⟩
theorem Reps.cons_inv {v : V} {ds : List D} {vs : List V} (h : Reps K F ds (v :: vs)) : ∃ d ds', ds = d :: ds' ∧ Rep K F d v ∧ Reps K F ds' vs := by
  cases ds with
  | nil => unfold Reps at h; exact h.elim
  | cons d ds => unfold Reps at h; exact ⟨d, ds, rfl, h⟩
theorem Reps.consD_inv {d : D} {ds : List D} {vs : List V} (h : Reps K F (d :: ds) vs) : ∃ v vs', vs = v :: vs' ∧ Rep K F d v ∧ Reps K F ds vs' := by
  cases vs with
  | nil => unfold Reps at h; exact h.elim
  | cons v vs => unfold Reps at h; exact ⟨v, vs, rfl, h⟩
theorem Reps.nil_inv {vs : List V} (h : Reps K F [] vs) : vs = [] := by
  cases vs with
  | nil => rfl
  | cons v vs => unfold Reps at h; exact h.elim
theorem Reps.nilV_inv {ds : List D} (h : Reps K F ds []) : ds = [] := by
  cases ds with
  | nil => rfl
  | cons v vs => unfold Reps at h; exact h.elim
theorem Reps.append : ∀ {ds es : List D} {vs us : List V}, Reps K F ds vs → Reps K F es us → Reps K F (ds ++ es) (vs ++ us)
  | [], _, vs, _, h, t => by rw [h.nil_inv]; exact t
  | d :: ds, _, vs, _, h, t => by
    obtain ⟨v, vs', rfl, h1, h2⟩ := h.consD_inv
    exact .cons h1 (Reps.append h2 t)
theorem Reps.reverse : ∀ {ds : List D} {vs : List V}, Reps K F ds vs → Reps K F ds.reverse vs.reverse
  | [], vs, h => by rw [h.nil_inv]; exact .nil
  | d :: ds, vs, h => by
    obtain ⟨v, vs', rfl, h1, h2⟩ := h.consD_inv
    rw [List.reverse_cons, List.reverse_cons]
    exact (Reps.reverse h2).append (.cons h1 .nil)
theorem Reps.take : ∀ (n : Nat) {ds : List D} {vs : List V}, Reps K F ds vs → Reps K F (ds.take n) (vs.take n)
  | 0, _, _, _ => by simp; exact .nil
  | n + 1, [], vs, h => by rw [h.nil_inv]; simp; exact .nil
  | n + 1, d :: ds, vs, h => by
    obtain ⟨v, vs', rfl, h1, h2⟩ := h.consD_inv
    simp only [List.take_succ_cons]
    exact .cons h1 (Reps.take n h2)
theorem Reps.drop : ∀ (n : Nat) {ds : List D} {vs : List V}, Reps K F ds vs → Reps K F (ds.drop n) (vs.drop n)
  | 0, _, _, h => by simpa using h
  | n + 1, [], vs, h => by rw [h.nil_inv]; simp; exact .nil
  | n + 1, d :: ds, vs, h => by
    obtain ⟨v, vs', rfl, h1, h2⟩ := h.consD_inv
    simp only [List.drop_succ_cons]
    exact Reps.drop n h2
theorem Reps.dropLast {ds : List D} {vs : List V} (h : Reps K F ds vs) : Reps K F ds.dropLast vs.dropLast := by
  rw [List.dropLast_eq_take, List.dropLast_eq_take, h.length]
  exact h.take _
theorem Reps.set : ∀ {ds : List D} {vs : List V} (i : Nat) {d : D} {v : V}, Reps K F ds vs → Rep K F d v → Reps K F (ds.set i d) (vs.set i v)
  | [], vs, i, _, _, h, _ => by rw [h.nil_inv]; simp; exact .nil
  | d :: ds, vs, 0, _, _, h, t => by
    obtain ⟨v, vs', rfl, h1, h2⟩ := h.consD_inv
    simp only [List.set_cons_zero]
    exact .cons t h2
  | d :: ds, vs, i + 1, _, _, h, t => by
    obtain ⟨v, vs', rfl, h1, h2⟩ := h.consD_inv
    simp only [List.set_cons_succ]
    exact .cons h1 (Reps.set i h2 t)
theorem Reps.ints : ∀ {ns : List Int} , Reps K F (ns.map D.int) (ns.map V.int)
  | [] => .nil
  | n :: ns => .cons (by unfold Rep; rfl) (Reps.ints (ns := ns))
theorem Reps.strs : ∀ {ns : List Str} , Reps K F (ns.map D.str) (ns.map V.str)
  | [] => .nil
  | n :: ns => .cons (by unfold Rep; rfl) (Reps.strs (ns := ns))
theorem Reps.strs_inv : ∀ {ns : List Str} {vs : List V}, Reps K F (ns.map D.str) vs → vs = ns.map V.str
  | [], vs, h => h.nil_inv
  | n :: ns, vs, h => by
    obtain ⟨v, vs', rfl, h1, h2⟩ := Reps.consD_inv h
    unfold Rep at h1
    rw [h1, Reps.strs_inv h2] <;> rfl
theorem FReps.lookup {f : Str} : ∀ {fs : List (Str × D)} {gs : List (Str × V)}, FReps K F fs gs → (∀ d, fs.lookup f = some d → ∃ v, gs.lookup f = some v ∧ Rep K F d v) ∧ (fs.lookup f = none → gs.lookup f = none)
  | [], [], _ => ⟨fun d e => by simp at e, fun _ => rfl⟩
  | [], _ :: _, h => h.elim
  | _ :: _, [], h => h.elim
  | (x, d) :: fs, (y, v) :: gs, h => by
    obtain ⟨e, h1, h2⟩ := h
    dsimp only at e h1
    subst e
    obtain ⟨i1, i2⟩ := FReps.lookup (f := f) h2
    constructor
    · intro d' e
      simp only [List.lookup_cons] at e ⊢
      cases q : (f == x) with
      | true => rw [q] at e; simp at e; subst e; exact ⟨v, by simp, h1⟩
      | false => rw [q] at e; simpa using i1 d' (by simpa using e)
    · intro e
      simp only [List.lookup_cons] at e ⊢
      cases q : (f == x) with
      | true => rw [q] at e; simp at e
      | false => rw [q] at e; simpa using i2 (by simpa using e)
def putD (f : Str) (v : D) : List (Str × D) → List (Str × D)
  | [] => [(f, v)]
  | (g, u) :: r => if g = f then (g, v) :: r else (g, u) :: putD f v r
theorem FReps.put {f : Str} {d : D} {v : V} (hv : Rep K F d v) : ∀ {fs : List (Str × D)} {gs : List (Str × V)}, FReps K F fs gs → FReps K F (putD f d fs) (putF f v gs)
  | [], [], _ => ⟨rfl, hv, trivial⟩
  | [], _ :: _, h => h.elim
  | _ :: _, [], h => h.elim
  | (x, d') :: fs, (y, v') :: gs, h => by
    obtain ⟨e, h1, h2⟩ := h
    dsimp only at e h1
    subst e
    unfold putD putF
    by_cases q : x = f
    · rw [if_pos q, if_pos q]
      exact ⟨rfl, hv, h2⟩
    · rw [if_neg q, if_neg q]
      exact ⟨rfl, h1, FReps.put hv h2⟩
theorem FReps.length : ∀ {fs : List (Str × D)} {gs : List (Str × V)}, FReps K F fs gs → fs.length = gs.length
  | [], [], _ => rfl
  | [], _ :: _, h => h.elim
  | _ :: _, [], h => h.elim
  | _ :: _, _ :: _, h => by simp [FReps.length h.2.2]
theorem SRep.length : ∀ {σd : DS} {σ : St}, SRep K F σd σ → σd.length = σ.length
  | [], [], _ => rfl
  | [], _ :: _, h => h.elim
  | none :: _, [], h => h.elim
  | some _ :: _, [], h => h.elim
  | none :: r, _ :: s, h => by simp [SRep.length (σd := r) (σ := s) h]
  | some _ :: _, none :: _, h => h.elim
  | some _ :: _, some _ :: _, h => by simp [SRep.length h.2]
theorem SRep.get : ∀ {σd : DS} {σ : St}, SRep K F σd σ → ∀ {i : Nat} {d : D}, σd[i]? = some (some d) → ∃ v, σ[i]? = some (some v) ∧ Rep K F d v
  | [], [], _, _, _, e => by simp at e
  | [], _ :: _, h, _, _, _ => h.elim
  | none :: _, [], h, _, _, _ => h.elim
  | some _ :: _, [], h, _, _, _ => h.elim
  | none :: _, _ :: _, h, 0, _, e => by simp at e
  | none :: r, _ :: s, h, i + 1, _, e => by
    obtain ⟨v, h1, h2⟩ := SRep.get (σd := r) (σ := s) h (i := i) (by simpa using e)
    exact ⟨v, by simpa using h1, h2⟩
  | some _ :: _, none :: _, h, _, _, _ => h.elim
  | some _ :: _, some v :: _, h, 0, _, e => by
    simp at e; subst e
    exact ⟨v, by simp, h.1⟩
  | some _ :: _, some _ :: _, h, i + 1, _, e => by
    obtain ⟨v, h1, h2⟩ := SRep.get h.2 (i := i) (by simpa using e)
    exact ⟨v, by simpa using h1, h2⟩
theorem SRep.set : ∀ {σd : DS} {σ : St} (i : Nat) {d : D} {v : V}, SRep K F σd σ → Rep K F d v → SRep K F (σd.set i (some d)) (σ.set i (some v))
  | [], [], _, _, _, _, _ => by simp; trivial
  | [], _ :: _, _, _, _, h, _ => h.elim
  | none :: _, [], _, _, _, h, _ => h.elim
  | some _ :: _, [], _, _, _, h, _ => h.elim
  | none :: r, _ :: s, 0, _, _, h, t => ⟨t, h⟩
  | none :: r, _ :: s, i + 1, _, _, h, t => SRep.set (σd := r) (σ := s) i h t
  | some _ :: _, none :: _, _, _, _, h, _ => h.elim
  | some _ :: _, some v :: _, 0, _, _, h, t => ⟨t, h.2⟩
  | some _ :: _, some v :: _, i + 1, _, _, h, t => ⟨h.1, SRep.set i h.2 t⟩
theorem SRep.forget : ∀ {σd : DS} {σ : St} (i : Nat), SRep K F σd σ → SRep K F (σd.set i none) (σ.set i none)
  | [], [], _, _ => by simp; trivial
  | [], _ :: _, _, h => h.elim
  | none :: _, [], _, h => h.elim
  | some _ :: _, [], _, h => h.elim
  | none :: r, _ :: s, 0, h => h
  | none :: r, _ :: s, i + 1, h => SRep.forget (σd := r) (σ := s) i h
  | some _ :: _, none :: _, _, h => h.elim
  | some _ :: _, some v :: _, 0, h => h.2
  | some _ :: _, some v :: _, i + 1, h => ⟨h.1, SRep.forget i h.2⟩
def wipeD (σ : DS) : List Nat → DS
  | [] => σ
  | v :: vs => (wipeD σ vs).set v none
theorem SRep.wipe {σd : DS} {σ : St} (h : SRep K F σd σ) : ∀ vs : List Nat, SRep K F (wipeD σd vs) (wipe σ vs)
  | [] => h
  | v :: vs => SRep.forget v (SRep.wipe h vs)
theorem SRep.nones : ∀ {n : Nat}, SRep K F (List.replicate n none) (List.replicate n none)
  | 0 => trivial
  | n + 1 => SRep.nones (n := n)
theorem SRep.start_app : ∀ {ds : List D} {vs : List V} {n : Nat}, Reps K F ds vs → SRep K F (ds.map some ++ List.replicate n none) (vs.map some ++ List.replicate n none)
  | [], vs, n, h => by rw [h.nil_inv]; exact SRep.nones
  | d :: ds, vs, n, h => by
    obtain ⟨v, vs', rfl, h1, h2⟩ := h.consD_inv
    exact ⟨h1, SRep.start_app h2⟩
/-- the slots at a def's beginning -/
def startD (N : List Str) (ds : List D) : DS := ds.map some ++ List.replicate (N.length - ds.length) none
theorem SRep.start {N : List Str} {ds : List D} {vs : List V} (h : Reps K F ds vs) : SRep K F (startD N ds) (start N vs) := by
  unfold startD L2.start
  rw [h.length]
  exact SRep.start_app h

/-! ### the heap -/
theorem R.free (r : R K M F H) {p : Addr} (h : H p = none) : M p = none := by
  cases e : M p with
  | none => rfl
  | some mo =>
    have q := r.mem p mo e
    cases mo with
    | lst ds => obtain ⟨vs, q, _⟩ := q; rw [h] at q; cases q
    | ins C fs => obtain ⟨dx, gs, q, _⟩ := q; rw [h] at q; cases q
theorem R.freeF (r : R K M F H) {p : Addr} (h : H p = none) : F p = none := r.fr.free h
theorem same_upd {F : Hp} {p : Addr} {o : HO} (h : F p = none) : Same F (upd F p o) := fun b u e => by
  rw [upd_ne (ne_of_none e h)]; exact e
theorem MRep.mono {a : Addr} {mo : MO} (eF : Same F F') (h : MRep K F H a mo) (eH : H' a = H a) : MRep K F' H' a mo := by
  cases mo with
  | lst ds => obtain ⟨vs, q, r⟩ := h; exact ⟨vs, eH.trans q, r.mono eF⟩
  | ins C fs => obtain ⟨dx, gs, q, r1, r⟩ := h; exact ⟨dx, gs, eH.trans q, eF _ _ r1, r.mono eF⟩
theorem MRep.there {a : Addr} {mo : MO} (h : MRep K F H a mo) : ∃ o, H a = some o := by
  cases mo with
  | lst ds => obtain ⟨vs, q, r⟩ := h; exact ⟨_, q⟩
  | ins C fs => obtain ⟨dx, gs, q, r1, r⟩ := h; exact ⟨_, q⟩
/-- a new object that stays as it is -/
theorem R.newF (r : R K M F H) {p : Addr} (hp : H p = none) (o : HO) : R K M (upd F p o) (upd H p o) where
  fr := fun b u e => by
    by_cases hb : b = p
    · subst hb; rw [upd_same] at e ⊢; exact e
    · rw [upd_ne hb] at e ⊢; exact r.fr b u e
  ap := fun a mo e => by
    rw [upd_ne (neM e (r.free hp))]
    exact r.ap a mo e
  mem := fun a mo e => (r.mem a mo e).mono (same_upd (r.freeF hp)) (upd_ne (neM e (r.free hp)))
/-- a new list that may change -/
theorem R.newM (r : R K M F H) {p : Addr} (hp : H p = none) {ds : List D} {vs : List V} (h : Reps K F ds vs) : R K (updM M p (.lst ds)) F (upd H p (.lst vs)) where
  fr := fun b u e => by rw [upd_ne (ne_of_none e (r.freeF hp))]; exact r.fr b u e
  ap := fun a mo e => by
    by_cases ha : a = p
    · subst ha; exact r.freeF hp
    · rw [updM_ne ha] at e; exact r.ap a mo e
  mem := fun a mo e => by
    by_cases ha : a = p
    · subst ha; rw [updM_same] at e; cases e
      exact ⟨vs, upd_same, h⟩
    · rw [updM_ne ha] at e
      exact (r.mem a mo e).mono (Same.refl F) (upd_ne ha)
/-- a list of M is written -/
theorem R.setM (r : R K M F H) {p : Addr} {mo : MO} (hp : M p = some mo) {ds : List D} {vs : List V} (h : Reps K F ds vs) : R K (updM M p (.lst ds)) F (upd H p (.lst vs)) where
  fr := fun b u e => by rw [upd_ne (ne_of_none e (r.ap p mo hp))]; exact r.fr b u e
  ap := fun a mo' e => by
    by_cases ha : a = p
    · subst ha; exact r.ap _ _ hp
    · rw [updM_ne ha] at e; exact r.ap a mo' e
  mem := fun a mo' e => by
    by_cases ha : a = p
    · subst ha; rw [updM_same] at e; cases e
      exact ⟨vs, upd_same, h⟩
    · rw [updM_ne ha] at e
      exact (r.mem a mo' e).mono (Same.refl F) (upd_ne ha)
theorem R.setI (r : R K M F H) {p : Addr} {mo : MO} (hp : M p = some mo) {C dx : Addr} {fs : List (Str × D)} {gs : List (Str × V)} (hd : F dx = some (.own p)) (h : FReps K F fs gs) : R K (updM M p (.ins C fs)) F (upd H p (.ins C dx gs)) where
  fr := fun b u e => by rw [upd_ne (ne_of_none e (r.ap p mo hp))]; exact r.fr b u e
  ap := fun a mo' e => by
    by_cases ha : a = p
    · subst ha; exact r.ap _ _ hp
    · rw [updM_ne ha] at e; exact r.ap a mo' e
  mem := fun a mo' e => by
    by_cases ha : a = p
    · subst ha; rw [updM_same] at e; cases e
      exact ⟨dx, gs, upd_same, hd, h⟩
    · rw [updM_ne ha] at e
      exact (r.mem a mo' e).mono (Same.refl F) (upd_ne ha)
/-- forgetting -/
theorem R.weak (r : R K M F H) {M' : Mp} (h : ∀ a mo, M' a = some mo → M a = some mo) : R K M' F H where
  fr := r.fr
  ap := fun a mo e => r.ap a mo (h a mo e)
  mem := fun a mo e => r.mem a mo (h a mo e)
/-- a new instance -/
theorem R.newI (r : R K M F H) {x dx C : Addr} (hx : H x = none) (hd : H dx = none) (ne : dx ≠ x) : R K (updM M x (.ins C [])) (upd F dx (.own x)) (upd (upd H dx (.own x)) x (.ins C dx [])) := by
  have r1 := r.newF hd (.own x)
  have hx1 : upd H dx (.own x) x = none := by rw [upd_ne ne.symm]; exact hx
  exact {
    fr := fun b u e => by rw [upd_ne (ne_of_none e (r1.freeF hx1))]; exact r1.fr b u e
    ap := fun a mo e => by
      by_cases ha : a = x
      · subst ha; exact r1.freeF hx1
      · rw [updM_ne ha] at e; exact r1.ap a mo e
    mem := fun a mo e => by
      by_cases ha : a = x
      · subst ha; rw [updM_same] at e; cases e
        exact ⟨dx, [], upd_same, upd_same, trivial⟩
      · rw [updM_ne ha] at e
        exact (r1.mem a mo e).mono (Same.refl _) (upd_ne ha) }
end
end DL
namespace DL
open PySem L2

/-! ### what is wanted -/
abbrev DK := D → Mp → Prop
abbrev DTE := DS → Mp → DK → Prop
abbrev DTT := DS → Mp → (Bool → Mp → Prop) → Prop
abbrev DTA := DS → Mp → (List D → Mp → Prop) → Prop
structure DEnds where
  nx : DS → Mp → Prop
  rt : DK
  bk : DS → Mp → Prop := fun _ _ => False
  ct : DS → Mp → Prop := fun _ _ => False
abbrev DTS := DEnds → DS → Mp → Prop
abbrev DTG := D → DS → Mp → (DS → Mp → Prop) → Prop
abbrev DTGs := List D → DS → Mp → (DS → Mp → Prop) → Prop
abbrev DR2 := D → D → Mp → DK → Prop
abbrev DR1 := D → Mp → DK → Prop
abbrev DRC := List D → Mp → DK → Prop
abbrev DRM := D → List D → Mp → DK → Prop

section
variable (K : PySem.W.Frag) (F0 : Hp)
def Fin (F : Hp) (Qd : DK) (Q : VK) : Prop := ∀ d M v H F', Qd d M → Same F F' → R K M F' H → Rep K F' d v → Q v H
def FinB (F : Hp) (Qd : Bool → Mp → Prop) (Q : Bool → Hp → Prop) : Prop := ∀ b M H F', Qd b M → Same F F' → R K M F' H → Q b H
def FinA (F : Hp) (Qd : List D → Mp → Prop) (Q : List V → Hp → Prop) : Prop := ∀ ds M vs H F', Qd ds M → Same F F' → R K M F' H → Reps K F' ds vs → Q vs H
def FinS (F : Hp) (Qd : DS → Mp → Prop) (Q : St → Hp → Prop) : Prop := ∀ σd M σ H F', Qd σd M → Same F F' → R K M F' H → SRep K F' σd σ → Q σ H
structure FinE (F : Hp) (Dd : DEnds) (D : Ends) : Prop where
  nx : FinS K F Dd.nx D.nx
  rt : Fin K F Dd.rt D.rt
  bk : FinS K F Dd.bk D.bk
  ct : FinS K F Dd.ct D.ct
def LE (τ : DTE) : TE := fun σ H Q => ∃ σd M F Qd, Same F0 F ∧ R K M F H ∧ SRep K F σd σ ∧ τ σd M Qd ∧ Fin K F Qd Q
def LT (τ : DTT) : TT := fun σ H Q => ∃ σd M F Qd, Same F0 F ∧ R K M F H ∧ SRep K F σd σ ∧ τ σd M Qd ∧ FinB K F Qd Q
def LA (τ : DTA) : TA := fun σ H Q => ∃ σd M F Qd, Same F0 F ∧ R K M F H ∧ SRep K F σd σ ∧ τ σd M Qd ∧ FinA K F Qd Q
def LS (τ : DTS) : TS := fun D σ H => ∃ σd M F Dd, Same F0 F ∧ R K M F H ∧ SRep K F σd σ ∧ τ Dd σd M ∧ FinE K F Dd D
def LG (τ : DTG) : TG := fun v σ H Q => ∃ d σd M F Qd, Same F0 F ∧ R K M F H ∧ Rep K F d v ∧ SRep K F σd σ ∧ τ d σd M Qd ∧ FinS K F Qd Q
def LGs (τ : DTGs) : TGs := fun vs σ H Q => ∃ ds σd M F Qd, Same F0 F ∧ R K M F H ∧ Reps K F ds vs ∧ SRep K F σd σ ∧ τ ds σd M Qd ∧ FinS K F Qd Q
def LR (r : DR2) : R2 := fun v u H Q => ∃ x y M F Qd, Same F0 F ∧ R K M F H ∧ Rep K F x v ∧ Rep K F y u ∧ r x y M Qd ∧ Fin K F Qd Q
def LR1 (r : DR1) : V → Hp → VK → Prop := fun v H Q => ∃ x M F Qd, Same F0 F ∧ R K M F H ∧ Rep K F x v ∧ r x M Qd ∧ Fin K F Qd Q
def LRC (r : DRC) : List V → Hp → VK → Prop := fun vs H Q => ∃ xs M F Qd, Same F0 F ∧ R K M F H ∧ Reps K F xs vs ∧ r xs M Qd ∧ Fin K F Qd Q
def LRM (r : DRM) : V → List V → Hp → VK → Prop := fun v vs H Q => ∃ x xs M F Qd, Same F0 F ∧ R K M F H ∧ Rep K F x v ∧ Reps K F xs vs ∧ r x xs M Qd ∧ Fin K F Qd Q
end
section
variable {K : PySem.W.Frag} {F F' : Hp}
theorem Fin.mono {Qd : DK} {Q : VK} (f : Fin K F Qd Q) (e : Same F F') : Fin K F' Qd Q := fun d M v H F2 q e2 => f d M v H F2 q (e.trans e2)
theorem FinB.mono {Qd : Bool → Mp → Prop} {Q : Bool → Hp → Prop} (f : FinB K F Qd Q) (e : Same F F') : FinB K F' Qd Q := fun d M H F2 q e2 => f d M H F2 q (e.trans e2)
theorem FinA.mono {Qd : List D → Mp → Prop} {Q : List V → Hp → Prop} (f : FinA K F Qd Q) (e : Same F F') : FinA K F' Qd Q := fun d M v H F2 q e2 => f d M v H F2 q (e.trans e2)
theorem FinS.mono {Qd : DS → Mp → Prop} {Q : St → Hp → Prop} (f : FinS K F Qd Q) (e : Same F F') : FinS K F' Qd Q := fun d M v H F2 q e2 => f d M v H F2 q (e.trans e2)
theorem FinE.mono {Dd : DEnds} {D : Ends} (f : FinE K F Dd D) (e : Same F F') : FinE K F' Dd D := ⟨f.nx.mono e, f.rt.mono e, f.bk.mono e, f.ct.mono e⟩
/-- the end is reached with a value at hand -/
theorem Fin.go {Qd : DK} {Q : VK} (f : Fin K F Qd Q) {d : D} {M : Mp} {v : V} {H : Hp} (q : Qd d M) (r : R K M F H) (h : Rep K F d v) : Q v H := f d M v H F q (Same.refl F) r h
end

section
variable {X : Cx} {F0 : Hp}
abbrev DE (X : Cx) (F0 : Hp) (e : Expr) (τ : DTE) : Prop := PE X e (LE X.K F0 τ)
abbrev DT (X : Cx) (F0 : Hp) (e : Expr) (τ : DTT) : Prop := PT X e (LT X.K F0 τ)
abbrev DW (X : Cx) (F0 : Hp) (e : Expr) (τ : DTT) : Prop := PW X e (LT X.K F0 τ)
abbrev DA (X : Cx) (F0 : Hp) (es : List Expr) (τ : DTA) : Prop := PA X es (LA X.K F0 τ)
abbrev DSt (X : Cx) (F0 : Hp) (st : Stmt) (τ : DTS) : Prop := PS X st (LS X.K F0 τ)
abbrev DSs (X : Cx) (F0 : Hp) (st : List Stmt) (τ : DTS) : Prop := PSs X st (LS X.K F0 τ)
abbrev DG (X : Cx) (F0 : Hp) (t : Expr) (τ : DTG) : Prop := PG X t (LG X.K F0 τ)
abbrev DGs (X : Cx) (F0 : Hp) (ts : List Expr) (τ : DTGs) : Prop := PGs X ts (LGs X.K F0 τ)
theorem PE_imp {e : Expr} {t t' : TE} (h : PE X e t) (i : ∀ σ H Q, t' σ H Q → t σ H Q) : PE X e t' := ⟨fun pins s σ H Q I q => h.run pins s σ H Q I (i σ H Q q)⟩
theorem PT_imp {e : Expr} {t t' : TT} (h : PT X e t) (i : ∀ σ H Q, t' σ H Q → t σ H Q) : PT X e t' := ⟨fun pins s σ H Q I q => h.run pins s σ H Q I (i σ H Q q)⟩
theorem PW_imp {e : Expr} {t t' : TT} (h : PW X e t) (i : ∀ σ H Q, t' σ H Q → t σ H Q) : PW X e t' := ⟨fun wh pins s σ H Q I q => h.run wh pins s σ H Q I (i σ H Q q)⟩
theorem PA_imp {es : List Expr} {t t' : TA} (h : PA X es t) (i : ∀ σ H Q, t' σ H Q → t σ H Q) : PA X es t' := ⟨fun pos pins s σ H Q I q => h.run pos pins s σ H Q I (i σ H Q q)⟩
theorem PS_imp {st : Stmt} {t t' : TS} (h : PS X st t) (i : ∀ D σ H, t' D σ H → t D σ H) : PS X st t' := ⟨fun pins s σ H D I q => h.run pins s σ H D I (i D σ H q)⟩
theorem PSs_imp {st : List Stmt} {t t' : TS} (h : PSs X st t) (i : ∀ D σ H, t' D σ H → t D σ H) : PSs X st t' := ⟨fun pins s σ H D I q => h.run pins s σ H D I (i D σ H q)⟩
theorem PG_imp {tg : Expr} {t t' : TG} (h : PG X tg t) (i : ∀ v σ H Q, t' v σ H Q → t v σ H Q) : PG X tg t' := ⟨fun pins s σ H v u Q I r q => h.run pins s σ H v u Q I r (i v σ H Q q)⟩
theorem PGs_imp {tg : List Expr} {t t' : TGs} (h : PGs X tg t) (i : ∀ v σ H Q, t' v σ H Q → t v σ H Q) : PGs X tg t' := ⟨fun pins s σ H v u Q I r q => h.run pins s σ H v u Q I r (i v σ H Q q)⟩
theorem OpR_imp {f : Value → Value → Sem Value} {r r' : R2} (h : OpR X f r) (i : ∀ x y H Q, r' x y H Q → r x y H Q) : OpR X f r' := fun pins s σ H x y v u Q I rx ry q => h pins s σ H x y v u Q I rx ry (i x y H Q q)
theorem CallR_imp {f : Value} {r r' : List V → Hp → VK → Prop} (h : CallR X f r) (i : ∀ x H Q, r' x H Q → r x H Q) : CallR X f r' := fun pins s σ H x us Q I rx q => h pins s σ H x us Q I rx (i x H Q q)
theorem MtR_imp {id : String} {r r' : V → List V → Hp → VK → Prop} (h : MtR X id r) (i : ∀ x xs H Q, r' x xs H Q → r x xs H Q) : MtR X id r' := fun pins s σ H x xs v us Q I rx rv q => h pins s σ H x xs v us Q I rx rv (i x xs H Q q)
theorem IxR_imp {r r' : R2} (h : IxR X r) (i : ∀ x y H Q, r' x y H Q → r x y H Q) : IxR X r' := fun va sl pins s σ H x y v u Q I rx ry q hs => h va sl pins s σ H x y v u Q I rx ry (i x y H Q q) hs
theorem UnR_imp {f : Value → Sem Value} {r r' : V → Hp → VK → Prop} (h : UnR X f r) (i : ∀ x H Q, r' x H Q → r x H Q) : UnR X f r' := fun pins s σ H x v Q I rx q => h pins s σ H x v Q I rx (i x H Q q)

/-! ### representations turned round -/
section
variable {K : PySem.W.Frag} {F H : Hp} {M : Mp} {v : V}
theorem rep_int {i : Int} : Rep K F (.int i) v ↔ v = .int i := by unfold Rep; rfl
theorem rep_str {i : Str} : Rep K F (.str i) v ↔ v = .str i := by unfold Rep; rfl
theorem rep_bl {i : Bool} : Rep K F (.bl i) v ↔ v = .bl i := by unfold Rep; rfl
theorem rep_non : Rep K F .non v ↔ v = .non := by unfold Rep; rfl
theorem rep_obj {a : Addr} : Rep K F (.obj a) v ↔ v = .ref a := by unfold Rep; rfl
theorem rep_tup {ds : List D} : Rep K F (.tup ds) v ↔ ∃ a vs, v = .ref a ∧ SqT K F a vs ∧ Reps K F ds vs := by unfold Rep; rfl
theorem rep_lst {ds : List D} : Rep K F (.lst ds) v ↔ ∃ a vs, v = .ref a ∧ F a = some (.lst vs) ∧ Reps K F ds vs := by unfold Rep; rfl
theorem rep_rdl {ns : List Int} : Rep K F (.rdl ns) v ↔ ∃ a, v = .ref a ∧ SqL K F a (ns.map V.int) := by unfold Rep; rfl
theorem sqL_up (r : R K M F H) {a : Addr} {xs : List V} (h : SqL K F a xs) : SqL K H a xs := r.fr.seq h
theorem sqT_up (r : R K M F H) {a : Addr} {xs : List V} (h : SqT K F a xs) : SqT K H a xs := sqT_mono r.fr h
/-- the items of a list, frozen or not -/
def lsD (M : Mp) : D → Option (List D)
  | .lst ds => some ds
  | .obj p => (match M p with
    | some (.lst ds) => some ds
    | _ => none)
  | _ => none
theorem lsD_obj {p : Addr} {ds : List D} : lsD M (.obj p) = some ds ↔ M p = some (.lst ds) := by
  unfold lsD
  dsimp only
  split
  · rename_i e; rw [e]; simp
  · rename_i e; constructor
    · intro q; cases q
    · intro q; exact (e ds q).elim
theorem lsD_rep (r : R K M F H) {x : D} {ds : List D} (h : Rep K F x v) (e : lsD M x = some ds) : ∃ a vs, v = .ref a ∧ H a = some (.lst vs) ∧ Reps K F ds vs := by
  cases x with
  | lst es =>
    cases e
    obtain ⟨a, vs, h1, h2, h3⟩ := rep_lst.mp h
    exact ⟨a, vs, h1, r.fr _ _ h2, h3⟩
  | obj p =>
    have q := lsD_obj.mp e
    obtain ⟨vs, h1, h2⟩ := r.mem p _ q
    exact ⟨p, vs, rep_obj.mp h, h1, h2⟩
  | _ => cases e
/-- .. a list that is only read, a tuple too -/
def sqD (M : Mp) : D → Option (List D)
  | .lst ds => some ds
  | .tup ds => some ds
  | .rdl ns => some (ns.map D.int)
  | .obj p => (match M p with
    | some (.lst ds) => some ds
    | _ => none)
  | _ => none
theorem sqD_rep (r : R K M F H) {x : D} {ds : List D} (h : Rep K F x v) (e : sqD M x = some ds) : ∃ a vs, v = .ref a ∧ (SqL K H a vs ∨ SqT K H a vs) ∧ Reps K F ds vs := by
  cases x with
  | lst es =>
    cases e
    obtain ⟨a, vs, h1, h2, h3⟩ := rep_lst.mp h
    exact ⟨a, vs, h1, .inl (SqL.of (r.fr _ _ h2)), h3⟩
  | tup es =>
    cases e
    obtain ⟨a, vs, h1, h2, h3⟩ := rep_tup.mp h
    exact ⟨a, vs, h1, .inr (sqT_up r h2), h3⟩
  | rdl ns =>
    cases e
    obtain ⟨a, h1, h2⟩ := rep_rdl.mp h
    exact ⟨a, _, h1, .inl (sqL_up r h2), Reps.ints⟩
  | obj p =>
    have q : M p = some (.lst ds) := by
      unfold sqD at e
      cases h : M p with
      | none => simp [h] at e
      | some mo => cases mo <;> simp [h] at e; rw [e]
    obtain ⟨vs, h1, h2⟩ := r.mem p _ q
    exact ⟨p, vs, rep_obj.mp h, .inl (SqL.of h1), h2⟩
  | _ => cases e
end

/-- a new list: one that may change (own), or one that stays -/
def dNew (own : Bool) (ds : List D) (M : Mp) (Q : DK) : Prop :=
  match own with
  | true => ∀ p, M p = none → Q (.obj p) (updM M p (.lst ds))
  | false => Q (.lst ds) M
theorem dNew_fin {K : PySem.W.Frag} {F H : Hp} {M : Mp} {own : Bool} {ds : List D} {vs : List V} {Qd : DK} {Q : VK} (r : R K M F H) (hv : Reps K F ds vs) (h : dNew own ds M Qd) (fin : Fin K F Qd Q) {p : Addr} (hp : H p = none) : Q (.ref p) (upd H p (.lst vs)) := by
  cases own with
  | true => exact fin _ _ _ _ F (h p (r.free hp)) (Same.refl F) (r.newM hp hv) (rep_obj.mpr rfl)
  | false =>
    have e := same_upd (o := HO.lst vs) (r.freeF hp)
    exact fin _ _ _ _ _ h e (r.newF hp _) (rep_lst.mpr ⟨p, vs, rfl, upd_same, hv.mono e⟩)
theorem tup_fin {K : PySem.W.Frag} {F H : Hp} {M : Mp} {ds : List D} {vs : List V} {Qd : DK} {Q : VK} (r : R K M F H) (hv : Reps K F ds vs) (h : Qd (.tup ds) M) (fin : Fin K F Qd Q) {p : Addr} (hp : H p = none) : Q (.ref p) (upd H p (.tup vs)) := by
  have e := same_upd (o := HO.tup vs) (r.freeF hp)
  exact fin _ _ _ _ _ h e (r.newF hp _) (rep_tup.mpr ⟨p, vs, rfl, SqT.of upd_same, hv.mono e⟩)

/-! ### names, constants -/
def dVar (i : Nat) : DTE := fun σ M Q => match σ[i]? with
  | some (some d) => Q d M
  | _ => False
def dC (d : D) : DTE := fun _ M Q => Q d M
theorem de_var {i : Nat} {x : Str} {pos : Pos} (h : PE X (.Name x pos) (tVar i)) : DE X F0 (.Name x pos) (dVar i) := PE_imp h fun σ H Q ⟨σd, M, F, Qd, hF, r, hS, h, fin⟩ => by
  unfold dVar at h
  split at h
  · rename_i d e
    obtain ⟨v, e1, e2⟩ := hS.get e
    exact ⟨v, e1, fin.go h r e2⟩
  · exact h.elim
theorem de_c {e : Expr} {v : V} {d : D} (h : PE X e (tC v)) (hd : ∀ K F, Rep K F d v) : DE X F0 e (dC d) := PE_imp h fun σ H Q ⟨σd, M, F, Qd, hF, r, hS, h, fin⟩ => fin.go h r (hd _ _)
theorem de_int {i j pos} : DE X F0 (.Constant (.int i) j pos) (dC (.int i)) := de_c pe_int fun _ _ => rep_int.mpr rfl
theorem de_bl {i j pos} : DE X F0 (.Constant (.bool i) j pos) (dC (.bl i)) := de_c pe_bl fun _ _ => rep_bl.mpr rfl
theorem de_str {i j pos} : DE X F0 (.Constant (.str i) j pos) (dC (.str i)) := de_c pe_str fun _ _ => rep_str.mpr rfl
theorem de_non {j pos} : DE X F0 (.Constant .none j pos) (dC .non) := de_c pe_non fun _ _ => rep_non.mpr rfl
/-- a tuple of the module -/
theorem de_gtup {x : Str} {pos : Pos} {a : Addr} {ds : List D} {vs : List V} (hg : Gl X x) (hm : X.mg x = some (.ref a)) (hq : ∀ H, SqT X.K H a vs) (hv : ∀ F, Reps X.K F ds vs) (hd : (x == ("__debug__" : Str)) = false := by decide) : DE X F0 (.Name x pos) (dC (.tup ds)) :=
  PE_imp (pe_glob (v := .ref a) hg hm rfl hd) fun σ H Q ⟨σd, M, F, Qd, hF, r, hS, h, fin⟩ => fin.go h r (rep_tup.mpr ⟨a, vs, rfl, hq F, hv F⟩)
theorem de_gstr {x : Str} {pos : Pos} {z : Str} {t : Tok} (hg : Gl X x) (hm : X.mg x = some (.str z t)) (hd : (x == ("__debug__" : Str)) = false := by decide) : DE X F0 (.Name x pos) (dC (.str z)) :=
  PE_imp (pe_glob (v := .str z) hg hm ⟨_, rfl⟩ hd) fun σ H Q ⟨σd, M, F, Qd, hF, r, hS, h, fin⟩ => fin.go h r (rep_str.mpr rfl)
theorem de_gint {x : Str} {pos : Pos} {z : Int} {t : Tok} (hg : Gl X x) (hm : X.mg x = some (.int z t)) (hd : (x == ("__debug__" : Str)) = false := by decide) : DE X F0 (.Name x pos) (dC (.int z)) :=
  PE_imp (pe_glob (v := .int z) hg hm ⟨_, rfl⟩ hd) fun σ H Q ⟨σd, M, F, Qd, hF, r, hS, h, fin⟩ => fin.go h r (rep_int.mpr rfl)

/-! ### operators -/
variable {a b c e : Expr} {ta tb tc te : DTE} {pos : Pos}
def dOp (r : DR2) (ta tb : DTE) : DTE := fun σ M Q => ta σ M fun x M1 => tb σ M1 fun y M2 => r x y M2 Q
def dUn (r : DR1) (ta : DTE) : DTE := fun σ M Q => ta σ M fun x M1 => r x M1 Q
theorem lift_op {K : PySem.W.Frag} {r : DR2} {σ : St} {H : Hp} {Q : VK} (h : LE K F0 (dOp r ta tb) σ H Q) : tOp (LR K F0 r) (LE K F0 ta) (LE K F0 tb) σ H Q := by
  obtain ⟨σd, M, F, Qd, hF, hR, hS, h, fin⟩ := h
  refine ⟨σd, M, F, _, hF, hR, hS, h, fun x M1 v H1 F1 h1 e1 r1 v1 => ?_⟩
  refine ⟨σd, M1, F1, _, hF.trans e1, r1, hS.mono e1, h1, fun y M2 w H2 F2 h2 e2 r2 w2 => ?_⟩
  exact ⟨x, y, M2, F2, Qd, (hF.trans e1).trans e2, r2, v1.mono e2, w2, h2, fin.mono (e1.trans e2)⟩
theorem de_op {op : Operator} {r : DR2} (ho : OpR X (binaryOp op) (LR X.K F0 r)) (ha : DE X F0 a ta) (hb : DE X F0 b tb) : DE X F0 (.BinOp a op b pos) (dOp r ta tb) :=
  PE_imp (pe_op ho ha hb) fun _ _ _ h => lift_op h
theorem de_un {op : UnaryOp} {r : DR1} (ho : UnR X (unaryOp op) (LR1 X.K F0 r)) (ha : DE X F0 a ta) : DE X F0 (.UnaryOp op a pos) (dUn r ta) :=
  PE_imp (pe_un ho ha) fun _ _ _ ⟨σd, M, F, Qd, hF, hR, hS, h, fin⟩ => ⟨σd, M, F, _, hF, hR, hS, h, fun x M1 v H1 F1 h1 e1 r1 v1 => ⟨x, M1, F1, Qd, hF.trans e1, r1, v1, h1, fin.mono e1⟩⟩

def dAdd (own : Bool) : DR2 := fun x y M Q => match x, y with
  | .int i, .int j => Q (.int (i + j)) M
  | .str a, .str b => a.length + b.length ≤ sizeLine ∧ Q (.str (a ++ b)) M
  | .tup a, .tup b => a.length + b.length ≤ sizeLine ∧ Q (.tup (a ++ b)) M
  | x, y => ∃ a b, lsD M x = some a ∧ lsD M y = some b ∧ a.length + b.length ≤ sizeLine ∧ dNew own (a ++ b) M Q
theorem od_add {own : Bool} : OpR X (binaryOp .Add) (LR X.K F0 (dAdd own)) := by
  refine OpR_imp (op_add.or (op_add_str.or (op_catA.or op_cat))) fun v u H Q ⟨x, y, M, F, Qd, hF, r, hx, hy, h, fin⟩ => ?_
  unfold dAdd at h
  split at h
  · exact .inl ⟨_, _, rep_int.mp hx, rep_int.mp hy, fin.go h r (rep_int.mpr rfl)⟩
  · exact .inr (.inl ⟨_, _, rep_str.mp hx, rep_str.mp hy, h.1, fin.go h.2 r (rep_str.mpr rfl)⟩)
  · rename_i as bs
    obtain ⟨p, vs, e1, h1, r1⟩ := rep_tup.mp hx
    obtain ⟨q, us, e2, h2, r2⟩ := rep_tup.mp hy
    refine .inr (.inr (.inl ⟨p, q, vs, us, e1, e2, sqT_up r h1, sqT_up r h2, by rw [← r1.length, ← r2.length]; exact h.1, fun ev => ?_, fun ev eu => ?_, fun ev eu p' hp' => tup_fin r (r1.append r2) h.2 fin hp'⟩))
    · subst ev
      have := r1.nilV_inv
      subst this
      exact fin.go h.2 r (rep_tup.mpr ⟨q, us, rfl, h2, r2⟩)
    · subst eu
      have := r2.nilV_inv
      subst this
      have h' := h.2
      rw [List.append_nil] at h'
      exact fin.go h' r (rep_tup.mpr ⟨p, vs, rfl, h1, r1⟩)
  · obtain ⟨as, bs, ea, eb, hz, h⟩ := h
    obtain ⟨p, vs, e1, h1, r1⟩ := lsD_rep r hx ea
    obtain ⟨q, us, e2, h2, r2⟩ := lsD_rep r hy eb
    exact .inr (.inr (.inr ⟨p, q, vs, us, e1, e2, h1, h2, by rw [← r1.length, ← r2.length]; exact hz, fun p' hp' => dNew_fin r (r1.append r2) h fin hp'⟩))
def dSub : DR2 := fun x y M Q => match x, y with
  | .int i, .int j => Q (.int (i - j)) M
  | _, _ => False
theorem od_sub : OpR X (binaryOp .Sub) (LR X.K F0 dSub) := by
  refine OpR_imp op_sub fun v u H Q ⟨x, y, M, F, Qd, hF, r, hx, hy, h, fin⟩ => ?_
  unfold dSub at h
  split at h
  · exact ⟨_, _, rep_int.mp hx, rep_int.mp hy, fin.go h r (rep_int.mpr rfl)⟩
  · exact h.elim
theorem op_mul_str : OpR X (binaryOp .Mult) (fun x y H Q => ∃ z n, x = .str z ∧ y = .int n ∧ MulOk z n ∧ Q (.str (Txt.mul z n)) H) := by
  intro pins s σ H x y v u Q I rx ry h
  obtain ⟨z, n, rfl, rfl, hm, q⟩ := h
  obtain ⟨t, rfl⟩ := rx
  obtain ⟨t', rfl⟩ := ry
  exact SB.mul hm fun t2 k => ⟨.str _, H, I.tok _, ⟨_, rfl⟩, q⟩
def dMul (own : Bool) : DR2 := fun x y M Q => match x, y with
  | .int i, .int j => CMul i j ∧ Q (.int (i * j)) M
  | .str a, .int n => MulOk a n ∧ Q (.str (Txt.mul a n)) M
  | x, .int k => ∃ a, lsD M x = some a ∧ -(2 ^ 63) ≤ k ∧ k < 2 ^ 63 ∧ a.length * k.toNat ≤ sizeLine ∧ dNew own (List.replicate k.toNat a).flatten M Q
  | _, _ => False
theorem Reps.rep {K : PySem.W.Frag} {F : Hp} {ds : List D} {vs : List V} (h : Reps K F ds vs) : ∀ k : Nat, Reps K F (List.replicate k ds).flatten (List.replicate k vs).flatten
  | 0 => .nil
  | k + 1 => by
    rw [List.replicate_succ, List.flatten_cons, List.replicate_succ, List.flatten_cons]
    exact h.append (Reps.rep h k)
theorem od_mul {own : Bool} : OpR X (binaryOp .Mult) (LR X.K F0 (dMul own)) := by
  refine OpR_imp (op_mul.or (op_mul_str.or op_rep)) fun v u H Q ⟨x, y, M, F, Qd, hF, r, hx, hy, h, fin⟩ => ?_
  unfold dMul at h
  split at h
  · exact .inl ⟨_, _, rep_int.mp hx, rep_int.mp hy, h.1, fin.go h.2 r (rep_int.mpr rfl)⟩
  · exact .inr (.inl ⟨_, _, rep_str.mp hx, rep_int.mp hy, h.1, fin.go h.2 r (rep_str.mpr rfl)⟩)
  · obtain ⟨as, ea, h1, h2, h3, h⟩ := h
    obtain ⟨p, vs, e1, q1, r1⟩ := lsD_rep r hx ea
    exact .inr (.inr ⟨p, _, vs, e1, rep_int.mp hy, q1, h1, h2, by rw [← r1.length]; exact h3, fun p' hp' => dNew_fin r (r1.rep _) h fin hp'⟩)
  · exact h.elim
def dDiv : DR2 := fun x y M Q => match x, y with
  | .int i, .int j => (0 < j ∧ j < 1073741824) ∧ Q (.int (i / j)) M
  | _, _ => False
theorem od_div : OpR X (binaryOp .FloorDiv) (LR X.K F0 dDiv) := by
  refine OpR_imp op_fdiv fun v u H Q ⟨x, y, M, F, Qd, hF, r, hx, hy, h, fin⟩ => ?_
  unfold dDiv at h
  split at h
  · exact ⟨_, _, rep_int.mp hx, rep_int.mp hy, h.1, fin.go h.2 r (rep_int.mpr rfl)⟩
  · exact h.elim
def dMod : DR2 := fun x y M Q => match x, y with
  | .int i, .int j => 0 < j ∧ Q (.int (i % j)) M
  | _, _ => False
theorem od_mod : OpR X (binaryOp .Mod) (LR X.K F0 dMod) := by
  refine OpR_imp op_mod fun v u H Q ⟨x, y, M, F, Qd, hF, r, hx, hy, h, fin⟩ => ?_
  unfold dMod at h
  split at h
  · exact ⟨_, _, rep_int.mp hx, rep_int.mp hy, h.1, fin.go h.2 r (rep_int.mpr rfl)⟩
  · exact h.elim
def dPow : DR2 := fun x y M Q => match x, y with
  | .int i, .int j => (0 ≤ j ∧ j ≤ 1000000 ∧ i.natAbs < 2 ^ 64) ∧ Q (.int (i ^ j.toNat)) M
  | _, _ => False
theorem od_pow : OpR X (binaryOp .Pow) (LR X.K F0 dPow) := by
  refine OpR_imp op_pow fun v u H Q ⟨x, y, M, F, Qd, hF, r, hx, hy, h, fin⟩ => ?_
  unfold dPow at h
  split at h
  · exact ⟨_, _, rep_int.mp hx, rep_int.mp hy, h.1, fin.go h.2 r (rep_int.mpr rfl)⟩
  · exact h.elim
def dNeg : DR1 := fun x M Q => match x with
  | .int i => Q (.int (-i)) M
  | _ => False
theorem ud_neg : UnR X (unaryOp .USub) (LR1 X.K F0 dNeg) := by
  refine UnR_imp un_neg fun v H Q ⟨x, M, F, Qd, hF, r, hx, h, fin⟩ => ?_
  unfold dNeg at h
  split at h
  · exact ⟨_, rep_int.mp hx, fin.go h r (rep_int.mpr rfl)⟩
  · exact h.elim

/-! ### comparisons -/
theorem de_cmp {op : CmpOp} {r : DR2} (ho : OpR X (compareOp op) (LR X.K F0 r)) (ha : DE X F0 a ta) (hb : DE X F0 b tb) (hm : behindInMarks op b = false) : DE X F0 (.Compare a [op] [b] pos) (dOp r ta tb) :=
  PE_imp (pe_cmpR ho ha hb hm) fun _ _ _ h => lift_op h
/-- a bool as a test -/
def dB (t : DTE) : DTT := fun σ M Q => t σ M fun x M1 => match x with
  | .bl b => Q b M1
  | _ => False
theorem dt_cmp {op : CmpOp} {r : DR2} (ho : OpR X (compareOp op) (LR X.K F0 r)) (ha : DE X F0 a ta) (hb : DE X F0 b tb) (hm : behindInMarks op b = false) : DT X F0 (.Compare a [op] [b] pos) (dB (dOp r ta tb)) :=
  PT_imp (pt_cmpR ho ha hb hm) fun σ H Q ⟨σd, M, F, Qd, hF, hR, hS, h, fin⟩ => lift_op ⟨σd, M, F, _, hF, hR, hS, h, fun x M1 v H1 F1 h1 e1 r1 v1 => by
    split at h1
    · exact ⟨_, rep_bl.mp v1, fin _ _ _ _ h1 e1 r1⟩
    · exact h1.elim⟩
/-- an expression whose value is a bool (a call, a name), as a test -/
theorem dt_val {t : DTE} (h : DE X F0 e t) (he : ∀ whole, isTrue e X.env whole = (do let v ← whole; standAt e.pos; holding [v] (truthy v)) := by intro _; rfl) : DT X F0 e (dB t) :=
  PT_imp (pt_val h he) fun σ H Q ⟨σd, M, F, Qd, hF, hR, hS, h, fin⟩ => ⟨σd, M, F, _, hF, hR, hS, h, fun x M1 v H1 F1 h1 e1 r1 v1 => by
    split at h1
    · exact ⟨_, rep_bl.mp v1, fin _ _ _ _ h1 e1 r1⟩
    · exact h1.elim⟩
/-- the truth of data -/
def truD (x : D) (M : Mp) : Option Bool := match x with
  | .non => some false
  | .bl b => some b
  | .int i => some (i != 0)
  | .str y => if y.length ≤ sizeLine then some ((y.length : Int) != 0) else none
  | x => (sqD M x).map fun ds => !ds.isEmpty
def dTru (t : DTE) : DTT := fun σ M Q => t σ M fun x M1 => ∃ b, truD x M1 = some b ∧ Q b M1
theorem isEmpty_reps {K : PySem.W.Frag} {F : Hp} {ds : List D} {vs : List V} (h : Reps K F ds vs) : vs.isEmpty = ds.isEmpty := by
  cases ds with
  | nil => rw [h.nil_inv] <;> rfl
  | cons d ds => obtain ⟨v, vs', rfl, _⟩ := h.consD_inv; rfl
theorem truD_ok {K : PySem.W.Frag} {F H : Hp} {M : Mp} (r : R K M F H) {x : D} {v : V} {b : Bool} (h : Rep K F x v) (e : truD x M = some b) : TruV K v H b := by
  have sq : ∀ x : D, Rep K F x v → (sqD M x).map (fun ds => !ds.isEmpty) = some b → TruV K v H b := fun x h e => by
    obtain ⟨ds, e1, e2⟩ := Option.map_eq_some_iff.mp e
    obtain ⟨a, vs, rfl, hq, hr⟩ := sqD_rep r h e1
    rw [← isEmpty_reps hr] at e2
    rcases hq with hq | hq
    · exact .inl ⟨vs, hq, e2.symm⟩
    · exact .inr (.inl ⟨vs, hq, e2.symm⟩)
  cases x with
  | non => cases rep_non.mp h; cases e; rfl
  | bl b => cases rep_bl.mp h; cases e; rfl
  | int i => cases rep_int.mp h; cases e; rfl
  | str y =>
    cases rep_str.mp h
    unfold truD at e
    dsimp only at e
    split at e
    · rename_i hz
      cases e
      exact ⟨hz, rfl⟩
    · cases e
  | obj a => exact sq _ h e
  | rdl a => exact sq _ h e
  | tup a => exact sq _ h e
  | lst a => exact sq _ h e
theorem dt_tru {t : DTE} (h : DE X F0 e t) (he : ∀ whole, isTrue e X.env whole = (do let v ← whole; standAt e.pos; holding [v] (truthy v)) := by intro _; rfl) : DT X F0 e (dTru t) :=
  PT_imp (pt_truth h he) fun σ H Q ⟨σd, M, F, Qd, hF, hR, hS, h, fin⟩ => ⟨σd, M, F, _, hF, hR, hS, h, fun x M1 v H1 F1 ⟨b, h1, h2⟩ e1 r1 v1 => ⟨b, truD_ok r1 v1 h1, fin _ _ _ _ h2 e1 r1⟩⟩
section
variable {tA tB : DTT} {rest : List Expr}
/-- two ways by a Bool -/
def IfB (b : Bool) (A B : Prop) : Prop := match b with
  | true => A
  | false => B
theorem ifB_t {A B : Prop} : IfB true A B = A := rfl
theorem ifB_f {A B : Prop} : IfB false A B = B := rfl
theorem ifB {b : Bool} {A B : Prop} (h1 : b = true → A) (h2 : b = false → B) : IfB b A B := by
  cases b with
  | true => exact h1 rfl
  | false => exact h2 rfl
def dAnd (t u : DTT) : DTT := fun σ M Q => t σ M fun c M1 => IfB c (u σ M1 Q) (Q false M1)
def dOr (t u : DTT) : DTT := fun σ M Q => t σ M fun c M1 => IfB c (Q true M1) (u σ M1 Q)
def dNot (t : DTT) : DTT := fun σ M Q => t σ M fun c M1 => Q (!c) M1
theorem dw_and1 (ha : DT X F0 a tA) : DW X F0 (.BoolOp .And [a] pos) tA := pw_and1 ha
theorem dw_or1 (ha : DT X F0 a tA) : DW X F0 (.BoolOp .Or [a] pos) tA := pw_or1 ha
theorem dw_and (ha : DT X F0 a tA) (hb : DW X F0 (.BoolOp .And (b :: rest) pos) tB) : DW X F0 (.BoolOp .And (a :: b :: rest) pos) (dAnd tA tB) :=
  PW_imp (pw_and ha hb) fun σ H Q ⟨σd, M, F, Qd, hF, hR, hS, h, fin⟩ => ⟨σd, M, F, _, hF, hR, hS, h, fun c M1 H1 F1 h1 e1 r1 => by
    cases c with
    | true => exact ⟨σd, M1, F1, Qd, hF.trans e1, r1, hS.mono e1, h1, fin.mono e1⟩
    | false => exact fin _ _ _ _ h1 e1 r1⟩
theorem dw_or (ha : DT X F0 a tA) (hb : DW X F0 (.BoolOp .Or (b :: rest) pos) tB) : DW X F0 (.BoolOp .Or (a :: b :: rest) pos) (dOr tA tB) :=
  PW_imp (pw_or ha hb) fun σ H Q ⟨σd, M, F, Qd, hF, hR, hS, h, fin⟩ => ⟨σd, M, F, _, hF, hR, hS, h, fun c M1 H1 F1 h1 e1 r1 => by
    cases c with
    | false => exact ⟨σd, M1, F1, Qd, hF.trans e1, r1, hS.mono e1, h1, fin.mono e1⟩
    | true => exact fin _ _ _ _ h1 e1 r1⟩
theorem dt_w (h : DW X F0 a tA) : DT X F0 a tA := PW.pt h
theorem dt_not (ha : DT X F0 a tA) : DT X F0 (.UnaryOp .Not a pos) (dNot tA) :=
  PT_imp (pt_not ha) fun σ H Q ⟨σd, M, F, Qd, hF, hR, hS, h, fin⟩ => ⟨σd, M, F, _, hF, hR, hS, h, fun c M1 H1 F1 h1 e1 r1 => fin _ _ _ _ h1 e1 r1⟩
/-- .. as values -/
def dAndV (ta tb : DTE) : DTE := fun σ M Q => ta σ M fun x M1 => match x with
  | .bl c => IfB c (tb σ M1 Q) (Q (.bl false) M1)
  | _ => False
def dOrV (ta tb : DTE) : DTE := fun σ M Q => ta σ M fun x M1 => match x with
  | .bl c => IfB c (Q (.bl true) M1) (tb σ M1 Q)
  | _ => False
def dNotV (ta : DTE) : DTE := fun σ M Q => ta σ M fun x M1 => match x with
  | .bl c => Q (.bl (!c)) M1
  | _ => False
theorem de_one {op} {t : DTE} (h : DE X F0 a t) : DE X F0 (.BoolOp op [a] pos) t := pe_one h
theorem de_and (ha : DE X F0 a ta) (hb : DE X F0 (.BoolOp .And (b :: rest) pos) tb) : DE X F0 (.BoolOp .And (a :: b :: rest) pos) (dAndV ta tb) :=
  PE_imp (pe_and ha hb) fun σ H Q ⟨σd, M, F, Qd, hF, hR, hS, h, fin⟩ => ⟨σd, M, F, _, hF, hR, hS, h, fun c M1 v H1 F1 h1 e1 r1 v1 => by
    split at h1
    · rename_i c
      cases c with
      | true => exact ⟨true, rep_bl.mp v1, iteT ⟨σd, M1, F1, Qd, hF.trans e1, r1, hS.mono e1, h1, fin.mono e1⟩⟩
      | false => exact ⟨false, rep_bl.mp v1, iteF (fin _ _ _ _ _ h1 e1 r1 (rep_bl.mpr rfl))⟩
    · exact h1.elim⟩
theorem de_or (ha : DE X F0 a ta) (hb : DE X F0 (.BoolOp .Or (b :: rest) pos) tb) : DE X F0 (.BoolOp .Or (a :: b :: rest) pos) (dOrV ta tb) :=
  PE_imp (pe_or ha hb) fun σ H Q ⟨σd, M, F, Qd, hF, hR, hS, h, fin⟩ => ⟨σd, M, F, _, hF, hR, hS, h, fun c M1 v H1 F1 h1 e1 r1 v1 => by
    split at h1
    · rename_i c
      cases c with
      | true => exact ⟨true, rep_bl.mp v1, iteT (fin _ _ _ _ _ h1 e1 r1 (rep_bl.mpr rfl))⟩
      | false => exact ⟨false, rep_bl.mp v1, iteF ⟨σd, M1, F1, Qd, hF.trans e1, r1, hS.mono e1, h1, fin.mono e1⟩⟩
    · exact h1.elim⟩
theorem de_not (ha : DE X F0 a ta) : DE X F0 (.UnaryOp .Not a pos) (dNotV ta) :=
  PE_imp (pe_not ha) fun σ H Q ⟨σd, M, F, Qd, hF, hR, hS, h, fin⟩ => ⟨σd, M, F, _, hF, hR, hS, h, fun c M1 v H1 F1 h1 e1 r1 v1 => by
    split at h1
    · exact ⟨_, rep_bl.mp v1, fin _ _ _ _ _ h1 e1 r1 (rep_bl.mpr rfl)⟩
    · exact h1.elim⟩
def dIf (t : DTT) (ta tb : DTE) : DTE := fun σ M Q => t σ M fun c M1 => IfB c (ta σ M1 Q) (tb σ M1 Q)
theorem de_if (hc : DT X F0 c tA) (ha : DE X F0 a ta) (hb : DE X F0 b tb) : DE X F0 (.IfExp c a b pos) (dIf tA ta tb) :=
  PE_imp (pe_ifExp hc ha hb) fun σ H Q ⟨σd, M, F, Qd, hF, hR, hS, h, fin⟩ => ⟨σd, M, F, _, hF, hR, hS, h, fun c M1 H1 F1 h1 e1 r1 => by
    cases c with
    | true => exact iteT ⟨σd, M1, F1, Qd, hF.trans e1, r1, hS.mono e1, h1, fin.mono e1⟩
    | false => exact iteF ⟨σd, M1, F1, Qd, hF.trans e1, r1, hS.mono e1, h1, fin.mono e1⟩⟩
end
end
end DL
namespace DL
open PySem L2

/-! ### data as PyData -/
mutual
def pyD : D → Option PyData
  | .non => some .none
  | .bl b => some (.bool b)
  | .int i => some (.int i)
  | .str x => some (.str x)
  | .obj _ => none
  | .rdl ns => some (.list (ns.map PyData.int))
  | .tup ds => (pyDs ds).map PyData.tuple
  | .lst ds => (pyDs ds).map PyData.list
def pyDs : List D → Option (List PyData)
  | [] => some []
  | d :: ds => (pyD d).bind fun x => (pyDs ds).map fun xs => x :: xs
end
section
variable {K : PySem.W.Frag} {F H : Hp} {M : Mp}
theorem dpInts {H : Hp} : ∀ ns : List Int, DpAll K H (ns.map V.int) (ns.map PyData.int)
  | [] => .nil
  | n :: ns => .cons (.int n) (dpInts ns)
mutual
theorem dp_of (hf : Same F H) : ∀ (d : D) (v : V) (y : PyData), Rep K F d v → pyD d = some y → Dp K H v y
  | .non, v, y, h, e => by unfold pyD at e; cases e; cases rep_non.mp h; exact .non
  | .bl b, v, y, h, e => by unfold pyD at e; cases e; cases rep_bl.mp h; exact .bl b
  | .int b, v, y, h, e => by unfold pyD at e; cases e; cases rep_int.mp h; exact .int b
  | .str b, v, y, h, e => by unfold pyD at e; cases e; cases rep_str.mp h; exact .str b
  | .obj b, v, y, h, e => by unfold pyD at e; cases e
  | .rdl ns, v, y, h, e => by
    unfold pyD at e; cases e
    obtain ⟨a, rfl, hq⟩ := rep_rdl.mp h
    exact .lst (hf.seq hq) (dpInts ns)
  | .tup ds, v, y, h, e => by
    unfold pyD at e
    obtain ⟨ys, e1, rfl⟩ := Option.map_eq_some_iff.mp e
    obtain ⟨a, vs, rfl, hq, hr⟩ := rep_tup.mp h
    exact .tup (sqT_mono hf hq) (dpAll_of hf ds vs ys hr e1)
  | .lst ds, v, y, h, e => by
    unfold pyD at e
    obtain ⟨ys, e1, rfl⟩ := Option.map_eq_some_iff.mp e
    obtain ⟨a, vs, rfl, hq, hr⟩ := rep_lst.mp h
    exact .lst (SqL.of (hf _ _ hq)) (dpAll_of hf ds vs ys hr e1)
theorem dpAll_of (hf : Same F H) : ∀ (ds : List D) (vs : List V) (ys : List PyData), Reps K F ds vs → pyDs ds = some ys → DpAll K H vs ys
  | [], vs, ys, h, e => by unfold pyDs at e; cases e; rw [h.nil_inv]; exact .nil
  | d :: ds, vs, ys, h, e => by
    unfold pyDs at e
    obtain ⟨y, e1, e2⟩ := Option.bind_eq_some_iff.mp e
    obtain ⟨ys', e3, rfl⟩ := Option.map_eq_some_iff.mp e2
    obtain ⟨v, vs', rfl, h1, h2⟩ := h.consD_inv
    exact .cons (dp_of hf d v y h1 e1) (dpAll_of hf ds vs' ys' h2 e3)
end
end

section
variable {X : Cx} {F0 : Hp} {a b c e : Expr} {ta tb tc te : DTE} {pos : Pos}
/-! ### ==, != -/
def dEq (neg : Bool) : DR2 := fun x y M Q => match x, y with
  | .int i, .int j => Q (.bl (neg != decide (i = j))) M
  | .str i, .str j => Q (.bl (neg != decide (i = j))) M
  | .bl i, .bl j => Q (.bl (neg != decide (i = j))) M
  | x, y => ∃ d e, pyD x = some d ∧ pyD y = some e ∧ SeqAt.shaped d = true ∧ SeqAt.shaped e = true ∧ Q (.bl (neg != PyData.eqv d e)) M
theorem od_eq (hu : X.A.units + 64 < cLine) : OpR X (compareOp .Eq) (LR X.K F0 (dEq false)) := by
  refine OpR_imp (op_eq.or (op_eqD hu)) fun v u H Q ⟨x, y, M, F, Qd, hF, r, hx, hy, h, fin⟩ => ?_
  unfold dEq at h
  split at h
  · cases rep_int.mp hx; cases rep_int.mp hy
    refine .inl ⟨rfl, fin.go h r (rep_bl.mpr ?_)⟩
    simp
  · cases rep_str.mp hx; cases rep_str.mp hy
    refine .inl ⟨rfl, fin.go h r (rep_bl.mpr ?_)⟩
    simp
  · cases rep_bl.mp hx; cases rep_bl.mp hy
    refine .inl ⟨rfl, fin.go h r (rep_bl.mpr ?_)⟩
    simp
  · obtain ⟨d, e, h1, h2, h3, h4, h⟩ := h
    refine .inr ⟨d, e, dp_of r.fr _ _ _ hx h1, dp_of r.fr _ _ _ hy h2, h3, h4, fin.go h r (rep_bl.mpr ?_)⟩
    simp
theorem od_ne (hu : X.A.units + 64 < cLine) : OpR X (compareOp .NotEq) (LR X.K F0 (dEq true)) := by
  refine OpR_imp (op_ne.or (op_neD hu)) fun v u H Q ⟨x, y, M, F, Qd, hF, r, hx, hy, h, fin⟩ => ?_
  unfold dEq at h
  split at h
  · cases rep_int.mp hx; cases rep_int.mp hy
    refine .inl ⟨rfl, fin.go h r (rep_bl.mpr ?_)⟩
    simp
  · cases rep_str.mp hx; cases rep_str.mp hy
    refine .inl ⟨rfl, fin.go h r (rep_bl.mpr ?_)⟩
    simp
  · cases rep_bl.mp hx; cases rep_bl.mp hy
    refine .inl ⟨rfl, fin.go h r (rep_bl.mpr ?_)⟩
    simp
  · obtain ⟨d, e, h1, h2, h3, h4, h⟩ := h
    refine .inr ⟨d, e, dp_of r.fr _ _ _ hx h1, dp_of r.fr _ _ _ hy h2, h3, h4, fin.go h r (rep_bl.mpr ?_)⟩
    simp
def isNon : D → Bool
  | .non => true
  | _ => false
def dIsN (neg : Bool) : DR2 := fun x y M Q => match y with
  | .non => Q (.bl (neg != isNon x)) M
  | _ => False
theorem isN_rep {K : PySem.W.Frag} {F : Hp} {x : D} {v : V} (h : Rep K F x v) : decide (v = V.non) = isNon x := by
  cases x with
  | non => cases rep_non.mp h; rfl
  | bl b => cases rep_bl.mp h; rfl
  | int i => cases rep_int.mp h; rfl
  | str i => cases rep_str.mp h; rfl
  | obj i => cases rep_obj.mp h; rfl
  | rdl i => obtain ⟨a, rfl, _⟩ := rep_rdl.mp h; rfl
  | tup i => obtain ⟨a, vs, rfl, _⟩ := rep_tup.mp h; rfl
  | lst i => obtain ⟨a, vs, rfl, _⟩ := rep_lst.mp h; rfl
theorem od_isN : OpR X (compareOp .Is) (LR X.K F0 (dIsN false)) := by
  refine OpR_imp op_isN fun v u H Q ⟨x, y, M, F, Qd, hF, r, hx, hy, h, fin⟩ => ?_
  unfold dIsN at h
  split at h
  · refine ⟨rep_non.mp hy, fin.go h r (rep_bl.mpr ?_)⟩
    rw [isN_rep hx]; simp
  · exact h.elim
theorem od_notN : OpR X (compareOp .IsNot) (LR X.K F0 (dIsN true)) := by
  refine OpR_imp op_notN fun v u H Q ⟨x, y, M, F, Qd, hF, r, hx, hy, h, fin⟩ => ?_
  unfold dIsN at h
  split at h
  · refine ⟨rep_non.mp hy, fin.go h r (rep_bl.mpr ?_)⟩
    rw [isN_rep hx]; simp
  · exact h.elim
/-! ### order -/
def dLt : DR2 := fun x y M Q => match x, y with
  | .int i, .int j => Q (.bl (decide (i < j))) M
  | .str i, .str j => Q (.bl (decide (i.cps.toList < j.cps.toList))) M
  | _, _ => False
theorem od_lt : OpR X (compareOp .Lt) (LR X.K F0 dLt) := by
  refine OpR_imp (op_lt.or op_lt_str) fun v u H Q ⟨x, y, M, F, Qd, hF, r, hx, hy, h, fin⟩ => ?_
  unfold dLt at h
  split at h
  · exact .inl ⟨_, _, rep_int.mp hx, rep_int.mp hy, fin.go h r (rep_bl.mpr rfl)⟩
  · exact .inr ⟨_, _, rep_str.mp hx, rep_str.mp hy, fin.go h r (rep_bl.mpr rfl)⟩
  · exact h.elim
def dLe : DR2 := fun x y M Q => match x, y with
  | .int i, .int j => Q (.bl (decide (i ≤ j))) M
  | .str i, .str j => Q (.bl (!decide (j.cps.toList < i.cps.toList))) M
  | _, _ => False
theorem od_le : OpR X (compareOp .LtE) (LR X.K F0 dLe) := by
  refine OpR_imp (op_le.or op_le_str) fun v u H Q ⟨x, y, M, F, Qd, hF, r, hx, hy, h, fin⟩ => ?_
  unfold dLe at h
  split at h
  · exact .inl ⟨_, _, rep_int.mp hx, rep_int.mp hy, fin.go h r (rep_bl.mpr rfl)⟩
  · exact .inr ⟨_, _, rep_str.mp hx, rep_str.mp hy, fin.go h r (rep_bl.mpr rfl)⟩
  · exact h.elim
def dGt : DR2 := fun x y M Q => match x, y with
  | .int i, .int j => Q (.bl (decide (j < i))) M
  | _, _ => False
theorem od_gt : OpR X (compareOp .Gt) (LR X.K F0 dGt) := by
  refine OpR_imp op_gt fun v u H Q ⟨x, y, M, F, Qd, hF, r, hx, hy, h, fin⟩ => ?_
  unfold dGt at h
  split at h
  · exact ⟨_, _, rep_int.mp hx, rep_int.mp hy, fin.go h r (rep_bl.mpr rfl)⟩
  · exact h.elim
def dGe : DR2 := fun x y M Q => match x, y with
  | .int i, .int j => Q (.bl (decide (j ≤ i))) M
  | _, _ => False
theorem od_ge : OpR X (compareOp .GtE) (LR X.K F0 dGe) := by
  refine OpR_imp op_ge fun v u H Q ⟨x, y, M, F, Qd, hF, r, hx, hy, h, fin⟩ => ?_
  unfold dGe at h
  split at h
  · exact ⟨_, _, rep_int.mp hx, rep_int.mp hy, fin.go h r (rep_bl.mpr rfl)⟩
  · exact h.elim
/-! ### in, not in: a text in texts, a sign in a text, an int in ints -/
def strsD : List D → Option (List Str)
  | [] => some []
  | .str x :: r => (strsD r).map fun xs => x :: xs
  | _ :: _ => none
theorem strsD_eq : ∀ {ds : List D} {xs : List Str}, strsD ds = some xs → ds = xs.map D.str
  | [], xs, e => by unfold strsD at e; cases e; rfl
  | d :: ds, xs, e => by
    cases d with
    | str z =>
      unfold strsD at e
      obtain ⟨ys, e1, rfl⟩ := Option.map_eq_some_iff.mp e
      rw [strsD_eq e1] <;> rfl
    | _ => unfold strsD at e; cases e
theorem strsD_map : ∀ xs : List Str, strsD (xs.map D.str) = some xs
  | [] => rfl
  | x :: xs => by rw [List.map_cons]; unfold strsD; rw [strsD_map xs] <;> rfl
theorem inV_strs (x : Str) : ∀ xs : List Str, inV (.str x) (xs.map V.str) = decide (x ∈ xs)
  | [] => rfl
  | y :: xs => by
    have ih := inV_strs x xs
    unfold inV at ih ⊢
    rw [List.map_cons, List.any_cons, ih]
    by_cases e : y = x
    · subst e; simp [eqV]
    · have e' : ¬ x = y := fun q => e q.symm
      simp [eqV, e, e']
theorem flat_strsV (ys : List Str) : (ys.map V.str).all flatV = true := by
  induction ys with
  | nil => rfl
  | cons y ys ih => rw [List.map_cons, List.all_cons, ih] <;> rfl
def dIn (neg : Bool) : DR2 := fun x y M Q => match x, y with
  | .str i, .str j => Q (.bl (neg != !(Builtin.Str.occurrences j i 0 j.length 1).isEmpty)) M
  | .str i, y => ∃ xs, (sqD M y).bind strsD = some xs ∧ Q (.bl (neg != decide (i ∈ xs))) M
  | _, _ => False
theorem od_in : OpR X (compareOp .In) (LR X.K F0 (dIn false)) := by
  refine OpR_imp (op_in_str.or op_in_seq) fun v u H Q ⟨x, y, M, F, Qd, hF, r, hx, hy, h, fin⟩ => ?_
  unfold dIn at h
  split at h
  · exact .inl ⟨_, _, rep_str.mp hx, rep_str.mp hy, fin.go h r (rep_bl.mpr (by simp))⟩
  · obtain ⟨xs, e, h⟩ := h
    obtain ⟨ds, e1, e2⟩ := Option.bind_eq_some_iff.mp e
    obtain ⟨p, vs, rfl, hq, hr⟩ := sqD_rep r hy e1
    have := strsD_eq e2
    subst this
    have := hr.strs_inv
    subst this
    cases rep_str.mp hx
    refine .inr ⟨p, _, rfl, hq, rfl, flat_strsV _, fin.go h r (rep_bl.mpr ?_)⟩
    rw [inV_strs]; simp
  · exact h.elim
theorem od_notIn : OpR X (compareOp .NotIn) (LR X.K F0 (dIn true)) := by
  refine OpR_imp (L2.op_notIn_str.or op_notIn_seq) fun v u H Q ⟨x, y, M, F, Qd, hF, r, hx, hy, h, fin⟩ => ?_
  unfold dIn at h
  split at h
  · exact .inl ⟨_, _, rep_str.mp hx, rep_str.mp hy, fin.go h r (rep_bl.mpr (by simp))⟩
  · obtain ⟨xs, e, h⟩ := h
    obtain ⟨ds, e1, e2⟩ := Option.bind_eq_some_iff.mp e
    obtain ⟨p, vs, rfl, hq, hr⟩ := sqD_rep r hy e1
    have := strsD_eq e2
    subst this
    have := hr.strs_inv
    subst this
    cases rep_str.mp hx
    refine .inr ⟨p, _, rfl, hq, rfl, flat_strsV _, fin.go h r (rep_bl.mpr ?_)⟩
    rw [inV_strs]; simp
  · exact h.elim
/-- a op b op' c -/
def dChain (r r' : DR2) (ta tb tc : DTE) : DTE := fun σ M Q => ta σ M fun x M1 => tb σ M1 fun y M2 => r x y M2 fun z M3 => match z with
  | .bl k => IfB k (tc σ M3 fun w M4 => r' y w M4 Q) (Q (.bl false) M3)
  | _ => False
theorem lift_chain {K : PySem.W.Frag} {r r' : DR2} {σ : St} {H : Hp} {Q : VK} (h : LE K F0 (dChain r r' ta tb tc) σ H Q) : tChain (LR K F0 r) (LR K F0 r') (LE K F0 ta) (LE K F0 tb) (LE K F0 tc) σ H Q := by
  obtain ⟨σd, M, F, Qd, hF, hR, hS, h, fin⟩ := h
  refine ⟨σd, M, F, _, hF, hR, hS, h, fun x M1 v H1 F1 h1 e1 r1 v1 => ?_⟩
  refine ⟨σd, M1, F1, _, hF.trans e1, r1, hS.mono e1, h1, fun y M2 w H2 F2 h2 e2 r2 w2 => ?_⟩
  refine ⟨x, y, M2, F2, _, (hF.trans e1).trans e2, r2, v1.mono e2, w2, h2, fun z M3 zv H3 F3 h3 e3 r3 z3 => ?_⟩
  have e13 := (e1.trans e2).trans e3
  split at h3
  · rename_i k
    cases k with
    | true =>
      refine ⟨true, rep_bl.mp z3, ?_⟩
      rw [if_pos rfl]
      refine ⟨σd, M3, F3, _, hF.trans e13, r3, hS.mono e13, h3, fun u M4 uv H4 F4 h4 e4 r4 u4 => ?_⟩
      exact ⟨y, u, M4, F4, Qd, (hF.trans e13).trans e4, r4, w2.mono (e3.trans e4), u4, h4, fin.mono (e13.trans e4)⟩
    | false =>
      refine ⟨false, rep_bl.mp z3, ?_⟩
      rw [if_neg Bool.false_ne_true]
      exact fin _ _ _ _ _ h3 e13 r3 (rep_bl.mpr rfl)
  · exact h3.elim

/-! ### displays, arguments -/
variable {es : List Expr} {tr : DTA}
def dNil : DTA := fun _ M Q => Q [] M
def dCons (ta : DTE) (tr : DTA) : DTA := fun σ M Q => ta σ M fun x M1 => tr σ M1 fun xs M2 => Q (x :: xs) M2
theorem da_nil : DA X F0 [] dNil := PA_imp pa_nil fun σ H Q ⟨σd, M, F, Qd, hF, r, hS, h, fin⟩ => fin _ _ _ _ F h (Same.refl F) r Reps.nil
theorem da_cons (ha : DE X F0 e te) (hr : DA X F0 es tr) (hs : starEach (e :: es) X.env = (false, eval e X.env) :: starEach es X.env := by rfl) : DA X F0 (e :: es) (dCons te tr) :=
  PA_imp (pa_cons ha hr hs) fun σ H Q ⟨σd, M, F, Qd, hF, r, hS, h, fin⟩ => ⟨σd, M, F, _, hF, r, hS, h, fun x M1 v H1 F1 h1 e1 r1 v1 =>
    ⟨σd, M1, F1, _, hF.trans e1, r1, hS.mono e1, h1, fun xs M2 vs H2 F2 h2 e2 r2 vs2 => fin _ _ _ _ F2 h2 (e1.trans e2) r2 (.cons (v1.mono e2) vs2)⟩⟩
def dTup (t : DTA) : DTE := fun σ M Q => t σ M fun xs M1 => xs.length ≤ sizeLine ∧ Q (.tup xs) M1
def dLst (own : Bool) (t : DTA) : DTE := fun σ M Q => t σ M fun xs M1 => xs.length ≤ sizeLine ∧ dNew own xs M1 Q
theorem de_tup {x1} (h : DA X F0 es tr) : DE X F0 (.Tuple es x1 pos) (dTup tr) :=
  PE_imp (pe_tup h) fun σ H Q ⟨σd, M, F, Qd, hF, r, hS, h, fin⟩ => ⟨σd, M, F, _, hF, r, hS, h, fun xs M1 vs H1 F1 h1 e1 r1 v1 =>
    ⟨by rw [← v1.length]; exact h1.1, fun p hp => tup_fin r1 v1 h1.2 (fin.mono e1) hp⟩⟩
theorem de_lst {own : Bool} (h : DA X F0 es tr) : DE X F0 (.List es pos) (dLst own tr) :=
  PE_imp (pe_lst h) fun σ H Q ⟨σd, M, F, Qd, hF, r, hS, h, fin⟩ => ⟨σd, M, F, _, hF, r, hS, h, fun xs M1 vs H1 F1 h1 e1 r1 v1 =>
    ⟨by rw [← v1.length]; exact h1.1, fun p hp => dNew_fin r1 v1 h1.2 (fin.mono e1) hp⟩⟩

/-! ### subscripts -/
def dIx : DR2 := fun x y M Q => match x, y with
  | .str z, .int i => z.length ≤ sizeLine ∧ ∃ c, atI z.cps.toList i = some c ∧ Q (.str ⟨#[c]⟩) M
  | x, .int i => ∃ ds d, sqD M x = some ds ∧ atI ds i = some d ∧ Q d M
  | _, _ => False
theorem Reps.atI {K : PySem.W.Frag} {F : Hp} {ds : List D} {vs : List V} (h : Reps K F ds vs) {i : Int} {d : D} (e : L2.atI ds i = some d) : ∃ v, L2.atI vs i = some v ∧ Rep K F d v := by
  unfold L2.atI at e ⊢
  rw [← h.length]
  cases q : ixN ds.length i with
  | none => rw [q] at e; cases e
  | some j =>
    rw [q] at e
    exact h.getD (show ds[j]? = some d from e)
theorem xd_ix : IxR X (LR X.K F0 dIx) := by
  refine IxR_imp ix_seq fun v u H Q ⟨x, y, M, F, Qd, hF, r, hx, hy, h, fin⟩ => ?_
  unfold dIx at h
  split at h
  · obtain ⟨hz, c, e, h⟩ := h
    exact .inr (.inr ⟨_, _, c, rep_str.mp hx, rep_int.mp hy, hz, e, fin.go h r (rep_str.mpr rfl)⟩)
  · obtain ⟨ds, d, e1, e2, h⟩ := h
    obtain ⟨p, vs, rfl, hq, hr⟩ := sqD_rep r hx e1
    obtain ⟨w, e3, hw⟩ := hr.atI e2
    rcases hq with hq | hq
    · exact .inl ⟨p, vs, _, w, rfl, rep_int.mp hy, hq, e3, fin.go h r hw⟩
    · exact .inr (.inl ⟨p, vs, _, w, rfl, rep_int.mp hy, hq, e3, fin.go h r hw⟩)
  · exact h.elim
theorem de_ix (ha : DE X F0 a ta) (hb : DE X F0 b tb) (hs : PlainIx b) : DE X F0 (.Subscript a b pos) (dOp dIx ta tb) := PE_imp (pe_ix xd_ix ha hb hs) fun _ _ _ h => lift_op h

abbrev DTO := DS → Mp → (Option Int → Mp → Prop) → Prop
def LO (K : PySem.W.Frag) (F0 : Hp) (τ : DTO) : TO := fun σ H Q => ∃ σd M F Qd, Same F0 F ∧ R K M F H ∧ SRep K F σd σ ∧ τ σd M Qd ∧ ∀ o M' H' F', Qd o M' → Same F F' → R K M' F' H' → Q o H'
abbrev DO (X : Cx) (F0 : Hp) (e : Option Expr) (τ : DTO) : Prop := PO X e (LO X.K F0 τ)
theorem PO_imp {e : Option Expr} {t t' : TO} (h : PO X e t) (i : ∀ σ H Q, t' σ H Q → t σ H Q) : PO X e t' := ⟨fun pins s σ H Q I q => h.run pins s σ H Q I (i σ H Q q)⟩
def dNoPart : DTO := fun _ M Q => Q none M
def dPart (t : DTE) : DTO := fun σ M Q => t σ M fun x M1 => match x with
  | .int i => Q (some i) M1
  | _ => False
theorem do_none : DO X F0 none dNoPart := PO_imp po_none fun σ H Q ⟨σd, M, F, Qd, hF, r, hS, h, fin⟩ => fin _ _ _ F h (Same.refl F) r
theorem do_some (h : DE X F0 e te) : DO X F0 (some e) (dPart te) := PO_imp (po_some h) fun σ H Q ⟨σd, M, F, Qd, hF, r, hS, h, fin⟩ => ⟨σd, M, F, _, hF, r, hS, h, fun x M1 v H1 F1 h1 e1 r1 v1 => by
  split at h1
  · exact ⟨_, rep_int.mp v1, fin _ _ _ _ h1 e1 r1⟩
  · exact h1.elim⟩
def cutL {α : Type} (xs : List α) (lo hi : Option Int) : List α := (xs.drop (HT.sIx xs.length 0 lo)).take (HT.sIx xs.length xs.length hi - HT.sIx xs.length 0 lo)
theorem Reps.cut {K : PySem.W.Frag} {F : Hp} {ds : List D} {vs : List V} (h : Reps K F ds vs) (lo hi : Option Int) : Reps K F (cutL ds lo hi) (cutV vs lo hi) := by
  unfold cutL cutV
  rw [← h.length]
  exact (h.drop _).take _
/-- x[lo:hi] -/
def dSl (own : Bool) : D → Option Int → Option Int → Mp → DK → Prop := fun x lo hi M Q => match x with
  | .tup ds => Q (.tup (cutL ds lo hi)) M
  | .rdl ns => dNew own ((cutL ns lo hi).map D.int) M Q
  | .str z => z.length ≤ sizeLine ∧ Q (.str ⟨(cutL z.cps.toList lo hi).toArray⟩) M
  | x => ∃ ds, lsD M x = some ds ∧ dNew own (cutL ds lo hi) M Q
def LSl (K : PySem.W.Frag) (F0 : Hp) (r : D → Option Int → Option Int → Mp → DK → Prop) : V → Option Int → Option Int → Hp → VK → Prop := fun v lo hi H Q => ∃ x M F Qd, Same F0 F ∧ R K M F H ∧ Rep K F x v ∧ r x lo hi M Qd ∧ Fin K F Qd Q
theorem SlR_imp {r r' : V → Option Int → Option Int → Hp → VK → Prop} (h : SlR X r) (i : ∀ x lo hi H Q, r' x lo hi H Q → r x lo hi H Q) : SlR X r' := fun pins s σ H x v vl vu lo hi sl Q I rx hs pl pu q => h pins s σ H x v vl vu lo hi sl Q I rx hs pl pu (i x lo hi H Q q)
theorem cutL_whole {α : Type} {xs : List α} {lo hi : Option Int} (h : HT.sIx xs.length 0 lo = 0 ∧ HT.sIx xs.length xs.length hi = xs.length) : cutL xs lo hi = xs := by
  unfold cutL
  rw [h.1, h.2]
  simp
theorem cutL_map {α β : Type} (f : α → β) (xs : List α) (lo hi : Option Int) : cutL (xs.map f) lo hi = (cutL xs lo hi).map f := by
  unfold cutL
  rw [List.length_map, List.map_take, List.map_drop]
theorem sd_sl {own : Bool} : SlR X (LSl X.K F0 (dSl own)) := by
  refine SlR_imp (sl_tupA.or (sl_list.or sl_str)) fun v lo hi H Q ⟨x, M, F, Qd, hF, r, hx, h, fin⟩ => ?_
  unfold dSl at h
  split at h
  · rename_i ds
    obtain ⟨a, vs, rfl, hq, hr⟩ := rep_tup.mp hx
    refine .inl ⟨a, vs, rfl, sqT_up r hq, fun hw => ?_, fun _ p hp => tup_fin r (hr.cut lo hi) h fin hp⟩
    rw [← hr.length] at hw
    rw [cutL_whole hw] at h
    exact fin.go h r hx
  · rename_i ns
    obtain ⟨a, rfl, hq⟩ := rep_rdl.mp hx
    refine .inr (.inl ⟨a, _, rfl, sqL_up r hq, fun p hp => ?_⟩)
    refine dNew_fin r (vs := cutV (ns.map V.int) lo hi) ?_ h fin hp
    have e : cutV (ns.map V.int) lo hi = (cutL ns lo hi).map V.int := cutL_map V.int ns lo hi
    rw [e]
    exact Reps.ints
  · rename_i z
    refine .inr (.inr ⟨z, rep_str.mp hx, h.1, fin.go h.2 r (rep_str.mpr ?_)⟩)
    unfold cutL
    rw [show z.cps.toList.length = z.length by simp [Str.length]]
    rfl
  · obtain ⟨ds, e1, h⟩ := h
    obtain ⟨p, vs, rfl, hq, hr⟩ := lsD_rep r hx e1
    exact .inr (.inl ⟨p, vs, rfl, SqL.of hq, fun p hp => dNew_fin r (hr.cut lo hi) h fin hp⟩)
def dSlE (r : D → Option Int → Option Int → Mp → DK → Prop) (te : DTE) (tl th : DTO) : DTE := fun σ M Q => te σ M fun x M1 => tl σ M1 fun l M2 => th σ M2 fun u M3 => r x l u M3 Q
theorem de_sl {own : Bool} {lo hi : Option Expr} {tl th : DTO} {p2 : Pos} (he : DE X F0 e te) (hl : DO X F0 lo tl) (hu : DO X F0 hi th) : DE X F0 (.Subscript e (.Slice lo hi none p2) pos) (dSlE (dSl own) te tl th) :=
  PE_imp (pe_slice sd_sl he hl hu) fun σ H Q ⟨σd, M, F, Qd, hF, hR, hS, h, fin⟩ => ⟨σd, M, F, _, hF, hR, hS, h, fun x M1 v H1 F1 h1 e1 r1 v1 =>
    ⟨σd, M1, F1, _, hF.trans e1, r1, hS.mono e1, h1, fun l M2 H2 F2 h2 e2 r2 => ⟨σd, M2, F2, _, (hF.trans e1).trans e2, r2, hS.mono (e1.trans e2), h2, fun u M3 H3 F3 h3 e3 r3 =>
      ⟨x, M3, F3, Qd, ((hF.trans e1).trans e2).trans e3, r3, v1.mono (e2.trans e3), h3, fin.mono ((e1.trans e2).trans e3)⟩⟩⟩⟩
/-- x[::-1] of a list -/
def dRev (own : Bool) (te : DTE) : DTE := fun σ M Q => te σ M fun x M1 => ∃ ds, lsD M1 x = some ds ∧ dNew own ds.reverse M1 Q
theorem de_rev {own : Bool} {k : Nat} {p1 p2 p3 : Pos} (he : DE X F0 e te) : DE X F0 (.Subscript e (.Slice none none (some (.UnaryOp .USub (.Constant (.int 1) k p1) p2)) p3) pos) (dRev own te) :=
  PE_imp (pe_revL he) fun σ H Q ⟨σd, M, F, Qd, hF, hR, hS, h, fin⟩ => ⟨σd, M, F, _, hF, hR, hS, h, fun x M1 v H1 F1 ⟨ds, e0, h1⟩ e1 r1 v1 => by
    obtain ⟨p, vs, rfl, hq, hr⟩ := lsD_rep r1 v1 e0
    exact ⟨p, vs, rfl, SqL.of hq, fun p' hp' => dNew_fin r1 hr.reverse h1 (fin.mono e1) hp'⟩⟩

/-! ### calls of built-in things by values -/
def dCB (r : DRC) (t : DTA) : DTE := fun σ M Q => t σ M fun xs M1 => r xs M1 Q
theorem lift_CB {K : PySem.W.Frag} {r : DRC} {t : DTA} {σ : St} {H : Hp} {Q : VK} (h : LE K F0 (dCB r t) σ H Q) : tCB (LRC K F0 r) (LA K F0 t) σ H Q := by
  obtain ⟨σd, M, F, Qd, hF, hR, hS, h, fin⟩ := h
  exact ⟨σd, M, F, _, hF, hR, hS, h, fun xs M1 vs H1 F1 h1 e1 r1 v1 => ⟨xs, M1, F1, Qd, hF.trans e1, r1, v1, h1, fin.mono e1⟩⟩
theorem de_callB {x : Str} {p : Pos} {id : String} {r : DRC} (hc : CallR X (.builtin id) (LRC X.K F0 r)) (hg : Gl X x) (hm : X.mg x = none) (hv : bootBuiltins x = some (.builtin id)) (ha : DA X F0 (e :: es) tr) (hn : x ≠ "__name__" := by decide) (hdb : (x == ("__debug__" : Str)) = false := by decide) (hs : starEach (e :: es) X.env = (false, eval e X.env) :: starEach es X.env := by rfl) (hpl : (backTo pos (starEach es X.env)).any (·.1) = false := by rfl) : DE X F0 (.Call (.Name x p) (e :: es) [] pos) (dCB r tr) :=
  PE_imp (pe_callB hc hg hm hv ha hn hdb hs hpl) fun _ _ _ h => lift_CB h
theorem de_callTy {x : Str} {p : Pos} {T : String} {r : DRC} (hc : CallR X (.type T) (LRC X.K F0 r)) (hg : Gl X x) (hm : X.mg x = none) (hv : bootBuiltins x = some (.type T)) (ha : DA X F0 (e :: es) tr) (hn : x ≠ "__name__" := by decide) (hdb : (x == ("__debug__" : Str)) = false := by decide) (hs : starEach (e :: es) X.env = (false, eval e X.env) :: starEach es X.env := by rfl) (hpl : (backTo pos (starEach es X.env)).any (·.1) = false := by rfl) : DE X F0 (.Call (.Name x p) (e :: es) [] pos) (dCB r tr) :=
  PE_imp (pe_callTy hc hg hm hv ha hn hdb hs hpl) fun _ _ _ h => lift_CB h
theorem Reps.one {K : PySem.W.Frag} {F : Hp} {d : D} {vs : List V} (h : Reps K F [d] vs) : ∃ v, vs = [v] ∧ Rep K F d v := by
  obtain ⟨v, vs', rfl, h1, h2⟩ := h.consD_inv
  rw [h2.nil_inv]
  exact ⟨v, rfl, h1⟩
theorem Reps.two {K : PySem.W.Frag} {F : Hp} {d d' : D} {vs : List V} (h : Reps K F [d, d'] vs) : ∃ v v', vs = [v, v'] ∧ Rep K F d v ∧ Rep K F d' v' := by
  obtain ⟨v, vs', rfl, h1, h2⟩ := h.consD_inv
  obtain ⟨v', rfl, h3⟩ := h2.one
  exact ⟨v, v', rfl, h1, h3⟩
def dLen : DRC := fun xs M Q => match xs with
  | [.str z] => z.length ≤ sizeLine ∧ Q (.int z.length) M
  | [x] => ∃ ds, sqD M x = some ds ∧ Q (.int ds.length) M
  | _ => False
theorem cd_len : CallR X (.builtin "len") (LRC X.K F0 dLen) := by
  refine CallR_imp call_len fun vs H Q ⟨xs, M, F, Qd, hF, r, hx, h, fin⟩ => ?_
  unfold dLen at h
  split at h
  · obtain ⟨v, rfl, h1⟩ := hx.one
    cases rep_str.mp h1
    exact ⟨_, _, rfl, ⟨h.1, rfl⟩, fin.go h.2 r (rep_int.mpr rfl)⟩
  · obtain ⟨ds, e1, h⟩ := h
    obtain ⟨v, rfl, h1⟩ := hx.one
    obtain ⟨p, vs, rfl, hq, hr⟩ := sqD_rep r h1 e1
    refine ⟨_, vs.length, rfl, ?_, fin.go h r (rep_int.mpr (by rw [hr.length]))⟩
    rcases hq with hq | hq
    · exact .inl ⟨vs, hq, rfl⟩
    · exact .inr ⟨vs, hq, rfl⟩
  · exact h.elim
def dIntC : DRC := fun xs M Q => match xs with
  | [.int i] => Q (.int i) M
  | [.bl b] => Q (.int (if b then 1 else 0)) M
  | _ => False
theorem cd_int : CallR X (.type "int") (LRC X.K F0 dIntC) := by
  refine CallR_imp call_int1 fun vs H Q ⟨xs, M, F, Qd, hF, r, hx, h, fin⟩ => ?_
  unfold dIntC at h
  split at h
  · obtain ⟨v, rfl, h1⟩ := hx.one
    cases rep_int.mp h1
    exact .inl ⟨_, rfl, fin.go h r (rep_int.mpr rfl)⟩
  · obtain ⟨v, rfl, h1⟩ := hx.one
    cases rep_bl.mp h1
    exact .inr ⟨_, rfl, fin.go h r (rep_int.mpr rfl)⟩
  · exact h.elim
def dTupC : DRC := fun xs M Q => match xs with
  | [.tup ds] => Q (.tup ds) M
  | [x] => ∃ ds, lsD M x = some ds ∧ Q (.tup ds) M
  | _ => False
theorem cd_tuple : CallR X (.type "tuple") (LRC X.K F0 dTupC) := by
  refine CallR_imp call_tuple_of fun vs H Q ⟨xs, M, F, Qd, hF, r, hx, h, fin⟩ => ?_
  unfold dTupC at h
  split at h
  · obtain ⟨v, rfl, h1⟩ := hx.one
    obtain ⟨a, vs, rfl, hq, hr⟩ := rep_tup.mp h1
    exact ⟨a, vs, rfl, .inr ⟨sqT_up r hq, fin.go h r h1⟩⟩
  · obtain ⟨ds, e1, h⟩ := h
    obtain ⟨v, rfl, h1⟩ := hx.one
    obtain ⟨p, vs, rfl, hq, hr⟩ := lsD_rep r h1 e1
    exact ⟨p, vs, rfl, .inl ⟨SqL.of hq, fun l hl => tup_fin r hr h fin hl⟩⟩
  · exact h.elim
def dListC (own : Bool) : DRC := fun xs M Q => match xs with
  | [x] => ∃ ds, sqD M x = some ds ∧ dNew own ds M Q
  | _ => False
theorem cd_list {own : Bool} : CallR X (.type "list") (LRC X.K F0 (dListC own)) := by
  refine CallR_imp call_list_of fun vs H Q ⟨xs, M, F, Qd, hF, r, hx, h, fin⟩ => ?_
  unfold dListC at h
  split at h
  · obtain ⟨ds, e1, h⟩ := h
    obtain ⟨v, rfl, h1⟩ := hx.one
    obtain ⟨p, vs, rfl, hq, hr⟩ := sqD_rep r h1 e1
    exact ⟨p, vs, rfl, hq, fun l hl => dNew_fin r hr h fin hl⟩
  · exact h.elim
def dMax2 : DRC := fun xs M Q => match xs with
  | [.int i, .int j] => Q (.int (if j > i then j else i)) M
  | _ => False
theorem cd_max2 (hc : X.calm = true) : CallR X (.builtin "max") (LRC X.K F0 dMax2) := by
  refine CallR_imp (call_max2 hc) fun vs H Q ⟨xs, M, F, Qd, hF, r, hx, h, fin⟩ => ?_
  unfold dMax2 at h
  split at h
  · obtain ⟨v, v', rfl, h1, h2⟩ := hx.two
    cases rep_int.mp h1; cases rep_int.mp h2
    exact ⟨_, _, rfl, fin.go h r (rep_int.mpr rfl)⟩
  · exact h.elim
def dMin2 : DRC := fun xs M Q => match xs with
  | [.int i, .int j] => Q (.int (if j < i then j else i)) M
  | _ => False
theorem cd_min2 (hc : X.calm = true) : CallR X (.builtin "min") (LRC X.K F0 dMin2) := by
  refine CallR_imp (call_min2 hc) fun vs H Q ⟨xs, M, F, Qd, hF, r, hx, h, fin⟩ => ?_
  unfold dMin2 at h
  split at h
  · obtain ⟨v, v', rfl, h1, h2⟩ := hx.two
    cases rep_int.mp h1; cases rep_int.mp h2
    exact ⟨_, _, rfl, fin.go h r (rep_int.mpr rfl)⟩
  · exact h.elim

/-! ### methods of built-in things -/
def dBM (r : DRM) (to : DTE) (t : DTA) : DTE := fun σ M Q => to σ M fun x M1 => t σ M1 fun xs M2 => r x xs M2 Q
def isLst (x : D) (M : Mp) : Prop := ∃ p ds, x = .obj p ∧ M p = some (.lst ds)
/-- a method of a list that may change -/
def dBL (r : DRM) (to : DTE) (t : DTA) : DTE := fun σ M Q => to σ M fun x M1 => isLst x M1 ∧ t σ M1 fun xs M2 => r x xs M2 Q
theorem isLst_ty {K : PySem.W.Frag} {F H : Hp} {M : Mp} (r : R K M F H) {x : D} {v : V} (h : Rep K F x v) (e : isLst x M) : tyV K "list" v H := by
  obtain ⟨p, ds, rfl, hp⟩ := e
  obtain ⟨vs, h1, h2⟩ := r.mem p _ hp
  cases rep_obj.mp h
  exact .inl ⟨rfl, vs, SqL.of h1⟩
theorem de_bl1 {id : String} {name : Str} {apos cpos : Pos} {r : DRM} {o : Expr} {to : DTE} (slot : Slot "list" name id) (hty : typeOf (.builtin id) = pure (.type "method_descriptor")) (hm : MtR X id (LRM X.K F0 r)) (ho : DE X F0 o to) (ha : DA X F0 (e :: es) tr)
    (hbase : attributeBase o name X.env (eval o X.env) = eval o X.env := by rfl)
    (hfew : ((backTo cpos (starEach (e :: es) X.env)).all (fun x => !x.1) && (backToKw cpos (keywordEach [] X.env)).all (fun x => x.1.isSome)
      && decide ((e :: es).length + ([] : List Keyword).length + (if ([] : List Keyword).isEmpty then 0 else 1) < 30)) = true := by rfl)
    (hline : (apos.endLine == cpos.line) = true := by rfl) (hs : starEach (e :: es) X.env = (false, eval e X.env) :: starEach es X.env := by rfl) (hplain : (backTo cpos (starEach es X.env)).any (·.1) = false := by rfl) :
    DE X F0 (.Call (.Attribute o name apos) (e :: es) [] cpos) (dBL r to tr) :=
  PE_imp (pe_bm F.plainAttrs_list slot hty hm ho ha hbase hfew hline hs hplain) fun σ H Q ⟨σd, M, F, Qd, hF, hR, hS, h, fin⟩ => ⟨σd, M, F, _, hF, hR, hS, h, fun x M1 v H1 F1 h1 e1 r1 v1 =>
    ⟨isLst_ty r1 v1 h1.1, σd, M1, F1, _, hF.trans e1, r1, hS.mono e1, h1.2, fun xs M2 vs H2 F2 h2 e2 r2 vs2 => ⟨x, xs, M2, F2, Qd, (hF.trans e1).trans e2, r2, v1.mono e2, vs2, h2, fin.mono (e1.trans e2)⟩⟩⟩
def dBL0 (r : DRM) (to : DTE) : DTE := fun σ M Q => to σ M fun x M1 => isLst x M1 ∧ r x [] M1 Q
theorem de_bl0 {id : String} {name : Str} {apos cpos : Pos} {r : DRM} {o : Expr} {to : DTE} (slot : Slot "list" name id) (hty : typeOf (.builtin id) = pure (.type "method_descriptor")) (hm : MtR X id (LRM X.K F0 r)) (ho : DE X F0 o to)
    (hbase : attributeBase o name X.env (eval o X.env) = eval o X.env := by rfl) (hline : (apos.endLine == cpos.line) = true := by rfl) : DE X F0 (.Call (.Attribute o name apos) [] [] cpos) (dBL0 r to) :=
  PE_imp (pe_bm0 F.plainAttrs_list slot hty hm ho hbase hline) fun σ H Q ⟨σd, M, F, Qd, hF, hR, hS, h, fin⟩ => ⟨σd, M, F, _, hF, hR, hS, h, fun x M1 v H1 F1 h1 e1 r1 v1 =>
    ⟨isLst_ty r1 v1 h1.1, x, [], M1, F1, Qd, hF.trans e1, r1, v1, .nil, h1.2, fin.mono e1⟩⟩
def dAppend : DRM := fun x xs M Q => ∃ p ds y, x = .obj p ∧ xs = [y] ∧ M p = some (.lst ds) ∧ ds.length < sizeLine ∧ Q .non (updM M p (.lst (ds ++ [y])))
theorem md_append : MtR X "list.append" (LRM X.K F0 dAppend) := by
  refine MtR_imp mt_append fun v vs H Q ⟨x, xs, M, F, Qd, hF, r, hx, hxs, ⟨p, ds, y, e1, e2, hp, hz, h⟩, fin⟩ => ?_
  subst e1 e2
  obtain ⟨u, rfl, hu⟩ := hxs.one
  obtain ⟨vs, h1, h2⟩ := r.mem p _ hp
  cases rep_obj.mp hx
  exact ⟨p, vs, u, rfl, rfl, h1, by rw [← h2.length]; exact hz, fin.go h (r.setM hp (h2.append (.cons hu .nil))) (rep_non.mpr rfl)⟩
def dExtend : DRM := fun x xs M Q => ∃ p ds y es, x = .obj p ∧ xs = [y] ∧ M p = some (.lst ds) ∧ lsD M y = some es ∧ ds.length + es.length ≤ sizeLine ∧ Q .non (updM M p (.lst (ds ++ es)))
theorem md_extend : MtR X "list.extend" (LRM X.K F0 dExtend) := by
  refine MtR_imp mt_extend fun v vs H Q ⟨x, xs, M, F, Qd, hF, r, hx, hxs, ⟨p, ds, y, es, e1, e2, hp, hy, hz, h⟩, fin⟩ => ?_
  subst e1 e2
  obtain ⟨u, rfl, hu⟩ := hxs.one
  obtain ⟨vs, h1, h2⟩ := r.mem p _ hp
  cases rep_obj.mp hx
  obtain ⟨q, us, rfl, h3, h4⟩ := lsD_rep r hu hy
  exact ⟨p, q, vs, us, rfl, rfl, h1, h3, by rw [← h2.length, ← h4.length]; exact hz, fin.go h (r.setM hp (h2.append h4)) (rep_non.mpr rfl)⟩
def dPop : DRM := fun x xs M Q => ∃ p ds y, x = .obj p ∧ xs = [] ∧ M p = some (.lst ds) ∧ ds.getLast? = some y ∧ Q y (updM M p (.lst ds.dropLast))
theorem md_pop : MtR X "list.pop" (LRM X.K F0 dPop) := by
  refine MtR_imp mt_pop fun v vs H Q ⟨x, xs, M, F, Qd, hF, r, hx, hxs, ⟨p, ds, y, e1, e2, hp, hz, h⟩, fin⟩ => ?_
  subst e1 e2
  cases hxs.nil_inv
  obtain ⟨vs, h1, h2⟩ := r.mem p _ hp
  cases rep_obj.mp hx
  rw [List.getLast?_eq_getElem?] at hz
  obtain ⟨u, h3, h4⟩ := h2.getD hz
  rw [h2.length] at h3
  exact ⟨p, vs, u, rfl, rfl, h1, h3, fin.go h (r.setM hp h2.dropLast) h4⟩
def dReverse : DRM := fun x xs M Q => ∃ p ds, x = .obj p ∧ xs = [] ∧ M p = some (.lst ds) ∧ Q .non (updM M p (.lst ds.reverse))
theorem md_reverse : MtR X "list.reverse" (LRM X.K F0 dReverse) := by
  refine MtR_imp mt_reverse fun v vs H Q ⟨x, xs, M, F, Qd, hF, r, hx, hxs, ⟨p, ds, e1, e2, hp, h⟩, fin⟩ => ?_
  subst e1 e2
  cases hxs.nil_inv
  obtain ⟨vs, h1, h2⟩ := r.mem p _ hp
  cases rep_obj.mp hx
  exact ⟨p, vs, rfl, rfl, h1, fin.go h (r.setM hp h2.reverse) (rep_non.mpr rfl)⟩
/-- methods of texts -/
def dS0 (r : Str → Mp → DK → Prop) (to : DTE) : DTE := fun σ M Q => to σ M fun x M1 => match x with
  | .str z => r z M1 Q
  | _ => False
def LS0 (K : PySem.W.Frag) (F0 : Hp) (r : Str → Mp → DK → Prop) : V → List V → Hp → VK → Prop := fun v vs H Q => ∃ z M F Qd, v = .str z ∧ vs = [] ∧ Same F0 F ∧ R K M F H ∧ r z M Qd ∧ Fin K F Qd Q
theorem de_s0 {id : String} {name : Str} {apos cpos : Pos} {r : Str → Mp → DK → Prop} {o : Expr} {to : DTE} (slot : Slot "str" name id) (ty : typeOf (.builtin id) = pure (.type "method_descriptor")) (rule : MtR X id (LS0 X.K F0 r)) (ho : DE X F0 o to)
    (hbase : attributeBase o name X.env (eval o X.env) = eval o X.env := by rfl) (hline : (apos.endLine == cpos.line) = true := by rfl) : DE X F0 (.Call (.Attribute o name apos) [] [] cpos) (dS0 r to) :=
  PE_imp (pe_m0 slot ty rule ho hbase hline) fun σ H Q ⟨σd, M, F, Qd, hF, hR, hS, h, fin⟩ => ⟨σd, M, F, _, hF, hR, hS, h, fun x M1 v H1 F1 h1 e1 r1 v1 => by
    split at h1
    · exact ⟨⟨_, rep_str.mp v1⟩, _, M1, F1, Qd, rep_str.mp v1, rfl, hF.trans e1, r1, h1, fin.mono e1⟩
    · exact h1.elim⟩
def dS1 (r : Str → D → Mp → DK → Prop) (to te : DTE) : DTE := fun σ M Q => to σ M fun x M1 => match x with
  | .str z => te σ M1 fun y M2 => r z y M2 Q
  | _ => False
def LS1 (K : PySem.W.Frag) (F0 : Hp) (r : Str → D → Mp → DK → Prop) : V → List V → Hp → VK → Prop := fun v vs H Q => ∃ z y u M F Qd, v = .str z ∧ vs = [u] ∧ Rep K F y u ∧ Same F0 F ∧ R K M F H ∧ r z y M Qd ∧ Fin K F Qd Q
theorem de_s1 {id : String} {name : Str} {apos cpos : Pos} {r : Str → D → Mp → DK → Prop} {o : Expr} {to : DTE} (slot : Slot "str" name id) (ty : typeOf (.builtin id) = pure (.type "method_descriptor")) (rule : MtR X id (LS1 X.K F0 r)) (ho : DE X F0 o to) (he : DE X F0 e te)
    (hs : starEach [e] X.env = [(false, eval e X.env)] := by rfl) (hbase : attributeBase o name X.env (eval o X.env) = eval o X.env := by rfl) (hline : (apos.endLine == cpos.line) = true := by rfl) : DE X F0 (.Call (.Attribute o name apos) [e] [] cpos) (dS1 r to te) :=
  PE_imp (pe_m1 slot ty rule ho he hs hbase hline) fun σ H Q ⟨σd, M, F, Qd, hF, hR, hS, h, fin⟩ => ⟨σd, M, F, _, hF, hR, hS, h, fun x M1 v H1 F1 h1 e1 r1 v1 => by
    split at h1
    · exact ⟨⟨_, rep_str.mp v1⟩, σd, M1, F1, _, hF.trans e1, r1, hS.mono e1, h1, fun y M2 w H2 F2 h2 e2 r2 w2 => ⟨_, y, w, M2, F2, Qd, rep_str.mp v1, rfl, w2, (hF.trans e1).trans e2, r2, h2, fin.mono (e1.trans e2)⟩⟩
    · exact h1.elim⟩
def sUpper : Str → Mp → DK → Prop := fun z M Q => z.length ≤ 5592405 ∧ Q (.str (Txt.upper z)) M
theorem xs_upper : MtR X "str.upper" (LS0 X.K F0 sUpper) := MtR_imp mt_upper fun v vs H Q ⟨z, M, F, Qd, e1, e2, hF, r, h, fin⟩ => ⟨z, e1, e2, h.1, fin.go h.2 r (rep_str.mpr rfl)⟩
def sIsalnum : Str → Mp → DK → Prop := fun z M Q => Q (.bl (Txt.isalnum z)) M
theorem xs_isalnum : MtR X "str.isalnum" (LS0 X.K F0 sIsalnum) := MtR_imp mt_isalnum fun v vs H Q ⟨z, M, F, Qd, e1, e2, hF, r, h, fin⟩ => ⟨z, e1, e2, trivial, fin.go h r (rep_bl.mpr rfl)⟩
def sIsalpha : Str → Mp → DK → Prop := fun z M Q => Q (.bl (Txt.isalpha z)) M
theorem xs_isalpha : MtR X "str.isalpha" (LS0 X.K F0 sIsalpha) := MtR_imp mt_isalpha fun v vs H Q ⟨z, M, F, Qd, e1, e2, hF, r, h, fin⟩ => ⟨z, e1, e2, trivial, fin.go h r (rep_bl.mpr rfl)⟩
def sSplit (own : Bool) : Str → D → Mp → DK → Prop := fun z y M Q => match y with
  | .str b => (b.length == 0) = false ∧ z.length + 2 ≤ sizeLine ∧ dNew own ((Txt.split z b).map D.str) M Q
  | _ => False
theorem xs_split {own : Bool} : MtR X "str.split" (LS1 X.K F0 (sSplit own)) := MtR_imp mt_split fun v vs H Q ⟨z, y, u, M, F, Qd, e1, e2, hu, hF, r, h, fin⟩ => by
  unfold sSplit at h
  split at h
  · cases rep_str.mp hu
    exact ⟨z, _, e1, e2, h.1, h.2.1, fun p hp => dNew_fin r Reps.strs h.2.2 fin hp⟩
  · exact h.elim
def sJoin : Str → D → Mp → DK → Prop := fun z y M Q => ∃ xs, (sqD M y).bind strsD = some xs ∧ (xs.map (·.length)).sum + xs.length * z.length ≤ 16777216 ∧ Q (.str (Txt.join z xs)) M
theorem xs_join : MtR X "str.join" (LS1 X.K F0 sJoin) := MtR_imp mt_join fun v vs H Q ⟨z, y, u, M, F, Qd, e1, e2, hu, hF, r, ⟨xs, e, hz, h⟩, fin⟩ => by
  obtain ⟨ds, e3, e4⟩ := Option.bind_eq_some_iff.mp e
  obtain ⟨p, vs', rfl, hq, hr⟩ := sqD_rep r hu e3
  have := strsD_eq e4
  subst this
  have := hr.strs_inv
  subst this
  exact ⟨z, p, xs, e1, e2, hq, hz, fin.go h r (rep_str.mpr rfl)⟩
def sCount : Str → D → Mp → DK → Prop := fun z y M Q => match y with
  | .str b => Q (.int (Txt.count z b)) M
  | _ => False
theorem xs_count : MtR X "str.count" (LS1 X.K F0 sCount) := MtR_imp mt_count fun v vs H Q ⟨z, y, u, M, F, Qd, e1, e2, hu, hF, r, h, fin⟩ => by
  unfold sCount at h
  split at h
  · cases rep_str.mp hu
    exact ⟨z, _, e1, e2, fin.go h r (rep_int.mpr rfl)⟩
  · exact h.elim
def sEndswith : Str → D → Mp → DK → Prop := fun z y M Q => match y with
  | .str b => Q (.bl (Txt.endswith z b)) M
  | _ => False
theorem xs_endswith : MtR X "str.endswith" (LS1 X.K F0 sEndswith) := MtR_imp mt_endswith fun v vs H Q ⟨z, y, u, M, F, Qd, e1, e2, hu, hF, r, h, fin⟩ => by
  unfold sEndswith at h
  split at h
  · cases rep_str.mp hu
    exact ⟨z, _, e1, e2, fin.go h r (rep_bl.mpr rfl)⟩
  · exact h.elim
def sRfind : Str → D → Mp → DK → Prop := fun z y M Q => match y with
  | .str b => Q (.int (Txt.rfind z b)) M
  | _ => False
theorem xs_rfind : MtR X "str.rfind" (LS1 X.K F0 sRfind) := MtR_imp mt_rfind fun v vs H Q ⟨z, y, u, M, F, Qd, e1, e2, hu, hF, r, h, fin⟩ => by
  unfold sRfind at h
  split at h
  · cases rep_str.mp hu
    exact ⟨z, _, e1, e2, fin.go h r (rep_int.mpr rfl)⟩
  · exact h.elim
end
end DL
namespace DL
open PySem L2
section
variable {X : Cx} {F0 : Hp} {a b c e : Expr} {ta tb tc te : DTE} {pos : Pos} {es : List Expr} {tr : DTA}

/-! ### isinstance(x, T), T a built-in type -/
def tyD (x : D) (M : Mp) : Option String := match x with
  | .non => some "NoneType"
  | .bl _ => some "bool"
  | .int _ => some "int"
  | .str _ => some "str"
  | .tup _ => some "tuple"
  | .lst _ => some "list"
  | .rdl _ => none
  | .obj p => (match M p with
    | some (.lst _) => some "list"
    | _ => none)
theorem tyD_ok {K : PySem.W.Frag} {F H : Hp} {M : Mp} (r : R K M F H) {x : D} {v : V} {n : String} (h : Rep K F x v) (e : tyD x M = some n) : TyX K H v (.type n) := by
  cases x with
  | non => cases rep_non.mp h; cases e; exact .base .non
  | bl b => cases rep_bl.mp h; cases e; exact .base (.bl b)
  | int i => cases rep_int.mp h; cases e; exact .base (.int i)
  | str i => cases rep_str.mp h; cases e; exact .base (.str i)
  | rdl i => cases e
  | tup ds =>
    obtain ⟨a, vs, rfl, hq, _⟩ := rep_tup.mp h
    cases e
    rcases hq with (hq | ⟨o, hq⟩) | ⟨o, its, m, hk, hc, _⟩
    · exact .base (.tup (r.fr _ _ hq))
    · exact .fTuple (r.fr _ _ hq)
    · exact .kTuple hk hc
  | lst ds =>
    obtain ⟨a, vs, rfl, hq, _⟩ := rep_lst.mp h
    cases e
    exact .base (.lst (r.fr _ _ hq))
  | obj p =>
    cases rep_obj.mp h
    unfold tyD at e
    dsimp only at e
    split at e
    · rename_i ds hp
      cases e
      obtain ⟨vs, h1, _⟩ := r.mem p _ hp
      exact .base (.lst h1)
    · cases e
def dIsi (T : String) (te : DTE) : DTE := fun σ M Q => te σ M fun x M1 => ∃ n b, tyD x M1 = some n ∧ kitB n T = some b ∧ Q (.bl b) M1
theorem de_isi {p q : Pos} {T : Str} {n : String} (ha : DE X F0 a ta) (hg : Gl X "isinstance") (hm : X.mg "isinstance" = none) (hT : PE X (.Name T q) (tC (.ty n)))
    (hs : starEach [a, .Name T q] X.env = (false, eval a X.env) :: starEach [.Name T q] X.env := by rfl) (hs2 : starEach [.Name T q] X.env = (false, eval (.Name T q) X.env) :: starEach [] X.env := by rfl) (hpl : (backTo pos (starEach [.Name T q] X.env)).any (·.1) = false := by rfl) :
    DE X F0 (.Call (.Name "isinstance" p) [a, .Name T q] [] pos) (dIsi n ta) :=
  PE_imp (pe_callB call_isi hg hm (by decide +kernel) (pa_cons ha (pa_cons hT pa_nil hs2) hs) (by decide) (by decide) hs hpl) fun σ H Q ⟨σd, M, F, Qd, hF, hR, hS, h, fin⟩ => ⟨σd, M, F, _, hF, hR, hS, h, fun x M1 v H1 F1 ⟨m, b, e1, e2, h1⟩ e3 r1 v1 =>
    ⟨v, .ty n, .type m, .type n, b, rfl, .ty n, tyD_ok r1 v1 e1, kit_ty e2, fin _ _ _ _ _ h1 e3 r1 (rep_bl.mpr rfl)⟩⟩

/-! ### statements -/
variable {st : Stmt} {rest : List Stmt} {t u : DTS}
def dNext : DTS := fun D σ M => D.nx σ M
def dSeq (t u : DTS) : DTS := fun D σ M => t { D with nx := u D } σ M
theorem dss_nil : DSs X F0 [] dNext := PSs_imp pss_nil fun D σ H ⟨σd, M, F, Dd, hF, r, hS, h, fin⟩ => fin.nx _ _ _ _ F h (Same.refl F) r hS
theorem dss_cons (h1 : DSt X F0 st t) (h2 : DSs X F0 rest u) : DSs X F0 (st :: rest) (dSeq t u) :=
  PSs_imp (pss_cons h1 h2) fun D σ H ⟨σd, M, F, Dd, hF, r, hS, h, fin⟩ => ⟨σd, M, F, _, hF, r, hS, h, ⟨fun σd1 M1 σ1 H1 F1 q e1 r1 s1 => ⟨σd1, M1, F1, Dd, hF.trans e1, r1, s1, q, fin.mono e1⟩, fin.rt, fin.bk, fin.ct⟩⟩
theorem dss_one (h1 : DSt X F0 st t) : DSs X F0 [st] t := pss_one h1
def dBreak : DTS := fun D σ M => D.bk σ M
def dCont : DTS := fun D σ M => D.ct σ M
theorem ds_pass : DSt X F0 (.Pass pos) dNext := PS_imp ps_pass fun D σ H ⟨σd, M, F, Dd, hF, r, hS, h, fin⟩ => fin.nx _ _ _ _ F h (Same.refl F) r hS
theorem ds_break : DSt X F0 (.Break pos) dBreak := PS_imp ps_break fun D σ H ⟨σd, M, F, Dd, hF, r, hS, h, fin⟩ => fin.bk _ _ _ _ F h (Same.refl F) r hS
theorem ds_continue : DSt X F0 (.Continue pos) dCont := PS_imp ps_continue fun D σ H ⟨σd, M, F, Dd, hF, r, hS, h, fin⟩ => fin.ct _ _ _ _ F h (Same.refl F) r hS
theorem ds_doc {x j pos pos'} : DSt X F0 (.Expr (.Constant (.str x) j pos) pos') dNext := PS_imp ps_doc fun D σ H ⟨σd, M, F, Dd, hF, r, hS, h, fin⟩ => fin.nx _ _ _ _ F h (Same.refl F) r hS
def dDrop (te : DTE) : DTS := fun D σ M => te σ M fun _ M1 => D.nx σ M1
theorem ds_expr (he : DE X F0 e te) (hs : swapsWith e none pos.line X.env = pure false := by rfl) : DSt X F0 (.Expr e pos) (dDrop te) :=
  PS_imp (ps_expr he hs) fun D σ H ⟨σd, M, F, Dd, hF, r, hS, h, fin⟩ => ⟨σd, M, F, _, hF, r, hS, h, fun d M1 v H1 F1 q e1 r1 v1 => fin.nx _ _ _ _ F1 q e1 r1 (hS.mono e1)⟩
def dRet (te : DTE) : DTS := fun D σ M => te σ M D.rt
theorem ds_ret (he : DE X F0 e te) : DSt X F0 (.Return (some e) pos) (dRet te) :=
  PS_imp (ps_ret he) fun D σ H ⟨σd, M, F, Dd, hF, r, hS, h, fin⟩ => ⟨σd, M, F, _, hF, r, hS, h, fin.rt⟩
def dRetN : DTS := fun D _ M => D.rt .non M
theorem ds_retN : DSt X F0 (.Return none pos) dRetN := PS_imp ps_retN fun D σ H ⟨σd, M, F, Dd, hF, r, hS, h, fin⟩ => fin.rt.go h r (rep_non.mpr rfl)
def dIfS (c : DTT) (t u : DTS) : DTS := fun D σ M => c σ M fun b M1 => IfB b (t D σ M1) (u D σ M1)
theorem ds_if {c : Expr} {a b : List Stmt} {tc : DTT} (hc : DT X F0 c tc) (ha : DSs X F0 a t) (hb : DSs X F0 b u) : DSt X F0 (.If c a b pos) (dIfS tc t u) :=
  PS_imp (ps_if hc ha hb) fun D σ H ⟨σd, M, F, Dd, hF, r, hS, h, fin⟩ => ⟨σd, M, F, _, hF, r, hS, h, fun b M1 H1 F1 q e1 r1 => by
    cases b with
    | true => exact iteT ⟨σd, M1, F1, Dd, hF.trans e1, r1, hS.mono e1, q, fin.mono e1⟩
    | false => exact iteF ⟨σd, M1, F1, Dd, hF.trans e1, r1, hS.mono e1, q, fin.mono e1⟩⟩
def dNever : DTS := fun _ _ _ => False
theorem ds_never : DSt X F0 st dNever := PS_imp ps_never fun D σ H ⟨σd, M, F, Dd, hF, r, hS, h, fin⟩ => h.elim
theorem dss_never {sts : List Stmt} : DSs X F0 sts dNever := PSs_imp pss_never fun D σ H ⟨σd, M, F, Dd, hF, r, hS, h, fin⟩ => h.elim

/-! ### targets -/
def nGm (i : Nat) : DTG := fun d σ M Q => Q (σ.set i (some d)) M
theorem dg_name {i : Nat} {x : Str} (h : PG X (.Name x pos) (gName i)) : DG X F0 (.Name x pos) (nGm i) :=
  PG_imp h fun v σ H Q ⟨d, σd, M, F, Qd, hF, r, hv, hS, h, fin⟩ => fin _ _ _ _ F h (Same.refl F) r (hS.set i hv)
def nNil : DTGs := fun ds σ M Q => ds = [] ∧ Q σ M
def nCons (t : DTG) (u : DTGs) : DTGs := fun ds σ M Q => match ds with
  | d :: r => t d σ M fun σ' M' => u r σ' M' Q
  | [] => False
theorem dgs_nil : DGs X F0 [] nNil := PGs_imp pgs_nil fun v σ H Q ⟨ds, σd, M, F, Qd, hF, r, hv, hS, ⟨e, h⟩, fin⟩ => by
  subst e
  exact ⟨hv.nil_inv, fin _ _ _ _ F h (Same.refl F) r hS⟩
theorem dgs_cons {tg : Expr} {tgs : List Expr} {t : DTG} {u : DTGs} (h1 : DG X F0 tg t) (h2 : DGs X F0 tgs u)
    (hs : (assignEach (tg :: tgs) X.env).map (·.2) = assign tg X.env :: (assignEach tgs X.env).map (·.2) := by rfl) : DGs X F0 (tg :: tgs) (nCons t u) :=
  PGs_imp (pgs_cons h1 h2 hs) fun v σ H Q ⟨ds, σd, M, F, Qd, hF, r, hv, hS, h, fin⟩ => by
    unfold nCons at h
    split at h
    · obtain ⟨v1, vs, rfl, r1, r2⟩ := hv.consD_inv
      exact ⟨v1, vs, rfl, _, σd, M, F, _, hF, r, r1, hS, h, fun σd1 M1 σ1 H1 F1 q e1 rr s1 => ⟨_, σd1, M1, F1, Qd, hF.trans e1, rr, r2.mono e1, s1, q, fin.mono e1⟩⟩
    · exact h.elim
def nTup (n : Nat) (t : DTGs) : DTG := fun d σ M Q => match d with
  | .tup ds => ds.length = n ∧ t ds σ M Q
  | _ => False
theorem dg_tup {tgs : List Expr} {k : Nat} {t : DTGs} {n : Nat} (hc : X.calm = true) (h : DGs X F0 tgs t)
    (hn : (assignEach tgs X.env).length = n := by rfl) (hst : (assignEach tgs X.env).findIdx? (·.1) = none := by rfl) : DG X F0 (.Tuple tgs k pos) (nTup n t) :=
  PG_imp (pg_tup hc h hn hst) fun v σ H Q ⟨d, σd, M, F, Qd, hF, r, hv, hS, h, fin⟩ => by
    unfold nTup at h
    split at h
    · obtain ⟨a, vs, rfl, hq, hr⟩ := rep_tup.mp hv
      exact ⟨a, vs, rfl, sqT_up r hq, by rw [← hr.length]; exact h.1, _, σd, M, F, Qd, hF, r, hr, hS, h.2, fin⟩
    · exact h.elim
/-- o[i] = v, o a list that may change -/
def nSub (to ti : DTE) : DTG := fun d σ M Q => to σ M fun o M1 => ti σ M1 fun i M2 => ∃ p ds k j, o = .obj p ∧ i = .int k ∧ M2 p = some (.lst ds) ∧ ixN ds.length k = some j ∧ Q σ (updM M2 p (.lst (ds.set j d)))
theorem dg_sub {o i : Expr} {to ti : DTE} (ho : DE X F0 o to) (hi : DE X F0 i ti)
    (ha : ∀ v, assign (.Subscript o i pos) X.env v = (do
      let ov ← holding [v] (eval o X.env)
      let iv ← holding [v, ov] (eval i X.env)
      standAt pos
      holding [v, ov, iv] (setItem ov iv v)
      release [v, ov, iv] []) := by intro _; rfl) : DG X F0 (.Subscript o i pos) (nSub to ti) :=
  PG_imp (pg_sub ho hi set_list ha) fun v σ H Q ⟨d, σd, M, F, Qd, hF, r, hv, hS, h, fin⟩ => ⟨σd, M, F, _, hF, r, hS, h, fun ov M1 ou H1 F1 q e1 r1 o1 =>
    ⟨σd, M1, F1, _, hF.trans e1, r1, hS.mono e1, q, fun iv M2 iu H2 F2 q2 e2 r2 i2 => by
      obtain ⟨p, ds, k, j, rfl, rfl, hp, hj, q2⟩ := q2
      obtain ⟨vs, h1, h2⟩ := r2.mem p _ hp
      have e12 := e1.trans e2
      refine ⟨p, vs, k, j, rep_obj.mp o1, rep_int.mp i2, h1, by rw [← h2.length]; exact hj, ?_⟩
      exact fin _ _ _ _ F2 q2 e12 (r2.setM hp (h2.set j (hv.mono e12))) (hS.mono e12)⟩⟩
def dAsg (te : DTE) (g : DTG) : DTS := fun D σ M => te σ M fun x M1 => g x σ M1 D.nx
theorem lift_asg {K : PySem.W.Frag} {g : DTG} {D : Ends} {σ : St} {H : Hp} (h : LS K F0 (dAsg te g) D σ H) : tAsg (LE K F0 te) (LG K F0 g) D σ H := by
  obtain ⟨σd, M, F, Dd, hF, r, hS, h, fin⟩ := h
  exact ⟨σd, M, F, _, hF, r, hS, h, fun x M1 v H1 F1 q e1 r1 v1 => ⟨x, σd, M1, F1, _, hF.trans e1, r1, v1, hS.mono e1, q, fin.nx.mono e1⟩⟩
theorem ds_asg {tg e : Expr} {g : DTG} (he : DE X F0 e te) (hg : DG X F0 tg g) (hs : swapsWithSole [tg] e pos.line X.env = pure false := by rfl) (hw : swappedStores [tg] e X.env = pure none := by rfl)
    (h1 : (assignEach [tg] X.env).map (·.2) = [assign tg X.env] := by rfl) : DSt X F0 (.Assign [tg] e pos) (dAsg te g) :=
  PS_imp (ps_asg he hg hs hw h1) fun _ _ _ h => lift_asg h
theorem ds_set {i : Nat} {x : Str} {e : Expr} {pos' : Pos} (hN : X.N.Nodup) (hi : X.N[i]? = some x) (hx : Loc X.env.scope x) (he : DE X F0 e te) (hs : swapsWith e (some (.Name x pos')) pos.line X.env = pure false := by rfl) (hf : X.fn x = true ∨ X.env.scope.names.lookup x = some .local := by first | exact .inl rfl | exact .inr rfl | assumption) :
    DSt X F0 (.Assign [.Name x pos'] e pos) (dAsg te (nGm i)) :=
  PS_imp (ps_set hN hi hx he hs hf) fun D σ H ⟨σd, M, F, Dd, hF, r, hS, h, fin⟩ => ⟨σd, M, F, _, hF, r, hS, h, fun x M1 v H1 F1 q e1 r1 v1 => fin.nx _ _ _ _ F1 q e1 r1 ((hS.mono e1).set i v1)⟩
def dPar (i j : Nat) (ta : DTA) : DTS := fun D σ M => ta σ M fun vs M1 => match vs with
  | [v, w] => D.nx ((σ.set i (some v)).set j (some w)) M1
  | _ => False
theorem ds_par {i j : Nat} {x y : Str} {a b : Expr} {ta : DTA} {px py pt : Pos} {kt k2 pt2} (hc : X.calm = true) (hN : X.N.Nodup) (hi : X.N[i]? = some x) (hj : X.N[j]? = some y) (hij : i ≠ j)
    (hx : X.env.scope.names.lookup x = some .local) (hy : X.env.scope.names.lookup y = some .local) (ha : DA X F0 [a, b] ta)
    (hw : swappedStores [.Tuple [.Name x px, .Name y py] kt pt] (.Tuple [a, b] k2 pt2) X.env = pure (some [x, y]))
    (hs : swapsWithSole [.Tuple [.Name x px, .Name y py] kt pt] (.Tuple [a, b] k2 pt2) pos.line X.env = pure false := by rfl) :
    DSt X F0 (.Assign [.Tuple [.Name x px, .Name y py] kt pt] (.Tuple [a, b] k2 pt2) pos) (dPar i j ta) :=
  PS_imp (ps_par hc hN hi hj hij hx hy ha hw hs) fun D σ H ⟨σd, M, F, Dd, hF, r, hS, h, fin⟩ => ⟨σd, M, F, _, hF, r, hS, h, fun ds M1 vs H1 F1 q e1 r1 v1 => by
    split at q
    · obtain ⟨v, w, rfl, h1, h2⟩ := v1.two
      exact ⟨v, w, rfl, fin.nx _ _ _ _ F1 q e1 r1 (((hS.mono e1).set i h1).set j h2)⟩
    · exact q.elim⟩
/-- x op= e of a name -/
def dAug (i : Nat) (te : DTE) (r : DR2) : DTS := fun D σ M => match σ[i]? with
  | some (some x) => te σ M fun y M1 => r x y M1 fun z M2 => D.nx (σ.set i (some z)) M2
  | _ => False
def LIp (K : PySem.W.Frag) (F0 : Hp) (r : DR2) : TIp := LR K F0 r
theorem PIp_of {op : Operator} {r : R2} (h : OpR X (inplaceOp op) r) : PIp X op r := fun pins s σ H x y v u Q I r1 r2 q => h pins s σ H x y v u Q I r1 r2 q
theorem ds_aug {i : Nat} {x : Str} {e : Expr} {op : Operator} {r : DR2} {pos' : Pos} (hN : X.N.Nodup) (hi : X.N[i]? = some x) (hx : Loc X.env.scope x) (he : DE X F0 e te) (ho : OpR X (inplaceOp op) (LR X.K F0 r)) (hf : X.fn x = true ∨ X.env.scope.names.lookup x = some .local := by first | exact .inl rfl | exact .inr rfl | assumption) :
    DSt X F0 (.AugAssign (.Name x pos') op e pos) (dAug i te r) :=
  PS_imp (ps_aug hN hi hx he (PIp_of ho) hf) fun D σ H ⟨σd, M, F, Dd, hF, rr, hS, h, fin⟩ => by
    unfold dAug at h
    split at h
    · rename_i x0 ex
      obtain ⟨v, e1, hv⟩ := hS.get ex
      exact ⟨v, e1, σd, M, F, _, hF, rr, hS, h, fun y M1 w H1 F1 q e2 r1 w1 => ⟨x0, y, M1, F1, _, hF.trans e2, r1, hv.mono e2, w1, q, fun z M2 zv H2 F2 q2 e3 r2 z2 => fin.nx _ _ _ _ F2 q2 (e2.trans e3) r2 ((hS.mono (e2.trans e3)).set i z2)⟩⟩
    · exact h.elim
/-- += of ints, texts; of a list that may change by a list -/
def dIAdd : DR2 := fun x y M Q => match x, y with
  | .int i, .int j => Q (.int (i + j)) M
  | .str a, .str b => a.length + b.length ≤ sizeLine ∧ Q (.str (a ++ b)) M
  | .obj p, y => ∃ ds es, M p = some (.lst ds) ∧ lsD M y = some es ∧ ds.length + es.length ≤ sizeLine ∧ Q (.obj p) (updM M p (.lst (ds ++ es)))
  | _, _ => False
theorem od_iadd : OpR X (inplaceOp .Add) (LR X.K F0 dIAdd) := by
  refine OpR_imp (iop_add.or (iop_add_str.or iop_ext)) fun v u H Q ⟨x, y, M, F, Qd, hF, r, hx, hy, h, fin⟩ => ?_
  unfold dIAdd at h
  split at h
  · exact .inl ⟨_, _, rep_int.mp hx, rep_int.mp hy, fin.go h r (rep_int.mpr rfl)⟩
  · exact .inr (.inl ⟨_, _, rep_str.mp hx, rep_str.mp hy, h.1, fin.go h.2 r (rep_str.mpr rfl)⟩)
  · obtain ⟨ds, es, hp, hy', hz, h⟩ := h
    obtain ⟨vs, h1, h2⟩ := r.mem _ _ hp
    obtain ⟨q, us, rfl, h3, h4⟩ := lsD_rep r hy hy'
    exact .inr (.inr ⟨_, q, vs, us, rep_obj.mp hx, rfl, h1, h3, by rw [← h2.length, ← h4.length]; exact hz, fin.go h (r.setM hp (h2.append h4)) (rep_obj.mpr rfl)⟩)
  · exact h.elim
def dISub : DR2 := fun x y M Q => match x, y with
  | .int i, .int j => Q (.int (i - j)) M
  | _, _ => False
theorem od_isub : OpR X (inplaceOp .Sub) (LR X.K F0 dISub) := by
  refine OpR_imp iop_sub fun v u H Q ⟨x, y, M, F, Qd, hF, r, hx, hy, h, fin⟩ => ?_
  unfold dISub at h
  split at h
  · exact ⟨_, _, rep_int.mp hx, rep_int.mp hy, fin.go h r (rep_int.mpr rfl)⟩
  · exact h.elim

/-! ### while -/
def dWhile (c : DTT) (tb : DTS) : DTS := fun D σ M => ∃ W : Nat → DS → Mp → Prop, (∃ m, W m σ M) ∧ ∀ m σ M, W m σ M → c σ M fun b M1 => IfB b (tb { D with nx := fun σ' M' => ∃ m', m' < m ∧ W m' σ' M', ct := fun σ' M' => ∃ m', m' < m ∧ W m' σ' M', bk := D.nx } σ M1) (D.nx σ M1)
theorem ds_while {c : Expr} {body : List Stmt} {tc : DTT} {tb : DTS} (hp : PassesOwn (model X.prog X.w) X.A X.env X.xe) (hc : DT X F0 c tc) (hb : DSs X F0 body tb) : DSt X F0 (.While c body [] pos) (dWhile tc tb) :=
  PS_imp (ps_while hp hc hb) fun D σ H ⟨σd, M, F, Dd, hF, r, hS, ⟨W, ⟨m0, w0⟩, h⟩, fin⟩ =>
    ⟨fun m σ H => ∃ σd M F1, Same F F1 ∧ R X.K M F1 H ∧ SRep X.K F1 σd σ ∧ W m σd M, ⟨m0, σd, M, F, Same.refl F, r, hS, w0⟩, fun m σ H ⟨σd, M, F1, e1, r1, s1, w⟩ =>
      ⟨σd, M, F1, _, hF.trans e1, r1, s1, h m σd M w, fun b M2 H2 F2 q e2 r2 => by
        have e12 := e1.trans e2
        cases b with
        | true =>
          refine iteT ⟨_, fun _ _ z => z, σd, M2, F2, _, hF.trans e12, r2, s1.mono e2, q, ⟨?_, fin.rt.mono e12, fin.nx.mono e12, ?_⟩⟩
          · rintro σd3 M3 σ3 H3 F3 ⟨m', hm, w3⟩ e3 r3 s3
            exact ⟨m', hm, σd3, M3, F3, e12.trans e3, r3, s3, w3⟩
          · rintro σd3 M3 σ3 H3 F3 ⟨m', hm, w3⟩ e3 r3 s3
            exact ⟨m', hm, σd3, M3, F3, e12.trans e3, r3, s3, w3⟩
        | false => exact iteF (fin.nx _ _ _ _ F2 q e12 r2 (s1.mono e2))⟩⟩

/-! ### what a loop walks -/
/-- the items, and what must stay true of M while they are walked -/
abbrev DTI := DS → Mp → (List D → (Mp → Prop) → Mp → Prop) → Prop
/-- a source that a loop walks: the items' iterator J over the concrete heap -/
structure Src (K : PySem.W.Frag) (F H : Hp) (ds : List D) (St : Mp → Prop) (J : It) : Prop where
  go : ∀ i F' H' M', Same F F' → R K M' F' H' → St M' → i < ds.length → J.go i H'
  yld : ∀ i F' H' M' x H2, Same F F' → R K M' F' H' → St M' → i < ds.length → J.yld i H' x H2 → ∃ d F2, ds[i]? = some d ∧ Same F' F2 ∧ R K M' F2 H2 ∧ Rep K F2 d x
  stop : ∀ i F' H' M', Same F F' → R K M' F' H' → St M' → ds.length ≤ i → J.stop i H'
def LI (K : PySem.W.Frag) (F0 : Hp) (τ : DTI) : TI := fun σ H Rr => ∃ σd M F, Same F0 F ∧ R K M F H ∧ SRep K F σd σ ∧ ∃ Kd : List D → (Mp → Prop) → Mp → Prop, τ σd M Kd ∧
  ∀ ds St M1 J F1 H1, Kd ds St M1 → Same F F1 → R K M1 F1 H1 → St M1 → Src K F1 H1 ds St J → Rr J H1
abbrev DI (X : Cx) (F0 : Hp) (tg iter : Expr) (τ : DTI) : Prop := PI X tg iter (LI X.K F0 τ)
theorem PI_imp {tg iter : Expr} {t t' : TI} (h : PI X tg iter t) (i : ∀ σ H Q, t' σ H Q → t σ H Q) : PI X tg iter t' := ⟨fun pins s σ H Q I q => h.run pins s σ H Q I (i σ H Q q)⟩
theorem PI_or {tg iter : Expr} {t t' : TI} (h : PI X tg iter t) (h' : PI X tg iter t') : PI X tg iter (fun σ H Q => t σ H Q ∨ t' σ H Q) := ⟨fun pins s σ H Q I q => q.elim (h.run pins s σ H Q I) (h'.run pins s σ H Q I)⟩
theorem src_list {K : PySem.W.Frag} {F H : Hp} {ds : List D} {St : Mp → Prop} {a : Addr} {vs : List V} (hq : ∀ F' H' M', Same F F' → R K M' F' H' → St M' → ∃ vs, SqL K H' a vs ∧ Reps K F' ds vs) : Src K F H ds St (Itl K a) where
  go := fun i F' H' M' e r s hi => by
    obtain ⟨vs, h1, h2⟩ := hq F' H' M' e r s
    have hi' : i < vs.length := by rw [← h2.length]; exact hi
    exact ⟨vs, vs[i], h1, by simp [hi']⟩
  yld := fun i F' H' M' x H2 e r s hi ⟨e2, y⟩ => by
    subst e2
    obtain ⟨vs, h1, h2⟩ := hq F' _ M' e r s
    obtain ⟨d, h3, h4⟩ := h2.get (y vs h1)
    exact ⟨d, F', h3, Same.refl _, r, h4⟩
  stop := fun i F' H' M' e r s hi => by
    obtain ⟨vs, h1, h2⟩ := hq F' H' M' e r s
    exact ⟨vs, h1, by rw [← h2.length]; exact hi⟩
theorem src_tup {K : PySem.W.Frag} {F H : Hp} {ds : List D} {St : Mp → Prop} {a : Addr} {vs : List V} (h1 : SqT K F a vs) (h2 : Reps K F ds vs) : Src K F H ds St (Itt K a) where
  go := fun i F' H' M' e r s hi => by
    have hi' : i < vs.length := by rw [← h2.length]; exact hi
    exact ⟨vs, vs[i], sqT_up r (sqT_mono e h1), by simp [hi']⟩
  yld := fun i F' H' M' x H2 e r s hi ⟨e2, y⟩ => by
    subst e2
    obtain ⟨d, h3, h4⟩ := (h2.mono e).get (y vs (sqT_up r (sqT_mono e h1)))
    exact ⟨d, F', h3, Same.refl _, r, h4⟩
  stop := fun i F' H' M' e r s hi => ⟨vs, sqT_up r (sqT_mono e h1), by rw [← h2.length]; exact hi⟩
/-- a list, a tuple or a text, walked -/
def iAny (K : PySem.W.Frag) (tl : TE) : TI := fun σ H R => tl σ H fun x H1 => (∃ a, x = .ref a ∧ (∃ xs, SqL K H1 a xs) ∧ R (Itl K a) H1) ∨ (∃ a, x = .ref a ∧ (∃ xs, SqT K H1 a xs) ∧ R (Itt K a) H1) ∨ ∃ z, x = .str z ∧ R (Its z) H1
theorem pi_any {tg l : Expr} {tl : TE} (hl : PE X l tl) : PI X tg l (iAny X.K tl) := by
  refine ⟨fun pins s σ H R I h => ?_⟩
  refine thn (hl.run pins s σ H _ I h) fun v s1 ⟨x, H1, I1, r1, q1⟩ => ?_
  rcases q1 with ⟨a, e, ⟨xs, hq⟩, q⟩ | ⟨a, e, ⟨xs, hq⟩, q⟩ | ⟨z, e, q⟩
  · subst e
    cases r1
    obtain ⟨its, rv, p, hz⟩ := I1.list hq
    refine wpAny_pyIter_list p.isList ?_
    refine ⟨s1.heap.objs.size, [s1.heap.objs.size], _, _, H1, rfl, I1.kept (t' := s1.toks) fun b o e => Heap.get?_push_of_some _ e, turn_list a _, ⟨_, Heap.get?_push_size _ rfl, rfl, rfl⟩, fun b hb => ?_, q⟩
    have e : b = s1.heap.objs.size := by simpa using hb
    subst e
    exact I1.fpOk (Nat.le_refl _) (I1.hok.fresh (Nat.le_refl _))
  · subst e
    cases r1
    obtain ⟨its, rv, p, hz⟩ := I1.tuple hq
    refine wpAny_pyIter_tuple (show s1.heap.IsTuple a its.toArray from p) ?_
    refine ⟨s1.heap.objs.size, [s1.heap.objs.size], _, _, H1, rfl, I1.kept (t' := s1.toks) fun b o e => Heap.get?_push_of_some _ e, turn_tuple a _, ⟨_, Heap.get?_push_size _ rfl, rfl, rfl⟩, fun b hb => ?_, q⟩
    have e : b = s1.heap.objs.size := by simpa using hb
    subst e
    exact I1.fpOk (Nat.le_refl _) (I1.hok.fresh (Nat.le_refl _))
  · subst e
    obtain ⟨t, rfl⟩ := r1
    cases ha : z.cps.all (· < 128)
    · exact wpAny_pyIter_wide ha (pi_one (tk := s1.toks) I1 _ (turn_str _ z t "str_iterator" (.inr rfl)) ⟨_, Heap.get?_push_size _ rfl, rfl, rfl⟩ q)
    · exact wpAny_pyIter_ascii ha (pi_one (tk := s1.toks) I1 _ (turn_str _ z t "str_ascii_iterator" (.inl rfl)) ⟨_, Heap.get?_push_size _ rfl, rfl, rfl⟩ q)
def signs (z : Str) : List D := z.cps.toList.map fun c => .str ⟨#[c]⟩
theorem src_str {K : PySem.W.Frag} {F H : Hp} {St : Mp → Prop} {z : Str} : Src K F H (signs z) St (Its z) where
  go := fun i F' H' M' e r s hi => by
    have : (signs z).length = z.cps.size := by simp [signs]
    rw [this] at hi
    exact hi
  yld := fun i F' H' M' x H2 e r s hi ⟨e2, c, h1, h2⟩ => by
    subst e2
    refine ⟨.str ⟨#[c]⟩, F', ?_, Same.refl _, r, rep_str.mpr h2⟩
    unfold signs
    rw [List.getElem?_map, Array.getElem?_toList, h1] <;> rfl
  stop := fun i F' H' M' e r s hi => by
    have : (signs z).length = z.cps.size := by simp [signs]
    rw [this] at hi
    exact hi
/-- items of a value -/
def dItems (te : DTE) : DTI := fun σ M Kd => te σ M fun x M1 => match x with
  | .obj p => ∃ ds, M1 p = some (.lst ds) ∧ Kd ds (fun M' => M' p = some (.lst ds)) M1
  | .tup ds => Kd ds (fun _ => True) M1
  | .lst ds => Kd ds (fun _ => True) M1
  | .rdl ns => Kd (ns.map D.int) (fun _ => True) M1
  | .str z => Kd (signs z) (fun _ => True) M1
  | _ => False
theorem di_items {tg : Expr} (he : DE X F0 e te) : DI X F0 tg e (dItems te) :=
  PI_imp (pi_any he) fun σ H Rr ⟨σd, M, F, hF, r, hS, Kd, h, fin⟩ => ⟨σd, M, F, _, hF, r, hS, h, fun x M1 v H1 F1 q e1 r1 v1 => by
    split at q
    · obtain ⟨ds, hp, q⟩ := q
      obtain ⟨vs, h1, h2⟩ := r1.mem _ _ hp
      refine .inl ⟨_, rep_obj.mp v1, ⟨vs, SqL.of h1⟩, fin _ _ _ _ _ _ q e1 r1 hp (src_list (vs := vs) fun F' H' M' e' r' s' => ?_)⟩
      obtain ⟨vs', h3, h4⟩ := r'.mem _ _ s'
      exact ⟨vs', SqL.of h3, h4⟩
    · obtain ⟨a, vs, rfl, hq, hr⟩ := rep_tup.mp v1
      exact .inr (.inl ⟨a, rfl, ⟨vs, sqT_up r1 hq⟩, fin _ _ _ _ _ _ q e1 r1 trivial (src_tup hq hr)⟩)
    · obtain ⟨a, vs, rfl, hq, hr⟩ := rep_lst.mp v1
      exact .inl ⟨a, rfl, ⟨vs, SqL.of (r1.fr _ _ hq)⟩, fin _ _ _ _ _ _ q e1 r1 trivial (src_list (vs := vs) fun F' H' M' e' r' s' => ⟨vs, SqL.of (r'.fr _ _ (e' _ _ hq)), hr.mono e'⟩)⟩
    · obtain ⟨a, rfl, hq⟩ := rep_rdl.mp v1
      exact .inl ⟨a, rfl, ⟨_, sqL_up r1 hq⟩, fin _ _ _ _ _ _ q e1 r1 trivial (src_list (vs := []) fun F' H' M' e' r' s' => ⟨_, sqL_up r' (e'.seq hq), Reps.ints⟩)⟩
    · exact .inr (.inr ⟨_, rep_str.mp v1, fin _ _ _ _ _ _ q e1 r1 trivial src_str⟩)
    · exact q.elim⟩
/-- range(n), range(i, j) -/
def upto (lo : Int) (n : Nat) : List D := (List.range n).map fun i => .int (lo + (i : Nat))
theorem src_range {K : PySem.W.Frag} {F H : Hp} {St : Mp → Prop} {lo : Int} {n : Nat} : Src K F H (upto lo n) St (Itr lo n) where
  go := fun i F' H' M' e r s hi => by
    have : (upto lo n).length = n := by simp [upto]
    rw [this] at hi
    exact hi
  yld := fun i F' H' M' x H2 e r s hi ⟨e2, h⟩ => by
    subst e2
    have : (upto lo n).length = n := by simp [upto]
    rw [this] at hi
    exact ⟨.int (lo + (i : Nat)), F', by simp [upto, hi], Same.refl _, r, rep_int.mpr h⟩
  stop := fun i F' H' M' e r s hi => by
    have : (upto lo n).length = n := by simp [upto]
    rw [this] at hi
    exact hi
def dRange1 (ta : DTA) : DTI := fun σ M Kd => ta σ M fun vs M1 => match vs with
  | [.int n] => (-(2 ^ 62) ≤ n ∧ n < 2 ^ 62) ∧ Kd (upto 0 n.toNat) (fun _ => True) M1
  | _ => False
theorem di_range1 {tg : Expr} {p : Pos} (hg : Gl X "range") (hm : X.mg "range" = none) (ha : DA X F0 [a] tr) (hs : starEach [a] X.env = [(false, eval a X.env)] := by rfl) : DI X F0 tg (.Call (.Name "range" p) [a] [] pos) (dRange1 tr) :=
  PI_imp (pi_range1 hg hm ha hs) fun σ H Rr ⟨σd, M, F, hF, r, hS, Kd, h, fin⟩ => ⟨σd, M, F, _, hF, r, hS, h, fun x M1 v H1 F1 q e1 r1 v1 => by
    split at q
    · obtain ⟨u, rfl, h1⟩ := v1.one
      cases rep_int.mp h1
      exact ⟨_, rfl, q.1.1, q.1.2, fin _ _ _ _ _ _ q.2 e1 r1 trivial src_range⟩
    · exact q.elim⟩
def dRange2 (ta : DTA) : DTI := fun σ M Kd => ta σ M fun vs M1 => match vs with
  | [.int m, .int n] => (-(2 ^ 62) ≤ m ∧ m < 2 ^ 62 ∧ -(2 ^ 62) ≤ n ∧ n < 2 ^ 62) ∧ Kd (upto m (n - m).toNat) (fun _ => True) M1
  | _ => False
theorem di_range2 {tg : Expr} {p : Pos} (hg : Gl X "range") (hm : X.mg "range" = none) (ha : DA X F0 [a, b] tr) (hs : starEach [a, b] X.env = [(false, eval a X.env), (false, eval b X.env)] := by rfl) (hs2 : starEach [b] X.env = [(false, eval b X.env)] := by rfl) : DI X F0 tg (.Call (.Name "range" p) [a, b] [] pos) (dRange2 tr) :=
  PI_imp (pi_range2 hg hm ha hs hs2) fun σ H Rr ⟨σd, M, F, hF, r, hS, Kd, h, fin⟩ => ⟨σd, M, F, _, hF, r, hS, h, fun x M1 v H1 F1 q e1 r1 v1 => by
    split at q
    · obtain ⟨u, u', rfl, h1, h2⟩ := v1.two
      cases rep_int.mp h1; cases rep_int.mp h2
      exact ⟨_, _, rfl, q.1, fin _ _ _ _ _ _ q.2 e1 r1 trivial src_range⟩
    · exact q.elim⟩

/-! ### for -/
def dFor (wi : DTI) (g : DTG) (tb : DTS) : DTS := fun D σ M => wi σ M fun ds St M1 => ∃ W : Nat → DS → Mp → Prop, W 0 σ M1 ∧ (∀ i σ M, W i σ M → i ≤ ds.length → St M) ∧
  (∀ i d σ M, ds[i]? = some d → W i σ M → g d σ M fun σ2 M2 => tb { D with nx := W (i + 1), ct := W (i + 1), bk := D.nx } σ2 M2) ∧ ∀ σ M, W ds.length σ M → D.nx σ M
theorem ds_for {tg iter : Expr} {body : List Stmt} {wi : DTI} {g : DTG} {tb : DTS} (hp : PassesOwn (model X.prog X.w) X.A X.env X.xe) (hc : X.calm = true) (hi : DI X F0 tg iter wi) (hg : DG X F0 tg g) (hb : DSs X F0 body tb)
    (hs : ∀ x, foldedSetIterable iter X.env x = pure x := by intro _; rfl) : DSt X F0 (.For tg iter body [] pos) (dFor wi g tb) :=
  PS_imp (ps_for hp hc hi hg hb hs) fun D σ H ⟨σd, M, F, Dd, hF, r, hS, h, fin⟩ => ⟨σd, M, F, hF, r, hS, _, h, by
    intro ds St M1 J F1 H1 ⟨W, w0, hst, hstep, hend⟩ e1 r1 st1 src
    refine ⟨fun i m σ H => ∃ σd M F2, m = ds.length - i ∧ i ≤ ds.length ∧ Same F1 F2 ∧ R X.K M F2 H ∧ SRep X.K F2 σd σ ∧ W i σd M, ⟨ds.length, σd, M1, F1, by simp, Nat.zero_le _, Same.refl _, r1, hS.mono e1, w0⟩, ?_⟩
    rintro i m σ H ⟨σd2, M2, F2, rfl, hi, e2, r2, s2, w2⟩
    have e12 := e1.trans e2
    have st2 := hst i σd2 M2 w2 hi
    by_cases hlt : i < ds.length
    · refine .inr ⟨src.go i F2 H M2 e2 r2 st2 hlt, fun σ' H' => ∃ σd M F3, Same F2 F3 ∧ R X.K M F3 H' ∧ SRep X.K F3 σd σ' ∧ W (i + 1) σd M, ?_, ?_⟩
      · rintro σ' H' ⟨σd3, M3, F3, e3, r3, s3, w3⟩
        exact ⟨ds.length - (i + 1), by omega, σd3, M3, F3, rfl, hlt, e2.trans e3, r3, s3, w3⟩
      · intro x H3 y
        obtain ⟨d, F3, hd, e3, r3, x3⟩ := src.yld i F2 H M2 x H3 e2 r2 st2 hlt y
        refine ⟨d, σd2, M2, F3, _, hF.trans (e12.trans e3), r3, x3, s2.mono e3, hstep i d σd2 M2 hd w2, fun σd4 M4 σ4 H4 F4 q e4 r4 s4 => ?_⟩
        have e14 := (e12.trans e3).trans e4
        refine ⟨σd4, M4, F4, _, hF.trans e14, r4, s4, q, ⟨?_, fin.rt.mono e14, fin.nx.mono e14, ?_⟩⟩
        · exact fun σd5 M5 σ5 H5 F5 w5 e5 r5 s5 => ⟨σd5, M5, F5, (e3.trans e4).trans e5, r5, s5, w5⟩
        · exact fun σd5 M5 σ5 H5 F5 w5 e5 r5 s5 => ⟨σd5, M5, F5, (e3.trans e4).trans e5, r5, s5, w5⟩
    · have e : i = ds.length := by omega
      subst e
      exact .inl ⟨src.stop _ F2 H M2 e2 r2 st2 (Nat.le_refl _), fin.nx _ _ _ _ F2 (hend _ _ w2) e12 r2 s2⟩⟩

end
end DL
namespace DL
open PySem L2
def remM (M : Mp) (p : Addr) : Mp := fun b => if b = p then none else M b
theorem remM_upd {M : Mp} {p : Addr} {o : MO} (h : M p = none) : remM (updM M p o) p = M := by
  funext b; unfold remM updM
  by_cases e : b = p
  · subst e; rw [if_pos rfl, h]
  · rw [if_neg e, if_neg e]
section
variable {K : PySem.W.Frag} {F H : Hp} {M : Mp}
/-- a list that stays as it is from here on -/
theorem R.freeze (r : R K M F H) {p : Addr} {ds : List D} (hp : M p = some (.lst ds)) : ∃ F', Same F F' ∧ R K (remM M p) F' H ∧ Rep K F' (.lst ds) (.ref p) := by
  obtain ⟨vs, h1, h2⟩ := r.mem p _ hp
  have e := same_upd (o := HO.lst vs) (r.ap p _ hp)
  refine ⟨upd F p (.lst vs), e, ⟨fun b u q => ?_, fun a mo q => ?_, fun a mo q => ?_⟩, rep_lst.mpr ⟨p, vs, rfl, upd_same, h2.mono e⟩⟩
  · by_cases hb : b = p
    · subst hb; rw [upd_same] at q; cases q; exact h1
    · rw [upd_ne hb] at q; exact r.fr b u q
  · have ha : a ≠ p := fun z => by subst z; unfold remM at q; rw [if_pos rfl] at q; cases q
    unfold remM at q; rw [if_neg ha] at q
    rw [upd_ne ha]; exact r.ap a mo q
  · have ha : a ≠ p := fun z => by subst z; unfold remM at q; rw [if_pos rfl] at q; cases q
    unfold remM at q; rw [if_neg ha] at q
    exact (r.mem a mo q).mono e rfl
end
section
variable {X : Cx} {F0 : Hp} {a b c e : Expr} {ta tb tc te : DTE} {pos : Pos} {es : List Expr} {tr : DTA}
/-! ### comprehensions: the one name at slot i -/
def dLcQ (own : Bool) (p : Addr) (M : Mp) (Q : DK) : Prop := match own with
  | true => Q (.obj p) M
  | false => ∃ acc, M p = some (.lst acc) ∧ Q (.lst acc) (remM M p)
def dLc (own : Bool) (j : Nat) (wi : DTI) (te : DTE) : DTE := fun σ M Q => wi σ M fun ds St M1 => ∀ p, M1 p = none → ∃ W : Nat → Mp → Prop, W 0 (updM M1 p (.lst [])) ∧ (∀ i M, W i M → i ≤ ds.length → St M) ∧
  (∀ i d M, ds[i]? = some d → W i M → te (σ.set j (some d)) M fun y M3 => ∃ acc, M3 p = some (.lst acc) ∧ acc.length < sizeLine ∧ W (i + 1) (updM M3 p (.lst (acc ++ [y])))) ∧ ∀ M, W ds.length M → dLcQ own p M Q
theorem lift_lc {own : Bool} {j : Nat} {wi : DTI} {σ : St} {H : Hp} {Q : VK} (h : LE X.K F0 (dLc own j wi te) σ H Q) : tLc (LI X.K F0 wi) (gName j) tYes (LE X.K F0 te) [j] σ H Q := by
  obtain ⟨σd, M, F, Qd, hF, r, hS, h, fin⟩ := h
  refine ⟨σd, M, F, hF, r, hS, _, h, ?_⟩
  intro ds St M1 J F1 H1 hd e1 r1 st1 src D hD
  obtain ⟨W, w0, hst, hstep, hend⟩ := hd D (r1.free hD)
  refine ⟨fun i m H => ∃ M F2, m = ds.length - i ∧ i ≤ ds.length ∧ Same F1 F2 ∧ R X.K M F2 H ∧ W i M, ⟨ds.length, _, F1, by simp, Nat.zero_le _, Same.refl _, r1.newM hD .nil, w0⟩, ?_⟩
  rintro i m H2 ⟨M2, F2, rfl, hi, e2, r2, w2⟩
  have e12 := e1.trans e2
  have st2 := hst i M2 w2 hi
  -- the source over the later frozen part
  have src2 : ∀ F' H' M', Same F2 F' → R X.K M' F' H' → St M' → True := fun _ _ _ _ _ _ => trivial
  by_cases hlt : i < ds.length
  · refine .inr ⟨src.go i F2 H2 M2 e2 r2 st2 hlt, fun H' => ∃ M F3, Same F2 F3 ∧ R X.K M F3 H' ∧ W (i + 1) M, ?_, ?_⟩
    · rintro H' ⟨M3, F3, e3, r3, w3⟩
      exact ⟨ds.length - (i + 1), by omega, M3, F3, rfl, hlt, e2.trans e3, r3, w3⟩
    · intro x H3 y
      obtain ⟨d, F3, hd', e3, r3, x3⟩ := src.yld i F2 H2 M2 x H3 e2 r2 st2 hlt y
      have e13 := e12.trans e3
      refine ⟨?_, ?_⟩
      · show wipe ((wipe σ [j]).set j (some x)) [j] = wipe σ [j]
        unfold wipe
        show ((σ.set j none).set j (some x)).set j none = σ.set j none
        rw [List.set_set, List.set_set]
      · have go : ∀ {A B : Prop}, A → (if true = true then A else B) := fun h => by rw [if_pos rfl]; exact h
        refine go (B := (fun H' => ∃ M F3, Same F2 F3 ∧ R X.K M F3 H' ∧ W (i + 1) M) H3) ?_
        have hs2 : SRep X.K F3 (σd.set j (some d)) ((wipe σ [j]).set j (some x)) := by
          show SRep X.K F3 (σd.set j (some d)) ((σ.set j none).set j (some x))
          rw [List.set_set]
          exact (hS.mono e13).set j x3
        refine ⟨_, M2, F3, _, hF.trans e13, r3, hs2, hstep i d M2 hd' w2, fun yv M4 v H4 F4 q e4 r4 v4 => ?_⟩
        obtain ⟨acc, hp, hz, w4⟩ := q
        obtain ⟨vs, h1, h2⟩ := r4.mem _ _ hp
        exact ⟨vs, h1, by rw [← h2.length]; exact hz, _, F4, e3.trans e4, r4.setM hp (h2.append (.cons v4 .nil)), w4⟩
  · have e : i = ds.length := by omega
    subst e
    refine .inl ⟨src.stop _ F2 H2 M2 e2 r2 st2 (Nat.le_refl _), ?_⟩
    have q := hend M2 w2
    cases own with
    | true => exact fin _ _ _ _ F2 q e12 r2 (rep_obj.mpr rfl)
    | false =>
      obtain ⟨acc, hp, q⟩ := q
      obtain ⟨F3, e3, r3, x3⟩ := r2.freeze hp
      exact fin _ _ _ _ F3 q (e12.trans e3) r3 x3
theorem de_lc {own : Bool} {x : Str} {j : Nat} {elt iter : Expr} {scope : Scope} {px : Pos} {wi : DTI} (hc : X.calm = true) (hN : X.N.Nodup) (hi : DI X F0 (.Name x px) iter wi) (ok : BlkOk X.N X.env.scope scope [(x, j)])
    (hg : ∀ (s : Shared) (H : Hp) (C : Addr) (cl : List (Str × Addr)) (fp : List Addr), PG (X.blk s H scope (compEnvC scope cl C X.env) fp) (.Name x px) (gName j))
    (he : ∀ (s : Shared) (H : Hp) (C : Addr) (cl : List (Str × Addr)) (fp : List Addr), DE (X.blk s H scope (compEnvC scope cl C X.env) fp) F0 elt te) (hs : ∀ x, foldedSetIterable iter X.env x = pure x := by intro _; rfl) :
    DE X F0 (.ListComp elt [⟨.Name x px, iter, [], 0⟩] scope pos) (dLc own j wi te) :=
  PE_imp (pe_lc (own := [(x, j)]) hc hN hi ok hg (fun _ _ _ _ _ => pts_nil) he hs) fun _ _ _ h => lift_lc h
theorem ds_setLc {own : Bool} {i : Nat} {y : Str} {py spos : Pos} {x : Str} {j : Nat} {elt iter : Expr} {scope : Scope} {px : Pos} {wi : DTI} (hc : X.calm = true) (hN : X.N.Nodup) (hy : X.N[i]? = some y) (hyl : X.env.scope.names.lookup y = some .local)
    (hsw : swapsWith (.ListComp elt [⟨.Name x px, iter, [], 0⟩] scope pos) (some (.Name y py)) spos.line X.env = pure true) (hi : DI X F0 (.Name x px) iter wi) (ok : BlkOk X.N X.env.scope scope [(x, j)])
    (hg : ∀ (s : Shared) (H : Hp) (C : Addr) (cl : List (Str × Addr)) (fp : List Addr), PG (X.blk s H scope (compEnvC scope cl C X.env) fp) (.Name x px) (gName j))
    (he : ∀ (s : Shared) (H : Hp) (C : Addr) (cl : List (Str × Addr)) (fp : List Addr), DE (X.blk s H scope (compEnvC scope cl C X.env) fp) F0 elt te) (hs : ∀ x, foldedSetIterable iter X.env x = pure x := by intro _; rfl) :
    DSt X F0 (.Assign [.Name y py] (.ListComp elt [⟨.Name x px, iter, [], 0⟩] scope pos) spos) (dAsg (dLc own j wi te) (nGm i)) :=
  PS_imp (ps_setLc (own := [(x, j)]) hc hN hy hyl hsw hi ok hg (fun _ _ _ _ _ => pts_nil) he hs) fun D σ H ⟨σd, M, F, Dd, hF, r, hS, h, fin⟩ =>
    lift_lc (Q := fun v H1 => D.nx (σ.set i (some v)) H1) ⟨σd, M, F, _, hF, r, hS, h, fun d M1 v H1 F1 q e1 r1 v1 => fin.nx _ _ _ _ F1 q e1 r1 ((hS.mono e1).set i v1)⟩
/-- each element's value by itself, nothing changed -/
theorem lc_map {own : Bool} {j : Nat} {σ : DS} {M1 : Mp} {ds : List D} {St : Mp → Prop} {Q : DK} (f : D → D) (hz : ds.length ≤ sizeLine) (hst : ∀ p o, M1 p = none → St (updM M1 p o)) (h : ∀ (i : Nat) d M (Q : DK), ds[i]? = some d → (∀ a o, M1 a = some o → M a = some o) → Q (f d) M → te (σ.set j (some d)) M Q) (q : dNew own (ds.map f) M1 Q) :
    ∀ p, M1 p = none → ∃ W : Nat → Mp → Prop, W 0 (updM M1 p (.lst [])) ∧ (∀ i M, W i M → i ≤ ds.length → St M) ∧
      (∀ i d M, ds[i]? = some d → W i M → te (σ.set j (some d)) M fun y M3 => ∃ acc, M3 p = some (.lst acc) ∧ acc.length < sizeLine ∧ W (i + 1) (updM M3 p (.lst (acc ++ [y])))) ∧ ∀ M, W ds.length M → dLcQ own p M Q := by
  intro p hp
  refine ⟨fun i M => M = updM M1 p (.lst ((ds.take i).map f)), by simp, fun i M w _ => ?_, fun i d M hd w => ?_, fun M w => ?_⟩
  · dsimp only at w; rw [w]; exact hst p _ hp
  · dsimp only at w
    have hi : i < ds.length := (List.getElem?_eq_some_iff.mp hd).1
    refine h i d M _ hd (fun a o ha => by rw [w, updM_ne (neM ha hp)]; exact ha) ?_
    refine ⟨(ds.take i).map f, by rw [w, updM_same], ?_, ?_⟩
    · rw [List.length_map, List.length_take]; omega
    · dsimp only
      rw [w, updM_updM]
      have : ds.take (i + 1) = ds.take i ++ [d] := by
        rw [List.take_add_one, hd] <;> rfl
      rw [this, List.map_append] <;> rfl
  · dsimp only at w
    rw [List.take_length] at w
    cases own with
    | true => rw [w]; exact q p hp
    | false => exact ⟨_, by rw [w, updM_same], by rw [w, remM_upd hp]; exact q⟩
/-- with a state: Inv by the turn, what is made so far, M without the new list -/
theorem lc_inv {own : Bool} {j : Nat} {σ : DS} {M1 : Mp} {ds : List D} {St : Mp → Prop} {Q : DK} (Inv : Nat → List D → Mp → Prop) (hz : ds.length ≤ sizeLine) (h0 : Inv 0 [] M1) (hst : ∀ i acc M p o, Inv i acc M → M p = none → St (updM M p o))
    (h : ∀ (i : Nat) d acc M p (Q : DK), ds[i]? = some d → Inv i acc M → M p = none → M1 p = none → acc.length = i → (∀ y M', M' p = none → Inv (i + 1) (acc ++ [y]) M' → Q y (updM M' p (.lst acc))) → te (σ.set j (some d)) (updM M p (.lst acc)) Q)
    (q : ∀ acc M, acc.length = ds.length → Inv ds.length acc M → dNew own acc M Q) :
    ∀ p, M1 p = none → ∃ W : Nat → Mp → Prop, W 0 (updM M1 p (.lst [])) ∧ (∀ i M, W i M → i ≤ ds.length → St M) ∧
      (∀ i d M, ds[i]? = some d → W i M → te (σ.set j (some d)) M fun y M3 => ∃ acc, M3 p = some (.lst acc) ∧ acc.length < sizeLine ∧ W (i + 1) (updM M3 p (.lst (acc ++ [y])))) ∧ ∀ M, W ds.length M → dLcQ own p M Q := by
  intro p hp
  refine ⟨fun i M => ∃ acc M', M = updM M' p (.lst acc) ∧ M' p = none ∧ acc.length = i ∧ Inv i acc M', ⟨[], M1, rfl, hp, rfl, h0⟩, ?_, ?_, ?_⟩
  · rintro i M ⟨acc, M', rfl, hp', _, hI⟩ _
    exact hst i acc M' p _ hI hp'
  · rintro i d M hd ⟨acc, M', rfl, hp', hl, hI⟩
    have hi : i < ds.length := (List.getElem?_eq_some_iff.mp hd).1
    refine h i d acc M' p _ hd hI hp' hp hl fun y M2 hp2 hI2 => ⟨acc, updM_same, by omega, acc ++ [y], M2, by rw [updM_updM], hp2, by simp [hl], hI2⟩
  · rintro M ⟨acc, M', rfl, hp', hl, hI⟩
    have z := q acc M' hl hI
    cases own with
    | true => exact z p hp'
    | false => exact ⟨acc, updM_same, by rw [remM_upd hp']; exact z⟩
end
end DL
namespace DL
open PySem PySem.Spec PyProof.Rows L2
/-! ### exceptions as data; promises -/
structure Exn where
  C : Addr
  fs : Option (List (Str × D))
abbrev DX := Exn → Mp → Prop
def XRep (K : PySem.W.Frag) (F : Hp) (x : Exn) (cls : Value) (d : Option Addr) : Prop := cls = .ref x.C ∧ match x.fs, d with
  | none, none => True
  | some fs, some a => ∃ gs, F a = some (.xd gs) ∧ FReps K F fs gs
  | _, _ => False
def FinX (K : PySem.W.Frag) (F : Hp) (Ed : DX) (E : XK) : Prop := ∀ x M H F' cls d, Ed x M → Same F F' → R K M F' H → XRep K F' x cls d → E cls d H
theorem FinX.mono {K : PySem.W.Frag} {F F' : Hp} {Ed : DX} {E : XK} (f : FinX K F Ed E) (e : Same F F') : FinX K F' Ed E := fun x M H F2 cls d q e2 => f x M H F2 cls d q (e.trans e2)
abbrev X0 : DX := fun _ _ => False
theorem finX0 {K : PySem.W.Frag} {F : Hp} {E : XK} : FinX K F X0 E := fun _ _ _ _ _ _ h => h.elim
abbrev SpD := List D → Mp → DK → DX → Prop
def LSp (K : PySem.W.Frag) (sp : SpD) : Sp := fun vs H Q E => ∃ ds M F Qd Ed, R K M F H ∧ Reps K F ds vs ∧ sp ds M Qd Ed ∧ Fin K F Qd Q ∧ FinX K F Ed E
/-- what is forgotten at a def's end -/
def Wk (Q : DK) : DK := fun d M => ∃ M', (∀ a o, M' a = some o → M a = some o) ∧ Q d M'
theorem Wk.here {Q : DK} {d : D} {M : Mp} (h : Q d M) : Wk Q d M := ⟨M, fun _ _ h => h, h⟩
theorem Wk.drop {Q : DK} {d : D} {M : Mp} {p : Addr} {o : MO} (hp : M p = none) (h : Q d M) : Wk Q d (updM M p o) := ⟨M, fun a o' h => by rw [updM_ne (neM h hp)]; exact h, h⟩
theorem Fin.wk {K : PySem.W.Frag} {F : Hp} {Qd : DK} {Q : VK} (f : Fin K F Qd Q) : Fin K F (Wk Qd) Q := fun d M v H F' ⟨M', hw, q⟩ e r h => f d M' v H F' q e (r.weak hw) h
section
variable {X : Cx} {F0 : Hp} {CX : CXT} {k : Nat} {f C : Addr} {fd : FuncData} {ps : List Str} {sp : SpD} {Ed : DX} {E : XK} {x m : Str} {p pos apos : Pos} {e o : Expr} {es : List Expr} {ta te tv : DTE} {t : DTA}
def dCall (sp : SpD) (Ed : DX) (t : DTA) : DTE := fun σ M Q => t σ M fun ds M1 => sp ds M1 Q Ed
theorem lift_call {K : PySem.W.Frag} {σ : L2.St} {H : Hp} {Q : VK} (hE : FinX K F0 Ed E) (h : LE K F0 (dCall sp Ed t) σ H Q) : tCall (LSp K sp) [] E (LA K F0 t) σ H Q := by
  obtain ⟨σd, M, F, Qd, hF, r, hS, h, fin⟩ := h
  refine ⟨σd, M, F, _, hF, r, hS, h, fun ds M1 vs H1 F1 q e1 r1 v1 => ?_⟩
  dsimp only
  rw [List.append_nil]
  exact ⟨ds, M1, F1, Qd, Ed, r1, v1, q, fin.mono e1, hE.mono (hF.trans e1)⟩
theorem de_call (F : FnOk X.prog X.w X.K X.mg X.base CX k f fd ps (LSp X.K sp)) (hr : Room k X.A) (hg : Gl X x) (hm : X.mg x = some (.ref f)) (hk : PySem.W.keepIn X.K (.ref f) = true) (hb : Binds X.K fd ps []) (hx : Passes CX X E) (hE : FinX X.K F0 Ed E)
    (ha : DA X F0 (e :: es) t) (hdb : (x == ("__debug__" : Str)) = false := by decide) (he : starEach (e :: es) X.env = (false, eval e X.env) :: starEach es X.env := by rfl) (hpl : (backTo pos (starEach es X.env)).any (·.1) = false := by rfl) :
    DE X F0 (.Call (.Name x p) (e :: es) [] pos) (dCall sp Ed t) :=
  PE_imp (pe_call F hr hg hm hk hb .nil hx ha hdb he hpl) fun _ _ _ h => lift_call hE h
theorem de_call0 (F : FnOk X.prog X.w X.K X.mg X.base CX k f fd ps (LSp X.K sp)) (hr : Room k X.A) (hg : Gl X x) (hm : X.mg x = some (.ref f)) (hk : PySem.W.keepIn X.K (.ref f) = true) (hb : Binds X.K fd ps []) (hx : Passes CX X E) (hE : FinX X.K F0 Ed E)
    (hdb : (x == ("__debug__" : Str)) = false := by decide) : DE X F0 (.Call (.Name x p) [] [] pos) (dCall sp Ed dNil) :=
  PE_imp (pe_call0 F hr hg hm hk hb .nil hx hdb) fun _ _ _ ⟨σd, M, F, Qd, hF, r, hS, h, fin⟩ => ⟨[], M, F, Qd, Ed, r, .nil, h, fin, hE.mono hF⟩
def dMeth (C : Addr) (m : Str) (sp : SpD) (Ed : DX) (ta : DTE) (t : DTA) : DTE := fun σ M Q => ta σ M fun x M1 => ∃ p fs, x = .obj p ∧ M1 p = some (.ins C fs) ∧ fs.lookup m = none ∧ t σ M1 fun ds M2 => sp (x :: ds) M2 Q Ed
theorem lift_meth {K : PySem.W.Frag} {σ : L2.St} {H : Hp} {Q : VK} (hE : FinX K F0 Ed E) (h : LE K F0 (dMeth C m sp Ed ta t) σ H Q) : tMeth C m (LSp K sp) [] E (LE K F0 ta) (LA K F0 t) σ H Q := by
  obtain ⟨σd, M, F, Qd, hF, r, hS, h, fin⟩ := h
  refine ⟨σd, M, F, _, hF, r, hS, h, fun d M1 v H1 F1 q e1 r1 v1 => ?_⟩
  obtain ⟨p, fs, rfl, hp, hl, q⟩ := q
  obtain ⟨dx, gs, h1, h2, h3⟩ := r1.mem p _ hp
  refine ⟨p, dx, gs, rep_obj.mp v1, h1, (FReps.lookup h3).2 hl, σd, M1, F1, _, hF.trans e1, r1, hS.mono e1, q, fun ds M2 vs H2 F2 q2 e2 r2 v2 => ?_⟩
  dsimp only
  rw [List.append_nil]
  exact ⟨_, M2, F2, Qd, Ed, r2, .cons (v1.mono e2) v2, q2, fin.mono (e1.trans e2), hE.mono ((hF.trans e1).trans e2)⟩
theorem de_meth {pl : Sem Bool} (he : DE X F0 o ta) (c : Cls X.K C) (hm : Meth X.K C m f) (F : FnOk X.prog X.w X.K X.mg X.base CX k f fd ps (LSp X.K sp)) (hr : Room k X.A) (hb : Binds X.K fd ps []) (hx : Passes CX X E) (hE : FinX X.K F0 Ed E) (ha : DA X F0 (e :: es) t)
    (hst : starEach (e :: es) X.env = (false, eval e X.env) :: starEach es X.env := by rfl) (hpl : (backTo pos (starEach es X.env)).any (·.1) = false := by rfl)
    (ht : eval (.Call (.Attribute o m apos) (e :: es) [] pos) X.env = (do
      let ov ← eval o X.env
      standAt apos.atName
      let (f, first) ← holding [ov] (getMethod ov m pl)
      callWith pos f first (backTo pos (starEach (e :: es) X.env)) (backToKw pos (keywordEach [] X.env))) := by rfl) :
    DE X F0 (.Call (.Attribute o m apos) (e :: es) [] pos) (dMeth C m sp Ed ta t) :=
  PE_imp (pe_meth he c hm F hr hb .nil hx ha hst hpl ht) fun _ _ _ h => lift_meth hE h
theorem de_meth0 {pl : Sem Bool} (he : DE X F0 o ta) (c : Cls X.K C) (hm : Meth X.K C m f) (F : FnOk X.prog X.w X.K X.mg X.base CX k f fd ps (LSp X.K sp)) (hr : Room k X.A) (hb : Binds X.K fd ps []) (hx : Passes CX X E) (hE : FinX X.K F0 Ed E)
    (ht : eval (.Call (.Attribute o m apos) [] [] pos) X.env = (do
      let ov ← eval o X.env
      standAt apos.atName
      let (f, first) ← holding [ov] (getMethod ov m pl)
      callWith pos f first (backTo pos (starEach [] X.env)) (backToKw pos (keywordEach [] X.env))) := by rfl) :
    DE X F0 (.Call (.Attribute o m apos) [] [] pos) (dMeth C m sp Ed ta dNil) :=
  PE_imp (pe_meth0 he c hm F hr hb .nil hx ht) fun σ H Q ⟨σd, M, F, Qd, hF, r, hS, h, fin⟩ => ⟨σd, M, F, _, hF, r, hS, h, fun d M1 v H1 F1 q e1 r1 v1 => by
    obtain ⟨p, fs, rfl, hp, hl, q⟩ := q
    obtain ⟨dx, gs, h1, h2, h3⟩ := r1.mem p _ hp
    exact ⟨p, dx, gs, rep_obj.mp v1, h1, (FReps.lookup h3).2 hl, _, M1, F1, Qd, Ed, r1, .cons v1 .nil, q, fin.mono e1, hE.mono (hF.trans e1)⟩⟩
def dMake (C : Addr) (sp : SpD) (Ed : DX) (t : DTA) : DTE := fun σ M Q => t σ M fun ds M1 => ∀ x, M1 x = none → sp (.obj x :: ds) (updM M1 x (.ins C [])) (fun v M2 => v = .non ∧ Q (.obj x) M2) Ed
theorem make_fin {K : PySem.W.Frag} {F H : Hp} {M : Mp} {Qd : DK} {Q : VK} {ds : List D} {vs : List V} (hE : FinX K F Ed E) (r : R K M F H) (hv : Reps K F ds vs) (fin : Fin K F Qd Q) (q : ∀ x, M x = none → sp (.obj x :: ds) (updM M x (.ins C [])) (fun v M2 => v = .non ∧ Qd (.obj x) M2) Ed) :
    ∀ x dx, H x = none → H dx = none → dx ≠ x → LSp K sp (.ref x :: vs) (upd (upd H dx (.own x)) x (.ins C dx [])) (fun v H2 => v = .non ∧ Q (.ref x) H2) E := by
  intro x dx hx hdx ne
  have e := same_upd (o := HO.own x) (r.freeF hdx)
  refine ⟨_, _, _, _, Ed, r.newI hx hdx ne, .cons (rep_obj.mpr rfl) (hv.mono e), q x (r.free hx), ?_, hE.mono e⟩
  rintro d M2 v H2 F2 ⟨rfl, q2⟩ e2 r2 v2
  exact ⟨rep_non.mp v2, fin _ _ _ _ F2 q2 (e.trans e2) r2 (rep_obj.mpr rfl)⟩
theorem de_make (M : Mk X.K C f) (F : FnOk X.prog X.w X.K X.mg X.base CX k f fd ps (LSp X.K sp)) (hr : Room (k + 1) X.A) (hg : Gl X x) (hm : X.mg x = some (.ref C)) (hb : Binds X.K fd ps []) (hx : Passes CX X E) (hE : FinX X.K F0 Ed E)
    (ha : DA X F0 (e :: es) t) (hdb : (x == ("__debug__" : Str)) = false := by decide) (he : starEach (e :: es) X.env = (false, eval e X.env) :: starEach es X.env := by rfl) (hpl : (backTo pos (starEach es X.env)).any (·.1) = false := by rfl) :
    DE X F0 (.Call (.Name x p) (e :: es) [] pos) (dMake C sp Ed t) :=
  PE_imp (pe_make M F hr hg hm hb .nil hx ha hdb he hpl) fun σ H Q ⟨σd, M, F, Qd, hF, r, hS, h, fin⟩ => ⟨σd, M, F, _, hF, r, hS, h, fun ds M1 vs H1 F1 q e1 r1 v1 => by
    dsimp only
    rw [List.append_nil]
    exact make_fin (hE.mono (hF.trans e1)) r1 v1 (fin.mono e1) q⟩
theorem de_make0 (M : Mk X.K C f) (F : FnOk X.prog X.w X.K X.mg X.base CX k f fd ps (LSp X.K sp)) (hr : Room (k + 1) X.A) (hg : Gl X x) (hm : X.mg x = some (.ref C)) (hb : Binds X.K fd ps []) (hx : Passes CX X E) (hE : FinX X.K F0 Ed E)
    (hdb : (x == ("__debug__" : Str)) = false := by decide) : DE X F0 (.Call (.Name x p) [] [] pos) (dMake C sp Ed dNil) :=
  PE_imp (pe_make0 M F hr hg hm hb .nil hx hdb) fun σ H Q ⟨σd, M, F, Qd, hF, r, hS, h, fin⟩ => make_fin (hE.mono hF) r .nil fin h

/-- f(k = v, ..), nothing by place: the keywords in the parameters' order -/
theorem callWith_K0kw {M : Model} {A : Around} {E : Value → Shared → Prop} {s : Shared} {K : PySem.W.Frag} {h₀ : Heap} {env : Env} {pos : Pos} {f : Value} {Q : Value → Shared → Prop} {kws : List Keyword} (X : K.In h₀) (hk : PySem.W.keepIn K f = true) (hall : (backToKw pos (keywordEach kws env)).all (·.1.isSome) = true)
    (h : wpAny M A (evalAll ((backToKw pos (keywordEach kws env)).map (·.2))) (fun ks s₂ => K.In s₂.heap ∧ wpAny M A (call f [] (((backToKw pos (keywordEach kws env)).filterMap (·.1)).zip ks)) Q E s₂) E s)
    (hplain : ((backTo pos (starEach [] env)).any (·.1) || (backToKw pos (keywordEach kws env)).any (·.1.isNone)) = false := by rfl) :
    wpAny M A (callWith pos f [] (backTo pos (starEach [] env)) (backToKw pos (keywordEach kws env))) Q E s := PySem.W.callWith_KW0 X hk hall h hplain
abbrev DKw (X : Cx) (F0 : Hp) (kws : List Keyword) (t : DTA) : Prop := PK X kws (LA X.K F0 t)
theorem PK_imp {kws : List Keyword} {t t' : TA} (h : PK X kws t) (i : ∀ σ H Q, t' σ H Q → t σ H Q) : PK X kws t' := ⟨fun pos pins s σ H Q I q => h.run pos pins s σ H Q I (i σ H Q q)⟩
theorem dk_nil : DKw X F0 [] dNil := PK_imp pk_nil fun σ H Q ⟨σd, M, F, Qd, hF, r, hS, h, fin⟩ => fin _ _ _ _ F h (Same.refl F) r Reps.nil
theorem dk_cons {kpos : Pos} {nm : Option Str} {kws : List Keyword} {tr : DTA} (ha : DE X F0 e te) (hr : DKw X F0 kws tr) : DKw X F0 (⟨nm, e, kpos⟩ :: kws) (dCons te tr) :=
  PK_imp (pk_cons ha hr) fun σ H Q ⟨σd, M, F, Qd, hF, r, hS, h, fin⟩ => ⟨σd, M, F, _, hF, r, hS, h, fun x M1 v H1 F1 h1 e1 r1 v1 =>
    ⟨σd, M1, F1, _, hF.trans e1, r1, hS.mono e1, h1, fun xs M2 vs H2 F2 h2 e2 r2 vs2 => fin _ _ _ _ F2 h2 (e1.trans e2) r2 (.cons (v1.mono e2) vs2)⟩⟩
/-- the parameters are given by their names, in their order -/
def BindsK (fd : FuncData) (ps : List Str) : Prop := ∀ (ws : List Value), ws.length = ps.length → bindArgs fd ⟨[], ps.zip ws⟩ = pure (ps.zip ws)
theorem de_callK {kws : List Keyword} (F : FnOk X.prog X.w X.K X.mg X.base CX k f fd ps (LSp X.K sp)) (hr : Room k X.A) (hg : Gl X x) (hm : X.mg x = some (.ref f)) (hk : PySem.W.keepIn X.K (.ref f) = true) (hb : BindsK fd ps) (hx : Passes CX X E) (hE : FinX X.K F0 Ed E)
    (hkw : DKw X F0 kws t) (hall : (backToKw pos (keywordEach kws X.env)).all (·.1.isSome) = true := by rfl) (hks : (backToKw pos (keywordEach kws X.env)).filterMap (·.1) = ps := by rfl)
    (hdb : (x == ("__debug__" : Str)) = false := by decide) (hpl : ((backTo pos (starEach [] X.env)).any (·.1) || (backToKw pos (keywordEach kws X.env)).any (·.1.isNone)) = false := by rfl) :
    DE X F0 (.Call (.Name x p) [] kws pos) (dCall sp Ed t) := by
  refine ⟨fun pins s σ H Q I ⟨σd, M, F1, Qd, hF, r, hS, h, fin⟩ => ?_⟩
  refine wpAny_Call_Name_kw (ld_glob I hg hm ?_ hdb)
  refine callWith_K0kw (h₀ := X.base) I.ok.mod.kin hk hall ?_ hpl
  refine thn (hkw.run pos pins s σ H (fun vs H1 => LSp X.K sp vs H1 Q E) I ⟨σd, M, F1, _, hF, r, hS, h, fun ds M1 vs H1 F2 q e1 r1 v1 => ⟨ds, M1, F2, Qd, Ed, r1, v1, q, fin.mono e1, hE.mono (hF.trans e1)⟩⟩) fun ws s2 ⟨zs, H2, I2, rz, q2⟩ => ⟨I2.kIn, ?_⟩
  rw [hks]
  have hl : ws.length = ps.length := by rw [← rz.length]; exact F.len _ _ _ _ q2
  refine wpAny_call (codeAny_mono (F.run X.A X.stack s2 H2 ⟨[], ps.zip ws⟩ ws zs Q E hr I2.env0 (.of_eq (hb ws hl)) rz q2) fun r s' hq => ?_)
  cases r with
  | error e => exact hx pins σ H2 s2 e s' I2 hq
  | ok fl =>
    cases fl with
    | ret u => exact I2.after hq
    | next => exact False.elim hq
    | brk => exact False.elim hq
    | cont => exact False.elim hq

/-! ### fields -/
def dFld (K : PySem.W.Frag) (f : Str) (te : DTE) : DTE := fun σ M Q => te σ M fun x M1 => ∃ p C fs v, x = .obj p ∧ M1 p = some (.ins C fs) ∧ Cls K C ∧ NoAttr K C f ∧ fs.lookup f = some v ∧ Q v M1
theorem de_fld {f : Str} (he : DE X F0 e te) (hb : attributeBase e f X.env (eval e X.env) = eval e X.env) : DE X F0 (.Attribute e f pos) (dFld X.K f te) :=
  PE_imp (pe_fld he hb) fun σ H Q ⟨σd, M, F, Qd, hF, r, hS, h, fin⟩ => ⟨σd, M, F, _, hF, r, hS, h, fun d M1 v H1 F1 q e1 r1 v1 => by
    obtain ⟨p, C, fs, y, rfl, hp, hc, hn, hl, q⟩ := q
    obtain ⟨dx, gs, h1, h2, h3⟩ := r1.mem p _ hp
    obtain ⟨u, h4, h5⟩ := (FReps.lookup h3).1 _ hl
    exact ⟨p, C, dx, gs, u, rep_obj.mp v1, h1, hc, hn, h4, fin _ _ _ _ F1 q e1 r1 h5⟩⟩
def dSFld (K : PySem.W.Frag) (f : Str) (ta tv : DTE) : DTS := fun D σ M => tv σ M fun y M1 => ta σ M1 fun x M2 => ∃ p C fs, x = .obj p ∧ M2 p = some (.ins C fs) ∧ Cls K C ∧ NoAttr K C f ∧ fs.length < 1000 ∧ D.nx σ (updM M2 p (.ins C (putD f y fs)))
theorem ds_fld {f : Str} {value : Expr} {pos' : Pos} (ha : DE X F0 o ta) (hv : DE X F0 value tv) (hs : swapsWith value (some (.Attribute o f pos')) pos.line X.env = pure false) : DSt X F0 (.Assign [.Attribute o f pos'] value pos) (dSFld X.K f ta tv) :=
  PS_imp (ps_fld ha hv hs) fun D σ H ⟨σd, M, F, Dd, hF, r, hS, h, fin⟩ => ⟨σd, M, F, _, hF, r, hS, h, fun y M1 v H1 F1 q e1 r1 v1 => ⟨σd, M1, F1, _, hF.trans e1, r1, hS.mono e1, q, fun x M2 u H2 F2 q2 e2 r2 u2 => by
    obtain ⟨p, C, fs, rfl, hp, hc, hn, hl, q2⟩ := q2
    obtain ⟨dx, gs, h1, h2, h3⟩ := r2.mem p _ hp
    refine ⟨p, C, dx, gs, rep_obj.mp u2, h1, hc, hn, by rw [← FReps.length h3]; exact hl, ?_⟩
    exact fin.nx _ _ _ _ F2 q2 (e1.trans e2) (r2.setI hp h2 (FReps.put (v1.mono e2) h3)) (hS.mono (e1.trans e2))⟩⟩
def dIOp (g : Int → Int → Int) : DR2 := fun x y M Q => match x, y with
  | .int i, .int j => Q (.int (g i j)) M
  | _, _ => False
def rIOp (g : Int → Int → Int) : V → V → Hp → VK → Prop := fun x y H Q => ∃ i j, x = .int i ∧ y = .int j ∧ Q (.int (g i j)) H
theorem in_addG : InOp X .Add (rIOp fun i j => i + j) := fun pins s σ H x y u v Q I rx ry h => in_add pins s σ H x y u v Q I rx ry h
theorem in_subG : InOp X .Sub (rIOp fun i j => i - j) := fun pins s σ H x y u v Q I rx ry h => in_sub pins s σ H x y u v Q I rx ry h
def dSFldA (K : PySem.W.Frag) (f : Str) (g : Int → Int → Int) (ta tv : DTE) : DTS := fun D σ M => ta σ M fun x M1 => ∃ p C fs v, x = .obj p ∧ M1 p = some (.ins C fs) ∧ Cls K C ∧ NoAttr K C f ∧ fs.lookup f = some v ∧
  tv σ M1 fun y M2 => dIOp g v y M2 fun z M3 => ∃ fs', M3 p = some (.ins C fs') ∧ fs'.length < 1000 ∧ D.nx σ (updM M3 p (.ins C (putD f z fs')))
theorem ds_fldaug {f : Str} {value : Expr} {tpos : Pos} {op : Operator} {g : Int → Int → Int} (ha : DE X F0 o ta) (hv : DE X F0 value tv) (hop : InOp X op (rIOp g)) : DSt X F0 (.AugAssign (.Attribute o f tpos) op value pos) (dSFldA X.K f g ta tv) :=
  PS_imp (ps_fldaug ha hv hop) fun D σ H ⟨σd, M, F, Dd, hF, r, hS, h, fin⟩ => ⟨σd, M, F, _, hF, r, hS, h, fun x M1 u H1 F1 q e1 r1 u1 => by
    obtain ⟨p, C, fs, v, rfl, hp, hc, hn, hl, q⟩ := q
    obtain ⟨dx, gs, h1, h2, h3⟩ := r1.mem p _ hp
    obtain ⟨w, h4, h5⟩ := (FReps.lookup h3).1 _ hl
    refine ⟨p, C, dx, gs, w, rep_obj.mp u1, h1, hc, hn, h4, σd, M1, F1, _, hF.trans e1, r1, hS.mono e1, q, fun y M2 yv H2 F2 q2 e2 r2 y2 => ?_⟩
    unfold dIOp at q2
    split at q2
    · rename_i i j
      obtain ⟨fs', hp', hl', q2⟩ := q2
      obtain ⟨dx', gs', h1', h2', h3'⟩ := r2.mem p _ hp'
      refine ⟨i, j, rep_int.mp h5, rep_int.mp y2, dx', gs', h1', by rw [← FReps.length h3']; exact hl', ?_⟩
      exact fin.nx _ _ _ _ F2 q2 (e1.trans e2) (r2.setI hp' h2' (FReps.put (rep_int.mpr rfl) h3')) (hS.mono (e1.trans e2))
    · exact q2.elim⟩
end

/-! ### a def keeps its promise -/
section
variable {P : Program} {w : World} {K : PySem.W.Frag} {mg : Str → Option Value} {base : Heap} {CX : CXT} {x qual : Str} {params : Arguments} {body : List Stmt} {scope : Scope} {f : Addr} {fd : FuncData} {N ps : List Str} {k : Nat} {sp : SpD}
theorem fnD (F : FunD K x qual params body scope [] [] f fd) (S : FnScope N ps scope) (len : ∀ ds M Q E, sp ds M Q E → ds.length = ps.length)
    (hbody : ∀ (cdv : Value) (A : Around) (outer : List Env) (s : Shared) (H : Hp) (E : XK) (F0 : Hp) (Ed : DX), Room k (A.deeper (envOfC qual scope s.heap.objs.size f cdv)) → FinX K F0 Ed E →
      ∃ τ : DTS, DSs (cxOf CX P w K mg base N qual scope f cdv A outer s H E) F0 body τ ∧ ∀ ds M Q, sp ds M Q Ed → τ { nx := fun _ M' => Wk Q .non M', rt := Wk Q } (startD N ds) M) : FnOk P w K mg base CX (k + 1) f fd ps (LSp K sp) := by
  refine F.ok S (fun vs H Q E ⟨ds, M, F, Qd, Ed, r, hv, h, fin, finx⟩ => by rw [← hv.length]; exact len _ _ _ _ h) fun cdv A outer s H vs Q E hr ⟨ds, M, F0, Qd, Ed, r, hv, h, fin, finx⟩ => ?_
  obtain ⟨τ, h1, h2⟩ := hbody cdv A outer s H E F0 Ed hr finx
  refine ⟨_, h1, startD N ds, M, F0, _, Same.refl _, r, SRep.start hv, h2 ds M Qd h, ⟨?_, fin.wk, ?_, ?_⟩⟩
  · exact fun σd M' σ H' F' q e r' s' => fin.wk _ _ _ _ F' q e r' (rep_non.mpr rfl)
  · exact fun σd M' σ H' F' q => q.elim
  · exact fun σd M' σ H' F' q => q.elim
end
end DL
namespace DL
open PySem PySem.Spec L2
section
variable {X : Cx} {F0 : Hp} {CX : CXT} {k : Nat} {ps : List Str} {sp : SpD} {Ed : DX} {E : XK} {x m : Str} {p pos apos : Pos} {a b c e o : Expr} {es : List Expr} {ta tb tc te tv : DTE} {t : DTA}
theorem de_chain {op op' : CmpOp} {r r' : DR2} (ho : OpR X (compareOp op) (LR X.K F0 r)) (ho' : OpR X (compareOp op') (LR X.K F0 r')) (ha : DE X F0 a ta) (hb : DE X F0 b tb) (hc : DE X F0 c tc)
    (hm : lastMarks [op, op'] [b, c] = false := by with_unfolding_all rfl) : DE X F0 (.Compare a [op, op'] [b, c] pos) (dChain r r' ta tb tc) :=
  PE_imp (pe_chain ho ho' ha hb hc hm) fun _ _ _ h => lift_chain h
theorem dt_chain {op op' : CmpOp} {r r' : DR2} (ho : OpR X (compareOp op) (LR X.K F0 r)) (ho' : OpR X (compareOp op') (LR X.K F0 r')) (ha : DE X F0 a ta) (hb : DE X F0 b tb) (hc : DE X F0 c tc)
    (hm : lastMarks [op, op'] [b, c] = false := by with_unfolding_all rfl) : DT X F0 (.Compare a [op, op'] [b, c] pos) (dB (dChain r r' ta tb tc)) :=
  PT_imp (pt_chain ho ho' ha hb hc hm) fun σ H Q ⟨σd, M, F, Qd, hF, hR, hS, h, fin⟩ => lift_chain ⟨σd, M, F, _, hF, hR, hS, h, fun x M1 v H1 F1 h1 e1 r1 v1 => by
    split at h1
    · exact ⟨_, rep_bl.mp v1, fin _ _ _ _ h1 e1 r1⟩
    · exact h1.elim⟩
/-- return e: a list that may change stays as it is from here on -/
def frz (d : D) (M : Mp) (Q : DK) : Prop := match d with
  | .obj p => ∃ ds, M p = some (.lst ds) ∧ Q (.lst ds) (remM M p)
  | d => Q d M
def dRetF (te : DTE) : DTS := fun D σ M => te σ M fun d M1 => frz d M1 D.rt
theorem ds_retF (he : DE X F0 e te) : DSt X F0 (.Return (some e) pos) (dRetF te) :=
  PS_imp (ps_ret he) fun D σ H ⟨σd, M, F, Dd, hF, r, hS, h, fin⟩ => ⟨σd, M, F, _, hF, r, hS, h, fun d M1 v H1 F1 q e1 r1 v1 => by
    unfold frz at q
    split at q
    · obtain ⟨ds, hp, q⟩ := q
      obtain ⟨F2, e2, r2, x2⟩ := r1.freeze hp
      cases rep_obj.mp v1
      exact fin.rt _ _ _ _ F2 q (e1.trans e2) r2 x2
    · exact fin.rt _ _ _ _ F1 q e1 r1 v1⟩
/-- a def of the module that may be called -/
def Callee (P : Program) (w : World) (K : PySem.W.Frag) (mg : Str → Option Value) (base : Heap) (CX : CXT) (k : Nat) (x : Str) (ps : List Str) (sp : SpD) : Prop :=
  ∃ f fd, FnOk P w K mg base CX k f fd ps (LSp K sp) ∧ mg x = some (.ref f) ∧ PySem.W.keepIn K (.ref f) = true ∧ Binds K fd ps [] ∧ BindsK fd ps
theorem de_fn (h : Callee X.prog X.w X.K X.mg X.base CX k x ps sp) (hr : Room k X.A) (hg : Gl X x) (hx : Passes CX X E) (hE : FinX X.K F0 Ed E)
    (ha : DA X F0 (e :: es) t) (hdb : (x == ("__debug__" : Str)) = false := by decide) (he : starEach (e :: es) X.env = (false, eval e X.env) :: starEach es X.env := by rfl) (hpl : (backTo pos (starEach es X.env)).any (·.1) = false := by rfl) :
    DE X F0 (.Call (.Name x p) (e :: es) [] pos) (dCall sp Ed t) := by
  obtain ⟨f, fd, F, hm, hk, hb, _⟩ := h
  exact de_call F hr hg hm hk hb hx hE ha hdb he hpl
theorem de_fn0 (h : Callee X.prog X.w X.K X.mg X.base CX k x ps sp) (hr : Room k X.A) (hg : Gl X x) (hx : Passes CX X E) (hE : FinX X.K F0 Ed E)
    (hdb : (x == ("__debug__" : Str)) = false := by decide) : DE X F0 (.Call (.Name x p) [] [] pos) (dCall sp Ed dNil) := by
  obtain ⟨f, fd, F, hm, hk, hb, _⟩ := h
  exact de_call0 F hr hg hm hk hb hx hE hdb
theorem de_fnK {kws : List Keyword} (h : Callee X.prog X.w X.K X.mg X.base CX k x ps sp) (hr : Room k X.A) (hg : Gl X x) (hx : Passes CX X E) (hE : FinX X.K F0 Ed E)
    (hkw : DKw X F0 kws t) (hall : (backToKw pos (keywordEach kws X.env)).all (·.1.isSome) = true := by rfl) (hks : (backToKw pos (keywordEach kws X.env)).filterMap (·.1) = ps := by rfl)
    (hdb : (x == ("__debug__" : Str)) = false := by decide) (hpl : ((backTo pos (starEach [] X.env)).any (·.1) || (backToKw pos (keywordEach kws X.env)).any (·.1.isNone)) = false := by rfl) :
    DE X F0 (.Call (.Name x p) [] kws pos) (dCall sp Ed t) := by
  obtain ⟨f, fd, F, hm, hk, _, hb⟩ := h
  exact de_callK F hr hg hm hk hb hx hE hkw hall hks hdb hpl
theorem Callee.mono {P : Program} {w : World} {K : PySem.W.Frag} {mg : Str → Option Value} {base : Heap} {j : Nat} (h : Callee P w K mg base CX j x ps sp) (hl : j ≤ k) : Callee P w K mg base CX k x ps sp := by
  obtain ⟨f, fd, F, r⟩ := h
  exact ⟨f, fd, F.mono hl, r⟩
/-- a weaker promise -/
theorem Callee.imp {P : Program} {w : World} {K : PySem.W.Frag} {mg : Str → Option Value} {base : Heap} {sp' : SpD} (h : Callee P w K mg base CX k x ps sp) (hs : ∀ ds M Q E, sp' ds M Q E → sp ds M Q E) : Callee P w K mg base CX k x ps sp' := by
  obtain ⟨f, fd, F, r⟩ := h
  exact ⟨f, fd, F.imp fun vs H Q E ⟨ds, M, F, Qd, Ed, h1, h2, h3, h4⟩ => ⟨ds, M, F, Qd, Ed, h1, h2, hs _ _ _ _ h3, h4⟩, r⟩
/-- a tuple of texts, a text, an int of the module -/
def GTup (K : PySem.W.Frag) (mg : Str → Option Value) (x : Str) (xs : List Str) : Prop := ∃ a, mg x = some (.ref a) ∧ ∀ H, SqT K H a (xs.map V.str)
theorem de_gtupS {xs : List Str} (h : GTup X.K X.mg x xs) (hg : Gl X x) (hd : (x == ("__debug__" : Str)) = false := by decide) : DE X F0 (.Name x pos) (dC (.tup (xs.map D.str))) := by
  obtain ⟨a, h1, h2⟩ := h
  exact de_gtup hg h1 h2 (fun F => Reps.strs) hd
theorem de_gstrE {z : Str} (h : ∃ t, X.mg x = some (.str z t)) (hg : Gl X x) (hd : (x == ("__debug__" : Str)) = false := by decide) : DE X F0 (.Name x pos) (dC (.str z)) := by
  obtain ⟨t, h1⟩ := h
  exact de_gstr hg h1 hd
theorem de_gintE {z : Int} (h : ∃ t, X.mg x = some (.int z t)) (hg : Gl X x) (hd : (x == ("__debug__" : Str)) = false := by decide) : DE X F0 (.Name x pos) (dC (.int z)) := by
  obtain ⟨t, h1⟩ := h
  exact de_gint hg h1 hd
end
section
variable {P : Program} {w : World} {K : PySem.W.Frag} {mg : Str → Option Value} {base : Heap} {CX : CXT} {x qual : Str} {params : Arguments} {body : List Stmt} {scope : Scope} {f : Addr} {fd : FuncData} {N ps : List Str} {k : Nat} {sp : SpD}
/-- as fnD, for a def that lets nothing out -/
theorem fnD0 (F : FunD K x qual params body scope [] [] f fd) (S : FnScope N ps scope) (len : ∀ ds M Q E, sp ds M Q E → ds.length = ps.length)
    (hbody : ∀ (cdv : Value) (A : Around) (outer : List Env) (s : Shared) (H : Hp) (E : XK) (F0 : Hp), Room k (A.deeper (PyProof.Rows.envOfC qual scope s.heap.objs.size f cdv)) →
      ∃ τ : DTS, DSs (cxOf CX0 P w K mg base N qual scope f cdv A outer s H E).nox F0 body τ ∧ ∀ ds M Q E, sp ds M Q E → τ { nx := fun _ M' => Wk Q .non M', rt := Wk Q } (startD N ds) M) : FnOk P w K mg base CX0 (k + 1) f fd ps (LSp K sp) :=
  fnD F S len fun cdv A outer s H E F0 Ed hr _ => by
    obtain ⟨τ, h1, h2⟩ := hbody cdv A outer s H E F0 hr
    exact ⟨τ, PSs.nox h1, fun ds M Q h => h2 ds M Q Ed h⟩
/-- slots -/
theorem start_def {N : List Str} {ds : List D} : startD N ds = ds.map some ++ List.replicate (N.length - ds.length) none := rfl
end
end DL
/-! What the readings come to on data of known form. -/
namespace DL
open PySem PySem.Spec L2
section
variable {own : Bool} {M : Mp} {Q : DK} {i j : Int} {a b : Str} {x y z u v w : D} {ds es l : List D} {p : Addr} {ns : List Int}
theorem e_new_f : dNew false ds M Q = Q (.lst ds) M := rfl
theorem e_new_t : dNew true ds M Q = ∀ p, M p = none → Q (.obj p) (updM M p (.lst ds)) := rfl
theorem e_add_int : dAdd own (.int i) (.int j) M Q = Q (.int (i + j)) M := rfl
theorem e_add_str : dAdd own (.str a) (.str b) M Q = (a.length + b.length ≤ sizeLine ∧ Q (.str (a ++ b)) M) := rfl
theorem e_add_tup : dAdd own (.tup ds) (.tup es) M Q = (ds.length + es.length ≤ sizeLine ∧ Q (.tup (ds ++ es)) M) := rfl
theorem e_add_lst : dAdd own (.lst ds) (.lst es) M Q = (ds.length + es.length ≤ sizeLine ∧ dNew own (ds ++ es) M Q) := by
  apply propext
  constructor
  · rintro ⟨a, b, h1, h2, h⟩
    cases h1; cases h2
    exact h
  · exact fun h => ⟨ds, es, rfl, rfl, h⟩
theorem e_add_obj (hp : M p = some (.lst ds)) : dAdd own (.obj p) (.lst es) M Q = (ds.length + es.length ≤ sizeLine ∧ dNew own (ds ++ es) M Q) := by
  apply propext
  constructor
  · rintro ⟨a, b, h1, h2, h⟩
    cases lsD_obj.mp h1 ▸ hp
    cases h2
    exact h
  · exact fun h => ⟨ds, es, lsD_obj.mpr hp, rfl, h⟩
theorem e_sub : dSub (.int i) (.int j) M Q = Q (.int (i - j)) M := rfl
theorem e_mul : dMul own (.int i) (.int j) M Q = (CMul i j ∧ Q (.int (i * j)) M) := rfl
theorem e_mul_str : dMul own (.str a) (.int j) M Q = (MulOk a j ∧ Q (.str (Txt.mul a j)) M) := rfl
theorem e_mul_lst : dMul own (.lst ds) (.int j) M Q = (-(2 ^ 63) ≤ j ∧ j < 2 ^ 63 ∧ ds.length * j.toNat ≤ sizeLine ∧ dNew own (List.replicate j.toNat ds).flatten M Q) := by
  apply propext
  constructor
  · rintro ⟨a, h1, h⟩
    cases h1
    exact h
  · exact fun h => ⟨ds, rfl, h⟩
theorem e_div : dDiv (.int i) (.int j) M Q = ((0 < j ∧ j < 1073741824) ∧ Q (.int (i / j)) M) := rfl
theorem e_mod : dMod (.int i) (.int j) M Q = (0 < j ∧ Q (.int (i % j)) M) := rfl
theorem e_pow : dPow (.int i) (.int j) M Q = ((0 ≤ j ∧ j ≤ 1000000 ∧ i.natAbs < 2 ^ 64) ∧ Q (.int (i ^ j.toNat)) M) := rfl
theorem e_neg : dNeg (.int i) M Q = Q (.int (-i)) M := rfl
theorem e_eq_int {n : Bool} : dEq n (.int i) (.int j) M Q = Q (.bl (n != decide (i = j))) M := rfl
theorem e_eq_str {n : Bool} : dEq n (.str a) (.str b) M Q = Q (.bl (n != decide (a = b))) M := rfl
theorem e_isN_non {n : Bool} : dIsN n .non .non M Q = Q (.bl (n != true)) M := rfl
theorem e_isN_obj {n : Bool} : dIsN n (.obj p) .non M Q = Q (.bl (n != false)) M := rfl
theorem e_isN_tup {n : Bool} : dIsN n (.tup ds) .non M Q = Q (.bl (n != false)) M := rfl
theorem e_isN_lst {n : Bool} : dIsN n (.lst ds) .non M Q = Q (.bl (n != false)) M := rfl
theorem e_lt_int : dLt (.int i) (.int j) M Q = Q (.bl (decide (i < j))) M := rfl
theorem e_lt_str : dLt (.str a) (.str b) M Q = Q (.bl (decide (a.cps.toList < b.cps.toList))) M := rfl
theorem e_le_int : dLe (.int i) (.int j) M Q = Q (.bl (decide (i ≤ j))) M := rfl
theorem e_le_str : dLe (.str a) (.str b) M Q = Q (.bl (!decide (b.cps.toList < a.cps.toList))) M := rfl
theorem e_gt : dGt (.int i) (.int j) M Q = Q (.bl (decide (j < i))) M := rfl
theorem e_ge : dGe (.int i) (.int j) M Q = Q (.bl (decide (j ≤ i))) M := rfl
theorem sqD_tup : sqD M (.tup ds) = some ds := rfl
theorem sqD_lst : sqD M (.lst ds) = some ds := rfl
theorem sqD_rdl : sqD M (.rdl ns) = some (ns.map D.int) := rfl
theorem sqD_obj (hp : M p = some (.lst ds)) : sqD M (.obj p) = some ds := by unfold sqD; dsimp only; rw [hp]
theorem lsD_lst : lsD M (.lst ds) = some ds := rfl
theorem lsD_o (hp : M p = some (.lst ds)) : lsD M (.obj p) = some ds := lsD_obj.mpr hp
theorem e_in_str {n : Bool} : dIn n (.str a) (.str b) M Q = Q (.bl (n != !(Builtin.Str.occurrences b a 0 b.length 1).isEmpty)) M := rfl
theorem e_in {n : Bool} {xs : List Str} (h : y = .tup (xs.map D.str) ∨ y = .lst (xs.map D.str)) (q : Q (.bl (n != decide (a ∈ xs))) M) : dIn n (.str a) y M Q := by
  rcases h with rfl | rfl
  · exact ⟨xs, by rw [sqD_tup]; exact strsD_map xs, q⟩
  · exact ⟨xs, by rw [sqD_lst]; exact strsD_map xs, q⟩
theorem e_in_tup {n : Bool} {xs : List Str} (h : strsD ds = some xs := by rfl) : dIn n (.str a) (.tup ds) M Q = Q (.bl (n != decide (a ∈ xs))) M := by
  apply propext
  constructor
  · rintro ⟨ys, h1, h2⟩
    have h3 : strsD ds = some ys := h1
    rw [h] at h3; cases h3; exact h2
  · exact fun q => ⟨xs, h, q⟩
theorem e_in_lst {n : Bool} {xs : List Str} (h : strsD ds = some xs := by rfl) : dIn n (.str a) (.lst ds) M Q = Q (.bl (n != decide (a ∈ xs))) M := by
  apply propext
  constructor
  · rintro ⟨ys, h1, h2⟩
    have h3 : strsD ds = some ys := h1
    rw [h] at h3; cases h3; exact h2
  · exact fun q => ⟨xs, h, q⟩
/-! items -/
theorem e_ix {n : Nat} (h : sqD M x = some ds) (hd : ds[n]? = some v) (q : Q v M) : dIx x (.int (n : Int)) M Q := by
  have e := atI_nat hd
  cases x with
  | str z => cases h
  | _ => exact ⟨ds, v, h, e, q⟩
theorem e_ix_at {d : D} (h : sqD M x = some ds) (e : atI ds i = some d) : dIx x (.int i) M Q = Q d M := by
  cases x with
  | str z => cases h
  | _ =>
    apply propext
    constructor
    · rintro ⟨ds', d', h1, h2, h3⟩
      rw [h] at h1; cases h1
      rw [e] at h2; cases h2
      exact h3
    · exact fun q => ⟨ds, d, h, e, q⟩
theorem at0 : atI (x :: l) 0 = some x := atI_nat (j := 0) rfl
theorem at1 : atI (x :: y :: l) 1 = some y := atI_nat (j := 1) rfl
theorem at2 : atI (x :: y :: z :: l) 2 = some z := atI_nat (j := 2) rfl
theorem at3 : atI (x :: y :: z :: u :: l) 3 = some u := atI_nat (j := 3) rfl
theorem at4 : atI (x :: y :: z :: u :: v :: l) 4 = some v := atI_nat (j := 4) rfl
theorem at5 : atI (x :: y :: z :: u :: v :: w :: l) 5 = some w := atI_nat (j := 5) rfl
theorem e_t0 : dIx (.tup (x :: l)) (.int 0) M Q = Q x M := e_ix_at rfl at0
theorem e_t1 : dIx (.tup (x :: y :: l)) (.int 1) M Q = Q y M := e_ix_at rfl at1
theorem e_t2 : dIx (.tup (x :: y :: z :: l)) (.int 2) M Q = Q z M := e_ix_at rfl at2
theorem e_t3 : dIx (.tup (x :: y :: z :: u :: l)) (.int 3) M Q = Q u M := e_ix_at rfl at3
theorem e_t4 : dIx (.tup (x :: y :: z :: u :: v :: l)) (.int 4) M Q = Q v M := e_ix_at rfl at4
theorem e_t5 : dIx (.tup (x :: y :: z :: u :: v :: w :: l)) (.int 5) M Q = Q w M := e_ix_at rfl at5
theorem e_l0 : dIx (.lst (x :: l)) (.int 0) M Q = Q x M := e_ix_at rfl at0
theorem e_l1 : dIx (.lst (x :: y :: l)) (.int 1) M Q = Q y M := e_ix_at rfl at1
theorem e_l2 : dIx (.lst (x :: y :: z :: l)) (.int 2) M Q = Q z M := e_ix_at rfl at2
theorem e_l3 : dIx (.lst (x :: y :: z :: u :: l)) (.int 3) M Q = Q u M := e_ix_at rfl at3
theorem e_o0 (h : M p = some (.lst (x :: l))) : dIx (.obj p) (.int 0) M Q = Q x M := e_ix_at (sqD_obj h) at0
theorem e_o1 (h : M p = some (.lst (x :: y :: l))) : dIx (.obj p) (.int 1) M Q = Q y M := e_ix_at (sqD_obj h) at1
theorem e_o2 (h : M p = some (.lst (x :: y :: z :: l))) : dIx (.obj p) (.int 2) M Q = Q z M := e_ix_at (sqD_obj h) at2
theorem e_o3 (h : M p = some (.lst (x :: y :: z :: u :: l))) : dIx (.obj p) (.int 3) M Q = Q u M := e_ix_at (sqD_obj h) at3
theorem e_ix_str {n : Nat} {c : Nat} (hz : a.length ≤ sizeLine) (h : a.cps.toList[n]? = some c) (q : Q (.str ⟨#[c]⟩) M) : dIx (.str a) (.int (n : Int)) M Q := ⟨hz, c, atI_nat h, q⟩
/-! slices, calls -/
theorem e_sl_tup {lo hi : Option Int} : dSl own (.tup ds) lo hi M Q = Q (.tup (cutL ds lo hi)) M := rfl
theorem e_sl_rdl {lo hi : Option Int} : dSl own (.rdl ns) lo hi M Q = dNew own ((cutL ns lo hi).map D.int) M Q := rfl
theorem e_sl_str {lo hi : Option Int} : dSl own (.str a) lo hi M Q = (a.length ≤ sizeLine ∧ Q (.str ⟨(cutL a.cps.toList lo hi).toArray⟩) M) := rfl
theorem e_sl_lst {lo hi : Option Int} : dSl own (.lst ds) lo hi M Q = dNew own (cutL ds lo hi) M Q := by
  apply propext
  constructor
  · rintro ⟨es, h1, h2⟩
    cases h1; exact h2
  · exact fun q => ⟨ds, rfl, q⟩
theorem cut_from {α : Type} {xs : List α} {n : Nat} : cutL xs (some (n : Int)) none = xs.drop n := by
  unfold cutL
  rw [HT.sIx_nat, HT.sIx_none]
  by_cases h : n ≤ xs.length
  · rw [Nat.min_eq_left h, List.take_of_length_le (by rw [List.length_drop]; omega)]
  · rw [Nat.min_eq_right (by omega), List.drop_eq_nil_of_le (Nat.le_refl _), List.drop_eq_nil_of_le (by omega)]; simp
theorem cut_to {α : Type} {xs : List α} {n : Nat} : cutL xs none (some (n : Int)) = xs.take n := by
  unfold cutL
  rw [HT.sIx_nat, HT.sIx_none, List.drop_zero, Nat.sub_zero]
  by_cases h : n ≤ xs.length
  · rw [Nat.min_eq_left h]
  · rw [Nat.min_eq_right (by omega), List.take_of_length_le (Nat.le_refl _), List.take_of_length_le (by omega)]
theorem e_len_str : dLen [.str a] M Q = (a.length ≤ sizeLine ∧ Q (.int a.length) M) := rfl
theorem e_len (h : sqD M x = some ds) : dLen [x] M Q = Q (.int ds.length) M := by
  cases x with
  | str z => cases h
  | _ =>
    apply propext
    constructor
    · rintro ⟨ds', h1, h2⟩
      rw [h] at h1; cases h1
      exact h2
    · exact fun q => ⟨ds, h, q⟩
theorem e_len_lst : dLen [.lst ds] M Q = Q (.int ds.length) M := e_len rfl
theorem e_len_tup : dLen [.tup ds] M Q = Q (.int ds.length) M := e_len rfl
theorem e_len_obj (h : M p = some (.lst ds)) : dLen [.obj p] M Q = Q (.int ds.length) M := e_len (sqD_obj h)
theorem e_int : dIntC [.int i] M Q = Q (.int i) M := rfl
theorem e_tupC_tup : dTupC [.tup ds] M Q = Q (.tup ds) M := rfl
theorem e_tupC_lst : dTupC [.lst ds] M Q = Q (.tup ds) M := by
  apply propext
  constructor
  · rintro ⟨ds', h1, h2⟩
    cases h1; exact h2
  · exact fun q => ⟨ds, rfl, q⟩
theorem e_tupC_obj (h : M p = some (.lst ds)) : dTupC [.obj p] M Q = Q (.tup ds) M := by
  apply propext
  constructor
  · rintro ⟨ds', h1, h2⟩
    cases lsD_obj.mp h1 ▸ h; exact h2
  · exact fun q => ⟨ds, lsD_obj.mpr h, q⟩
theorem e_append (h : M p = some (.lst ds)) : dAppend (.obj p) [y] M Q = (ds.length < sizeLine ∧ Q .non (updM M p (.lst (ds ++ [y])))) := by
  apply propext
  constructor
  · rintro ⟨p', ds', y', h1, h2, h3, h4⟩
    cases h1; cases h2
    rw [h] at h3; cases h3
    exact h4
  · exact fun q => ⟨p, ds, y, rfl, rfl, h, q⟩
theorem e_pop (h : M p = some (.lst (ds ++ [y]))) : dPop (.obj p) [] M Q = Q y (updM M p (.lst ds)) := by
  apply propext
  constructor
  · rintro ⟨p', ds', y', h1, h2, h3, h4, h5⟩
    cases h1
    rw [h] at h3; cases h3
    rw [List.getLast?_append, List.getLast?_singleton] at h4
    cases h4
    rw [List.dropLast_concat] at h5
    exact h5
  · exact fun q => ⟨p, _, y, rfl, rfl, h, by rw [List.getLast?_append, List.getLast?_singleton]; rfl, by rw [List.dropLast_concat]; exact q⟩
theorem e_extend (h : M p = some (.lst ds)) : dExtend (.obj p) [.lst es] M Q = (ds.length + es.length ≤ sizeLine ∧ Q .non (updM M p (.lst (ds ++ es)))) := by
  apply propext
  constructor
  · rintro ⟨p', ds', y', es', h1, h2, h3, h4, h5⟩
    cases h1; cases h2
    rw [h] at h3; cases h3
    cases h4
    exact h5
  · exact fun q => ⟨p, ds, _, es, rfl, rfl, h, rfl, q⟩
theorem e_iadd_int : dIAdd (.int i) (.int j) M Q = Q (.int (i + j)) M := rfl
theorem e_iadd_str : dIAdd (.str a) (.str b) M Q = (a.length + b.length ≤ sizeLine ∧ Q (.str (a ++ b)) M) := rfl
theorem e_iadd_obj (h : M p = some (.lst ds)) (h2 : lsD M y = some es) : dIAdd (.obj p) y M Q = (ds.length + es.length ≤ sizeLine ∧ Q (.obj p) (updM M p (.lst (ds ++ es)))) := by
  apply propext
  constructor
  · rintro ⟨ds', es', h3, h4, h5⟩
    rw [h] at h3; cases h3
    rw [h2] at h4; cases h4
    exact h5
  · exact fun q => ⟨ds, es, h, h2, q⟩
theorem e_isub : dISub (.int i) (.int j) M Q = Q (.int (i - j)) M := rfl
theorem isLst_of (h : M p = some (.lst ds)) : isLst (.obj p) M := ⟨p, ds, rfl, h⟩
theorem e_frz_obj (h : M p = some (.lst ds)) (q : Q (.lst ds) (remM M p)) : frz (.obj p) M Q := ⟨ds, h, q⟩
theorem e_frz_upd (h : M p = none) : frz (.obj p) (updM M p (.lst ds)) Q = Q (.lst ds) M := by
  apply propext
  constructor
  · rintro ⟨es, h1, h2⟩
    rw [updM_same] at h1; cases h1
    rw [remM_upd h] at h2
    exact h2
  · exact fun q => ⟨ds, updM_same, by rw [remM_upd h]; exact q⟩
/-- o[k] = v -/
theorem e_nSub {to ti : DTE} {σ : DS} {Q : DS → Mp → Prop} {d : D} : nSub to ti d σ M Q = to σ M fun o M1 => ti σ M1 fun i M2 => ∃ p ds k j, o = .obj p ∧ i = .int k ∧ M2 p = some (.lst ds) ∧ ixN ds.length k = some j ∧ Q σ (updM M2 p (.lst (ds.set j d))) := rfl
theorem set_at {n : Nat} {Q : List D → Prop} (h : M p = some (.lst ds)) (hn : n < ds.length) (q : Q (ds.set n v)) : ∃ p' ds' k j, D.obj p = .obj p' ∧ D.int (n : Int) = .int k ∧ M p' = some (.lst ds') ∧ ixN ds'.length k = some j ∧ (p = p' → Q (ds'.set j v)) := by
  refine ⟨p, ds, n, n, rfl, rfl, h, ?_, fun _ => q⟩
  unfold ixN
  rw [if_pos (by omega), if_pos (by omega)]
  simp
theorem s_set {n : Nat} {Q : Mp → Prop} (h : M p = some (.lst ds)) (hn : n < ds.length) (q : Q (updM M p (.lst (ds.set n v)))) : ∃ p' ds' k j, D.obj p = .obj p' ∧ D.int (n : Int) = .int k ∧ M p' = some (.lst ds') ∧ ixN ds'.length k = some j ∧ Q (updM M p' (.lst (ds'.set j v))) := by
  refine ⟨p, ds, n, n, rfl, rfl, h, ?_, q⟩
  unfold ixN
  rw [if_pos (by omega), if_pos (by omega)]
  simp
/-- what stands behind a statement is shown once -/
theorem seq_tail {t u : DTS} {E : DEnds} {σ : DS} (W : DS → Mp → Prop) (tail : ∀ σ M, W σ M → u E σ M) (h : ∀ N : DS → Mp → Prop, (∀ σ M, W σ M → N σ M) → t { E with nx := N } σ M) : dSeq t u E σ M := h _ tail
/-- comprehensions: the items are told by Pre; Inv by the items, the turn, what is made so far, M without the new list -/
theorem lc_gen {k : Nat} {wi : DTI} {te : DTE} {σ : DS} (Pre : List D → Mp → Prop) (hwi : ∀ Kd : List D → (Mp → Prop) → Mp → Prop, (∀ ds M1, Pre ds M1 → Kd ds (fun _ => True) M1) → wi σ M Kd) (Inv : List D → Nat → List D → Mp → Prop)
    (hz : ∀ ds M1, Pre ds M1 → ds.length ≤ sizeLine) (h0 : ∀ ds M1, Pre ds M1 → Inv ds 0 [] M1)
    (h : ∀ ds (i : Nat) d acc M p (Q : DK), ds[i]? = some d → Inv ds i acc M → M p = none → acc.length = i → (∀ y M', M' p = none → Inv ds (i + 1) (acc ++ [y]) M' → Q y (updM M' p (.lst acc))) → te (σ.set k (some d)) (updM M p (.lst acc)) Q)
    (q : ∀ ds acc M', acc.length = ds.length → Inv ds ds.length acc M' → dNew own acc M' Q) : dLc own k wi te σ M Q := by
  unfold dLc
  refine hwi _ fun ds M1 hp => ?_
  exact lc_inv (Inv ds) (hz ds M1 hp) (h0 ds M1 hp) (fun _ _ _ _ _ _ _ => trivial) (fun i d acc M p Q hd hI h1 _ hl hq => h ds i d acc M p Q hd hI h1 hl hq) (fun acc M' hl hI => q ds acc M' hl hI)
/-- each element by itself -/
theorem lc_pure {k : Nat} {wi : DTI} {te : DTE} {σ : DS} (ds : List D) (f : D → D) (hwi : ∀ Kd : List D → (Mp → Prop) → Mp → Prop, Kd ds (fun _ => True) M → wi σ M Kd) (hz : ds.length ≤ sizeLine)
    (h : ∀ (i : Nat) d M' (Q : DK), ds[i]? = some d → (∀ a o, M a = some o → M' a = some o) → Q (f d) M' → te (σ.set k (some d)) M' Q) (q : dNew own (ds.map f) M Q) : dLc own k wi te σ M Q := by
  unfold dLc
  exact hwi _ (lc_map f hz (fun _ _ _ => trivial) h q)
/-- loops: the items are told by Pre; W by the items, the turn, the slots, M -/
theorem for_gen {wi : DTI} {g : DTG} {tb : DTS} {E : DEnds} {σ : DS} (Pre : List D → Mp → Prop) (hwi : ∀ Kd : List D → (Mp → Prop) → Mp → Prop, (∀ ds M1, Pre ds M1 → Kd ds (fun _ => True) M1) → wi σ M Kd) (W : List D → Nat → DS → Mp → Prop)
    (h0 : ∀ ds M1, Pre ds M1 → W ds 0 σ M1)
    (h : ∀ ds (i : Nat) d σ M (N : DS → Mp → Prop), ds[i]? = some d → W ds i σ M → (∀ σ M, W ds (i + 1) σ M → N σ M) → g d σ M fun σ2 M2 => tb { E with nx := N, ct := N, bk := E.nx } σ2 M2)
    (q : ∀ ds σ M, W ds ds.length σ M → E.nx σ M) : dFor wi g tb E σ M := by
  unfold dFor
  refine hwi _ fun ds M1 hp => ⟨W ds, h0 ds M1 hp, fun _ _ _ _ _ => trivial, fun i d σ M hd w => ?_, q ds⟩
  exact h ds i d σ M _ hd w fun _ _ z => z
/-- .. over items that are known -/
theorem for_pure {wi : DTI} {g : DTG} {tb : DTS} {E : DEnds} {σ : DS} (ds : List D) (hwi : ∀ Kd : List D → (Mp → Prop) → Mp → Prop, Kd ds (fun _ => True) M → wi σ M Kd) (W : Nat → DS → Mp → Prop) (h0 : W 0 σ M)
    (h : ∀ (i : Nat) d σ M (N : DS → Mp → Prop), ds[i]? = some d → W i σ M → (∀ σ M, W (i + 1) σ M → N σ M) → g d σ M fun σ2 M2 => tb { E with nx := N, ct := N, bk := E.nx } σ2 M2)
    (q : ∀ σ M, W ds.length σ M → E.nx σ M) : dFor wi g tb E σ M := by
  unfold dFor
  refine hwi _ ⟨W, h0, fun _ _ _ _ _ => trivial, fun i d σ M hd w => ?_, q⟩
  exact h i d σ M _ hd w fun _ _ z => z
/-- while, by a word and a number that falls -/
theorem while_gen {c : DTT} {tb : DTS} {E : DEnds} {σ : DS} (W : Nat → DS → Mp → Prop) (m : Nat) (h0 : W m σ M)
    (h : ∀ m σ M (N : DS → Mp → Prop), W m σ M → (∀ m' σ M, m' < m → W m' σ M → N σ M) → c σ M fun b M1 => IfB b (tb { E with nx := N, ct := N, bk := E.nx } σ M1) (E.nx σ M1)) : dWhile c tb E σ M := by
  unfold dWhile
  exact ⟨W, ⟨m, h0⟩, fun m σ M w => h m σ M _ w fun m' σ M hm w => ⟨m', hm, w⟩⟩
theorem upto_get {lo : Int} {n i : Nat} {d : D} (h : (upto lo n)[i]? = some d) : d = .int (lo + (i : Nat)) ∧ i < n := by
  unfold upto at h
  rw [List.getElem?_map] at h
  obtain ⟨k, h1, rfl⟩ := Option.map_eq_some_iff.mp h
  obtain ⟨h2, h3⟩ := List.getElem?_eq_some_iff.mp h1
  rw [List.getElem_range] at h3
  subst h3
  exact ⟨rfl, by simpa using h2⟩
theorem upto_len {lo : Int} {n : Nat} : (upto lo n).length = n := by simp [upto]
theorem sz0 : (([] : List D).length ≤ sizeLine) = True := eq_true (by show 0 ≤ sizeLine; decide)
theorem sz1 {a0 : D} : (([a0] : List D).length ≤ sizeLine) = True := eq_true (by show 1 ≤ sizeLine; decide)
theorem sz2 {a0 a1 : D} : (([a0, a1] : List D).length ≤ sizeLine) = True := eq_true (by show 2 ≤ sizeLine; decide)
theorem sz3 {a0 a1 a2 : D} : (([a0, a1, a2] : List D).length ≤ sizeLine) = True := eq_true (by show 3 ≤ sizeLine; decide)
theorem sz4 {a0 a1 a2 a3 : D} : (([a0, a1, a2, a3] : List D).length ≤ sizeLine) = True := eq_true (by show 4 ≤ sizeLine; decide)
theorem sz5 {a0 a1 a2 a3 a4 : D} : (([a0, a1, a2, a3, a4] : List D).length ≤ sizeLine) = True := eq_true (by show 5 ≤ sizeLine; decide)
theorem sz6 {a0 a1 a2 a3 a4 a5 : D} : (([a0, a1, a2, a3, a4, a5] : List D).length ≤ sizeLine) = True := eq_true (by show 6 ≤ sizeLine; decide)
theorem sz7 {a0 a1 a2 a3 a4 a5 a6 : D} : (([a0, a1, a2, a3, a4, a5, a6] : List D).length ≤ sizeLine) = True := eq_true (by show 7 ≤ sizeLine; decide)
theorem sz8 {a0 a1 a2 a3 a4 a5 a6 a7 : D} : (([a0, a1, a2, a3, a4, a5, a6, a7] : List D).length ≤ sizeLine) = True := eq_true (by show 8 ≤ sizeLine; decide)
theorem ifB_and {b c : Bool} {A B : Prop} : IfB b (IfB c A B) B = IfB (b && c) A B := by cases b <;> cases c <;> rfl
theorem ifB_or {b c : Bool} {A B : Prop} : IfB b A (IfB c A B) = IfB (b || c) A B := by cases b <;> cases c <;> rfl
theorem tru_bl {b : Bool} : truD (.bl b) M = some b := rfl
theorem tru_int : truD (.int i) M = some (i != 0) := rfl
theorem tru_non : truD .non M = some false := rfl
theorem tru_lst : truD (.lst ds) M = some (!ds.isEmpty) := rfl
theorem tru_tup : truD (.tup ds) M = some (!ds.isEmpty) := rfl
theorem tru_obj (h : M p = some (.lst ds)) : truD (.obj p) M = some (!ds.isEmpty) := by
  show (sqD M (.obj p)).map _ = _
  rw [sqD_obj h] <;> rfl
theorem ex_some {α : Type} {a : α} {P : α → Prop} : (∃ b, some a = some b ∧ P b) = P a := propext ⟨fun ⟨b, h, p⟩ => by cases h; exact p, fun p => ⟨a, rfl, p⟩⟩
theorem bne_f (b : Bool) : (false != b) = b := by cases b <;> rfl
theorem bne_t (b : Bool) : (true != b) = !b := by cases b <;> rfl
end
end DL
/-! DL9: enumerate over a tuple. -/
namespace DL
open PySem PySem.Spec PyProof.Rows L2
theorem meets_enumT {v : Value} {o : Obj} {H : Heap → Prop} (B : Begins v o H) :
    Meets (Builtin.«enumerate.__new__» ⟨[.type "enumerate", v], []⟩) (fun _ R s => H s.heap ∧
      R (.ok (.ret (.ref (s.heap.push o).objs.size)))
        { s with heap := (s.heap.push o).push { cls := .type "enumerate", data := .fields #[.none, .bool false, .ref s.heap.objs.size, rawInt 0, .none, .none] } }) :=
  .of_wp fun prog w A R s h => by
    obtain ⟨hp, g, d, tk, os⟩ := s; obtain ⟨h1, h⟩ := h
    have hsub := sub_enumerate
    have q1 : ∀ {A' : Around} {E : Value → Shared → Prop} {Q : Value → Shared → Prop}, Q (.ref hp.objs.size) ⟨(hp.push o), g, d, tk, os⟩ → wpAny (model prog w) A' (pyIter v) Q E ⟨hp, g, d, tk, os⟩ :=
      fun q => B.iter prog w _ _ ⟨hp, g, d, tk, os⟩ _ h1 q
    wp_walk
    refine wpAny_stack_any fun st => wpAny_pure ?_
    split
    · rename_i c _ _ _ _ _
      cases (c == Value.type "enumerate")
      · wp_walk using q1
        exact ⟨_, rfl, h⟩
      · wp_walk using q1
        exact ⟨_, rfl, h⟩
    · wp_walk using q1
      exact ⟨_, rfl, h⟩
theorem call_enumT {prog : Program} {w : World} {A : Around} {E : Value → Shared → Prop} {s : Shared} {v : Value} {o : Obj} {H : Heap → Prop} {Q : Value → Shared → Prop} (B : Begins v o H) (h0 : H s.heap)
    (h : ∀ h', IsEnum h' (s.heap.objs.size + 1) s.heap.objs.size 0 .none → h'.get? s.heap.objs.size = some o → h'.objs.size = s.heap.objs.size + 2 →
      (∀ b o, s.heap.get? b = some o → h'.get? b = some o) → Q (.ref (s.heap.objs.size + 1)) { s with heap := h' }) :
    wpAny (model prog w) A (call (.type "enumerate") [v]) Q E s := by
  refine callType_new F.called_enumerate (by decide) (F.typeCall_enumerate_1 _) (F.newCall_enumerate_1 _) (fun obj => F.args_object_init_2 obj _) F.entry_enumerate_new
    (meets_enumT B) ⟨h0, ?_⟩
  have hz : (s.heap.push o).objs.size = s.heap.objs.size + 1 := Heap.size_push ..
  show _ ∧ _
  rw [hz]
  have he : IsEnum ((s.heap.push o).push { cls := .type "enumerate", data := .fields #[.none, .bool false, .ref s.heap.objs.size, rawInt 0, .none, .none] }) (s.heap.objs.size + 1) s.heap.objs.size 0 .none := by
    have := Heap.get?_push_size (s.heap.push o) (o := { cls := .type "enumerate", data := .fields #[.none, .bool false, .ref s.heap.objs.size, rawInt 0, .none, .none] }) rfl
    rw [hz] at this; exact this
  exact ⟨⟨_, he, rfl⟩, h _ he (Heap.get?_push_of_some _ (Heap.get?_push_size _ B.free)) (by rw [Heap.size_push, hz]) fun b o x => Heap.get?_push_of_some _ (Heap.get?_push_of_some _ x)⟩
/-- the tuple at a, each item in a new pair -/
def Iet (K : PySem.W.Frag) (a : Addr) : It :=
  ⟨fun i H => ∃ (xs : List V) (x : V), SqT K H a xs ∧ xs[i]? = some x, fun i H v H' => ∃ T x, v = .ref T ∧ H T = none ∧ H' = upd H T (.tup [.int (i : Nat), x]) ∧ ∀ xs, SqT K H a xs → xs[i]? = some x, fun i H => ∃ xs : List V, SqT K H a xs ∧ xs.length ≤ i⟩
theorem turn_enumT {P : Program} {w : World} {K : PySem.W.Frag} {elts : List Expr} {kk : Nat} {tpos : Pos} (a e it : Addr) (hai : a ≠ it) (hae : e ≠ a) :
    Turn P w K (.Tuple elts kk tpos) (Iet K a) [e, it] e (fun i h => (∃ old, IsEnum h e it ((i : Nat) : Int) old) ∧ h.IsTupleIter it a i ∧ e ≠ it) where
  mem := by simp
  obj := fun i h st b hb => by
    obtain ⟨⟨old, he⟩, ⟨o, ho, hc, hd⟩, _⟩ := st
    have e' : b = e ∨ b = it := by simpa using hb
    rcases e' with z | z
    · rw [z]; exact ⟨_, he, fun v q => nomatch q⟩
    · rw [z]; exact ⟨o, ho, fun v q => by rw [hd] at q; cases q⟩
  keep := fun i h h' st k => let ⟨⟨old, he⟩, hi, hne⟩ := st; ⟨⟨old, k e (by simp) _ he⟩, hi.at fun o q => k it (by simp) o q, hne⟩
  item := by
    intro X hP hw hK hc i pins s σ H E I hf st hg
    subst hP hw hK
    obtain ⟨⟨old, he⟩, hit, hne⟩ := st
    obtain ⟨xs, x, hq, hx⟩ := hg
    obtain ⟨its, rv, p, hz⟩ := I.tuple hq
    obtain ⟨u, hu, ru⟩ := rv.get hx
    have hel : e < s.heap.objs.size := Heap.lt_size he
    have hil : it < s.heap.objs.size := by obtain ⟨_, q, _⟩ := hit; exact Heap.lt_size q
    have hil2 : i < its.toArray.size := by
      have h1 : its[i]? = some u := hu
      have := (List.getElem?_eq_some_iff.mp h1).1
      simpa using this
    refine wpAny_pyNext_enum_itemD (Draws.tuple (A := X.A.in1) (I.ok.hd hc) it a hai its.toArray) he ⟨hit, (show s.heap.IsTuple a its.toArray from p)⟩ hil2 hne (by simp [hne, hae]) fun y h' tk hy ho hit' hT hsz hk => ?_
    have ey : y = u := by
      have h1 : its[i]? = some u := hu
      have h2 : its[i]? = some y := by simpa using hy
      rw [h1] at h2; cases h2; rfl
    subst ey
    refine ⟨_, rfl, wpAny_letOwnedTupleGo_enum (s := { s with heap := h', toks := tk + 1 }) ho fun h'' he' sb => ?_⟩
    have hT2 : h''.get? s.heap.objs.size = some { cls := .type "tuple", data := .seq #[.int i tk, y] } := (sb.2 _ (Nat.ne_of_gt hel)).trans hT
    have new : ObjOk X.prog X.w (upd H s.heap.objs.size (.tup [.int (i : Nat), x])) h'' s.heap.objs.size (.tup [.int (i : Nat), x]) :=
      ⟨by show 2 ≤ sizeLine; decide, [.int i tk, y], .cons ⟨_, rfl⟩ (.cons ru .nil), ⟨_, hT2, rfl, _, rfl⟩⟩
    have I1 : Inv X pins σ (upd H s.heap.objs.size (.tup [.int (i : Nat), x])) { s with heap := h'', toks := tk + 1 } :=
      I.turnedNew (ch := [e, it]) (fun b ob hb q => (sb.2 b (fun z => hb (by simp [z]))).trans (hk b ob (fun z => hb (by simp [z])) (fun z => hb (by simp [z])) q)) hf (Nat.le_refl _) new
    refine ⟨.ref s.heap.objs.size, _, I1, rfl, ⟨_, x, rfl, I.hok.fresh (Nat.le_refl _), rfl, fun ys hy => by rw [I.tuple_inj hy hq]; exact hx⟩, ⟨⟨y, ?_⟩, hit'.1.at fun o q => (sb.2 it (Ne.symm hne)).trans q, hne⟩, fun b hb => ?_⟩
    · have e1 : ((i + 1 : Nat) : Int) = (i : Int) + 1 := by omega
      rw [e1]; exact he'
    · have hb' : b < s.heap.objs.size := by
        have e' : b = e ∨ b = it := by simpa using hb
        rcases e' with z | z
        · rw [z]; exact hel
        · rw [z]; exact hil
      rw [upd_ne (Nat.ne_of_lt hb')]
      exact (hf b hb).1
  done := by
    intro X hP hw hK hc i pins s σ H E I hf st hg
    subst hP hw hK
    obtain ⟨⟨old, he⟩, hit, hne⟩ := st
    obtain ⟨xs, hq, hx⟩ := hg
    obtain ⟨its, rv, p, hz⟩ := I.tuple hq
    obtain ⟨f0, f1, f2, f3, f4, f5⟩ := hf it (by simp)
    have hl := rv.length
    have hT : s.TypeIs (.ref e) "enumerate" := ⟨_, he, rfl⟩
    unfold pyNext
    refine wpAny_bind (wpAny_attempt (wpAny_callSpecial?_slot (name := Str.ofString "__next__") hT F.slot_enumerate_next
      (wpAny_call_entry F.slot_enumerate_next hT F.entry_enumerate_next ?_ (F.args_enumerate_next_1 _))))
    show wpAny _ _ (field (.ref e) 2 >>= _) _ _ _
    refine wpAny_bind (wpAny_field he rfl (x := .ref it) rfl ?_)
    refine wpAny_bind (wpAny_nextOf_tuple_end (I.ok.hd hc) hit (show s.heap.IsTuple a its.toArray from p) (by simp; omega) fun h' x he' hx' => ?_)
    obtain ⟨o, ho, hc⟩ := hx'
    refine wpAny_bind (wpAny_isInstance (T := "StopIteration") (b := true) ⟨o, ho, hc⟩ isSubtype_stop ?_)
    exact wpAny_pure ⟨rfl, I.turned (t' := s.toks) (fun b o hb q => he' b o hb q) f0 f1 f3 f4 f5⟩
  self := fun A i s Q E st h => let ⟨⟨_, he⟩, _⟩ := st; wpAny_pyIter_enum he h
def iEnumT (K : PySem.W.Frag) (ta : TA) : TI := fun σ H R => ta σ H fun vs H1 => ∃ a xs, vs = [.ref a] ∧ SqT K H1 a xs ∧ R (Iet K a) H1
theorem pi_enumT {X : Cx} {e : Expr} {ta : TA} {p pos tpos : Pos} {elts : List Expr} {kk : Nat} (hg : Gl X "enumerate") (hm : X.mg "enumerate" = none) (ha : PA X [e] ta) (hs : starEach [e] X.env = [(false, eval e X.env)] := by rfl) :
    PI X (.Tuple elts kk tpos) (.Call (.Name "enumerate" p) [e] [] pos) (iEnumT X.K ta) := by
  refine ⟨fun pins s σ H R I h => ?_⟩
  refine Call_ (ld_blt I hg hm boot_enumerate (PyProof.Rows.callWith_type1 (thn (ha.run pos pins s σ H _ I h) fun us s1 ⟨vs, H1, I1, r1, q1⟩ => ?_) hs rfl))
  obtain ⟨a, xs, ex, hq, q⟩ := q1
  subst ex
  cases r1 with
  | cons r rr =>
    cases rr
    cases r
    obtain ⟨its, rv, p', hz⟩ := I1.tuple hq
    have pt : s1.heap.IsTuple a its.toArray := p'
    have hal : a < s1.heap.objs.size := by obtain ⟨o, ho, _⟩ := pt; exact Heap.lt_size ho
    refine call_enumT (begins_tuple a its.toArray) pt fun h' he hit hsz hk => wpAny_pyIter_enum he ?_
    have I2 : Inv X pins σ H1 { s1 with heap := h' } := I1.kept (t' := s1.toks) hk
    refine ⟨s1.heap.objs.size + 1, [s1.heap.objs.size + 1, s1.heap.objs.size], _, _, H1, rfl, I2, turn_enumT a (s1.heap.objs.size + 1) s1.heap.objs.size (Nat.ne_of_lt hal) (Nat.ne_of_gt (Nat.lt_succ_of_lt hal)), ⟨⟨.none, he⟩, ⟨_, hit, rfl, rfl⟩, Nat.succ_ne_self _⟩, fun b hb => ?_, q⟩
    have e' : b = s1.heap.objs.size + 1 ∨ b = s1.heap.objs.size := by simpa using hb
    have hle : s1.heap.objs.size ≤ b := by
      rcases e' with z | z
      · rw [z]; exact Nat.le_add_right _ _
      · rw [z]; exact Nat.le_refl _
    exact I1.fpOk hle (I1.hok.fresh hle)
section
variable {X : Cx} {F0 : Hp} {tr : DTA} {e : Expr}
/-- the items in pairs with their places -/
def pairs (ds : List D) : List D := (List.range ds.length).zipWith (fun i d => .tup [.int (i : Nat), d]) ds
theorem pairs_len {ds : List D} : (pairs ds).length = ds.length := by simp [pairs]
theorem pairs_get {ds : List D} {i : Nat} {d : D} (h : ds[i]? = some d) : (pairs ds)[i]? = some (.tup [.int (i : Nat), d]) := by
  have hi : i < ds.length := (List.getElem?_eq_some_iff.mp h).1
  simp [pairs, List.getElem?_zipWith, hi]
  exact (List.getElem?_eq_some_iff.mp h).2
theorem pairs_of {ds : List D} {i : Nat} {d : D} (h : (pairs ds)[i]? = some d) : ∃ x, ds[i]? = some x ∧ d = .tup [.int (i : Nat), x] := by
  have hi : i < ds.length := by rw [← pairs_len]; exact (List.getElem?_eq_some_iff.mp h).1
  have hx : ds[i]? = some ds[i] := List.getElem?_eq_getElem hi
  rw [pairs_get hx] at h
  cases h
  exact ⟨_, hx, rfl⟩
theorem src_enumT {K : PySem.W.Frag} {F H : Hp} {ds : List D} {St : Mp → Prop} {a : Addr} {vs : List V} (h1 : SqT K F a vs) (h2 : Reps K F ds vs) : Src K F H (pairs ds) St (Iet K a) where
  go := fun i F' H' M' e r s hi => by
    have hi' : i < vs.length := by rw [← h2.length, ← pairs_len]; exact hi
    exact ⟨vs, vs[i], sqT_up r (sqT_mono e h1), by simp [hi']⟩
  yld := fun i F' H' M' x H2 e r s hi ⟨T, y, ex, hT, eH, hy⟩ => by
    subst ex eH
    obtain ⟨d, h3, h4⟩ := (h2.mono e).get (hy vs (sqT_up r (sqT_mono e h1)))
    refine ⟨.tup [.int (i : Nat), d], _, pairs_get h3, same_upd (r.freeF hT), r.newF hT _, rep_tup.mpr ⟨T, [.int (i : Nat), y], rfl, SqT.of upd_same, ?_⟩⟩
    exact .cons (rep_int.mpr rfl) (.cons (h4.mono (same_upd (r.freeF hT))) .nil)
  stop := fun i F' H' M' e r s hi => ⟨vs, sqT_up r (sqT_mono e h1), by rw [← h2.length, ← pairs_len]; exact hi⟩
def dEnum (ta : DTA) : DTI := fun σ M Kd => ta σ M fun vs M1 => match vs with
  | [.tup ds] => Kd (pairs ds) (fun _ => True) M1
  | _ => False
theorem di_enum {p pos tpos : Pos} {elts : List Expr} {kk : Nat} (hg : Gl X "enumerate") (hm : X.mg "enumerate" = none) (ha : DA X F0 [e] tr) (hs : starEach [e] X.env = [(false, eval e X.env)] := by rfl) :
    DI X F0 (.Tuple elts kk tpos) (.Call (.Name "enumerate" p) [e] [] pos) (dEnum tr) :=
  PI_imp (pi_enumT hg hm ha hs) fun σ H Rr ⟨σd, M, F, hF, r, hS, Kd, h, fin⟩ => ⟨σd, M, F, _, hF, r, hS, h, fun x M1 v H1 F1 q e1 r1 v1 => by
    split at q
    · obtain ⟨u, rfl, h1⟩ := v1.one
      obtain ⟨a, vs, rfl, hq, hr⟩ := rep_tup.mp h1
      exact ⟨a, vs, rfl, sqT_up r1 hq, fin _ _ _ _ _ _ q e1 r1 trivial (src_enumT hq hr)⟩
    · exact q.elim⟩
end
end DL
/-! HeadX: the head's Hook with a further Bool; defs as Callees. -/
namespace DL
open PySem PySem.Spec PyProof.Rows L2
abbrev AlP : Type := He.AlD × Bool
def obsP (n : Nat) (fa : List He.Fa) (fn : List He.DefD) (ex : PySem.W.Frag → Bool) (g : Addr → Option Obj) : AlP := (He.obsD fa fn (He.frG g (He.asD g n)), ex (He.frG g (He.asD g n)))
def hookP (n : Nat) (fa : List He.Fa) (fn : List He.DefD) (ex : PySem.W.Frag → Bool) : PySem.W.Hook where
  α := AlP
  obs := fun s => obsP n fa fn ex s.heap.get?
  val := fun _ => (He.valD fn, true)
  says := fun _ h => ∃ K : PySem.W.Frag, K.In h ∧ He.SaysD fa fn K ∧ ex K = true
  of := fun _ _ e => ⟨_, He.frG_in, congrArg (fun z : AlP => z.1) e, congrArg (fun z : AlP => z.2) e⟩
  keeps := fun _ _ _ ⟨K, hK, c⟩ k => ⟨K, PySem.W.Frag.In.keeps hK k, c⟩
theorem obsP_eq {n : Nat} {fa : List He.Fa} {fn : List He.DefD} {ex : PySem.W.Frag → Bool} {g : Addr → Option Obj} {s : Shared} (h : ∀ a, g a = s.heap.get? a) : obsP n fa fn ex g = (hookP n fa fn ex).obs s := by
  have e : g = s.heap.get? := funext h
  rw [e] <;> rfl
theorem gtup_of {K : PySem.W.Frag} {h : Heap} {mg : Str → Option Value} (X : K.In h) (G : h.Ns mainGlobals mg) {x : Str} {ws : List Str} (c : (He.Fa.glo x).ok K = true) (t : He.tupB K x (ws.map He.Dv.str) = true) : GTup K mg x ws :=
  ⟨He.ga K x, He.glo_ok X G c, fun H => by
    have := He.tupB_ok t H
    rw [List.map_map] at this
    exact this⟩
section
variable {P : Program} {w : World} {K : PySem.W.Frag} {mg : Str → Option Value} {base : Heap} {CX : CXT} {x : Str} {params : Arguments} {body : List Stmt} {scope : Scope} {f : Addr} {fd : FuncData} {ps : List Str} {k : Nat} {sp : SpD}
theorem callee_of (F : FunD K x x params body scope [] [] f fd) (ok : FnOk P w K mg base CX k f fd ps (LSp K sp)) (hm : mg x = some (.ref f))
    (h : ∀ (kV doc pm : Value) (an : Option Addr) (cdv ct : Value) (us : List Value), us.length = ps.length → bindArgs (PySem.W.fnOf x x params body scope .none kV doc pm an cdv ct) ⟨us, []⟩ = pure (ps.zip us))
    (hk : ∀ (kV doc pm : Value) (an : Option Addr) (cdv ct : Value) (us : List Value), us.length = ps.length → bindArgs (PySem.W.fnOf x x params body scope .none kV doc pm an cdv ct) ⟨[], ps.zip us⟩ = pure (ps.zip us)) : Callee P w K mg base CX k x ps sp := by
  refine ⟨f, fd, ok, hm, F.kp, F.bindsN h, ?_⟩
  obtain ⟨oc, od, dV, kV, doc, pm, an, cdv, ct, osl, rfl, lk, hcd, hD, hK⟩ := F.ex
  rcases hD with ⟨_, rfl⟩ | ⟨e, _⟩
  · exact hk kV doc pm an cdv ct
  · exact absurd rfl e
theorem fnok_no (h : ∀ ds M Q E, ¬ sp ds M Q E) : FnOk P w K mg base CX k f fd ps (LSp K sp) :=
  ⟨fun vs H Q E ⟨_, _, _, _, _, _, _, q, _⟩ => (h _ _ _ _ q).elim, fun A outer s H args us vs Q E hr he hb hv ⟨_, _, _, _, _, _, _, q, _⟩ => (h _ _ _ _ q).elim⟩
theorem law_sp {ns : List Int} {H : Hp} {a : Addr} (hl : ns.length ≤ 63) (hS : SqL K H a (ns.map V.int)) (hsp : ∀ M (Q : DK) E, (∀ M', Q (.bl true) M') → sp [.rdl ns] M Q E) : LSp K sp [.ref a] H (fun v _ => v = .bl true) fun _ _ _ => False :=
  ⟨[.rdl ns], fun _ => none, H, fun d _ => d = .bl true, X0, ⟨Same.refl _, fun _ _ h => (nomatch h), fun _ _ h => (nomatch h)⟩, .cons (rep_rdl.mpr ⟨a, rfl, hS⟩) .nil, hsp _ _ _ fun _ => rfl, fun d M v H F' e _ _ r => by
    subst e
    exact rep_bl.mp r, finX0⟩
end
end DL
/-! The law's own state of draws; programs as typed trees. -/
namespace Syn
open PySem L2 DL
/-! ### the draws -/
def DrawO (o : List D) : Prop := ∃ (cells : List Int) (at_ big mix : Int), o = [.lst (cells.map D.int), .int at_, .int big, .int mix] ∧ 0 ≤ at_
def DrawAt (M : Mp) (a : Addr) : Prop := ∃ o, M a = some (.lst o) ∧ DrawO o
/-- draws were done: the state at a alone has changed -/
def DrN (a : Addr) (M M' : Mp) : Prop := ∃ o, M' = updM M a (.lst o) ∧ DrawO o
theorem DrN.refl {a : Addr} {M : Mp} (h : DrawAt M a) : DrN a M M := by
  obtain ⟨o, h1, h2⟩ := h
  exact ⟨o, (updM_self h1).symm, h2⟩
theorem DrN.trans {a : Addr} {M M1 M2 : Mp} (h : DrN a M M1) (h' : DrN a M1 M2) : DrN a M M2 := by
  obtain ⟨o, rfl, _⟩ := h
  obtain ⟨o', rfl, h2⟩ := h'
  exact ⟨o', by rw [updM_updM], h2⟩
theorem DrN.at {a : Addr} {M M' : Mp} (h : DrN a M M') : DrawAt M' a := by
  obtain ⟨o, rfl, h2⟩ := h
  exact ⟨o, updM_same, h2⟩
theorem DrawAt.upd {a p : Addr} {M : Mp} {o : MO} (h : DrawAt M a) (hp : M p = none) : DrawAt (updM M p o) a := by
  obtain ⟨o', h1, h2⟩ := h
  exact ⟨o', by rw [updM_ne (neM h1 hp)]; exact h1, h2⟩
theorem DrawAt.upd' {a p : Addr} {M : Mp} {o : MO} (h : DrawAt M a) (hp : a ≠ p) : DrawAt (updM M p o) a := by
  obtain ⟨o', h1, h2⟩ := h
  exact ⟨o', by rw [updM_ne hp]; exact h1, h2⟩
theorem DrawAt.ne {a p : Addr} {M : Mp} (h : DrawAt M a) (hp : M p = none) : a ≠ p := by
  obtain ⟨o', h1, h2⟩ := h
  exact neM h1 hp
/-- the same draws with a further object -/
theorem DrN.upd {a p : Addr} {M M' : Mp} {o : MO} (h : DrN a M M') (hp : a ≠ p) : DrN a (updM M p o) (updM M' p o) := by
  obtain ⟨o', rfl, h2⟩ := h
  exact ⟨o', updM_comm hp, h2⟩
theorem DrN.none {a p : Addr} {M M' : Mp} (h : DrN a M M') (ha : DrawAt M a) (hp : M p = none) : M' p = none := by
  obtain ⟨o', rfl, h2⟩ := h
  rw [updM_ne (ha.ne hp).symm]; exact hp
theorem DrN.keep {a p : Addr} {M M' : Mp} {mo : MO} (h : DrN a M M') (ha : a ≠ p) (hp : M p = some mo) : M' p = some mo := by
  obtain ⟨o', rfl, h2⟩ := h
  rw [updM_ne ha.symm]; exact hp
/-- draws with a further object on the way: the result said of the map without it -/
theorem DrN.off {a p : Addr} {M M' : Mp} {o : MO} (h : DrN a (updM M p o) M') (ha : a ≠ p) : ∃ M2, M' = updM M2 p o ∧ DrN a M M2 := by
  obtain ⟨o', rfl, h2⟩ := h
  exact ⟨updM M a (.lst o'), (updM_comm ha).symm, o', rfl, h2⟩

/-! ### names -/
def WORDS : List Str := ["kind", "var", "make", "act", "if", "then", "else", "do", "answer", "and", "or", "not"]
def smallC (c : Nat) : Bool := 97 ≤ c && c ≤ 122
def greatC (c : Nat) : Bool := 65 ≤ c && c ≤ 90
def rowC (c : Nat) : Bool := smallC c || greatC c || (48 ≤ c && c ≤ 57) || c == 95
/-- a name (great: a Name): its first sign, its signs, at most 12 -/
structure NameOk (great : Bool) (s : Str) : Prop where
  hd : ∃ c r, s.cps.toList = c :: r ∧ (if great then greatC c else smallC c) = true
  all : ∀ c ∈ s.cps.toList, rowC c = true
  len : s.length ≤ 12
  nw : s ∉ WORDS

/-! ### programs -/
inductive Atom where
  | nm (s : Str) | vl (s : Str)
inductive Tst where
  | same (a b : Atom) | neg (t : Tst) | con (l r : Tst) | dis (l r : Tst)
inductive Val where
  | at (a : Atom) | ite (t : Tst) (x y : Val)
inductive Deed where
  | set (n : Str) (v : Val) | doo (n f : Str) (vs : List Val) | ite (t : Tst) (xs ys : List Deed)
abbrev Vr := Str × Str × Val
abbrev Giv := Str × Str
inductive Part where
  | make (n : Str) (gs : List Giv) (vs : List Vr) (ps : List Part) | act (n : Str) (gs : List Giv) (k : Str) (ds : List Deed) (v : Val)
structure Prg where
  kinds : List (Str × List Str)
  vars : List Vr
  parts : List Part
def Atom.s : Atom → Str
  | .nm s => s
  | .vl s => s
def Atom.d : Atom → D
  | .nm s => .tup [.str "name", .str s]
  | .vl s => .tup [.str "value", .str s]
def Tst.d : Tst → D
  | .same a b => .tup [.str "same", a.d, b.d]
  | .neg t => .tup [.str "not", t.d]
  | .con l r => .tup [.str "and", l.d, r.d]
  | .dis l r => .tup [.str "or", l.d, r.d]
def Val.d : Val → D
  | .at a => a.d
  | .ite t x y => .tup [.str "if", t.d, x.d, y.d]
mutual
def Deed.d : Deed → D
  | .set n v => .tup [.str "set", .str n, v.d]
  | .doo n f vs => .tup [.str "do", .str n, .str f, .tup (vs.map Val.d)]
  | .ite t xs ys => .tup [.str "if", t.d, .tup (deedsD xs), .tup (deedsD ys)]
def deedsD : List Deed → List D
  | [] => []
  | x :: xs => x.d :: deedsD xs
end
theorem deedsD_map : ∀ xs : List Deed, deedsD xs = xs.map Deed.d
  | [] => by unfold deedsD; rfl
  | x :: xs => by unfold deedsD; rw [deedsD_map xs]; rfl
def givD (g : Giv) : D := .tup [.str g.1, .str g.2]
def vrD (v : Vr) : D := .tup [.str v.1, .str v.2.1, v.2.2.d]
mutual
def Part.d : Part → D
  | .make n gs vs ps => .tup [.str "make", .str n, .tup (gs.map givD), .tup (vs.map vrD), .tup (partsD ps)]
  | .act n gs k ds v => .tup [.str "act", .str n, .tup (gs.map givD), .str k, .tup (deedsD ds), v.d]
def partsD : List Part → List D
  | [] => []
  | x :: xs => x.d :: partsD xs
end
theorem partsD_map : ∀ xs : List Part, partsD xs = xs.map Part.d
  | [] => by unfold partsD; rfl
  | x :: xs => by unfold partsD; rw [partsD_map xs]; rfl
def kindD (k : Str × List Str) : D := .tup [.str k.1, .tup (k.2.map D.str)]
def Prg.d (p : Prg) : D := .tup [.str "program", .tup (p.kinds.map kindD), .tup (p.vars.map vrD), .tup (partsD p.parts)]
/-! ### what is drawn -/
def Atom.ok : Atom → Prop
  | .nm s => NameOk false s
  | .vl s => NameOk true s
def Tst.ok : Nat → Tst → Prop
  | _, .same a b => a.ok ∧ b.ok
  | d + 1, .neg t => Tst.ok d t
  | d + 1, .con l r => Tst.ok d l ∧ Tst.ok d r
  | d + 1, .dis l r => Tst.ok d l ∧ Tst.ok d r
  | 0, _ => False
def Val.ok : Nat → Val → Prop
  | _, .at a => a.ok
  | d + 1, .ite t x y => t.ok (d + 1) ∧ Val.ok d x ∧ Val.ok d y
  | 0, _ => False
def Deed.ok : Nat → Deed → Prop
  | _, .set n v => NameOk false n ∧ v.ok 2
  | _, .doo n f vs => NameOk false n ∧ NameOk false f ∧ vs.length ≤ 3 ∧ ∀ v ∈ vs, Val.ok 1 v
  | d + 1, .ite t xs ys => t.ok 2 ∧ xs.length ≤ 2 ∧ (∀ x ∈ xs, Deed.ok d x) ∧ ys.length ≤ 1 ∧ ∀ y ∈ ys, Deed.ok d y
  | 0, _ => False
def GivOk (gs : List Giv) : Prop := gs.length ≤ 3 ∧ ∀ g ∈ gs, NameOk false g.1 ∧ NameOk true g.2
def VrOk (v : Vr) : Prop := NameOk false v.1 ∧ NameOk true v.2.1 ∧ v.2.2.ok 2
def Part.ok : Nat → Part → Prop
  | _, .act n gs k ds v => NameOk false n ∧ GivOk gs ∧ NameOk true k ∧ ds.length ≤ 3 ∧ (∀ x ∈ ds, Deed.ok 2 x) ∧ v.ok 2
  | d + 1, .make n gs vs ps => NameOk true n ∧ GivOk gs ∧ vs.length ≤ 2 ∧ (∀ v ∈ vs, VrOk v) ∧ ps.length ≤ 2 ∧ ∀ p ∈ ps, Part.ok d p
  | 0, _ => False
structure Prg.ok (p : Prg) : Prop where
  kn : p.kinds.length ≤ 3
  ks : ∀ k ∈ p.kinds, NameOk true k.1 ∧ 1 ≤ k.2.length ∧ k.2.length ≤ 5 ∧ ∀ x ∈ k.2, NameOk true x
  vn : p.vars.length ≤ 3
  vs : ∀ v ∈ p.vars, VrOk v
  pn : p.parts.length ≤ 3
  ps : ∀ q ∈ p.parts, Part.ok 3 q
end Syn
namespace Syn
open PySem L2 DL
def LOW : Str := "abcdefghijklmnopqrstuvwxyz"
def UP : Str := "ABCDEFGHIJKLMNOPQRSTUVWXYZ"
def SIG : Str := LOW ++ UP ++ "_0123456789"
theorem up_low : Txt.upper LOW = UP := by decide +kernel
theorem low_small : ∀ c ∈ LOW.cps.toList, smallC c = true := by decide +kernel
theorem up_great : ∀ c ∈ UP.cps.toList, greatC c = true := by decide +kernel
theorem sig_row : ∀ c ∈ SIG.cps.toList, rowC c = true := by decide +kernel
theorem words_row : ∀ x ∈ WORDS, ∃ c r, x.cps.toList = c :: r ∧ smallC c = true ∧ (∀ c ∈ x.cps.toList, rowC c = true) ∧ x.length ≤ 6 := by
  have h : ∀ x ∈ WORDS, (match x.cps.toList with | c :: r => smallC c && ((c :: r).all rowC && decide (x.length ≤ 6)) | [] => false) = true := by decide +kernel
  intro x hx
  have q := h x hx
  cases e : x.cps.toList with
  | nil => rw [e] at q; cases q
  | cons c r =>
    rw [e] at q
    simp only [Bool.and_eq_true, decide_eq_true_eq] at q
    exact ⟨c, r, rfl, q.1, List.all_eq_true.mp q.2.1, q.2.2⟩
theorem words_no95 : ∀ x ∈ WORDS, 95 ∉ x.cps.toList := by decide +kernel
theorem tl_app (a b : Str) : (a ++ b).cps.toList = a.cps.toList ++ b.cps.toList := TL.tl_append a b
theorem len_app (a b : Str) : (a ++ b).length = a.length + b.length := by
  rw [TL.len_tl, TL.len_tl, TL.len_tl, TL.tl_append, List.length_append]
theorem len_one (c : Nat) : (⟨#[c]⟩ : Str).length = 1 := rfl
/-- a name on the way -/
structure Txt0 (g : Bool) (n : Nat) (s : Str) : Prop where
  hd : ∃ c r, s.cps.toList = c :: r ∧ (if g then greatC c else smallC c) = true
  all : ∀ c ∈ s.cps.toList, rowC c = true
  len : s.length ≤ n
theorem small_row {c : Nat} (h : smallC c = true) : rowC c = true := by unfold rowC; rw [h]; rfl
theorem great_row {c : Nat} (h : greatC c = true) : rowC c = true := by unfold rowC; rw [h, Bool.or_true]; rfl
theorem Txt0.one {g : Bool} {c : Nat} (h : (if g then greatC c else smallC c) = true) : Txt0 g 1 ⟨#[c]⟩ := by
  refine ⟨⟨c, [], rfl, h⟩, fun d hd => ?_, Nat.le_refl _⟩
  have e : d = c := by simpa using hd
  subst e
  cases g with
  | true => exact great_row h
  | false => exact small_row h
theorem Txt0.mono {g : Bool} {n m : Nat} {s : Str} (h : Txt0 g n s) (hn : n ≤ m) : Txt0 g m s := ⟨h.hd, h.all, Nat.le_trans h.len hn⟩
theorem Txt0.app {g : Bool} {n : Nat} {s : Str} {c : Nat} (h : Txt0 g n s) (hc : rowC c = true) : Txt0 g (n + 1) (s ++ ⟨#[c]⟩) := by
  obtain ⟨d, r, e, hd⟩ := h.hd
  refine ⟨⟨d, r ++ [c], by rw [tl_app, e]; rfl, hd⟩, fun x hx => ?_, by rw [len_app, len_one]; exact Nat.add_le_add_right h.len 1⟩
  rw [tl_app] at hx
  rcases List.mem_append.mp hx with hx | hx
  · exact h.all x hx
  · have e : x = c := by simpa using hx
    subst e; exact hc
theorem Txt0.word {x : Str} (h : x ∈ WORDS) : Txt0 false 6 x := by
  obtain ⟨c, r, h1, h2, h3, h4⟩ := words_row x h
  exact ⟨⟨c, r, h1, h2⟩, h3, h4⟩
theorem Txt0.name {g : Bool} {s : Str} (h : Txt0 g 12 s) (hn : s ∉ WORDS) : NameOk g s := ⟨h.hd, h.all, h.len, hn⟩
theorem Txt0.name_ {g : Bool} {s : Str} (h : Txt0 g 11 s) : NameOk g (s ++ "_") := by
  have e : ("_" : Str) = ⟨#[95]⟩ := by decide +kernel
  rw [e]
  refine (h.app (c := 95) (by decide)).name fun hw => words_no95 _ hw ?_
  rw [tl_app]
  exact List.mem_append_right _ (by simp)
end Syn
/-! Rows that are drawn. -/
namespace Syn
open PySem L2 DL
section
variable {σ : DS} {M : Mp} {a p : Addr} {own : Bool} {Q : DK} {E : DEnds}
theorem lc_draw {k : Nat} {wi : DTI} {te : DTE} (N : Nat → Prop) (P : D → Prop) (hN : ∀ m, N m → m ≤ sizeLine)
    (hwi : ∀ Kd : List D → (Mp → Prop) → Mp → Prop, (∀ m M1, N m → DrN a M M1 → Kd (upto 0 m) (fun _ => True) M1) → wi σ M Kd)
    (h : ∀ d M1 (Q : DK), DrawAt M1 a → (∀ y M2, P y → DrN a M1 M2 → Q y M2) → te (σ.set k (some d)) M1 Q)
    (q : ∀ acc M2, (∀ y ∈ acc, P y) → N acc.length → DrN a M M2 → dNew own acc M2 Q) : dLc own k wi te σ M Q := by
  refine lc_gen (fun ds M1 => ∃ m, N m ∧ ds = upto 0 m ∧ DrN a M M1) (fun Kd hk => hwi Kd fun m M1 hm hn => hk _ _ ⟨m, hm, rfl, hn⟩) (fun ds i acc M1 => N ds.length ∧ (∀ y ∈ acc, P y) ∧ DrN a M M1) ?_ ?_ ?_ ?_
  · rintro ds M1 ⟨m, hm, rfl, hn⟩
    rw [upto_len]; exact hN m hm
  · rintro ds M1 ⟨m, hm, rfl, hn⟩
    exact ⟨by rw [upto_len]; exact hm, fun y hy => (List.not_mem_nil hy).elim, hn⟩
  · rintro ds i d acc M1 p Q' hd ⟨hm, ha, hn⟩ hp hl hq
    refine h d _ Q' (hn.at.upd hp) fun y M2 hy hn2 => ?_
    obtain ⟨M3, rfl, hn3⟩ := hn2.off (hn.at.ne hp)
    refine hq y M3 (hn3.none hn.at hp) ⟨hm, fun z hz => ?_, hn.trans hn3⟩
    rcases List.mem_append.mp hz with hz | hz
    · exact ha z hz
    · rw [List.mem_singleton.mp hz]; exact hy
  · rintro ds acc M' hl ⟨hm, ha, hn⟩
    exact q acc M' ha (by rw [hl]; exact hm) hn
theorem for_draw {wi : DTI} {g : DTG} {tb : DTS} (N : Nat → Prop) (P : D → Prop) (S : DS → Prop) (hN : ∀ m, N m → m ≤ sizeLine) (hD : DrawAt M a) (hp : M p = none) (hσ : S σ)
    (hwi : ∀ Kd : List D → (Mp → Prop) → Mp → Prop, (∀ m M1, N m → DrN a M M1 → Kd (upto 0 m) (fun _ => True) (updM M1 p (.lst []))) → wi σ (updM M p (.lst [])) Kd)
    (h : ∀ d σ M1 acc (N' : DS → Mp → Prop), S σ → M1 p = some (.lst acc) → DrawAt M1 a → acc.length < sizeLine → (∀ σ' y M2, S σ' → P y → DrN a M1 M2 → N' σ' (updM M2 p (.lst (acc ++ [y])))) → g d σ M1 fun σ2 M2 => tb { E with nx := N', ct := N', bk := E.nx } σ2 M2)
    (q : ∀ σ acc M2, S σ → (∀ y ∈ acc, P y) → N acc.length → DrN a M M2 → M2 p = none → E.nx σ (updM M2 p (.lst acc))) : dFor wi g tb E σ (updM M p (.lst [])) := by
  have ne := hD.ne hp
  refine for_gen (fun ds M' => ∃ m M1, N m ∧ ds = upto 0 m ∧ DrN a M M1 ∧ M' = updM M1 p (.lst [])) (fun Kd hk => hwi Kd fun m M1 hm hn => hk _ _ ⟨m, M1, hm, rfl, hn, rfl⟩) (fun ds i σ M' => ∃ acc M1, N ds.length ∧ S σ ∧ acc.length = i ∧ (∀ y ∈ acc, P y) ∧ DrN a M M1 ∧ M' = updM M1 p (.lst acc)) ?_ ?_ ?_
  · rintro ds M' ⟨m, M1, hm, rfl, hn, rfl⟩
    exact ⟨[], M1, by rw [upto_len]; exact hm, hσ, rfl, fun y hy => (List.not_mem_nil hy).elim, hn, rfl⟩
  · rintro ds i d σ M' N' hd ⟨acc, M1, hm, hS, hl, ha, hn, rfl⟩ hN'
    have h1 := hn.none hD hp
    have hi : i < ds.length := (List.getElem?_eq_some_iff.mp hd).1
    have h2 := hN _ hm
    refine h d σ _ acc N' hS updM_same (hn.at.upd h1) (by omega) fun σ' y M2 hS' hy hn2 => ?_
    obtain ⟨M3, rfl, hn3⟩ := hn2.off ne
    rw [updM_updM]
    refine hN' _ _ ⟨acc ++ [y], M3, hm, hS', by rw [List.length_append, hl]; rfl, fun z hz => ?_, hn.trans hn3, rfl⟩
    rcases List.mem_append.mp hz with hz | hz
    · exact ha z hz
    · rw [List.mem_singleton.mp hz]; exact hy
  · rintro ds σ M' ⟨acc, M1, hm, hS, hl, ha, hn, rfl⟩
    exact q σ acc M1 hS ha (by rw [hl]; exact hm) hn (hn.none hD hp)
end
/-- rows of data that stand for rows of things -/
theorem row_of {α : Type} {f : α → D} {P : α → Prop} : ∀ {acc : List D}, (∀ y ∈ acc, ∃ x, y = f x ∧ P x) → ∃ xs : List α, acc = xs.map f ∧ ∀ x ∈ xs, P x
  | [], _ => ⟨[], rfl, fun x hx => (List.not_mem_nil hx).elim⟩
  | y :: acc, h => by
    obtain ⟨x, rfl, hx⟩ := h y (List.mem_cons_self ..)
    obtain ⟨xs, rfl, hs⟩ := row_of fun z hz => h z (List.mem_cons_of_mem _ hz)
    refine ⟨x :: xs, rfl, fun z hz => ?_⟩
    rcases List.mem_cons.mp hz with rfl | hz
    · exact hx
    · exact hs z hz
end Syn
/-! What a text is: rows of words, lines. -/
namespace Wr
open PySem L2 DL Syn
abbrev dStrs (ws : List Str) : List D := ws.map D.str
abbrev tLp : Str := "("
abbrev tRp : Str := ")"
abbrev tNot : Str := "not"
abbrev tAnd : Str := "and"
abbrev tOr : Str := "or"
abbrev tIf : Str := "if"
abbrev tThen : Str := "then"
abbrev tElse : Str := "else"
abbrev tEq : Str := "=="
def rank : Tst → Nat
  | .dis _ _ => 1
  | .con _ _ => 2
  | _ => 3
def hd : Tst → Str
  | .same _ _ => "same"
  | .neg _ => "not"
  | .con _ _ => "and"
  | .dis _ _ => "or"
def body : Tst → List Str
  | .same a b => [a.s, tEq, b.s]
  | .neg t => tNot :: (if rank t < 3 then tLp :: (body t ++ [tRp]) else body t)
  | .con l r => (if rank l < 2 then tLp :: (body l ++ [tRp]) else body l) ++ tAnd :: (if rank r < 3 then tLp :: (body r ++ [tRp]) else body r)
  | .dis l r => (if rank l < 1 then tLp :: (body l ++ [tRp]) else body l) ++ tOr :: (if rank r < 2 then tLp :: (body r ++ [tRp]) else body r)
def rowT (t : Tst) (n : Nat) : List Str := if rank t < n then tLp :: (body t ++ [tRp]) else body t
theorem body_neg {t : Tst} : body (.neg t) = tNot :: rowT t 3 := rfl
theorem body_con {l r : Tst} : body (.con l r) = rowT l 2 ++ tAnd :: rowT r 3 := rfl
theorem body_dis {l r : Tst} : body (.dis l r) = rowT l 1 ++ tOr :: rowT r 2 := rfl
def valW : Val → List Str
  | .at a => [a.s]
  | .ite t x y => tIf :: (body t ++ tThen :: (valW x ++ tElse :: valW y))
theorem e_hd {t : Tst} {M : Mp} {Q : DK} : dIx t.d (.int 0) M Q = Q (.str (hd t)) M := by cases t <;> exact e_t0
/-! ### chains -/
def chC : Tst → List Tst
  | .con l r => chC l ++ [r]
  | t => [t]
def chD : Tst → List Tst
  | .dis l r => chD l ++ [r]
  | t => [t]
theorem chC_other {t : Tst} (h : hd t ≠ "and") : chC t = [t] := by cases t <;> first | rfl | exact absurd rfl h
theorem chD_other {t : Tst} (h : hd t ≠ "or") : chD t = [t] := by cases t <;> first | rfl | exact absurd rfl h
theorem of_and {t : Tst} (h : hd t = "and") : ∃ l r, t = .con l r := by
  cases t with
  | con l r => exact ⟨l, r, rfl⟩
  | same a b => exact absurd h (show ¬ (("same" : Str) = "and") by decide +kernel)
  | neg a => exact absurd h (show ¬ (("not" : Str) = "and") by decide +kernel)
  | dis a b => exact absurd h (show ¬ (("or" : Str) = "and") by decide +kernel)
theorem of_or {t : Tst} (h : hd t = "or") : ∃ l r, t = .dis l r := by
  cases t with
  | dis l r => exact ⟨l, r, rfl⟩
  | same a b => exact absurd h (show ¬ (("same" : Str) = "or") by decide +kernel)
  | neg a => exact absurd h (show ¬ (("not" : Str) = "or") by decide +kernel)
  | con a b => exact absurd h (show ¬ (("and" : Str) = "or") by decide +kernel)
theorem row_chC : ∀ t : Tst, ∃ b rs, chC t = b :: rs ∧ rowT t 2 = rowT b 2 ++ rs.flatMap fun r => tAnd :: rowT r 3
  | .con l r => by
    obtain ⟨b, rs, h1, h2⟩ := row_chC l
    refine ⟨b, rs ++ [r], by unfold chC; rw [h1]; rfl, ?_⟩
    rw [show rowT (.con l r) 2 = rowT l 2 ++ tAnd :: rowT r 3 from rfl, h2]
    simp
  | .same a b => ⟨_, [], rfl, by simp⟩
  | .neg t => ⟨_, [], rfl, by simp⟩
  | .dis l r => ⟨_, [], rfl, by simp⟩
theorem row_chD : ∀ t : Tst, ∃ b rs, chD t = b :: rs ∧ rowT t 1 = rowT b 1 ++ rs.flatMap fun r => tOr :: rowT r 2
  | .dis l r => by
    obtain ⟨b, rs, h1, h2⟩ := row_chD l
    refine ⟨b, rs ++ [r], by unfold chD; rw [h1]; rfl, ?_⟩
    rw [show rowT (.dis l r) 1 = rowT l 1 ++ tOr :: rowT r 2 from rfl, h2]
    simp
  | .same a b => ⟨_, [], rfl, by simp⟩
  | .neg t => ⟨_, [], rfl, by simp⟩
  | .con l r => ⟨_, [], rfl, by simp⟩
def nodes : Tst → Nat
  | .same _ _ => 1
  | .neg t => nodes t + 1
  | .con l r => nodes l + nodes r + 1
  | .dis l r => nodes l + nodes r + 1
theorem chC_len : ∀ t, (chC t).length ≤ nodes t
  | .con l r => by unfold chC nodes; have := chC_len l; simp; omega
  | .same a b => by simp [chC, nodes]
  | .neg t => by simp [chC, nodes]
  | .dis l r => by simp [chC, nodes]
theorem chD_len : ∀ t, (chD t).length ≤ nodes t
  | .dis l r => by unfold chD nodes; have := chD_len l; simp; omega
  | .same a b => by simp [chD, nodes]
  | .neg t => by simp [chD, nodes]
  | .con l r => by simp [chD, nodes]
theorem body_row (t : Tst) (n : Nat) : (body t).length ≤ (rowT t n).length := by
  unfold rowT; split <;> simp; omega
theorem nodes_body : ∀ t, nodes t ≤ (body t).length
  | .same a b => by simp [nodes, body]
  | .neg t => by
    rw [body_neg]; unfold nodes
    have h1 := nodes_body t; have h2 := body_row t 3
    simp; omega
  | .con l r => by
    rw [body_con]; unfold nodes
    have h1 := nodes_body l; have h2 := body_row l 2
    have h3 := nodes_body r; have h4 := body_row r 3
    simp; omega
  | .dis l r => by
    rw [body_dis]; unfold nodes
    have h1 := nodes_body l; have h2 := body_row l 1
    have h3 := nodes_body r; have h4 := body_row r 2
    simp; omega
theorem body_pos (t : Tst) : 1 ≤ (body t).length := by
  have h := nodes_body t
  have : 1 ≤ nodes t := by cases t <;> (unfold nodes; omega)
  omega
theorem valW_pos (v : Val) : 1 ≤ (valW v).length := by cases v <;> simp [valW]
/-! ### what the writer's rows hold -/
inductive Itm where
  | tok (s : Str) | tst (t : Tst) | val (v : Val)
def Itm.d : Itm → D
  | .tok s => .str s
  | .tst t => t.d
  | .val v => v.d
def den : Itm → List Str
  | .tok s => [s]
  | .tst t => body t
  | .val v => valW v
theorem den_pos (x : Itm) : 1 ≤ (den x).length := by
  cases x with
  | tok s => exact Nat.le_refl _
  | tst t => exact body_pos t
  | val v => exact valW_pos v
abbrev dens (xs : List Itm) : List Str := xs.flatMap den
theorem dens_len : ∀ xs : List Itm, xs.length ≤ (dens xs).length
  | [] => Nat.le_refl _
  | x :: xs => by
    have h1 := dens_len xs; have h2 := den_pos x
    simp [dens] at h1 ⊢; omega
/-- what can be opened -/
def Opn : Itm → Prop
  | .tst _ => True
  | .val (.ite _ _ _) => True
  | _ => False
def brI (b : Bool) (t : Tst) : List Itm := if b then [.tok tLp, .tst t, .tok tRp] else [.tst t]
theorem dens_brI {b : Bool} {t : Tst} {n : Nat} (h : b = decide (rank t < n)) : dens (brI b t) = rowT t n := by
  subst h
  unfold brI rowT
  by_cases h : rank t < n
  · simp [h, dens, den]
  · simp [h, dens, den]
theorem rank3 (t : Tst) : decide (hd t ∈ (["and", "or"] : List Str)) = decide (rank t < 3) := by
  cases t with
  | same a b => (have f : decide (("same" : Str) ∈ (["and", "or"] : List Str)) = decide (3 < 3) := by decide +kernel); exact f
  | neg a => (have f : decide (("not" : Str) ∈ (["and", "or"] : List Str)) = decide (3 < 3) := by decide +kernel); exact f
  | con a b => (have f : decide (("and" : Str) ∈ (["and", "or"] : List Str)) = decide (2 < 3) := by decide +kernel); exact f
  | dis a b => (have f : decide (("or" : Str) ∈ (["and", "or"] : List Str)) = decide (1 < 3) := by decide +kernel); exact f
theorem rank2 (t : Tst) : decide (hd t ∈ (["or"] : List Str)) = decide (rank t < 2) := by
  cases t with
  | same a b => (have f : decide (("same" : Str) ∈ (["or"] : List Str)) = decide (3 < 2) := by decide +kernel); exact f
  | neg a => (have f : decide (("not" : Str) ∈ (["or"] : List Str)) = decide (3 < 2) := by decide +kernel); exact f
  | con a b => (have f : decide (("and" : Str) ∈ (["or"] : List Str)) = decide (2 < 2) := by decide +kernel); exact f
  | dis a b => (have f : decide (("or" : Str) ∈ (["or"] : List Str)) = decide (1 < 2) := by decide +kernel); exact f
theorem rank1 (t : Tst) : decide (hd t ∈ ([] : List Str)) = decide (rank t < 1) := by
  cases t with
  | same a b => (have f : decide (("same" : Str) ∈ ([] : List Str)) = decide (3 < 1) := by decide +kernel); exact f
  | neg a => (have f : decide (("not" : Str) ∈ ([] : List Str)) = decide (3 < 1) := by decide +kernel); exact f
  | con a b => (have f : decide (("and" : Str) ∈ ([] : List Str)) = decide (2 < 1) := by decide +kernel); exact f
  | dis a b => (have f : decide (("or" : Str) ∈ ([] : List Str)) = decide (1 < 1) := by decide +kernel); exact f
/-! ### lines -/
def isNm (w : Str) : Bool := match w.cps.toList with
  | c :: _ => (smallC c || greatC c) && !decide (w ∈ WORDS)
  | [] => false
def near (last w : Str) : Bool := decide (last ∈ (["", "("] : List Str)) || (decide (w ∈ ([";", ",", ")", ":"] : List Str)) || (decide (w = "(") && isNm last))
def stepL (p : Str × Str) (w : Str) : Str × Str := (if near p.2 w then p.1 ++ w else p.1 ++ (" " ++ w), w)
def lineT (ws : List Str) : Str := (ws.foldl stepL ("", "")).1
def lineS (deep : Nat) (ws : List Str) : Str := Txt.mul "  " (deep : Int) ++ lineT ws ++ "\n"
/-- words that a line may hold -/
def Wd (w : Str) : Prop := 1 ≤ w.length ∧ w.length ≤ 12
theorem take_at {α : Type} {l : List α} {i : Nat} {x : α} (h : l[i]? = some x) : l.take (i + 1) = l.take i ++ [x] := by
  rw [List.take_succ, h] <;> rfl
theorem fold_at {l : List Str} {i : Nat} {x : Str} {a : Str × Str} (h : l[i]? = some x) : (l.take (i + 1)).foldl stepL a = stepL ((l.take i).foldl stepL a) x := by
  rw [take_at h, List.foldl_append] <;> rfl
theorem stepL_len {p : Str × Str} {w : Str} : (stepL p w).1.length ≤ p.1.length + w.length + 1 := by
  unfold stepL
  split
  · rw [len_app]; omega
  · rw [len_app, len_app]
    have : (" " : Str).length = 1 := by decide +kernel
    omega
theorem fold_len : ∀ (l : List Str) (p : Str × Str), (∀ w ∈ l, Wd w) → (l.foldl stepL p).1.length ≤ p.1.length + 13 * l.length
  | [], p, _ => Nat.le_refl _
  | w :: l, p, h => by
    have h1 := fold_len l (stepL p w) fun x hx => h x (List.mem_cons_of_mem _ hx)
    have h2 := @stepL_len p w
    have h3 := (h w (List.mem_cons_self ..)).2
    rw [List.foldl_cons, List.length_cons]
    omega
theorem lineT_len {l : List Str} (h : ∀ w ∈ l, Wd w) : (lineT l).length ≤ 13 * l.length := by
  have := fold_len l ("", "") h
  have e : (("" : Str), ("" : Str)).1.length = 0 := by decide +kernel
  unfold lineT; omega
theorem blanks : ∀ d : Nat, d < 13 → Txt.mul "  " (d : Int) = Txt.mul " " ((2 * d : Nat) : Int) ∧ (Txt.mul "  " (d : Int)).length = 2 * d ∧ Txt.mul " " ((2 * d : Nat) : Int) ++ "  " = Txt.mul "  " ((d + 1 : Nat) : Int) := by decide +kernel
theorem mulok2 {d : Nat} (h : d < 13) : MulOk "  " (d : Int) := by
  revert d
  unfold MulOk
  decide +kernel
theorem mulok1 {d : Nat} (h : d < 30) : MulOk " " (d : Int) := by
  revert d
  unfold MulOk
  decide +kernel
theorem lineS_len {d : Nat} {ws : List Str} (hd : d < 13) (h : ∀ w ∈ ws, Wd w) : (lineS d ws).length ≤ 13 * ws.length + 25 := by
  unfold lineS
  rw [len_app, len_app, (blanks d hd).2.1]
  have h1 := lineT_len h
  have h2 : ("\n" : Str).length = 1 := by decide +kernel
  omega
/-- how rows of one word are taken apart -/
structure Chn (w : Str) (ch : Tst → List Tst) : Prop where
  stop : ∀ u, hd u ≠ w → ch u = [u]
  step : ∀ u, hd u = w → ∃ c l r, u.d = .tup [c, l.d, r.d] ∧ ch u = ch l ++ [r] ∧ nodes l < nodes u
theorem chnC : Chn "and" chC := ⟨fun u h => chC_other h, fun u h => by
  obtain ⟨l, r, rfl⟩ := of_and h
  exact ⟨_, l, r, rfl, rfl, show nodes l < nodes l + nodes r + 1 by omega⟩⟩
theorem chnD : Chn "or" chD := ⟨fun u h => chD_other h, fun u h => by
  obtain ⟨l, r, rfl⟩ := of_or h
  exact ⟨_, l, r, rfl, rfl, show nodes l < nodes l + nodes r + 1 by omega⟩⟩
theorem cps_lt {a b : Nat} : decide (([a] : List Nat) < [b]) = decide (a < b) := by
  apply decide_eq_decide.mpr
  rw [List.cons_lt_cons_iff]
  simp
theorem small_eq (c : Nat) : smallC c = (!decide (c < 97) && !decide (122 < c)) := by
  unfold smallC
  rw [Bool.eq_iff_iff]
  simp
theorem great_eq (c : Nat) : greatC c = (!decide (c < 65) && !decide (90 < c)) := by
  unfold greatC
  rw [Bool.eq_iff_iff]
  simp
/-- two things may change, nothing else has -/
structure Two (M : Mp) (p1 p2 : Addr) (a b : List D) (M' : Mp) : Prop where
  one : M' p1 = some (.lst a)
  two : M' p2 = some (.lst b)
  rest : ∀ q, q ≠ p1 → q ≠ p2 → M' q = M q
theorem Two.set1 {M M' : Mp} {p1 p2 : Addr} {a b c : List D} (h : Two M p1 p2 a b M') (ne : p1 ≠ p2) : Two M p1 p2 c b (updM M' p1 (.lst c)) :=
  ⟨updM_same, by rw [updM_ne ne.symm]; exact h.two, fun q h1 h2 => by rw [updM_ne h1]; exact h.rest q h1 h2⟩
theorem Two.set2 {M M' : Mp} {p1 p2 : Addr} {a b c : List D} (h : Two M p1 p2 a b M') (ne : p1 ≠ p2) : Two M p1 p2 a c (updM M' p2 (.lst c)) :=
  ⟨by rw [updM_ne ne]; exact h.one, updM_same, fun q h1 h2 => by rw [updM_ne h2]; exact h.rest q h1 h2⟩
/-- the second is handed out, the first forgotten -/
theorem Two.out {M M' : Mp} {p1 p2 : Addr} {a b : List D} {Q : DK} (h : Two M p1 p2 a b M') (h1 : M p1 = none) (h2 : M p2 = none) (q : Q (.lst b) M) : frz (.obj p2) M' (Wk Q) :=
  e_frz_obj h.two ⟨M, fun x o hx => by
    have n2 : x ≠ p2 := neM hx h2
    unfold remM
    rw [if_neg n2, h.rest x (neM hx h1) n2]
    exact hx, q⟩
theorem Two.wk {M M' : Mp} {p1 p2 : Addr} {a b : List D} {Q : DK} {d : D} (h : Two M p1 p2 a b M') (h1 : M p1 = none) (h2 : M p2 = none) (q : Q d M) : Wk Q d M' :=
  ⟨M, fun x o hx => by rw [h.rest x (neM hx h1) (neM hx h2)]; exact hx, q⟩
theorem fold_snd : ∀ (l : List Str) (a : Str × Str), (l.foldl stepL a).2 = a.2 ∨ (l.foldl stepL a).2 ∈ l
  | [], a => .inl rfl
  | w :: l, a => by
    rcases fold_snd l (stepL a w) with h | h
    · exact .inr (by rw [List.foldl_cons, h]; exact List.mem_cons_self ..)
    · exact .inr (List.mem_cons_of_mem _ h)
theorem e_add_ro {own : Bool} {M : Mp} {p : Addr} {ds es : List D} {Q : DK} (hp : M p = some (.lst es)) : dAdd own (.lst ds) (.obj p) M Q = (ds.length + es.length ≤ sizeLine ∧ dNew own (ds ++ es) M Q) := by
  apply propext
  constructor
  · rintro ⟨ds', es', h1, h2, h3⟩
    cases h1
    rw [lsD_o hp] at h2; cases h2
    exact h3
  · exact fun q => ⟨ds, es, rfl, lsD_o hp, q⟩
theorem e_tokstr {s : Str} : (Itm.tok s).d = .str s := rfl
theorem nodes_chain {t : Tst} (h : (body t).length ≤ 1000) : (chC t).length ≤ 1000 ∧ (chD t).length ≤ 1000 := by
  have := nodes_body t; have := chC_len t; have := chD_len t; omega
theorem of_same {t : Tst} (h : hd t = "same") : ∃ a b, t = .same a b := by
  cases t with
  | same a b => exact ⟨a, b, rfl⟩
  | neg a => exact absurd h (show ¬ (("not" : Str) = "same") by decide +kernel)
  | con a b => exact absurd h (show ¬ (("and" : Str) = "same") by decide +kernel)
  | dis a b => exact absurd h (show ¬ (("or" : Str) = "same") by decide +kernel)
theorem of_not {t : Tst} (h : hd t = "not") : ∃ u, t = .neg u := by
  cases t with
  | same a b => exact absurd h (show ¬ (("same" : Str) = "not") by decide +kernel)
  | neg a => exact ⟨a, rfl⟩
  | con a b => exact absurd h (show ¬ (("and" : Str) = "not") by decide +kernel)
  | dis a b => exact absurd h (show ¬ (("or" : Str) = "not") by decide +kernel)
theorem brI_len {b : Bool} {t : Tst} : (brI b t).length ≤ 3 := by cases b <;> simp [brI]
theorem brI_pos {b : Bool} {t : Tst} : 1 ≤ (brI b t).length := by cases b <;> simp [brI]
/-- a row of one word -/
theorem way {t : Tst} (h2 : hd t ≠ "same") (h3 : hd t ≠ "not") (hl : (den (.tst t)).length ≤ 1000) :
    ∃ (ch : Tst → List Tst) (wd : Bool) (n0 n1 : Nat) (b : Tst) (rs : List Tst), ch t = b :: rs ∧ Chn (hd t) ch ∧ (ch t).length ≤ 1000 ∧ body t = rowT b n0 ++ rs.flatMap (fun r => hd t :: rowT r n1) ∧
      1 ≤ rs.length ∧ decide (hd t = "and") = wd ∧ ((wd = true ∧ n0 = 2 ∧ n1 = 3) ∨ (wd = false ∧ n0 = 1 ∧ n1 = 2)) := by
  have hn := nodes_chain hl
  cases t with
  | same a b => exact absurd rfl h2
  | neg a => exact absurd rfl h3
  | con l r =>
    obtain ⟨b, rs, e1, e2⟩ := row_chC (.con l r)
    have hp : 1 ≤ rs.length := by
      obtain ⟨b', rs', e3, _⟩ := row_chC l
      have e4 : chC (.con l r) = b' :: (rs' ++ [r]) := by unfold chC; rw [e3]; rfl
      rw [e1] at e4; cases e4; simp
    exact ⟨chC, true, 2, 3, b, rs, e1, chnC, hn.1, e2, hp, show decide (("and" : Str) = "and") = true by decide, .inl ⟨rfl, rfl, rfl⟩⟩
  | dis l r =>
    obtain ⟨b, rs, e1, e2⟩ := row_chD (.dis l r)
    have hp : 1 ≤ rs.length := by
      obtain ⟨b', rs', e3, _⟩ := row_chD l
      have e4 : chD (.dis l r) = b' :: (rs' ++ [r]) := by unfold chD; rw [e3]; rfl
      rw [e1] at e4; cases e4; simp
    exact ⟨chD, false, 1, 2, b, rs, e1, chnD, hn.2, e2, hp, show decide (("or" : Str) = "and") = false by decide +kernel, .inr ⟨rfl, rfl, rfl⟩⟩
/-- one thing of ours at p, and what was there -/
structure Ow (M : Mp) (p : Addr) (a : List D) (M' : Mp) : Prop where
  one : M' p = some (.lst a)
  rest : ∀ q o, M q = some o → M' q = some o
theorem Ow.start {M : Mp} {p : Addr} {a : List D} (h : M p = none) : Ow M p a (updM M p (.lst a)) := ⟨updM_same, fun q o hq => by rw [updM_ne (neM hq h)]; exact hq⟩
theorem Ow.set {M M' : Mp} {p : Addr} {a c : List D} (h : Ow M p a M') (hp : M p = none) : Ow M p c (updM M' p (.lst c)) := ⟨updM_same, fun q o hq => by rw [updM_ne (neM hq hp)]; exact h.rest q o hq⟩
theorem Ow.new {M M' : Mp} {p q : Addr} {a : List D} {o : MO} (h : Ow M p a M') (hq : M' q = none) : Ow M p a (updM M' q o) :=
  ⟨by rw [updM_ne (neM h.one hq)]; exact h.one, fun r o' hr => by rw [updM_ne (neM (h.rest r o' hr) hq)]; exact h.rest r o' hr⟩
theorem Ow.out {M M' : Mp} {p : Addr} {a : List D} {Q : DK} (h : Ow M p a M') (hp : M p = none) (q : Q (.lst a) M) : frz (.obj p) M' (Wk Q) :=
  e_frz_obj h.one ⟨M, fun x o hx => by
    unfold remM
    rw [if_neg (neM hx hp)]
    exact h.rest x o hx, q⟩
theorem Ow.wk {M M' : Mp} {p : Addr} {a : List D} {Q : DK} {d : D} (h : Ow M p a M') (q : Q d M) : Wk Q d M' := ⟨M, h.rest, q⟩
def chI (w : Str) (n : Nat) (rs : List Tst) : List Itm := rs.flatMap fun r => .tok w :: brI (decide (rank r < n)) r
theorem chI_len {w : Str} {n : Nat} : ∀ rs : List Tst, (chI w n rs).length ≤ 4 * rs.length
  | [] => Nat.le_refl _
  | r :: rs => by
    have h1 := @chI_len w n rs
    have h2 := @brI_len (decide (rank r < n)) r
    unfold chI at h1 ⊢
    simp only [List.flatMap_cons, List.length_append, List.length_cons]
    omega
theorem chI_at {w : Str} {n i : Nat} {rs : List Tst} {r : Tst} (h : rs[i]? = some r) : chI w n (rs.take (i + 1)) = chI w n (rs.take i) ++ (.tok w :: brI (decide (rank r < n)) r) := by
  unfold chI
  rw [take_at h, List.flatMap_append]
  simp
theorem dens_chI {w : Str} {n : Nat} : ∀ rs : List Tst, dens (chI w n rs) = rs.flatMap fun r => w :: rowT r n
  | [] => rfl
  | r :: rs => by
    have h1 := @dens_chI w n rs
    unfold chI dens at h1 ⊢
    rw [List.flatMap_cons, List.flatMap_append, h1, List.flatMap_cons, List.flatMap_cons]
    rw [show (brI (decide (rank r < n)) r).flatMap den = rowT r n from dens_brI rfl]
    rfl
end Wr
/-! Lines of a program. -/
namespace Wr
open PySem L2 DL Syn
/-- the law's own word for names -/
def nmL (w : Str) : Bool := match w.cps.toList.getLast? with
  | some c => (Txt.isalnum ⟨#[c]⟩ || c == 95) && !decide (w ∈ WORDS)
  | none => false
structure Tk (w : Str) : Prop where
  lo : 1 ≤ w.length
  hi : w.length ≤ 12
  nm : nmL w = isNm w
theorem Tk.wd {w : Str} (h : Tk w) : Wd w := ⟨h.lo, h.hi⟩
def FIX : List Str := ["kind", "var", "make", "act", "if", "then", "else", "do", "answer", "and", "or", "not", "(", ")", "{", "}", "=", ":=", "==", ":", ";", ",", "|"]
theorem fix_tk : ∀ w ∈ FIX, 1 ≤ w.length ∧ w.length ≤ 12 ∧ nmL w = isNm w := by decide +kernel
theorem tk_fix {w : Str} (h : w ∈ FIX) : Tk w := by
  obtain ⟨a, b, c⟩ := fix_tk w h
  exact ⟨a, b, c⟩
theorem row_alnum : ∀ c : Nat, c < 128 → rowC c = true → (Txt.isalnum ⟨#[c]⟩ || c == 95) = true := by decide +kernel
theorem row_lt {c : Nat} (h : rowC c = true) : c < 128 := by
  unfold rowC smallC greatC at h
  simp at h
  omega
theorem tk_name {g : Bool} {w : Str} (h : NameOk g w) : Tk w := by
  obtain ⟨c, r, e, hc⟩ := h.hd
  refine ⟨by rw [TL.len_tl]; show 1 ≤ w.cps.toList.length; rw [e]; simp, h.len, ?_⟩
  have hm : decide (w ∈ WORDS) = false := decide_eq_false h.nw
  have h1 : isNm w = true := by
    unfold isNm
    rw [e, hm]
    cases g with
    | true => simp at hc; simp [hc]
    | false => simp at hc; simp [hc]
  rw [h1]
  unfold nmL
  cases hl : w.cps.toList.getLast? with
  | none => rw [List.getLast?_eq_none_iff] at hl; rw [e] at hl; cases hl
  | some d =>
    have hd := h.all d (List.mem_of_getLast? hl)
    dsimp only
    rw [hm, row_alnum d (row_lt hd) hd]
    rfl
theorem tk_atom {a : Atom} (h : a.ok) : Tk a.s := by
  cases a with
  | nm s => exact tk_name h
  | vl s => exact tk_name h
/-- a row of tokens, not long -/
def Tks (n : Nat) (ws : List Str) : Prop := ws.length ≤ n ∧ ∀ w ∈ ws, Tk w
theorem Tks.nil : Tks 0 [] := ⟨Nat.le_refl _, fun _ h => (List.not_mem_nil h).elim⟩
theorem Tks.cons {n : Nat} {w : Str} {ws : List Str} (h : Tk w) (t : Tks n ws) : Tks (n + 1) (w :: ws) := ⟨Nat.succ_le_succ t.1, fun x hx => by
  rcases List.mem_cons.mp hx with rfl | hx
  · exact h
  · exact t.2 x hx⟩
theorem Tks.fix {n : Nat} {w : Str} {ws : List Str} (t : Tks n ws) (h : w ∈ FIX := by decide +kernel) : Tks (n + 1) (w :: ws) := .cons (tk_fix h) t
theorem Tks.app {n m : Nat} {ws vs : List Str} (a : Tks n ws) (b : Tks m vs) : Tks (n + m) (ws ++ vs) := ⟨by rw [List.length_append]; exact Nat.add_le_add a.1 b.1, fun x hx => by
  rcases List.mem_append.mp hx with hx | hx
  · exact a.2 x hx
  · exact b.2 x hx⟩
theorem Tks.mono {n m : Nat} {ws : List Str} (a : Tks n ws) (h : n ≤ m) : Tks m ws := ⟨Nat.le_trans a.1 h, a.2⟩
theorem Tks.row {n : Nat} {t : Tst} {k : Nat} (h : Tks n (body t)) : Tks (n + 2) (rowT t k) := by
  unfold rowT
  split
  · exact (Tks.fix (h.app (.fix .nil))).mono (by omega)
  · exact h.mono (by omega)
theorem tk_body : ∀ (d : Nat) (t : Tst), t.ok d → Tks (8 * 2 ^ d - 5) (body t)
  | d, .same a b, h => by
    have h' : a.ok ∧ b.ok := by cases d <;> exact h
    have := Nat.one_le_two_pow (n := d)
    exact (Tks.cons (tk_atom h'.1) (.fix (.cons (tk_atom h'.2) .nil))).mono (by omega)
  | 0, .neg t, h => h.elim
  | 0, .con l r, h => h.elim
  | 0, .dis l r, h => h.elim
  | d + 1, .neg t, h => by
    have h1 := tk_body d t h
    have := Nat.one_le_two_pow (n := d)
    rw [body_neg, Nat.pow_succ]
    exact (Tks.fix h1.row).mono (by omega)
  | d + 1, .con l r, h => by
    have h1 := tk_body d l h.1
    have h2 := tk_body d r h.2
    have := Nat.one_le_two_pow (n := d)
    rw [body_con, Nat.pow_succ]
    exact (h1.row.app (Tks.fix h2.row)).mono (by omega)
  | d + 1, .dis l r, h => by
    have h1 := tk_body d l h.1
    have h2 := tk_body d r h.2
    have := Nat.one_le_two_pow (n := d)
    rw [body_dis, Nat.pow_succ]
    exact (h1.row.app (Tks.fix h2.row)).mono (by omega)
def VL : Nat → Nat
  | 0 => 1
  | d + 1 => 8 * 2 ^ (d + 1) - 2 + 2 * VL d
theorem VL_pos (d : Nat) : 1 ≤ VL d := by
  cases d with
  | zero => exact Nat.le_refl _
  | succ d => unfold VL; have := Nat.one_le_two_pow (n := d + 1); omega
theorem tk_val : ∀ (d : Nat) (v : Val), v.ok d → Tks (VL d) (valW v)
  | d, .at a, h => by
    have h' : a.ok := by cases d <;> exact h
    exact (Tks.cons (tk_atom h') .nil).mono (VL_pos d)
  | 0, .ite t x y, h => h.elim
  | d + 1, .ite t x y, h => by
    have h0 := tk_body (d + 1) t h.1
    have h1 := tk_val d x h.2.1
    have h2 := tk_val d y h.2.2
    have := Nat.one_le_two_pow (n := d + 1)
    unfold VL
    exact (Tks.fix (h0.app (Tks.fix (h1.app (Tks.fix h2))))).mono (by omega)
/-- rows with commas between -/
def commas : List (List Str) → List Str
  | [] => []
  | x :: xs => x ++ xs.flatMap fun y => ("," : Str) :: y
theorem commas_snoc (xs : List (List Str)) (y : List Str) : commas (xs ++ [y]) = commas xs ++ (if xs.length = 0 then [] else [("," : Str)]) ++ y := by
  cases xs with
  | nil => simp [commas]
  | cons x xs => simp [commas]
theorem tk_commas {n : Nat} : ∀ (xs : List (List Str)), (∀ x ∈ xs, Tks n x) → Tks ((n + 1) * xs.length) (commas xs)
  | [], _ => .nil
  | x :: xs, h => by
    have h2 : Tks ((n + 1) * xs.length) (xs.flatMap fun y => ("," : Str) :: y) := by
      have h3 : ∀ y ∈ xs, Tks n y := fun y hy => h y (List.mem_cons_of_mem _ hy)
      clear h
      induction xs with
      | nil => exact .nil
      | cons y ys ih =>
        rw [List.flatMap_cons, List.length_cons, Nat.mul_succ]
        exact ((Tks.fix (h3 y (List.mem_cons_self ..))).app (ih fun z hz => h3 z (List.mem_cons_of_mem _ hz))).mono (by omega)
    rw [List.length_cons, Nat.mul_succ]
    exact ((h x (List.mem_cons_self ..)).app h2).mono (by omega)
def givW (gs : List Giv) : List Str := ("(" : Str) :: (commas (gs.map fun g => [g.1, (":" : Str), g.2]) ++ [(")" : Str)])
theorem tk_giv {gs : List Giv} (h : GivOk gs) : Tks 14 (givW gs) := by
  have h1 : Tks ((3 + 1) * (gs.map fun g => [g.1, (":" : Str), g.2]).length) (commas (gs.map fun g => [g.1, (":" : Str), g.2])) := tk_commas _ fun x hx => by
    obtain ⟨g, hg, rfl⟩ := List.mem_map.mp hx
    exact .cons (tk_name (h.2 g hg).1) (.fix (.cons (tk_name (h.2 g hg).2) .nil))
  rw [List.length_map] at h1
  have := h.1
  exact (Tks.fix (h1.app (.fix .nil))).mono (by omega)
def bars : List Str → List Str
  | [] => []
  | x :: xs => x :: xs.flatMap fun y => [("|" : Str), y]
theorem bars_snoc (xs : List Str) (y : Str) : bars (xs ++ [y]) = bars xs ++ (if xs.length = 0 then [] else [("|" : Str)]) ++ [y] := by
  cases xs with
  | nil => simp [bars]
  | cons x xs => simp [bars]
def kindW (k : Str × List Str) : List Str := ("kind" : Str) :: k.1 :: ("=" : Str) :: (bars k.2 ++ [(";" : Str)])
def varW (v : Vr) : List Str := ("var" : Str) :: v.1 :: (":" : Str) :: v.2.1 :: ("=" : Str) :: (valW v.2.2 ++ [(";" : Str)])
def setW (n : Str) (v : Val) : List Str := n :: (":=" : Str) :: (valW v ++ [(";" : Str)])
def dooW (n f : Str) (vs : List Val) : List Str := n :: (":=" : Str) :: ("do" : Str) :: f :: ("(" : Str) :: (commas (vs.map valW) ++ [(")" : Str), (";" : Str)])
def ifW (t : Tst) : List Str := ("if" : Str) :: (body t ++ [("{" : Str)])
def elseW : List Str := ["}", "else", "{"]
def endW : List Str := ["}"]
def makeW (n : Str) (gs : List Giv) : List Str := ("make" : Str) :: n :: (givW gs ++ [("{" : Str)])
def actW (n : Str) (gs : List Giv) (k : Str) : List Str := ("act" : Str) :: n :: (givW gs ++ [(":" : Str), k, ("{" : Str)])
def ansW (v : Val) : List Str := ("answer" : Str) :: (valW v ++ [(";" : Str)])
theorem tk_bars {n : Nat} : ∀ {xs : List Str}, (∀ x ∈ xs, NameOk true x) → Tks (2 * xs.length) (bars xs)
  | [], _ => .nil
  | x :: xs, h => by
    have h2 : Tks (2 * xs.length) (xs.flatMap fun y => [("|" : Str), y]) := by
      have h3 : ∀ y ∈ xs, NameOk true y := fun y hy => h y (List.mem_cons_of_mem _ hy)
      clear h
      induction xs with
      | nil => exact .nil
      | cons y ys ih =>
        rw [List.flatMap_cons, List.length_cons, Nat.mul_succ]
        exact ((Tks.fix (.cons (tk_name (h3 y (List.mem_cons_self ..))) .nil)).app (ih fun z hz => h3 z (List.mem_cons_of_mem _ hz))).mono (by omega)
    rw [List.length_cons, Nat.mul_succ]
    exact (Tks.cons (tk_name (h x (List.mem_cons_self ..))) h2).mono (by omega)
theorem tk_kind {k : Str × List Str} (h1 : NameOk true k.1) (h2 : k.2.length ≤ 5) (h3 : ∀ x ∈ k.2, NameOk true x) : Tks 80 (kindW k) := by
  have := tk_bars (n := 0) h3
  exact (Tks.fix (.cons (tk_name h1) (.fix (this.app (.fix .nil))))).mono (by omega)
theorem VL1 : VL 1 = 16 := rfl
theorem VL2 : VL 2 = 62 := rfl
theorem tk_var {v : Vr} (h : VrOk v) : Tks 80 (varW v) := by
  have h1 := tk_val 2 v.2.2 h.2.2
  rw [VL2] at h1
  exact (Tks.fix (.cons (tk_name h.1) (.fix (.cons (tk_name h.2.1) (.fix (h1.app (.fix .nil))))))).mono (by omega)
theorem tk_set {n : Str} {v : Val} (h1 : NameOk false n) (h2 : v.ok 2) : Tks 80 (setW n v) := by
  have h1' := tk_val 2 v h2
  rw [VL2] at h1'
  exact (Tks.cons (tk_name h1) (.fix (h1'.app (.fix .nil)))).mono (by omega)
theorem tk_doo {n f : Str} {vs : List Val} (h1 : NameOk false n) (h2 : NameOk false f) (h3 : vs.length ≤ 3) (h4 : ∀ v ∈ vs, Val.ok 1 v) : Tks 80 (dooW n f vs) := by
  have h5 : Tks ((16 + 1) * (vs.map valW).length) (commas (vs.map valW)) := tk_commas _ fun x hx => by
    obtain ⟨v, hv, rfl⟩ := List.mem_map.mp hx
    exact tk_val 1 v (h4 v hv)
  rw [List.length_map] at h5
  exact (Tks.cons (tk_name h1) (.fix (.fix (.cons (tk_name h2) (.fix (h5.app (.fix (.fix .nil)))))))).mono (by omega)
theorem tk_if {t : Tst} (h : t.ok 2) : Tks 80 (ifW t) := by
  have h1 := tk_body 2 t h
  exact (Tks.fix (h1.app (.fix .nil))).mono (by omega)
theorem tk_else : Tks 80 elseW := (Tks.fix (.fix (.fix .nil))).mono (by omega)
theorem tk_end : Tks 80 endW := (Tks.fix .nil).mono (by omega)
theorem tk_make {n : Str} {gs : List Giv} (h1 : NameOk true n) (h2 : GivOk gs) : Tks 80 (makeW n gs) :=
  (Tks.fix (.cons (tk_name h1) ((tk_giv h2).app (.fix .nil)))).mono (by omega)
theorem tk_act {n k : Str} {gs : List Giv} (h1 : NameOk false n) (h2 : GivOk gs) (h3 : NameOk true k) : Tks 80 (actW n gs k) :=
  (Tks.fix (.cons (tk_name h1) ((tk_giv h2).app (.fix (.cons (tk_name h3) (.fix .nil)))))).mono (by omega)
theorem tk_ans {v : Val} (h : v.ok 2) : Tks 80 (ansW v) := by
  have h1 := tk_val 2 v h
  rw [VL2] at h1
  exact (Tks.fix (h1.app (.fix .nil))).mono (by omega)
/-! ### lines -/
def lineN (deep : Nat) (ws : List Str) : Str := Txt.mul "  " (deep : Int) ++ lineT ws
def nl (s : Str) : Str := s ++ "\n"
theorem lineS_nl (deep : Nat) (ws : List Str) : lineS deep ws = nl (lineN deep ws) := rfl
def elseL (deep : Nat) : List Deed → List Str
  | [] => []
  | _ :: _ => [lineN deep elseW]
mutual
def deedL (deep : Nat) : Deed → List Str
  | .set n v => [lineN deep (setW n v)]
  | .doo n f vs => [lineN deep (dooW n f vs)]
  | .ite t xs ys => lineN deep (ifW t) :: (deedsL (deep + 1) xs ++ (elseL deep ys ++ (deedsL (deep + 1) ys ++ [lineN deep endW])))
def deedsL (deep : Nat) : List Deed → List Str
  | [] => []
  | x :: xs => deedL deep x ++ deedsL deep xs
end
theorem deedsL_map (deep : Nat) : ∀ xs : List Deed, deedsL deep xs = xs.flatMap (deedL deep)
  | [] => by unfold deedsL; rfl
  | x :: xs => by unfold deedsL; rw [deedsL_map deep xs]; rfl
mutual
def partL (deep : Nat) : Part → List Str
  | .make n gs vs ps => lineN deep (makeW n gs) :: (vs.map (fun v => lineN (deep + 1) (varW v)) ++ (partsL (deep + 1) ps ++ [lineN deep endW]))
  | .act n gs k ds v => lineN deep (actW n gs k) :: (deedsL (deep + 1) ds ++ [lineN (deep + 1) (ansW v), lineN deep endW])
def partsL (deep : Nat) : List Part → List Str
  | [] => []
  | x :: xs => partL deep x ++ partsL deep xs
end
theorem partsL_map (deep : Nat) : ∀ xs : List Part, partsL deep xs = xs.flatMap (partL deep)
  | [] => by unfold partsL; rfl
  | x :: xs => by unfold partsL; rw [partsL_map deep xs]; rfl
def progL (p : Prg) : List Str := p.kinds.map (fun k => lineN 0 (kindW k)) ++ (p.vars.map (fun v => lineN 0 (varW v)) ++ partsL 0 p.parts)
def progT (p : Prg) : Str := Txt.join "" ((progL p).map nl)
/-- lines, not many, none long -/
def Lns (n : Nat) (ls : List Str) : Prop := ls.length ≤ n ∧ ∀ s ∈ ls, s.length ≤ 1100
theorem Lns.nil : Lns 0 [] := ⟨Nat.le_refl _, fun _ h => (List.not_mem_nil h).elim⟩
theorem Lns.cons {n : Nat} {w : Str} {ws : List Str} (h : w.length ≤ 1100) (t : Lns n ws) : Lns (n + 1) (w :: ws) := ⟨Nat.succ_le_succ t.1, fun x hx => by
  rcases List.mem_cons.mp hx with rfl | hx
  · exact h
  · exact t.2 x hx⟩
theorem Lns.app {n m : Nat} {ws vs : List Str} (a : Lns n ws) (b : Lns m vs) : Lns (n + m) (ws ++ vs) := ⟨by rw [List.length_append]; exact Nat.add_le_add a.1 b.1, fun x hx => by
  rcases List.mem_append.mp hx with hx | hx
  · exact a.2 x hx
  · exact b.2 x hx⟩
theorem Lns.mono {n m : Nat} {ws : List Str} (a : Lns n ws) (h : n ≤ m) : Lns m ws := ⟨Nat.le_trans a.1 h, a.2⟩
theorem Lns.flat {α : Type} {n : Nat} {f : α → List Str} : ∀ {xs : List α}, (∀ x ∈ xs, Lns n (f x)) → Lns (n * xs.length) (xs.flatMap f)
  | [], _ => .nil
  | x :: xs, h => by
    rw [List.flatMap_cons, List.length_cons, Nat.mul_succ]
    exact ((h x (List.mem_cons_self ..)).app (Lns.flat fun y hy => h y (List.mem_cons_of_mem _ hy))).mono (by omega)
theorem Lns.map {α : Type} {f : α → Str} {xs : List α} (h : ∀ x ∈ xs, (f x).length ≤ 1100) : Lns xs.length (xs.map f) := ⟨by rw [List.length_map]; exact Nat.le_refl _, fun s hs => by
  obtain ⟨x, hx, rfl⟩ := List.mem_map.mp hs
  exact h x hx⟩
theorem lineN_len {d : Nat} {ws : List Str} (hd : d < 13) (h : Tks 80 ws) : (lineN d ws).length ≤ 1100 := by
  unfold lineN
  rw [len_app, (blanks d hd).2.1]
  have h1 := lineT_len fun w hw => (h.2 w hw).wd
  have := h.1
  omega
def CD : Nat → Nat
  | 0 => 1
  | d + 1 => 3 + 3 * CD d
theorem CD_succ (d : Nat) : CD (d + 1) = 3 + 3 * CD d := rfl
theorem CD_pos (d : Nat) : 1 ≤ CD d := by cases d <;> (unfold CD; omega)
theorem ln_deed : ∀ (d deep : Nat) (x : Deed), x.ok d → deep + d < 13 → Lns (CD d) (deedL deep x)
  | d, deep, .set n v, h, hd => by
    have h' : NameOk false n ∧ v.ok 2 := by cases d <;> (unfold Deed.ok at h; exact h)
    unfold deedL
    exact (Lns.cons (lineN_len (by omega) (tk_set h'.1 h'.2)) .nil).mono (CD_pos d)
  | d, deep, .doo n f vs, h, hd => by
    have h' : NameOk false n ∧ NameOk false f ∧ vs.length ≤ 3 ∧ ∀ v ∈ vs, Val.ok 1 v := by cases d <;> (unfold Deed.ok at h; exact h)
    unfold deedL
    exact (Lns.cons (lineN_len (by omega) (tk_doo h'.1 h'.2.1 h'.2.2.1 h'.2.2.2)) .nil).mono (CD_pos d)
  | 0, deep, .ite t xs ys, h, hd => by unfold Deed.ok at h; exact h.elim
  | d + 1, deep, .ite t xs ys, h, hd => by
    unfold Deed.ok at h
    obtain ⟨h1, h2, h3, h4, h5⟩ := h
    have a := Lns.flat (n := CD d) (f := deedL (deep + 1)) (xs := xs) fun x hx => ln_deed d (deep + 1) x (h3 x hx) (by omega)
    have b := Lns.flat (n := CD d) (f := deedL (deep + 1)) (xs := ys) fun x hx => ln_deed d (deep + 1) x (h5 x hx) (by omega)
    have c : Lns 1 (elseL deep ys) := by
      cases ys with
      | nil => exact Lns.nil.mono (by omega)
      | cons y ys => exact .cons (lineN_len (by omega) tk_else) .nil
    unfold deedL
    rw [deedsL_map, deedsL_map]
    have e : CD d * xs.length ≤ CD d * 2 := Nat.mul_le_mul_left _ h2
    have e2 : CD d * ys.length ≤ CD d * 1 := Nat.mul_le_mul_left _ h4
    exact (Lns.cons (lineN_len (by omega) (tk_if h1)) (a.app (c.app (b.app (.cons (lineN_len (by omega) tk_end) .nil))))).mono (by rw [CD_succ]; omega)
def CP : Nat → Nat
  | 0 => 66
  | d + 1 => 4 + 2 * CP d
theorem CP_succ (d : Nat) : CP (d + 1) = 4 + 2 * CP d := rfl
theorem CP_pos (d : Nat) : 66 ≤ CP d := by
  induction d with
  | zero => exact Nat.le_refl _
  | succ d ih => unfold CP; omega
theorem ln_part : ∀ (d deep : Nat) (x : Part), x.ok d → deep + d < 9 → Lns (CP d) (partL deep x)
  | d, deep, .act n gs k ds v, h, hd => by
    have h' : NameOk false n ∧ GivOk gs ∧ NameOk true k ∧ ds.length ≤ 3 ∧ (∀ x ∈ ds, Deed.ok 2 x) ∧ v.ok 2 := by cases d <;> (unfold Part.ok at h; exact h)
    obtain ⟨h1, h2, h3, h4, h5, h6⟩ := h'
    have a := Lns.flat (n := 21) (f := deedL (deep + 1)) (xs := ds) fun x hx => ln_deed 2 (deep + 1) x (h5 x hx) (by omega)
    have := CP_pos d
    unfold partL
    rw [deedsL_map]
    exact (Lns.cons (lineN_len (by omega) (tk_act h1 h2 h3)) (a.app (.cons (lineN_len (by omega) (tk_ans h6)) (.cons (lineN_len (by omega) tk_end) .nil)))).mono (by omega)
  | 0, deep, .make n gs vs ps, h, hd => by unfold Part.ok at h; exact h.elim
  | d + 1, deep, .make n gs vs ps, h, hd => by
    unfold Part.ok at h
    obtain ⟨h1, h2, h3, h4, h5, h6⟩ := h
    have a := Lns.flat (n := CP d) (f := partL (deep + 1)) (xs := ps) fun x hx => ln_part d (deep + 1) x (h6 x hx) (by omega)
    have b := Lns.map (f := fun v => lineN (deep + 1) (varW v)) (xs := vs) fun v hv => lineN_len (by omega) (tk_var (h4 v hv))
    unfold partL
    rw [partsL_map]
    have e : CP d * ps.length ≤ CP d * 2 := Nat.mul_le_mul_left _ h5
    exact (Lns.cons (lineN_len (by omega) (tk_make h1 h2)) (b.app (a.app (.cons (lineN_len (by omega) tk_end) .nil)))).mono (by rw [CP_succ]; omega)
theorem ln_prog {p : Prg} (h : p.ok) : Lns 1700 (progL p) := by
  have a := Lns.flat (n := CP 3) (f := partL 0) (xs := p.parts) fun x hx => ln_part 3 0 x (h.ps x hx) (by omega)
  have b := Lns.map (f := fun v => lineN 0 (varW v)) (xs := p.vars) fun v hv => lineN_len (by omega) (tk_var (h.vs v hv))
  have c := Lns.map (f := fun k => lineN 0 (kindW k)) (xs := p.kinds) fun k hk => lineN_len (by omega) (tk_kind (h.ks k hk).1 (h.ks k hk).2.2.1 (h.ks k hk).2.2.2)
  have := h.kn; have := h.vn; have := h.pn
  unfold progL
  rw [partsL_map]
  have e : CP 3 * p.parts.length ≤ CP 3 * 3 := Nat.mul_le_mul_left _ h.pn
  have e2 : CP 3 = 556 := rfl
  exact (c.app (b.app a)).mono (by omega)
/-! ### the writer's rows -/
inductive Row where
  | ln (deep : Nat) (s : Str) | dd (deep : Nat) (x : Deed) | pt (deep : Nat) (p : Part)
def Row.d : Row → D
  | .ln deep s => .tup [.int (deep : Nat), .str (nl s)]
  | .dd deep x => .tup [.int (deep : Nat), x.d]
  | .pt deep p => .tup [.int (deep : Nat), p.d]
def rden : Row → List Str
  | .ln _ s => [s]
  | .dd deep x => deedL deep x
  | .pt deep p => partL deep p
def Row.ok : Row → Prop
  | .ln _ s => True
  | .dd deep x => ∃ d, x.ok d ∧ deep + d < 13
  | .pt deep p => ∃ d, p.ok d ∧ deep + d < 9
theorem rden_pos (x : Row) : 1 ≤ (rden x).length := by
  cases x with
  | ln d s => exact Nat.le_refl _
  | dd d x => cases x <;> (unfold rden deedL; simp)
  | pt d x => cases x <;> (unfold rden partL; simp)
abbrev rdens (xs : List Row) : List Str := xs.flatMap rden
theorem rdens_len : ∀ xs : List Row, xs.length ≤ (rdens xs).length
  | [] => Nat.le_refl _
  | x :: xs => by
    have h1 := rdens_len xs; have h2 := rden_pos x
    simp [rdens] at h1 ⊢; omega
def elseR (deep : Nat) : List Deed → List Row
  | [] => []
  | _ :: _ => [.ln deep (lineN deep elseW)]
def ifR (deep : Nat) (t : Tst) (xs ys : List Deed) : List Row := .ln deep (lineN deep (ifW t)) :: (xs.map (Row.dd (deep + 1)) ++ (elseR deep ys ++ (ys.map (Row.dd (deep + 1)) ++ [.ln deep (lineN deep endW)])))
theorem rdens_dd (deep : Nat) : ∀ xs : List Deed, rdens (xs.map (Row.dd deep)) = deedsL deep xs
  | [] => by unfold deedsL; rfl
  | x :: xs => by
    have := rdens_dd deep xs
    unfold deedsL
    rw [← this]
    rfl
theorem rdens_pt (deep : Nat) : ∀ xs : List Part, rdens (xs.map (Row.pt deep)) = partsL deep xs
  | [] => by unfold partsL; rfl
  | x :: xs => by
    have := rdens_pt deep xs
    unfold partsL
    rw [← this]
    rfl
theorem rdens_ln {α : Type} (deep : Nat) (f : α → Str) : ∀ xs : List α, rdens (xs.map fun x => Row.ln deep (f x)) = xs.map f
  | [] => rfl
  | x :: xs => by
    have := rdens_ln deep f xs
    show f x :: rdens (xs.map fun x => Row.ln deep (f x)) = _
    rw [this] <;> rfl
theorem rdens_app (a b : List Row) : rdens (a ++ b) = rdens a ++ rdens b := List.flatMap_append ..
theorem ifR_den (deep : Nat) (t : Tst) (xs ys : List Deed) : rdens (ifR deep t xs ys) = deedL deep (.ite t xs ys) := by
  unfold ifR
  rw [show ∀ a (b : List Row), rdens (a :: b) = rden a ++ rdens b from fun a b => List.flatMap_cons .., rdens_app, rdens_app, rdens_app, rdens_dd, rdens_dd]
  unfold deedL
  cases ys <;> rfl
def actR (deep : Nat) (n : Str) (gs : List Giv) (k : Str) (ds : List Deed) (v : Val) : List Row := .ln deep (lineN deep (actW n gs k)) :: (ds.map (Row.dd (deep + 1)) ++ [.ln (deep + 1) (lineN (deep + 1) (ansW v)), .ln deep (lineN deep endW)])
theorem actR_den (deep : Nat) (n : Str) (gs : List Giv) (k : Str) (ds : List Deed) (v : Val) : rdens (actR deep n gs k ds v) = partL deep (.act n gs k ds v) := by
  unfold actR
  rw [show ∀ a (b : List Row), rdens (a :: b) = rden a ++ rdens b from fun a b => List.flatMap_cons .., rdens_app, rdens_dd]
  unfold partL
  rfl
def makeR (deep : Nat) (n : Str) (gs : List Giv) (vs : List Vr) (ps : List Part) : List Row := .ln deep (lineN deep (makeW n gs)) :: (vs.map (fun v => Row.ln (deep + 1) (lineN (deep + 1) (varW v))) ++ (ps.map (Row.pt (deep + 1)) ++ [.ln deep (lineN deep endW)]))
theorem makeR_den (deep : Nat) (n : Str) (gs : List Giv) (vs : List Vr) (ps : List Part) : rdens (makeR deep n gs vs ps) = partL deep (.make n gs vs ps) := by
  unfold makeR
  rw [show ∀ a (b : List Row), rdens (a :: b) = rden a ++ rdens b from fun a b => List.flatMap_cons .., rdens_app, rdens_app, rdens_pt, rdens_ln]
  unfold partL
  rfl
end Wr
namespace Wr
open PySem L2 DL Syn
theorem commas_len {n : Nat} : ∀ (xs : List (List Str)), (∀ x ∈ xs, x.length ≤ n) → (commas xs).length ≤ (n + 1) * xs.length
  | [], _ => Nat.zero_le _
  | x :: xs, h => by
    have h2 : (xs.flatMap fun y => ("," : Str) :: y).length ≤ (n + 1) * xs.length := by
      have h3 : ∀ y ∈ xs, y.length ≤ n := fun y hy => h y (List.mem_cons_of_mem _ hy)
      clear h
      induction xs with
      | nil => exact Nat.zero_le _
      | cons y ys ih =>
        rw [List.flatMap_cons, List.length_cons, Nat.mul_succ, List.length_append, List.length_cons]
        have := h3 y (List.mem_cons_self ..)
        have := ih fun z hz => h3 z (List.mem_cons_of_mem _ hz)
        omega
    have := h x (List.mem_cons_self ..)
    unfold commas
    rw [List.length_cons, Nat.mul_succ, List.length_append]
    omega
theorem commas_at {l : List (List Str)} {i : Nat} {y : List Str} (h : l[i]? = some y) : commas (l.take (i + 1)) = commas (l.take i) ++ (if i = 0 then [] else [("," : Str)]) ++ y := by
  have hi : i < l.length := (List.getElem?_eq_some_iff.mp h).1
  rw [take_at h, commas_snoc, List.length_take, Nat.min_eq_left (Nat.le_of_lt hi)]
theorem bars_at {l : List Str} {i : Nat} {y : Str} (h : l[i]? = some y) : bars (l.take (i + 1)) = bars (l.take i) ++ (if i = 0 then [] else [("|" : Str)]) ++ [y] := by
  have hi : i < l.length := (List.getElem?_eq_some_iff.mp h).1
  rw [take_at h, bars_snoc, List.length_take, Nat.min_eq_left (Nat.le_of_lt hi)]
theorem bars_len : ∀ l : List Str, (bars l).length ≤ 2 * l.length
  | [] => Nat.le_refl _
  | x :: xs => by
    have h2 : (xs.flatMap fun y => [("|" : Str), y]).length = 2 * xs.length := by
      induction xs with
      | nil => rfl
      | cons y ys ih => rw [List.flatMap_cons, List.length_append, ih, List.length_cons]; simp; omega
    unfold bars
    rw [List.length_cons, h2, List.length_cons]; omega
theorem dStrs_app (a b : List Str) : dStrs (a ++ b) = dStrs a ++ dStrs b := List.map_append ..
theorem dStrs_len (a : List Str) : (dStrs a).length = a.length := List.length_map ..
/-- a comprehension over known things -/
theorem lc_row {own : Bool} {k : Nat} {wi : DTI} {te : DTE} {σ : DS} {M : Mp} {Q : DK} {α : Type} (xs : List α) (g f : α → D) (hwi : ∀ Kd : List D → (Mp → Prop) → Mp → Prop, Kd (xs.map g) (fun _ => True) M → wi σ M Kd) (hz : xs.length ≤ sizeLine)
    (h : ∀ (i : Nat) x M' (Q : DK), xs[i]? = some x → (∀ a o, M a = some o → M' a = some o) → Q (f x) M' → te (σ.set k (some (g x))) M' Q) (q : dNew own (xs.map f) M Q) : dLc own k wi te σ M Q := by
  refine lc_gen (fun ds M1 => ds = xs.map g ∧ M1 = M) (fun Kd hk => hwi Kd (hk _ _ ⟨rfl, rfl⟩)) (fun ds i acc M1 => ds = xs.map g ∧ acc = (xs.take i).map f ∧ M1 = M) ?_ ?_ ?_ ?_
  · rintro ds M1 ⟨rfl, rfl⟩
    rw [List.length_map]; exact hz
  · rintro ds M1 ⟨rfl, rfl⟩
    exact ⟨rfl, rfl, rfl⟩
  · rintro ds i d acc M1 p Q' hd ⟨rfl, rfl, rfl⟩ hp hl hq
    rw [List.getElem?_map] at hd
    obtain ⟨x, hx, rfl⟩ := Option.map_eq_some_iff.mp hd
    refine h i x _ Q' hx (fun a o ha => by rw [updM_ne (neM ha hp)]; exact ha) ?_
    refine hq (f x) _ hp ⟨rfl, ?_, rfl⟩
    rw [take_at hx, List.map_append] <;> rfl
  · rintro ds acc M' hl ⟨rfl, rfl, rfl⟩
    rw [List.length_map, List.take_length]
    exact q
/-- two things of ours, and what was there -/
structure Tw (M : Mp) (p1 p2 : Addr) (a b : List D) (M' : Mp) : Prop where
  one : M' p1 = some (.lst a)
  two : M' p2 = some (.lst b)
  rest : ∀ q o, M q = some o → M' q = some o
theorem Tw.set1 {M M' : Mp} {p1 p2 : Addr} {a b c : List D} (h : Tw M p1 p2 a b M') (ne : p1 ≠ p2) (h1 : M p1 = none) : Tw M p1 p2 c b (updM M' p1 (.lst c)) :=
  ⟨updM_same, by rw [updM_ne ne.symm]; exact h.two, fun q o hq => by rw [updM_ne (neM hq h1)]; exact h.rest q o hq⟩
theorem Tw.set2 {M M' : Mp} {p1 p2 : Addr} {a b c : List D} (h : Tw M p1 p2 a b M') (ne : p1 ≠ p2) (h2 : M p2 = none) : Tw M p1 p2 a c (updM M' p2 (.lst c)) :=
  ⟨by rw [updM_ne ne]; exact h.one, updM_same, fun q o hq => by rw [updM_ne (neM hq h2)]; exact h.rest q o hq⟩
theorem Ow.lst {M M' : Mp} {p : Addr} {a : List D} (h : Ow M p a M') : isLst (.obj p) M' := isLst_of h.one
theorem strsD_map : ∀ xs : List Str, strsD (dStrs xs) = some xs
  | [] => rfl
  | x :: xs => by
    have := strsD_map xs
    show (strsD (D.str x :: dStrs xs)) = _
    unfold strsD
    rw [this] <;> rfl
end Wr
/-! Data that can be compared. -/
namespace Wr
open PySem L2 DL Syn
def Sh (n : Nat) (d : D) : Prop := ∃ y, pyD d = some y ∧ y.canLay0 = true ∧ y.depth ≤ n
theorem Sh.mono {n m : Nat} {d : D} (h : Sh n d) (hn : n ≤ m) : Sh m d := by
  obtain ⟨y, a, b, c⟩ := h
  exact ⟨y, a, b, Nat.le_trans c hn⟩
theorem Sh.all {n : Nat} : ∀ {ds : List D}, (∀ d ∈ ds, Sh n d) → ∃ ys, pyDs ds = some ys ∧ PyData.canLayAll0 ys = true ∧ PyData.depthAll ys ≤ n ∧ ys.length = ds.length
  | [], _ => ⟨[], by unfold pyDs; rfl, by unfold PyData.canLayAll0; rfl, by unfold PyData.depthAll; omega, rfl⟩
  | d :: ds, h => by
    obtain ⟨y, a, b, c⟩ := h d (List.mem_cons_self ..)
    obtain ⟨ys, a', b', c', e⟩ := Sh.all fun x hx => h x (List.mem_cons_of_mem _ hx)
    refine ⟨y :: ys, by unfold pyDs; rw [a, a']; rfl, by unfold PyData.canLayAll0; rw [b, b']; rfl, by unfold PyData.depthAll; omega, by rw [List.length_cons, e]; rfl⟩
theorem Sh.tup {n : Nat} {ds : List D} (h : ∀ d ∈ ds, Sh n d) : Sh (n + 1) (.tup ds) := by
  obtain ⟨ys, a, b, c, _⟩ := Sh.all h
  exact ⟨.tuple ys, by unfold pyD; rw [a]; rfl, by unfold PyData.canLay0; exact b, by unfold PyData.depth; omega⟩
theorem Sh.str {s : Str} (h : PyData.strOk s = true) : Sh 0 (.str s) := ⟨.str s, by unfold pyD; rfl, by unfold PyData.canLay0; exact h, by unfold PyData.depth; omega⟩
/-- ds != () -/
theorem e_ne_nil {n : Nat} {ds : List D} {M : Mp} {Q : DK} (h : ∀ d ∈ ds, Sh n d) (hn : n ≤ 60) (q : Q (.bl (!ds.isEmpty)) M) : dEq true (.tup ds) (.tup []) M Q := by
  obtain ⟨ys, a, b, c, e⟩ := Sh.all h
  refine ⟨.tuple ys, .tuple [], by unfold pyD; rw [a]; rfl, by unfold pyD pyDs; rfl, ?_, by rfl, ?_⟩
  · unfold SeqAt.shaped
    rw [Bool.and_eq_true]
    refine ⟨by unfold PyData.canLay0; exact b, decide_eq_true ?_⟩
    unfold PyData.depth; omega
  · have : PyData.eqv (.tuple ys) (.tuple []) = ds.isEmpty := by
      cases ys with
      | nil => cases ds with
        | nil => rfl
        | cons d ds => cases e
      | cons y ys => cases ds with
        | nil => cases e
        | cons d ds => rfl
    rw [this, bne_t]
    exact q
theorem sh_name {g : Bool} {s : Str} (h : NameOk g s) : Sh 0 (.str s) := .str (by
  unfold PyData.strOk
  rw [Array.all_eq_true_iff_forall_mem]
  intro c hc
  have h1 := row_lt (h.all c (by simpa using hc))
  exact decide_eq_true (by omega))
theorem sh_lit {s : Str} (h : PyData.strOk s = true := by decide +kernel) : Sh 0 (.str s) := .str h
theorem sh_any {n : Nat} {s : Str} (h : PyData.strOk s = true := by decide +kernel) : Sh n (.str s) := (Sh.str h).mono (Nat.zero_le _)
theorem Sh.tup1 {n : Nat} {a : D} (h1 : Sh n a) : Sh (n + 1) (.tup [a]) := .tup fun d hd => by
  rw [List.mem_singleton.mp hd]; exact h1
theorem mem_lit {n : Nat} {d x : D} {l : List D} (h : d ∈ x :: l) (hx : Sh n x) (hl : d ∈ l → Sh n d) : Sh n d := by
  rcases List.mem_cons.mp h with rfl | h
  · exact hx
  · exact hl h
theorem sh_atom {a : Atom} (h : a.ok) : Sh 1 a.d := by
  cases a with
  | nm s => exact .tup fun d hd => mem_lit hd sh_lit fun hd => mem_lit hd (sh_name h) fun hd => (List.not_mem_nil hd).elim
  | vl s => exact .tup fun d hd => mem_lit hd sh_lit fun hd => mem_lit hd (sh_name h) fun hd => (List.not_mem_nil hd).elim
theorem sh_tst : ∀ (d : Nat) (t : Tst), t.ok d → Sh (d + 2) t.d
  | d, .same a b, h => by
    have h' : a.ok ∧ b.ok := by cases d <;> exact h
    exact (Sh.tup (n := 1) fun x hx => mem_lit hx sh_any fun hx => mem_lit hx (sh_atom h'.1) fun hx => mem_lit hx (sh_atom h'.2) fun hd => (List.not_mem_nil hd).elim).mono (by omega)
  | 0, .neg t, h => h.elim
  | 0, .con l r, h => h.elim
  | 0, .dis l r, h => h.elim
  | d + 1, .neg t, h => Sh.tup (n := d + 2) fun x hx => mem_lit hx sh_any fun hx => mem_lit hx (sh_tst d t h) fun hd => (List.not_mem_nil hd).elim
  | d + 1, .con l r, h => Sh.tup (n := d + 2) fun x hx => mem_lit hx sh_any fun hx => mem_lit hx (sh_tst d l h.1) fun hx => mem_lit hx (sh_tst d r h.2) fun hd => (List.not_mem_nil hd).elim
  | d + 1, .dis l r, h => Sh.tup (n := d + 2) fun x hx => mem_lit hx sh_any fun hx => mem_lit hx (sh_tst d l h.1) fun hx => mem_lit hx (sh_tst d r h.2) fun hd => (List.not_mem_nil hd).elim
theorem sh_val : ∀ (d : Nat) (v : Val), v.ok d → Sh (d + 3) v.d
  | d, .at a, h => by
    have h' : a.ok := by cases d <;> exact h
    exact (sh_atom h').mono (by omega)
  | 0, .ite t x y, h => h.elim
  | d + 1, .ite t x y, h => Sh.tup (n := d + 3) fun z hx => mem_lit hx sh_any fun hx => mem_lit hx (sh_tst (d + 1) t h.1) fun hx => mem_lit hx (sh_val d x h.2.1) fun hx => mem_lit hx (sh_val d y h.2.2) fun hd => (List.not_mem_nil hd).elim
theorem sh_deed : ∀ (d : Nat) (x : Deed), x.ok d → Sh (2 * d + 7) x.d
  | d, .set n v, h => by
    have h' : NameOk false n ∧ v.ok 2 := by cases d <;> (unfold Deed.ok at h; exact h)
    unfold Deed.d
    exact (Sh.tup (n := 5) fun z hx => mem_lit hx sh_any fun hx => mem_lit hx ((sh_name h'.1).mono (by omega)) fun hx => mem_lit hx (sh_val 2 v h'.2) fun hd => (List.not_mem_nil hd).elim).mono (by omega)
  | d, .doo n f vs, h => by
    have h' : NameOk false n ∧ NameOk false f ∧ vs.length ≤ 3 ∧ ∀ v ∈ vs, Val.ok 1 v := by cases d <;> (unfold Deed.ok at h; exact h)
    unfold Deed.d
    exact (Sh.tup (n := 6) fun z hx => mem_lit hx sh_any fun hx => mem_lit hx ((sh_name h'.1).mono (by omega)) fun hx => mem_lit hx ((sh_name h'.2.1).mono (by omega)) fun hx => mem_lit hx ((Sh.tup (n := 4) fun u hu => by
      obtain ⟨v, hv, rfl⟩ := List.mem_map.mp hu
      exact sh_val 1 v (h'.2.2.2 v hv)).mono (by omega)) fun hd => (List.not_mem_nil hd).elim).mono (by omega)
  | 0, .ite t xs ys, h => by unfold Deed.ok at h; exact h.elim
  | d + 1, .ite t xs ys, h => by
    unfold Deed.ok at h
    obtain ⟨h1, h2, h3, h4, h5⟩ := h
    unfold Deed.d
    exact (Sh.tup (n := 2 * d + 8) fun z hx => mem_lit hx sh_any fun hx => mem_lit hx ((sh_tst 2 t h1).mono (by omega)) fun hx => mem_lit hx (Sh.tup (n := 2 * d + 7) fun u hu => by
      rw [deedsD_map] at hu
      obtain ⟨v, hv, rfl⟩ := List.mem_map.mp hu
      exact sh_deed d v (h3 v hv)) fun hx => mem_lit hx (Sh.tup (n := 2 * d + 7) fun u hu => by
      rw [deedsD_map] at hu
      obtain ⟨v, hv, rfl⟩ := List.mem_map.mp hu
      exact sh_deed d v (h5 v hv)) fun hd => (List.not_mem_nil hd).elim).mono (by omega)
theorem sh_deeds {d : Nat} {xs : List Deed} (h : ∀ x ∈ xs, Deed.ok d x) : ∀ y ∈ deedsD xs, Sh (2 * d + 7) y := fun y hy => by
  rw [deedsD_map] at hy
  obtain ⟨v, hv, rfl⟩ := List.mem_map.mp hy
  exact sh_deed d v (h v hv)
theorem dd_map (deep : Nat) (xs : List Deed) : (xs.map (Row.dd (deep + 1))).map Row.d = xs.map fun x => D.tup [.int ((deep : Int) + 1), x.d] := by
  rw [List.map_map] <;> rfl
theorem pt_map (deep : Nat) (xs : List Part) : (xs.map (Row.pt (deep + 1))).map Row.d = xs.map fun x => D.tup [.int ((deep : Int) + 1), x.d] := by
  rw [List.map_map] <;> rfl
theorem nl_len (s : Str) : (nl s).length = s.length + 1 := by
  unfold nl
  rw [len_app, show ("\n" : Str).length = 1 by decide +kernel]
theorem sum_nl : ∀ {ls : List Str} {n : Nat}, Lns n ls → ((ls.map nl).map (·.length)).sum ≤ 1101 * ls.length
  | [], n, h => Nat.le_refl _
  | l :: ls, n, h => by
    have h1 := h.2 l (List.mem_cons_self ..)
    have h2 := sum_nl (ls := ls) (n := n) ⟨Nat.le_trans (Nat.le_succ _) h.1, fun s hs => h.2 s (List.mem_cons_of_mem _ hs)⟩
    rw [List.map_cons, List.map_cons, List.sum_cons, nl_len, List.length_cons]
    omega
theorem ifR_ok {deep d : Nat} {t : Tst} {xs ys : List Deed} (h : (Deed.ite t xs ys).ok d) (hd : deep + d < 13) : ∀ r ∈ ifR deep t xs ys, r.ok := by
  cases d with
  | zero => unfold Deed.ok at h; exact h.elim
  | succ d =>
  unfold Deed.ok at h
  obtain ⟨h1, h2, h3, h4, h5⟩ := h
  intro r hr
  unfold ifR at hr
  have el : ∀ r ∈ elseR deep ys, r.ok := by
    intro r hr
    cases ys with
    | nil => unfold elseR at hr; exact (List.not_mem_nil hr).elim
    | cons y ys => unfold elseR at hr; rw [List.mem_singleton.mp hr]; trivial
  rcases List.mem_cons.mp hr with rfl | hr
  · trivial
  · rcases List.mem_append.mp hr with hr | hr
    · obtain ⟨x, hx, rfl⟩ := List.mem_map.mp hr
      exact ⟨d, h3 x hx, by omega⟩
    · rcases List.mem_append.mp hr with hr | hr
      · exact el r hr
      · rcases List.mem_append.mp hr with hr | hr
        · obtain ⟨x, hx, rfl⟩ := List.mem_map.mp hr
          exact ⟨d, h5 x hx, by omega⟩
        · rw [List.mem_singleton.mp hr]; trivial
theorem actR_ok {deep d : Nat} {n : Str} {gs : List Giv} {k : Str} {xs : List Deed} {v : Val} (h : (Part.act n gs k xs v).ok d) (hd : deep + d < 9) : ∀ r ∈ actR deep n gs k xs v, r.ok := by
  have h' : NameOk false n ∧ GivOk gs ∧ NameOk true k ∧ xs.length ≤ 3 ∧ (∀ x ∈ xs, Deed.ok 2 x) ∧ v.ok 2 := by cases d <;> (unfold Part.ok at h; exact h)
  intro r hr
  unfold actR at hr
  rcases List.mem_cons.mp hr with rfl | hr
  · trivial
  · rcases List.mem_append.mp hr with hr | hr
    · obtain ⟨x, hx, rfl⟩ := List.mem_map.mp hr
      exact ⟨2, h'.2.2.2.2.1 x hx, by omega⟩
    · rcases List.mem_cons.mp hr with rfl | hr
      · trivial
      · rw [List.mem_singleton.mp hr]; trivial
theorem makeR_ok {deep d : Nat} {n : Str} {gs : List Giv} {vs : List Vr} {ps : List Part} (h : (Part.make n gs vs ps).ok d) (hd : deep + d < 9) : ∀ r ∈ makeR deep n gs vs ps, r.ok := by
  cases d with
  | zero => unfold Part.ok at h; exact h.elim
  | succ d =>
  unfold Part.ok at h
  obtain ⟨h1, h2, h3, h4, h5, h6⟩ := h
  intro r hr
  unfold makeR at hr
  rcases List.mem_cons.mp hr with rfl | hr
  · trivial
  · rcases List.mem_append.mp hr with hr | hr
    · obtain ⟨x, hx, rfl⟩ := List.mem_map.mp hr
      trivial
    · rcases List.mem_append.mp hr with hr | hr
      · obtain ⟨x, hx, rfl⟩ := List.mem_map.mp hr
        exact ⟨d, h6 x hx, by omega⟩
      · rw [List.mem_singleton.mp hr]; trivial
def progR (p : Prg) : List Row := p.kinds.map (fun k => Row.ln 0 (lineN 0 (kindW k))) ++ (p.vars.map (fun v => Row.ln 0 (lineN 0 (varW v))) ++ p.parts.map (Row.pt 0))
theorem progR_den (p : Prg) : rdens (progR p) = progL p := by
  unfold progR progL
  rw [rdens_app, rdens_app, rdens_ln, rdens_ln, rdens_pt]
theorem progR_ok {p : Prg} (h : p.ok) : ∀ r ∈ progR p, r.ok := by
  intro r hr
  unfold progR at hr
  rcases List.mem_append.mp hr with hr | hr
  · obtain ⟨x, hx, rfl⟩ := List.mem_map.mp hr
    trivial
  · rcases List.mem_append.mp hr with hr | hr
    · obtain ⟨x, hx, rfl⟩ := List.mem_map.mp hr
      trivial
    · obtain ⟨x, hx, rfl⟩ := List.mem_map.mp hr
      exact ⟨3, h.ps x hx, by omega⟩
theorem e_atom1 {a : Atom} {M : Mp} {Q : DK} : dIx a.d (.int 1) M Q = Q (.str a.s) M := by cases a <;> exact e_t1
theorem str_assoc (a b c : Str) : a ++ b ++ c = a ++ (b ++ c) := by
  cases a; cases b; cases c
  exact congrArg Str.mk (Array.append_assoc ..)
theorem str_empty (a : Str) : a ++ ("" : Str) = a := by
  have e : ("" : Str) = ⟨#[]⟩ := by decide +kernel
  rw [e]
  cases a
  exact congrArg Str.mk (Array.append_empty ..)
theorem empty_str (a : Str) : ("" : Str) ++ a = a := by
  have e : ("" : Str) = ⟨#[]⟩ := by decide +kernel
  rw [e]
  cases a
  exact congrArg Str.mk (Array.empty_append ..)
theorem at_last {l : List Nat} {c : Nat} (h : l.getLast? = some c) : atI l (-1) = some c := by
  have hl : 0 < l.length := by
    cases l with
    | nil => cases h
    | cons a l => simp
  have e : ixN l.length (-1) = some (l.length - 1) := by
    unfold ixN
    rw [if_neg (by omega), if_pos (by omega)]
    congr 1
    omega
  unfold atI
  rw [e]
  show l[l.length - 1]? = some c
  rw [← List.getLast?_eq_getElem?]
  exact h
theorem near_tk {L w : Str} (h : Tk L) : near L w = ((decide (L = "(") || decide (w ∈ ([";", ",", ")", ":"] : List Str))) || (decide (w = "(") && nmL L)) := by
  have h1 : L ≠ "" := fun e => by
    have := h.lo
    rw [e] at this
    exact absurd this (by decide +kernel)
  have h2 : decide (L ∈ (["", "("] : List Str)) = decide (L = "(") := by
    apply decide_eq_decide.mpr
    constructor
    · intro hm
      rcases List.mem_cons.mp hm with e | hm
      · exact absurd e h1
      · exact List.mem_singleton.mp hm
    · intro e
      rw [e]
      exact List.mem_cons_of_mem _ (List.mem_singleton.mpr rfl)
  unfold near
  rw [h2, h.nm, Bool.or_assoc]
theorem wide_line {deep : Nat} (hd : deep < 13) (ws : List Str) : Txt.mul " " ((2 * deep : Nat) : Int) ++ lineT ws = lineN deep ws := by
  unfold lineN
  rw [(blanks deep hd).1]
theorem wide_len {deep : Nat} (hd : deep < 13) : (Txt.mul " " ((2 * deep : Nat) : Int)).length = 2 * deep := by
  rw [← (blanks deep hd).1, (blanks deep hd).2.1]
theorem else_line : lineT elseW = "} else {" := by decide +kernel
theorem end_line : lineT endW = "}" := by decide +kernel
theorem wide_up (deep : Nat) : ((2 * deep : Nat) : Int) + 2 = ((2 * (deep + 1) : Nat) : Int) := by omega
theorem lineT_80 {ws : List Str} (h : Tks 80 ws) : (lineT ws).length ≤ 1040 := by
  have h1 := lineT_len fun w hw => (h.2 w hw).wd
  have := h.1
  omega
/-- the lines of rows of deeds, not many -/
theorem deeds_len {d deep : Nat} {xs : List Deed} (h : ∀ x ∈ xs, Deed.ok d x) (hd : deep + d < 13) (h2 : d ≤ 2) (hl : xs.length ≤ 3) : (deedsL deep xs).length ≤ 63 := by
  have a := (Lns.flat (n := CD d) (f := deedL deep) (xs := xs) fun x hx => ln_deed d deep x (h x hx) hd).1
  rw [← deedsL_map] at a
  have : CD d ≤ 21 := by
    have : d = 0 ∨ d = 1 ∨ d = 2 := by omega
    rcases this with rfl | rfl | rfl <;> decide
  have : CD d * xs.length ≤ 21 * 3 := Nat.mul_le_mul this hl
  omega
theorem parts_len {d deep : Nat} {xs : List Part} (h : ∀ x ∈ xs, Part.ok d x) (hd : deep + d < 9) (h2 : d ≤ 3) (hl : xs.length ≤ 3) : (partsL deep xs).length ≤ 1668 := by
  have a := (Lns.flat (n := CP d) (f := partL deep) (xs := xs) fun x hx => ln_part d deep x (h x hx) hd).1
  rw [← partsL_map] at a
  have : CP d ≤ 556 := by
    have : d = 0 ∨ d = 1 ∨ d = 2 ∨ d = 3 := by omega
    rcases this with rfl | rfl | rfl | rfl <;> decide
  have : CP d * xs.length ≤ 556 * 3 := Nat.mul_le_mul this hl
  omega
theorem deedsL_at {deep i : Nat} {xs : List Deed} {x : Deed} (h : xs[i]? = some x) : deedsL deep (xs.take (i + 1)) = deedsL deep (xs.take i) ++ deedL deep x := by
  rw [deedsL_map, deedsL_map, take_at h, List.flatMap_append, List.flatMap_singleton]
theorem partsL_at {deep i : Nat} {xs : List Part} {x : Part} (h : xs[i]? = some x) : partsL deep (xs.take (i + 1)) = partsL deep (xs.take i) ++ partL deep x := by
  rw [partsL_map, partsL_map, take_at h, List.flatMap_append, List.flatMap_singleton]
/-- lines of ours at some place, and what was there -/
def Li (M : Mp) (ls : List Str) (v : Option D) (M' : Mp) : Prop := ∃ p, v = some (.obj p) ∧ M p = none ∧ Ow M p (dStrs ls) M'
theorem Li.start {M : Mp} {p : Addr} (h : M p = none) : Li M [] (some (.obj p)) (updM M p (.lst [])) := ⟨p, rfl, h, .start h⟩
theorem Li.out {M M' : Mp} {ls : List Str} {p : Addr} {Q : DK} (h : Li M ls (some (.obj p)) M') (q : Q (.lst (dStrs ls)) M) : frz (.obj p) M' (Wk Q) := by
  obtain ⟨p', e, hp, ow⟩ := h
  cases e
  exact ow.out hp q
/-- lines = lines + .. -/
theorem Li.more {M M' : Mp} {ls : List Str} {p p' : Addr} {l : List D} {ls' : List Str} (h : Li M ls (some (.obj p)) M') (hp' : M' p' = none) (e : l = dStrs ls') : Li M ls' (some (.obj p')) (updM M' p' (.lst l)) := by
  obtain ⟨p0, e0, hp, ow⟩ := h
  cases e0
  subst e
  refine ⟨p', rfl, ?_, updM_same, fun q o hq => ?_⟩
  · cases e : M p' with
    | none => rfl
    | some o => rw [ow.rest p' o e] at hp'; cases hp'
  · have := ow.rest q o hq
    rw [updM_ne (neM this hp')]; exact this
theorem Li.put {M M' : Mp} {ls ls' : List Str} {p : Addr} {l : List D} (h : Li M ls (some (.obj p)) M') (e : l = dStrs ls') : Li M ls' (some (.obj p)) (updM M' p (.lst l)) := by
  obtain ⟨p0, e0, hp, ow⟩ := h
  cases e0
  subst e
  exact ⟨p, rfl, hp, ow.set hp⟩
theorem Li.one {M M' : Mp} {ls : List Str} {p : Addr} (h : Li M ls (some (.obj p)) M') : M' p = some (.lst (dStrs ls)) := by
  obtain ⟨p0, e0, hp, ow⟩ := h
  cases e0
  exact ow.one
end Wr
/-! The line of a kind. -/
namespace Wr
open PySem L2 DL Syn
def BAD : List Str := ["", "(", ";", ",", ")", ":"]
theorem bad_no : ∀ w ∈ BAD, (w.cps.toList.all rowC && !w.cps.toList.isEmpty) = false := by decide +kernel
theorem name_ok {g : Bool} {w : Str} (h : NameOk g w) : w ∉ BAD := fun hb => by
  have h1 := bad_no w hb
  obtain ⟨c, r, e, _⟩ := h.hd
  have h2 : w.cps.toList.all rowC = true := List.all_eq_true.mpr h.all
  rw [h2, e] at h1
  cases h1
theorem near_no {L w : Str} (h1 : L ∉ BAD) (h2 : w ∉ BAD) : near L w = false := by
  unfold near
  have a : decide (L ∈ (["", "("] : List Str)) = false := decide_eq_false fun h => h1 (by
    rcases List.mem_cons.mp h with e | h
    · rw [e]; decide +kernel
    · rw [List.mem_singleton.mp h]; decide +kernel)
  have b : decide (w ∈ ([";", ",", ")", ":"] : List Str)) = false := decide_eq_false fun h => h2 (by
    unfold BAD
    exact List.mem_cons_of_mem _ (List.mem_cons_of_mem _ h))
  have c : decide (w = "(") = false := decide_eq_false fun e => h2 (by rw [e]; decide +kernel)
  rw [a, b, c] <;> rfl
theorem near_end (L : Str) : near L ";" = true := by
  unfold near
  have b : decide ((";" : Str) ∈ ([";", ",", ")", ":"] : List Str)) = true := by decide +kernel
  rw [b, Bool.true_or, Bool.or_true]
def bar : List Str → Str
  | [] => ""
  | y :: r => " | " ++ (y ++ bar r)
theorem join_bar (x : Str) : ∀ (rest : List Str), Str.join " | " (x :: rest) = x ++ bar rest
  | [] => by
    show x = x ++ bar []
    unfold bar; rw [str_empty]
  | y :: r => by
    show x ++ " | " ++ Str.join " | " (y :: r) = x ++ bar (y :: r)
    rw [join_bar y r, str_assoc] <;> rfl
theorem stepL_no {T L w : Str} (h1 : L ∉ BAD) (h2 : w ∉ BAD) : stepL (T, L) w = (T ++ (" " ++ w), w) := by
  unfold stepL
  rw [near_no h1 h2] <;> rfl
theorem bar_no : ("|" : Str) ∉ BAD := by decide +kernel
theorem fold_bar : ∀ (rest : List Str) (T L : Str), L ∉ BAD → (∀ y ∈ rest, NameOk true y) → ((rest.flatMap fun y => [("|" : Str), y]).foldl stepL (T, L)).1 = T ++ bar rest
  | [], T, L, hL, h => by
    show T = T ++ bar []
    unfold bar; rw [str_empty]
  | y :: r, T, L, hL, h => by
    have hy := name_ok (h y (List.mem_cons_self ..))
    rw [List.flatMap_cons, List.foldl_append]
    show ((r.flatMap fun y => [("|" : Str), y]).foldl stepL (stepL (stepL (T, L) "|") y)).1 = _
    rw [stepL_no hL bar_no, stepL_no bar_no hy, fold_bar r _ y hy fun z hz => h z (List.mem_cons_of_mem _ hz)]
    show T ++ (" " ++ "|") ++ (" " ++ y) ++ bar r = T ++ (" | " ++ (y ++ bar r))
    have e : (" | " : Str) = (" " : Str) ++ "|" ++ " " := by decide +kernel
    rw [e]
    simp only [str_assoc]
theorem fold_1 (l : List Str) (p : Str × Str) : ∃ L, l.foldl stepL p = ((l.foldl stepL p).1, L) := ⟨_, rfl⟩
theorem kind_line {k : Str × List Str} (h1 : NameOk true k.1) (h2 : 1 ≤ k.2.length) (h3 : ∀ x ∈ k.2, NameOk true x) : ("kind " : Str) ++ k.1 ++ " = " ++ Txt.join " | " k.2 ++ ";" = lineN 0 (kindW k) := by
  obtain ⟨n, vs⟩ := k
  cases vs with
  | nil => exact absurd (show 1 ≤ 0 from h2) (by decide)
  | cons v vs =>
    have hv := name_ok (h3 v (List.mem_cons_self ..))
    have hn := name_ok h1
    have he : ("=" : Str) ∉ BAD := by decide +kernel
    have hk : ("kind" : Str) ∉ BAD := by decide +kernel
    have hl : lineN 0 (kindW (n, v :: vs)) = lineT (kindW (n, v :: vs)) := by
      unfold lineN
      rw [show Txt.mul "  " ((0 : Nat) : Int) = "" by decide +kernel, empty_str]
    rw [hl, TL.join_eq, join_bar]
    unfold lineT kindW
    have s0 : stepL ("", "") "kind" = (("kind" : Str), ("kind" : Str)) := by decide +kernel
    show _ = ((bars (v :: vs) ++ [(";" : Str)]).foldl stepL (stepL (stepL (stepL ("", "") "kind") n) "=")).1
    rw [s0, stepL_no hk hn, stepL_no hn he]
    have hb : ∀ X, (bars (v :: vs)).foldl stepL X = (vs.flatMap fun y => [("|" : Str), y]).foldl stepL (stepL X v) := fun X => rfl
    rw [List.foldl_append, hb, stepL_no he hv]
    have hf := fold_bar vs (("kind" : Str) ++ (" " ++ n) ++ (" " ++ "=") ++ (" " ++ v)) v hv fun y hy => h3 y (List.mem_cons_of_mem _ hy)
    obtain ⟨L, hL⟩ := fold_1 (vs.flatMap fun y => [("|" : Str), y]) (("kind" : Str) ++ (" " ++ n) ++ (" " ++ "=") ++ (" " ++ v), v)
    rw [hL, hf]
    show _ = (stepL _ ";").1
    unfold stepL
    rw [near_end]
    show _ = ("kind" : Str) ++ (" " ++ n) ++ (" " ++ "=") ++ (" " ++ v) ++ bar vs ++ ";"
    have e1 : ("kind " : Str) = ("kind" : Str) ++ " " := by decide +kernel
    have e2 : (" = " : Str) = (" " : Str) ++ "=" ++ " " := by decide +kernel
    rw [e1, e2]
    simp only [str_assoc]
end Wr
/-! DL10: methods and makers as callees; fields by what they do. -/
namespace DL
open PySem PySem.Spec L2
section
variable {X : Cx} {F0 : Hp} {CX : CXT} {k : Nat} {ps : List Str} {sp : SpD} {Ed : DX} {E : XK} {x m : Str} {p pos apos : Pos} {e o : Expr} {es : List Expr} {ta te tv : DTE} {t : DTA} {C : Addr}
/-- a method of the class at C -/
def Mth (P : Program) (w : World) (K : PySem.W.Frag) (mg : Str → Option Value) (base : Heap) (CX : CXT) (C : Addr) (k : Nat) (m : Str) (ps : List Str) (sp : SpD) : Prop :=
  ∃ f fd, FnOk P w K mg base CX k f fd ps (LSp K sp) ∧ Cls K C ∧ Meth K C m f ∧ Binds K fd ps []
/-- the class x at C is called: its __init__ -/
def Mkr (P : Program) (w : World) (K : PySem.W.Frag) (mg : Str → Option Value) (base : Heap) (CX : CXT) (C : Addr) (k : Nat) (x : Str) (ps : List Str) (sp : SpD) : Prop :=
  ∃ f fd, FnOk P w K mg base CX k f fd ps (LSp K sp) ∧ Mk K C f ∧ mg x = some (.ref C) ∧ Binds K fd ps []
theorem de_mt {pl : Sem Bool} (h : Mth X.prog X.w X.K X.mg X.base CX C k m ps sp) (hr : Room k X.A) (hx : Passes CX X E) (hE : FinX X.K F0 Ed E) (ho : DE X F0 o ta) (ha : DA X F0 (e :: es) t)
    (hst : starEach (e :: es) X.env = (false, eval e X.env) :: starEach es X.env := by rfl) (hpl : (backTo pos (starEach es X.env)).any (·.1) = false := by rfl)
    (ht : eval (.Call (.Attribute o m apos) (e :: es) [] pos) X.env = (do
      let ov ← eval o X.env
      standAt apos.atName
      let (f, first) ← holding [ov] (getMethod ov m pl)
      callWith pos f first (backTo pos (starEach (e :: es) X.env)) (backToKw pos (keywordEach [] X.env))) := by rfl) :
    DE X F0 (.Call (.Attribute o m apos) (e :: es) [] pos) (dMeth C m sp Ed ta t) := by
  obtain ⟨f, fd, F, c, hm, hb⟩ := h
  exact de_meth ho c hm F hr hb hx hE ha hst hpl ht
theorem de_mt0 {pl : Sem Bool} (h : Mth X.prog X.w X.K X.mg X.base CX C k m ps sp) (hr : Room k X.A) (hx : Passes CX X E) (hE : FinX X.K F0 Ed E) (ho : DE X F0 o ta)
    (ht : eval (.Call (.Attribute o m apos) [] [] pos) X.env = (do
      let ov ← eval o X.env
      standAt apos.atName
      let (f, first) ← holding [ov] (getMethod ov m pl)
      callWith pos f first (backTo pos (starEach [] X.env)) (backToKw pos (keywordEach [] X.env))) := by rfl) :
    DE X F0 (.Call (.Attribute o m apos) [] [] pos) (dMeth C m sp Ed ta dNil) := by
  obtain ⟨f, fd, F, c, hm, hb⟩ := h
  exact de_meth0 ho c hm F hr hb hx hE ht
theorem de_new (h : Mkr X.prog X.w X.K X.mg X.base CX C k x ps sp) (hr : Room (k + 1) X.A) (hg : Gl X x) (hx : Passes CX X E) (hE : FinX X.K F0 Ed E)
    (ha : DA X F0 (e :: es) t) (hdb : (x == ("__debug__" : Str)) = false := by decide) (he : starEach (e :: es) X.env = (false, eval e X.env) :: starEach es X.env := by rfl) (hpl : (backTo pos (starEach es X.env)).any (·.1) = false := by rfl) :
    DE X F0 (.Call (.Name x p) (e :: es) [] pos) (dMake C sp Ed t) := by
  obtain ⟨f, fd, F, M, hm, hb⟩ := h
  exact de_make M F hr hg hm hb hx hE ha hdb he hpl
theorem de_new0 (h : Mkr X.prog X.w X.K X.mg X.base CX C k x ps sp) (hr : Room (k + 1) X.A) (hg : Gl X x) (hx : Passes CX X E) (hE : FinX X.K F0 Ed E)
    (hdb : (x == ("__debug__" : Str)) = false := by decide) : DE X F0 (.Call (.Name x p) [] [] pos) (dMake C sp Ed dNil) := by
  obtain ⟨f, fd, F, M, hm, hb⟩ := h
  exact de_make0 M F hr hg hm hb hx hE hdb
end
/-! ### fields, methods: what they do to values -/
def dF (K : PySem.W.Frag) (f : Str) (x : D) (M : Mp) (Q : DK) : Prop := ∃ p C fs v, x = .obj p ∧ M p = some (.ins C fs) ∧ Cls K C ∧ NoAttr K C f ∧ fs.lookup f = some v ∧ Q v M
def dSF (K : PySem.W.Frag) (f : Str) (x y : D) (M : Mp) (N : Mp → Prop) : Prop := ∃ p C fs, x = .obj p ∧ M p = some (.ins C fs) ∧ Cls K C ∧ NoAttr K C f ∧ fs.length < 1000 ∧ N (updM M p (.ins C (putD f y fs)))
def dM (C : Addr) (m : Str) (x : D) (M : Mp) (P : Prop) : Prop := ∃ p fs, x = .obj p ∧ M p = some (.ins C fs) ∧ fs.lookup m = none ∧ P
section
variable {K : PySem.W.Frag} {f m : Str} {te ta tv : DTE} {t : DTA} {σ : DS} {M : Mp} {Q : DK} {E : DEnds} {C p : Addr} {sp : SpD} {Ed : DX} {g : Int → Int → Int} {fs : List (Str × D)} {v y : D} {P : Prop} {N : Mp → Prop}
theorem e_fld : dFld K f te σ M Q = te σ M fun x M1 => dF K f x M1 Q := rfl
theorem e_sfld : dSFld K f ta tv E σ M = tv σ M fun y M1 => ta σ M1 fun x M2 => dSF K f x y M2 (E.nx σ) := rfl
theorem e_meth : dMeth C m sp Ed ta t σ M Q = ta σ M fun x M1 => ∃ p fs, x = .obj p ∧ M1 p = some (.ins C fs) ∧ fs.lookup m = none ∧ t σ M1 fun ds M2 => sp (x :: ds) M2 Q Ed := rfl
theorem f_get (h : M p = some (.ins C fs)) (hc : Cls K C) (hn : NoAttr K C f) (hl : fs.lookup f = some v) : dF K f (.obj p) M Q = Q v M := by
  apply propext
  constructor
  · rintro ⟨p', C', fs', v', h1, h2, _, _, h5, h6⟩
    cases h1
    rw [h] at h2; cases h2
    rw [hl] at h5; cases h5
    exact h6
  · exact fun q => ⟨p, C, fs, v, rfl, h, hc, hn, hl, q⟩
theorem f_set (h : M p = some (.ins C fs)) (hc : Cls K C) (hn : NoAttr K C f) (hl : fs.length < 1000) (q : N (updM M p (.ins C (putD f y fs)))) : dSF K f (.obj p) y M N := ⟨p, C, fs, rfl, h, hc, hn, hl, q⟩
end
/-- while, the test by itself -/
theorem while_two {c : DTT} {tb : DTS} {E : DEnds} {σ : DS} {M : Mp} (W : Nat → DS → Mp → Prop) (m : Nat) (h0 : W m σ M)
    (h : ∀ m σ M (N : DS → Mp → Prop), W m σ M → (∀ m' σ M, m' < m → W m' σ M → N σ M) → ∃ b, (∀ K : Bool → Mp → Prop, K b M → c σ M K) ∧ IfB b (tb { E with nx := N, ct := N, bk := E.nx } σ M) (E.nx σ M)) : dWhile c tb E σ M :=
  while_gen W m h0 fun m σ M N w hN => by
    obtain ⟨b, h1, h2⟩ := h m σ M N w hN
    exact h1 _ h2
theorem cxK {CX : CXT} {P : Program} {w : World} {K : PySem.W.Frag} {mg : Str → Option Value} {base : Heap} {N : List Str} {qual : Str} {scope : Scope} {f : Addr} {cdv : Value} {A : Around} {outer : List Env} {s : Shared} {H : Hp} {E : XK} :
    (cxOf CX P w K mg base N qual scope f cdv A outer s H E).K = K := rfl
end DL
/-! Tokens of a text. -/
namespace Lx
open PySem L2 DL Syn Wr
def textC (c : Nat) : Bool := 32 ≤ c && c ≤ 126
def SGN : Str := "=|;:,(){}"
def PRS : List Str := [":=", "=="]
def tw (f : Nat → Bool) (l : List Nat) : Nat := (l.takeWhile f).length
theorem tw_le (f : Nat → Bool) (l : List Nat) : tw f l ≤ l.length := by
  unfold tw
  induction l with
  | nil => exact Nat.le_refl _
  | cons c l ih =>
    rw [List.takeWhile_cons]
    split
    · simp; omega
    · simp
/-- what stands at a text's place: its sort, its length -/
inductive TokAt : List Nat → Str → Nat → Prop where
  | pair {r : List Nat} {p : Str} : p ∈ PRS → r.take 2 = p.cps.toList → TokAt r p 2
  | sign {c : Nat} {r : List Nat} : c ∈ SGN.cps.toList → (⟨((c :: r).take 2).toArray⟩ : Str) ∉ PRS → TokAt (c :: r) ⟨#[c]⟩ 1
  | great {c : Nat} {r : List Nat} : greatC c = true → TokAt (c :: r) "Name" (tw rowC (c :: r))
  | small {c : Nat} {r : List Nat} : smallC c = true → (⟨((c :: r).take (tw rowC (c :: r))).toArray⟩ : Str) ∉ WORDS → TokAt (c :: r) "name" (tw rowC (c :: r))
  | word {c : Nat} {r : List Nat} : smallC c = true → (⟨((c :: r).take (tw rowC (c :: r))).toArray⟩ : Str) ∈ WORDS → TokAt (c :: r) ⟨((c :: r).take (tw rowC (c :: r))).toArray⟩ (tw rowC (c :: r))
inductive Lex : List Nat → List (Str × Str) → Prop where
  | nil : Lex [] []
  | blank {r : List Nat} {rows : List (Str × Str)} : Lex r rows → Lex (32 :: r) rows
  | line {r : List Nat} {rows : List (Str × Str)} : Lex r rows → Lex (10 :: r) rows
  | remark {g r : List Nat} {rows : List (Str × Str)} : (∀ c ∈ g, textC c = true) → (r = [] ∨ ∃ r', r = 10 :: r') → Lex r rows → Lex (35 :: (g ++ r)) rows
  | tok {c : Nat} {r : List Nat} {sort : Str} {n : Nat} {rows : List (Str × Str)} : c ≠ 10 → c ≠ 35 → c ≠ 32 → TokAt (c :: r) sort n → Lex ((c :: r).drop n) rows → Lex (c :: r) ((sort, ⟨((c :: r).take n).toArray⟩) :: rows)
/-- a row of the tokens as data -/
def TokD (t : Str × Str) (d : D) : Prop := ∃ a b : Int, d = .tup [.str t.1, .str t.2, .int a, .int b]
inductive TokDs : List (Str × Str) → List D → Prop where
  | nil : TokDs [] []
  | cons {t : Str × Str} {d : D} {ts : List (Str × Str)} {ds : List D} : TokD t d → TokDs ts ds → TokDs (t :: ts) (d :: ds)
theorem TokDs.app {a b : List (Str × Str)} {c d : List D} (h : TokDs a c) (k : TokDs b d) : TokDs (a ++ b) (c ++ d) := by
  induction h with
  | nil => exact k
  | cons h _ ih => exact .cons h ih
theorem TokDs.one {s t : Str} {a b : Int} : TokDs [(s, t)] [.tup [.str s, .str t, .int a, .int b]] := .cons ⟨a, b, rfl⟩ .nil
theorem TokDs.len {a : List (Str × Str)} {c : List D} (h : TokDs a c) : a.length = c.length := by
  induction h with
  | nil => rfl
  | cons _ _ ih => simp [ih]
theorem TokDs.get {a : List (Str × Str)} {c : List D} (h : TokDs a c) : ∀ {i : Nat} {t : Str × Str}, a[i]? = some t → ∃ x y : Int, c[i]? = some (.tup [.str t.1, .str t.2, .int x, .int y]) := by
  induction h with
  | nil => intro i t h; cases h
  | cons h _ ih =>
    intro i t hi
    cases i with
    | zero =>
      cases hi
      obtain ⟨x, y, rfl⟩ := h
      exact ⟨x, y, rfl⟩
    | succ i => exact ih hi
theorem TokAt.pos {r : List Nat} {s : Str} {n : Nat} (h : TokAt r s n) (hr : r ≠ []) : 1 ≤ n := by
  have tw1 : ∀ c r, rowC c = true → 1 ≤ tw rowC (c :: r) := fun c r h => by unfold tw; rw [List.takeWhile_cons, h]; simp
  cases h with
  | pair _ _ => decide
  | sign _ _ => decide
  | great h => exact tw1 _ _ (great_row h)
  | small h _ => exact tw1 _ _ (small_row h)
  | word h _ => exact tw1 _ _ (small_row h)
theorem TokAt.le {r : List Nat} {s : Str} {n : Nat} (h : TokAt r s n) : n ≤ r.length := by
  cases h with
  | pair hp h =>
    have := congrArg List.length h
    rw [List.length_take] at this
    have h2 : ∀ p ∈ PRS, p.cps.toList.length = 2 := by decide +kernel
    rw [h2 _ hp] at this
    omega
  | sign _ _ => simp
  | great _ => exact tw_le _ _
  | small _ _ => exact tw_le _ _
  | word _ _ => exact tw_le _ _
/-- signs of a text by their places -/
theorem drop_get {l : List Nat} {i c : Nat} {r : List Nat} (h : l.drop i = c :: r) : l[i]? = some c := by
  have : (l.drop i)[0]? = some c := by rw [h]; rfl
  rw [List.getElem?_drop] at this
  simpa using this
theorem drop_lt {l : List Nat} {i c : Nat} {r : List Nat} (h : l.drop i = c :: r) : i < l.length := (List.getElem?_eq_some_iff.mp (drop_get h)).1
theorem drop_next {l : List Nat} {i c : Nat} {r : List Nat} (h : l.drop i = c :: r) : l.drop (i + 1) = r := by
  rw [← List.drop_drop, h] <;> rfl
theorem drop_nil {l : List Nat} {i : Nat} (h : l.drop i = []) : l.length ≤ i := by
  have := congrArg List.length h
  rw [List.length_drop] at this
  simp at this
  omega
theorem cut_mid {l : List Nat} {i n : Nat} : cutL l (some (i : Int)) (some ((i + n : Nat) : Int)) = (l.drop i).take n := by
  unfold cutL
  rw [HT.sIx_nat, HT.sIx_nat]
  by_cases h : i ≤ l.length
  · rw [Nat.min_eq_left h]
    by_cases h2 : i + n ≤ l.length
    · rw [Nat.min_eq_left h2, Nat.add_sub_cancel_left]
    · rw [Nat.min_eq_right (by omega), List.take_of_length_le (by rw [List.length_drop]; omega), List.take_of_length_le (by rw [List.length_drop]; omega)]
  · rw [Nat.min_eq_right (by omega), Nat.min_eq_right (by omega), List.drop_eq_nil_of_le (Nat.le_refl _), List.drop_eq_nil_of_le (by omega)]; simp
theorem in_sgn : ∀ c : Nat, c < 128 → (!(Builtin.Str.occurrences SGN (⟨#[c]⟩ : Str) 0 SGN.length 1).isEmpty) = decide (c ∈ SGN.cps.toList) := by decide +kernel
theorem sgn_lt : ∀ c ∈ SGN.cps.toList, c < 128 := by decide +kernel
theorem row_eq (c : Nat) : rowC c = ((smallC c || greatC c) || ((!decide (c < 48) && !decide (57 < c)) || decide (c = 95))) := by
  unfold rowC
  rw [Bool.eq_iff_iff]
  simp [or_assoc]
theorem text_eq (c : Nat) : textC c = (!decide (c < 32) && !decide (126 < c)) := by
  unfold textC
  rw [Bool.eq_iff_iff]
  simp
theorem tw_step {f : Nat → Bool} {c : Nat} {l : List Nat} (h : f c = true) : tw f (c :: l) = tw f l + 1 := by
  unfold tw; rw [List.takeWhile_cons, h] <;> rfl
theorem tw_stop {f : Nat → Bool} {c : Nat} {l : List Nat} (h : f c = false) : tw f (c :: l) = 0 := by
  unfold tw; rw [List.takeWhile_cons, h] <;> rfl
theorem tw_nil {f : Nat → Bool} : tw f [] = 0 := rfl
theorem one_eq {c d : Nat} : decide ((⟨#[c]⟩ : Str) = ⟨#[d]⟩) = decide (c = d) := by
  apply decide_eq_decide.mpr
  constructor
  · intro h; injection h with h; injection h with h; injection h
  · intro h; rw [h]
theorem str_arr (p : Str) : (⟨p.cps.toList.toArray⟩ : Str) = p := by cases p; rfl
theorem prs_hd : ∀ p ∈ PRS, ∃ d, p.cps.toList.head? = some d ∧ smallC d = false ∧ greatC d = false := by
  intro p hp
  rcases List.mem_cons.mp hp with rfl | hp
  · exact ⟨58, by decide +kernel, by decide, by decide⟩
  · rw [List.mem_singleton.mp hp]
    exact ⟨61, by decide +kernel, by decide, by decide⟩
theorem sgn_no : ∀ c ∈ SGN.cps.toList, smallC c = false ∧ greatC c = false := by decide +kernel
theorem two_no {c : Nat} {r : List Nat} (h : (⟨((c :: r).take 2).toArray⟩ : Str) ∈ PRS) : smallC c = false ∧ greatC c = false := by
  obtain ⟨d, hd, h1, h2⟩ := prs_hd _ h
  have e : (c :: r).take 2 = c :: r.take 1 := rfl
  rw [e] at hd
  cases hd
  exact ⟨h1, h2⟩
theorem tok_pair {c : Nat} {r : List Nat} {s : Str} {n : Nat} (ht : TokAt (c :: r) s n) (h : (⟨((c :: r).take 2).toArray⟩ : Str) ∈ PRS) : s = ⟨((c :: r).take 2).toArray⟩ ∧ n = 2 := by
  have hn := two_no h
  cases ht with
  | pair hp e => exact ⟨by rw [e, str_arr], rfl⟩
  | sign _ hno => exact absurd h hno
  | great hg => rw [hn.2] at hg; cases hg
  | small hg _ => rw [hn.1] at hg; cases hg
  | word hg _ => rw [hn.1] at hg; cases hg
theorem tok_sign {c : Nat} {r : List Nat} {s : Str} {n : Nat} (ht : TokAt (c :: r) s n) (h : (⟨((c :: r).take 2).toArray⟩ : Str) ∉ PRS) (hs : c ∈ SGN.cps.toList) : s = ⟨#[c]⟩ ∧ n = 1 := by
  have hn := sgn_no c hs
  cases ht with
  | pair hp e => exact absurd (by rw [e, str_arr]; exact hp) h
  | sign _ _ => exact ⟨rfl, rfl⟩
  | great hg => rw [hn.2] at hg; cases hg
  | small hg _ => rw [hn.1] at hg; cases hg
  | word hg _ => rw [hn.1] at hg; cases hg
theorem small_great {c : Nat} (h : smallC c = true) : greatC c = false := by
  unfold smallC at h
  unfold greatC
  simp at h ⊢
  omega
theorem tok_word {c : Nat} {r : List Nat} {s : Str} {n : Nat} (ht : TokAt (c :: r) s n) (h : (⟨((c :: r).take 2).toArray⟩ : Str) ∉ PRS) (hs : c ∉ SGN.cps.toList) :
    n = tw rowC (c :: r) ∧ ((greatC c = true ∧ s = "Name") ∨ (smallC c = true ∧ greatC c = false ∧ s = if (⟨((c :: r).take n).toArray⟩ : Str) ∈ WORDS then (⟨((c :: r).take n).toArray⟩ : Str) else "name")) := by
  cases ht with
  | pair hp e => exact absurd (by rw [e, str_arr]; exact hp) h
  | sign hs' _ => exact absurd hs' hs
  | great hg => exact ⟨rfl, .inl ⟨hg, rfl⟩⟩
  | small hg hw => exact ⟨rfl, .inr ⟨hg, small_great hg, by rw [if_neg hw]⟩⟩
  | word hg hw => exact ⟨rfl, .inr ⟨hg, small_great hg, by rw [if_pos hw]⟩⟩
theorem TokAt.nbad {r : List Nat} {s : Str} {n : Nat} (h : TokAt r s n) : s ≠ "bad" := by
  cases h with
  | pair hp _ =>
    have : ∀ p ∈ PRS, p ≠ "bad" := by decide +kernel
    exact this _ hp
  | sign _ _ =>
    intro e
    have := congrArg Str.length e
    exact absurd this (by
      show ¬ (1 = ("bad" : Str).length)
      decide +kernel)
  | great _ => decide +kernel
  | small _ _ => decide +kernel
  | word _ hw =>
    have : ∀ p ∈ WORDS, p ≠ "bad" := by decide +kernel
    exact this _ hw
theorem tw_remark {g r : List Nat} (hg : ∀ c ∈ g, textC c = true) (hr : r = [] ∨ ∃ r', r = 10 :: r') : tw textC (35 :: (g ++ r)) = g.length + 1 := by
  rw [tw_step (by decide)]
  congr 1
  induction g with
  | nil =>
    rcases hr with rfl | ⟨r', rfl⟩
    · rfl
    · exact tw_stop (by decide)
  | cons c g ih =>
    rw [List.cons_append, tw_step (hg c (List.mem_cons_self ..)), ih fun x hx => hg x (List.mem_cons_of_mem _ hx)] <;> rfl
end Lx
/-! The reader's place. -/
namespace Cu
open PySem L2 DL Syn Wr Lx
def cf (R : List D) (i k : Nat) : List (Str × D) := [("rows", .lst R), ("at", .int (i : Nat)), ("deep", .int (k : Nat))]
structure CurF (K : PySem.W.Frag) (C : Addr) : Prop where
  cls : Cls K C
  rows : NoAttr K C "rows"
  at_ : NoAttr K C "at"
  deep : NoAttr K C "deep"
/-- the reader at c stands at the i-th row, k things are open -/
structure At (C c : Addr) (toks : List (Str × Str)) (i k : Nat) (M : Mp) : Prop where
  ex : ∃ R, TokDs toks R ∧ M c = some (.ins C (cf R i k))
/-- words that stand for themselves -/
def SELF : List Str := ["kind", "var", "make", "act", "if", "then", "else", "do", "answer", "and", "or", "not", ":=", "==", "=", "|", ";", ":", ",", "(", ")", "{", "}"]
def sortOf (w : Str) : Str := if w ∈ SELF then w else match w.cps.toList with
  | c :: _ => if greatC c then "Name" else "name"
  | [] => "name"
def tokOf (w : Str) : Str × Str := (sortOf w, w)
theorem tok_self {w : Str} (h : w ∈ SELF := by decide +kernel) : tokOf w = (w, w) := by
  unfold tokOf sortOf
  rw [if_pos h]
theorem self_word : ∀ w ∈ SELF, w ∈ WORDS ∨ (w.cps.toList.all rowC = false) := by decide +kernel
theorem name_self {g : Bool} {w : Str} (h : NameOk g w) : w ∉ SELF := fun hs => by
  rcases self_word w hs with h1 | h1
  · exact h.nw h1
  · rw [List.all_eq_true.mpr h.all] at h1
    cases h1
theorem tok_name {g : Bool} {w : Str} (h : NameOk g w) : tokOf w = ((if g then ("Name" : Str) else "name"), w) := by
  unfold tokOf sortOf
  rw [if_neg (name_self h)]
  obtain ⟨c, r, e, hc⟩ := h.hd
  rw [e]
  cases g with
  | true => simp at hc; simp [hc]
  | false =>
    simp at hc
    simp [small_great hc]
theorem at_drop {toks : List (Str × Str)} {i : Nat} {t : Str × Str} {r : List (Str × Str)} (h : toks.drop i = t :: r) : toks[i]? = some t ∧ toks.drop (i + 1) = r := by
  constructor
  · have : (toks.drop i)[0]? = some t := by rw [h]; rfl
    rw [List.getElem?_drop] at this
    simpa using this
  · rw [← List.drop_drop, h] <;> rfl
/-- what stays while the reader goes on; the reader stands at i, k things are open -/
structure Rd (C c : Addr) (R : List D) (M : Mp) (i k : Nat) (M' : Mp) : Prop where
  cur : M' c = some (.ins C (cf R i k))
  rest : ∀ q o, q ≠ c → M q = some o → M' q = some o
section
variable {C c p : Addr} {R : List D} {M M' : Mp} {i k i' k' : Nat} {Q : DK} {d : D} {o : MO}
theorem Rd.start (h : M c = some (.ins C (cf R i k))) : Rd C c R M i k M := ⟨h, fun _ _ _ h => h⟩
theorem Rd.wk (h : Rd C c R M i k M') (q : Q d (updM M c (.ins C (cf R i k)))) : Wk Q d M' :=
  ⟨_, fun a o ha => by
    by_cases e : a = c
    · rw [e, updM_same] at ha; cases ha
      rw [e]; exact h.cur
    · rw [updM_ne e] at ha
      exact h.rest a o e ha, q⟩
theorem Rd.step (h : Rd C c R M i k M') : Rd C c R M i' k' (updM M' c (.ins C (cf R i' k'))) :=
  ⟨updM_same, fun q o hq ho => by rw [updM_ne hq]; exact h.rest q o hq ho⟩
theorem Rd.new (h : Rd C c R M i k M') (hp : M' p = none) : Rd C c R M i k (updM M' p o) :=
  ⟨by rw [updM_ne (neM h.cur hp)]; exact h.cur, fun q o' hq ho => by
    have := h.rest q o' hq ho
    rw [updM_ne (neM this hp)]; exact this⟩
theorem Rd.put (h : Rd C c R M i k M') (hp : M p = none) (hc : p ≠ c) : Rd C c R M i k (updM M' p o) :=
  ⟨by rw [updM_ne hc.symm]; exact h.cur, fun q o' hq ho => by
    rw [updM_ne (neM ho hp)]; exact h.rest q o' hq ho⟩
theorem Rd.fresh (h : Rd C c R M i k M') (hM : M c = some o) (hp : M' p = none) : M p = none ∧ p ≠ c := by
  have hc : p ≠ c := fun e => by rw [e, h.cur] at hp; cases hp
  refine ⟨?_, hc⟩
  cases e : M p with
  | none => rfl
  | some o' => rw [h.rest p o' hc e] at hp; cases hp
end
/-- of a row with commas, what is to come behind n things -/
def pend {α : Type} (f : α → List Str) (xs : List α) (n : Nat) : List Str := if n = 0 then commas (xs.map f) else (xs.drop n).flatMap fun x => (",":Str) :: f x
theorem pend_end {α : Type} {f : α → List Str} {xs : List α} {n : Nat} (h : xs.length ≤ n) : pend f xs n = [] := by
  unfold pend
  split
  · have : xs = [] := List.eq_nil_of_length_eq_zero (by omega)
    subst this; rfl
  · rw [List.drop_eq_nil_of_le h] <;> rfl
theorem pend_at {α : Type} {f : α → List Str} {xs : List α} {n : Nat} {x : α} (h : xs[n]? = some x) : pend f xs n = (if n = 0 then [] else [(",":Str)]) ++ (f x ++ pend f xs (n + 1)) := by
  have hd : xs.drop n = x :: xs.drop (n + 1) := by
    have hn : n < xs.length := (List.getElem?_eq_some_iff.mp h).1
    have e : xs[n] = x := (List.getElem?_eq_some_iff.mp h).2
    rw [← e]
    exact List.drop_eq_getElem_cons hn
  unfold pend
  rw [if_neg (Nat.succ_ne_zero n)]
  by_cases h0 : n = 0
  · subst h0
    rw [if_pos rfl, if_pos rfl]
    cases xs with
    | nil => cases h
    | cons y ys =>
      cases h
      show commas ((x :: ys).map f) = [] ++ (f x ++ (ys.flatMap fun x => (",":Str) :: f x))
      show f x ++ (ys.map f).flatMap (fun y => (",":Str) :: y) = f x ++ (ys.flatMap fun x => (",":Str) :: f x)
      rw [List.flatMap_map]
  · rw [if_neg h0, if_neg h0, hd, List.flatMap_cons] <;> rfl
def giv3 (g : Giv) : List Str := [g.1, ":", g.2]
end Cu
/-! How tests are read: frames of terms, a stack of them. -/
namespace Rt
open PySem L2 DL Syn Wr Lx Cu
structure Fr where
  ors : List Tst
  ands : List Tst
  nots : Nat
def gC : List Tst → Tst
  | [] => .same (.nm "") (.nm "")
  | t :: ts => ts.foldl Tst.con t
def gD : List Tst → Tst
  | [] => .same (.nm "") (.nm "")
  | t :: ts => ts.foldl Tst.dis t
theorem gC_one {t : Tst} : gC ([] ++ [t]) = t := rfl
theorem gD_one {t : Tst} : gD ([] ++ [t]) = t := rfl
theorem gC_snoc {A : List Tst} {x r : Tst} : gC (A ++ [x] ++ [r]) = .con (gC (A ++ [x])) r := by
  cases A with
  | nil => rfl
  | cons a A => simp [gC, List.foldl_append]
theorem gD_snoc {A : List Tst} {x r : Tst} : gD (A ++ [x] ++ [r]) = .dis (gD (A ++ [x])) r := by
  cases A with
  | nil => rfl
  | cons a A => simp [gD, List.foldl_append]
def negN : Nat → Tst → Tst
  | 0, t => t
  | n + 1, t => negN n (.neg t)
/-- brackets around -/
def rep (p : Nat) (w : List Str) : List Str := List.replicate p ("(" : Str) ++ (w ++ List.replicate p (")" : Str))
theorem rep_zero {w : List Str} : rep 0 w = w := by simp [rep]
theorem rep_succ {p : Nat} {w : List Str} : rep (p + 1) w = ("(" : Str) :: (rep p w ++ [(")" : Str)]) := by
  unfold rep
  rw [List.replicate_succ, List.replicate_succ' (n := p) (a := (")" : Str))]
  simp
/-- the tokens of a test, brackets as drawn -/
def TR : Tst → Nat → List Str → Prop
  | .same a b, _, ws => ∃ p, p ≤ 3 ∧ a.ok ∧ b.ok ∧ ws = rep p [a.s, ("==" : Str), b.s]
  | .neg u, _, ws => ∃ p w, p ≤ 3 ∧ TR u 3 w ∧ ws = rep p (("not" : Str) :: w)
  | .con l r, n, ws => ∃ p wl wr, p ≤ 3 ∧ (2 < n → 1 ≤ p) ∧ TR l 2 wl ∧ TR r 3 wr ∧ ws = rep p (wl ++ ("and" : Str) :: wr)
  | .dis l r, n, ws => ∃ p wl wr, p ≤ 3 ∧ (1 < n → 1 ≤ p) ∧ TR l 1 wl ∧ TR r 2 wr ∧ ws = rep p (wl ++ ("or" : Str) :: wr)
mutual
/-- ahead of a term -/
inductive Run (out : Tst) : Fr → List Fr → List Str → Prop where
  | not {O A : List Tst} {n : Nat} {s : List Fr} {ws : List Str} : Run out ⟨O, A, n + 1⟩ s ws → Run out ⟨O, A, n⟩ s (("not" : Str) :: ws)
  | open_ {f : Fr} {s : List Fr} {ws : List Str} : Run out ⟨[], [], 0⟩ (f :: s) ws → Run out f s (("(" : Str) :: ws)
  | term {f : Fr} {s : List Fr} {a b : Atom} {ws : List Str} : a.ok → b.ok → Put out f s (.same a b) ws → Run out f s (a.s :: ("==" : Str) :: b.s :: ws)
/-- a term is put -/
inductive Put (out : Tst) : Fr → List Fr → Tst → List Str → Prop where
  | and_ {O A : List Tst} {n : Nat} {s : List Fr} {t : Tst} {ws : List Str} : A.length < 50 → Run out ⟨O, A ++ [negN n t], 0⟩ s ws → Put out ⟨O, A, n⟩ s t (("and" : Str) :: ws)
  | or_ {O A : List Tst} {n : Nat} {s : List Fr} {t : Tst} {ws : List Str} : O.length < 50 → A.length < 50 → Run out ⟨O ++ [gC (A ++ [negN n t])], [], 0⟩ s ws → Put out ⟨O, A, n⟩ s t (("or" : Str) :: ws)
  | close {O A : List Tst} {n : Nat} {g : Fr} {s : List Fr} {t : Tst} {ws : List Str} : O.length < 50 → A.length < 50 → Put out g s (gD (O ++ [gC (A ++ [negN n t])])) ws → Put out ⟨O, A, n⟩ (g :: s) t ((")" : Str) :: ws)
  | done {O A : List Tst} {n : Nat} {t : Tst} : O.length < 50 → A.length < 50 → gD (O ++ [gC (A ++ [negN n t])]) = out → Put out ⟨O, A, n⟩ [] t []
end
theorem Put.neg {out : Tst} {O A : List Tst} {n : Nat} {s : List Fr} {u : Tst} {ws : List Str} (h : Put out ⟨O, A, n⟩ s (.neg u) ws) : Put out ⟨O, A, n + 1⟩ s u ws := by
  cases h with
  | and_ h1 h => exact .and_ h1 h
  | or_ h1 h2 h => exact .or_ h1 h2 h
  | close h1 h2 h => exact .close h1 h2 h
  | done h1 h2 h => exact .done h1 h2 h
section
variable {out : Tst}
/-- all of a bracket: its inner side -/
def In1 (out : Tst) (t : Tst) (w : List Str) : Prop := ∀ s ws', (∀ O A x, gD (O ++ [gC (A ++ [x])]) = t → O.length < nodes t → A.length < nodes t → Put out ⟨O, A, 0⟩ s x ws') → Run out ⟨[], [], 0⟩ s (w ++ ws')
def In2 (out : Tst) (t : Tst) (w : List Str) : Prop := ∀ O s ws', (∀ A x, gC (A ++ [x]) = t → A.length < nodes t → Put out ⟨O, A, 0⟩ s x ws') → Run out ⟨O, [], 0⟩ s (w ++ ws')
def In3 (out : Tst) (t : Tst) (w : List Str) : Prop := ∀ f s ws', Put out f s t ws' → Run out f s (w ++ ws')
theorem nodes_pos (t : Tst) : 1 ≤ nodes t := by cases t <;> (unfold nodes; omega)
theorem In3.two {t : Tst} {w : List Str} (h : In3 out t w) : In2 out t w := fun O s ws' k => h _ _ _ (k [] t rfl (nodes_pos t))
theorem In2.one {t : Tst} {w : List Str} (h : In2 out t w) : In1 out t w := fun s ws' k => h _ _ _ fun A x e hA => k [] A x (by rw [e] <;> rfl) (nodes_pos t) hA
/-- brackets -/
theorem brk {t : Tst} {w : List Str} (hn : nodes t < 50) (h : In1 out t w) : ∀ p, In1 out t (rep p w) ∧ In3 out t (rep (p + 1) w) := by
  have up : ∀ p, In1 out t (rep p w) → In3 out t (rep (p + 1) w) := fun p hp f s ws' k => by
    rw [rep_succ]
    show Run out f s (("(" : Str) :: (rep p w ++ [(")" : Str)] ++ ws'))
    rw [List.append_assoc]
    refine .open_ (hp _ _ fun O A x e hO hA => ?_)
    refine .close (by omega) (by omega) ?_
    show Put out f s (gD (O ++ [gC (A ++ [x])])) ws'
    rw [e]; exact k
  intro p
  induction p with
  | zero =>
    have h0 : In1 out t (rep 0 w) := by rw [rep_zero]; exact h
    exact ⟨h0, up 0 h0⟩
  | succ p ih => exact ⟨ih.2.two.one, up (p + 1) ih.2.two.one⟩
theorem inside : ∀ (t : Tst) (n : Nat) (ws : List Str), nodes t < 50 → TR t n ws → In1 out t ws ∧ (2 ≤ n → In2 out t ws) ∧ (3 ≤ n → In3 out t ws)
  | .same a b, n, ws, hn, h => by
    obtain ⟨p, _, ha, hb, rfl⟩ := h
    have base : In3 out (.same a b) [a.s, ("==" : Str), b.s] := fun f s ws' k => .term ha hb k
    cases p with
    | zero => rw [rep_zero]; exact ⟨base.two.one, fun _ => base.two, fun _ => base⟩
    | succ p =>
      have := (brk hn base.two.one p).2
      exact ⟨this.two.one, fun _ => this.two, fun _ => this⟩
  | .neg u, n, ws, hn, h => by
    obtain ⟨p, w, _, hu, rfl⟩ := h
    have hnu : nodes u < 50 := by unfold nodes at hn; omega
    have ih := (inside u 3 w hnu hu).2.2 (Nat.le_refl _)
    have base : In3 out (.neg u) (("not" : Str) :: w) := fun f s ws' k => by
      obtain ⟨O, A, m⟩ := f
      exact .not (ih _ _ _ k.neg)
    cases p with
    | zero => rw [rep_zero]; exact ⟨base.two.one, fun _ => base.two, fun _ => base⟩
    | succ p =>
      have := (brk hn base.two.one p).2
      exact ⟨this.two.one, fun _ => this.two, fun _ => this⟩
  | .con l r, n, ws, hn, h => by
    obtain ⟨p, wl, wr, _, hp, hl, hr, rfl⟩ := h
    have hn2 : nodes l + nodes r + 1 < 50 := hn
    have ihl := (inside l 2 wl (by omega) hl).2.1 (Nat.le_refl _)
    have ihr := (inside r 3 wr (by omega) hr).2.2 (Nat.le_refl _)
    have base : In2 out (.con l r) (wl ++ ("and" : Str) :: wr) := fun O s ws' k => by
      rw [List.append_assoc]
      refine ihl _ _ _ fun A x e hA => ?_
      refine .and_ (by omega) (ihr _ _ _ ?_)
      refine k (A ++ [x]) r (by rw [gC_snoc, e]) ?_
      show (A ++ [x]).length < nodes l + nodes r + 1
      rw [List.length_append, List.length_singleton]; omega
    cases p with
    | zero =>
      rw [rep_zero]
      exact ⟨base.one, fun _ => base, fun h3 => absurd (hp (by omega)) (by omega)⟩
    | succ p =>
      have := (brk hn base.one p).2
      exact ⟨this.two.one, fun _ => this.two, fun _ => this⟩
  | .dis l r, n, ws, hn, h => by
    obtain ⟨p, wl, wr, _, hp, hl, hr, rfl⟩ := h
    have hn2 : nodes l + nodes r + 1 < 50 := hn
    have ihl := (inside l 1 wl (by omega) hl).1
    have ihr := (inside r 2 wr (by omega) hr).2.1 (Nat.le_refl _)
    have base : In1 out (.dis l r) (wl ++ ("or" : Str) :: wr) := fun s ws' k => by
      rw [List.append_assoc]
      refine ihl _ _ fun O A x e hO hA => ?_
      refine .or_ (by omega) (by omega) (ihr _ _ _ fun A' x' e' hA' => ?_)
      refine k (O ++ [gC (A ++ [x])]) A' x' (by rw [gD_snoc, e, e']) ?_ ?_
      · show (O ++ [gC (A ++ [x])]).length < nodes l + nodes r + 1
        rw [List.length_append, List.length_singleton]; omega
      · show A'.length < nodes l + nodes r + 1
        omega
    cases p with
    | zero =>
      rw [rep_zero]
      exact ⟨base, fun h3 => absurd (hp (by omega)) (by omega), fun h3 => absurd (hp (by omega)) (by omega)⟩
    | succ p =>
      have := (brk hn base p).2
      exact ⟨this.two.one, fun _ => this.two, fun _ => this⟩
/-- all of a test is read to it -/
theorem run_all {t : Tst} {ws : List Str} (hn : nodes t < 50) (h : TR t 1 ws) : Run t ⟨[], [], 0⟩ [] ws := by
  have := (inside (out := t) t 1 ws hn h).1 [] [] fun O A x e hO hA => .done (by omega) (by omega) e
  rw [List.append_nil] at this
  exact this
end
/-! ### frames in the map -/
def rf (po pa : Addr) (n : Nat) : List (Str × D) := [("ors", .obj po), ("ands", .obj pa), ("nots", .int (n : Nat))]
structure RowF (K : PySem.W.Frag) (C : Addr) : Prop where
  cls : Cls K C
  ors : NoAttr K C "ors"
  ands : NoAttr K C "ands"
  nots : NoAttr K C "nots"
structure FrAt (C : Addr) (M : Mp) (r po pa : Addr) (f : Fr) : Prop where
  row : M r = some (.ins C (rf po pa f.nots))
  ors : M po = some (.lst (f.ors.map Tst.d))
  ands : M pa = some (.lst (f.ands.map Tst.d))
  ne : po ≠ pa
theorem FrAt.n1 {C : Addr} {M : Mp} {r po pa : Addr} {f : Fr} (h : FrAt C M r po pa f) : r ≠ po := fun e => by have := h.row; rw [e, h.ors] at this; cases this
theorem FrAt.n2 {C : Addr} {M : Mp} {r po pa : Addr} {f : Fr} (h : FrAt C M r po pa f) : r ≠ pa := fun e => by have := h.row; rw [e, h.ands] at this; cases this
/-- what a term does to the frame -/
structure PutR (CC CR c r po pa : Addr) (R : List D) (i k : Nat) (s : Str) (O A : List Tst) (t' : Tst) (M : Mp) (b : Bool) (i' : Nat) (f' : Fr) (pa' : Addr) (M' : Mp) : Prop where
  way : (s = "and" ∧ b = false ∧ i' = i + 1 ∧ f' = ⟨O, A ++ [t'], 0⟩ ∧ pa' = pa) ∨ (s ≠ "and" ∧ s = "or" ∧ b = false ∧ i' = i + 1 ∧ f' = ⟨O ++ [gC (A ++ [t'])], [], 0⟩ ∧ M pa' = none) ∨ (s ≠ "and" ∧ s ≠ "or" ∧ b = true ∧ i' = i ∧ f' = ⟨O ++ [gC (A ++ [t'])], [], 0⟩ ∧ M pa' = none)
  cur : M' c = some (.ins CC (cf R i' k))
  fr : FrAt CR M' r po pa' f'
  keep : ∀ q o, q ≠ c → q ≠ r → q ≠ po → q ≠ pa → M q = some o → M' q = some o
theorem gC_cons {A : List Tst} {x : Tst} : ∃ t ts, A ++ [x] = t :: ts ∧ gC (A ++ [x]) = ts.foldl Tst.con t := by
  cases A with
  | nil => exact ⟨x, [], rfl, rfl⟩
  | cons a A => exact ⟨a, A ++ [x], rfl, rfl⟩
theorem gD_cons {A : List Tst} {x : Tst} : ∃ t ts, A ++ [x] = t :: ts ∧ gD (A ++ [x]) = ts.foldl Tst.dis t := by
  cases A with
  | nil => exact ⟨x, [], rfl, rfl⟩
  | cons a A => exact ⟨a, A ++ [x], rfl, rfl⟩
/-! ### the stack of frames in the map -/
abbrev A3 : Type := Addr × Addr × Addr
def fl (as : List A3) : List Addr := as.flatMap fun a => [a.1, a.2.1, a.2.2]
inductive Stk (CR : Addr) (M : Mp) : List A3 → List Fr → Prop where
  | nil : Stk CR M [] []
  | cons {a : A3} {f : Fr} {as : List A3} {fs : List Fr} : FrAt CR M a.1 a.2.1 a.2.2 f → Stk CR M as fs → Stk CR M (a :: as) (f :: fs)
theorem Stk.keep {CR : Addr} {M M' : Mp} {as : List A3} {fs : List Fr} (h : Stk CR M as fs) (k : ∀ q ∈ fl as, ∀ o, M q = some o → M' q = some o) : Stk CR M' as fs := by
  induction h with
  | nil => exact .nil
  | @cons a f as fs h _ ih =>
    refine .cons ⟨k _ ?_ _ h.row, k _ ?_ _ h.ors, k _ ?_ _ h.ands, h.ne⟩ (ih fun q hq => k q ?_)
    · simp [fl]
    · simp [fl]
    · simp [fl]
    · unfold fl at hq ⊢
      rw [List.flatMap_cons]
      exact List.mem_append_right _ hq
/-- what is open within a test -/
def deepS : List Fr → Nat
  | [] => 0
  | g :: s => g.nots + 1 + deepS s
/-- the words that open -/
def cnt (ws : List Str) : Nat := (ws.filter fun w : Str => decide (w = ("(" : Str)) || decide (w = ("not" : Str))).length
/-- the reader of a test at work -/
structure Inv (CC CR c pl : Addr) (R : List D) (M0 : Mp) (i k : Nat) (f : Fr) (a : A3) (s : List Fr) (as : List A3) (M : Mp) : Prop where
  cur : M c = some (.ins CC (cf R i (k + f.nots + deepS s)))
  fr : FrAt CR M a.1 a.2.1 a.2.2 f
  stk : Stk CR M as s
  lst : M pl = some (.lst ((as.map fun a => D.obj a.1).reverse))
  nd : (c :: pl :: (fl (a :: as))).Nodup
  new : ∀ q ∈ pl :: fl (a :: as), M0 q = none
  old : ∀ q o, q ≠ c → M0 q = some o → M q = some o
theorem Stk.there {CR : Addr} {M : Mp} {as : List A3} {fs : List Fr} (h : Stk CR M as fs) : ∀ q ∈ fl as, ∃ o, M q = some o := by
  induction h with
  | nil => intro q hq; cases hq
  | @cons a f as fs h _ ih =>
    intro q hq
    unfold fl at hq
    rw [List.flatMap_cons] at hq
    rcases List.mem_append.mp hq with hq | hq
    · simp only [List.mem_cons, List.not_mem_nil, or_false] at hq
      rcases hq with rfl | rfl | rfl
      · exact ⟨_, h.row⟩
      · exact ⟨_, h.ors⟩
      · exact ⟨_, h.ands⟩
    · exact ih q hq
section
variable {CC CR c pl r po pa pa' : Addr} {R : List D} {M0 M M' : Mp} {i k i' : Nat} {f f' : Fr} {a : A3} {s : List Fr} {as : List A3} {s0 : Str} {t' : Tst} {b : Bool}
theorem fl_cons {a : A3} {as : List A3} : fl (a :: as) = a.1 :: a.2.1 :: a.2.2 :: fl as := rfl
theorem Inv.put (I : Inv CC CR c pl R M0 i k f (r, po, pa) s as M) (h : PutR CC CR c r po pa R i (k + deepS s) s0 f.ors f.ands t' M b i' f' pa' M') : Inv CC CR c pl R M0 i' k f' (r, po, pa') s as M' := by
  have hnd := I.nd
  rw [fl_cons] at hnd
  simp only [List.nodup_cons, List.mem_cons, not_or] at hnd
  obtain ⟨⟨c1, c2, c3, c4, c5⟩, ⟨p1, p2, p3, p4⟩, ⟨r1, r2, r3⟩, ⟨q1, q2⟩, a1, hn⟩ := hnd
  have hfn : f'.nots = 0 := by
    rcases h.way with ⟨_, _, _, e, _⟩ | ⟨_, _, _, _, e, _⟩ | ⟨_, _, _, _, e, _⟩ <;> rw [e]
  have keep : ∀ q o, q ∈ fl as → M q = some o → M' q = some o := fun q o hq ho =>
    h.keep q o (fun e => c5 (e ▸ hq)) (fun e => r3 (e ▸ hq)) (fun e => q2 (e ▸ hq)) (fun e => a1 (e ▸ hq)) ho
  have hpa : pa' = pa ∨ M pa' = none := by
    rcases h.way with ⟨_, _, _, _, e⟩ | ⟨_, _, _, _, _, e⟩ | ⟨_, _, _, _, _, e⟩
    · exact .inl e
    · exact .inr e
    · exact .inr e
  have fresh : ∀ q o, M q = some o → q ≠ pa → q ≠ pa' := fun q o ho hq e => by
    rcases hpa with e2 | e2
    · exact hq (e.trans e2)
    · rw [e, e2] at ho; cases ho
  have hfr : FrAt CR M r po pa f := I.fr
  refine ⟨?_, h.fr, I.stk.keep fun q hq o ho => keep q o hq ho, ?_, ?_, ?_, ?_⟩
  · have := h.cur
    rw [hfn, Nat.add_zero]; exact this
  · exact h.keep pl _ (fun e => c1 e.symm) p1 p2 p3 I.lst
  · rw [fl_cons]
    simp only [List.nodup_cons, List.mem_cons, not_or]
    refine ⟨⟨c1, c2, c3, fresh c _ I.cur c4, c5⟩, ⟨p1, p2, fresh pl _ I.lst p3, p4⟩, ⟨r1, fresh r _ hfr.row r2, r3⟩, ⟨fresh po _ hfr.ors q1, q2⟩, ?_, hn⟩
    intro hm
    rcases hpa with e | e
    · rw [e] at hm; exact a1 hm
    · obtain ⟨o, ho⟩ := I.stk.there _ hm
      rw [e] at ho; cases ho
  · intro q hq
    rw [fl_cons] at hq
    simp only [List.mem_cons] at hq
    have nw := I.new
    rcases hq with e | e | e | e | e
    · exact nw q (by rw [e]; exact List.mem_cons_self ..)
    · exact nw q (by rw [e, fl_cons]; simp)
    · exact nw q (by rw [e, fl_cons]; simp)
    · rcases hpa with e2 | e2
      · exact nw q (by rw [e, e2, fl_cons]; simp)
      · cases e3 : M0 q with
        | none => rfl
        | some o =>
          have hqc : q ≠ c := fun e4 => by
            rw [e] at e4
            rw [e4, I.cur] at e2; cases e2
          have := I.old q o hqc e3
          rw [e, e2] at this; cases this
    · exact nw q (by rw [fl_cons]; simp [e])
  · intro q o hq ho
    have h1 := I.old q o hq ho
    have nn : ∀ x ∈ pl :: fl ((r, po, pa) :: as), q ≠ x := fun x hx e => by
      have := I.new x hx
      rw [← e, ho] at this; cases this
    exact h.keep q o hq (nn r (by rw [fl_cons]; simp)) (nn po (by rw [fl_cons]; simp)) (nn pa (by rw [fl_cons]; simp)) h1
/-- what a put term leaves to do -/
theorem put_next {out : Tst} {O A : List Tst} {n : Nat} {s : List Fr} {t : Tst} {ws : List Str} {rest : List (Str × Str)} {M M' : Mp} (h : Put out ⟨O, A, n⟩ s t ws) (hr : ∃ x r, rest = x :: r ∧ x.1 ≠ "and" ∧ x.1 ≠ "or") {u : Str}
    (h0 : (ws.map tokOf ++ rest)[0]? = some (s0, u)) (P : PutR CC CR c r po pa R i k s0 O A (negN n t) M b i' f' pa' M') :
    (b = false ∧ ∃ w0 ws', ws = w0 :: ws' ∧ i' = i + 1 ∧ Run out f' s ws' ∧ w0 ≠ "(" ∧ w0 ≠ "not") ∨
    (b = true ∧ i' = i ∧ f' = ⟨O ++ [gC (A ++ [negN n t])], [], 0⟩ ∧ O.length < 50 ∧ ((s = [] ∧ ws = [] ∧ gD f'.ors = out) ∨ ∃ g s' ws', s = g :: s' ∧ ws = (")" : Str) :: ws' ∧ Put out g s' (gD f'.ors) ws')) := by
  have eand : tokOf ("and" : Str) = (("and" : Str), ("and" : Str)) := tok_self
  have eor : tokOf ("or" : Str) = (("or" : Str), ("or" : Str)) := tok_self
  have ecl : tokOf (")" : Str) = ((")" : Str), (")" : Str)) := tok_self
  cases h with
  | and_ hA h =>
    rw [List.map_cons, eand] at h0
    cases h0
    rcases P.way with ⟨_, e1, e2, e3, _⟩ | ⟨e, _⟩ | ⟨e, _⟩
    · exact .inl ⟨e1, _, _, rfl, e2, by rw [e3]; exact h, by decide +kernel, by decide +kernel⟩
    · exact absurd rfl e
    · exact absurd rfl e
  | or_ hO hA h =>
    rw [List.map_cons, eor] at h0
    cases h0
    rcases P.way with ⟨e, _⟩ | ⟨_, _, e1, e2, e3, _⟩ | ⟨_, e, _⟩
    · exact absurd e (by decide +kernel)
    · exact .inl ⟨e1, _, _, rfl, e2, by rw [e3]; exact h, by decide +kernel, by decide +kernel⟩
    · exact absurd rfl e
  | close hO hA h =>
    rw [List.map_cons, ecl] at h0
    cases h0
    rcases P.way with ⟨e, _⟩ | ⟨_, e, _⟩ | ⟨_, _, e1, e2, e3, _⟩
    · exact absurd e (by decide +kernel)
    · exact absurd e (by decide +kernel)
    · exact .inr ⟨e1, e2, e3, hO, .inr ⟨_, _, _, rfl, rfl, by rw [e3]; exact h⟩⟩
  | done hO hA h =>
    obtain ⟨x, r, e, n1, n2⟩ := hr
    rw [e] at h0
    cases h0
    rcases P.way with ⟨e, _⟩ | ⟨_, e, _⟩ | ⟨_, _, e1, e2, e3, _⟩
    · exact absurd e n1
    · exact absurd e n2
    · exact .inr ⟨e1, e2, e3, hO, .inl ⟨rfl, rfl, by rw [e3]; exact h⟩⟩
end
section
variable {CC CR c pl r po pa : Addr} {R : List D} {M0 M M' : Mp} {i k i' : Nat} {O A : List Tst} {n : Nat} {f : Fr} {s : List Fr} {as : List A3}
/-- the reader goes on by a row -/
theorem Inv.next {a : A3} (I : Inv CC CR c pl R M0 i k f a s as M) : Inv CC CR c pl R M0 i' k f a s as (updM M c (.ins CC (cf R i' (k + f.nots + deepS s)))) := by
  have hnd := I.nd
  rw [fl_cons] at hnd
  simp only [List.nodup_cons, List.mem_cons, not_or] at hnd
  obtain ⟨⟨c1, c2, c3, c4, c5⟩, _⟩ := hnd
  have u : ∀ {q : Addr} {o : MO}, c ≠ q → updM M c o q = M q := fun h => updM_ne h.symm
  exact ⟨updM_same, ⟨by rw [u c2]; exact I.fr.row, by rw [u c3]; exact I.fr.ors, by rw [u c4]; exact I.fr.ands, I.fr.ne⟩, I.stk.keep fun q hq o ho => by rw [u fun e => c5 (by rw [e]; exact hq)]; exact ho, by rw [u c1]; exact I.lst, I.nd, I.new, fun q o hq ho => by rw [updM_ne hq]; exact I.old q o hq ho⟩
theorem Inv.not (I : Inv CC CR c pl R M0 i k ⟨O, A, n⟩ (r, po, pa) s as M) : Inv CC CR c pl R M0 i' k ⟨O, A, n + 1⟩ (r, po, pa) s as (updM (updM M c (.ins CC (cf R i' (k + n + deepS s + 1)))) r (.ins CR (rf po pa (n + 1)))) := by
  have hnd := I.nd
  rw [fl_cons] at hnd
  simp only [List.nodup_cons, List.mem_cons, not_or] at hnd
  obtain ⟨⟨c1, c2, c3, c4, c5⟩, ⟨p1, p2, p3, p4⟩, ⟨r1, r2, r3⟩, _⟩ := hnd
  have u : ∀ {q : Addr} {o u : MO}, c ≠ q → r ≠ q → updM (updM M c o) r u q = M q := fun h h' => by rw [updM_ne h'.symm, updM_ne h.symm]
  refine ⟨?_, ⟨updM_same, by rw [u c3 r1]; exact I.fr.ors, by rw [u c4 r2]; exact I.fr.ands, I.fr.ne⟩, I.stk.keep fun q hq o ho => by rw [u (fun e => c5 (by rw [e]; exact hq)) (fun e => r3 (by rw [e]; exact hq))]; exact ho, by rw [u c1 (fun e => p1 e.symm)]; exact I.lst, I.nd, I.new, fun q o hq ho => ?_⟩
  · rw [updM_ne c2, updM_same]
    show some (MO.ins CC (cf R i' (k + n + deepS s + 1))) = some (.ins CC (cf R i' (k + (n + 1) + deepS s)))
    rw [show k + n + deepS s + 1 = k + (n + 1) + deepS s by omega]
  · have hr : q ≠ r := fun e => by
      have := I.new r (by rw [fl_cons]; simp)
      rw [← e, ho] at this; cases this
    rw [updM_ne hr, updM_ne hq]; exact I.old q o hq ho
theorem Inv.open_ {a : A3} {x po' pa' : Addr} (I : Inv CC CR c pl R M0 i k f a s as M) {M2 : Mp} (e2 : M2 = updM (updM M c (.ins CC (cf R i' (k + f.nots + deepS s + 1)))) pl (.lst ((as.map fun a => D.obj a.1).reverse ++ [.obj a.1])))
    (hx : M2 x = none) (hpo : updM M2 x (.ins CR []) po' = none) (hpa : updM M2 x (.ins CR []) pa' = none) (hf : FrAt CR M' x po' pa' ⟨[], [], 0⟩) (hk : ∀ q o, q ≠ x → updM M2 x (.ins CR []) q = some o → M' q = some o) :
    Inv CC CR c pl R M0 i' k ⟨[], [], 0⟩ (x, po', pa') (f :: s) (a :: as) M' := by
  have I2 := I.nd
  rw [List.nodup_cons, List.nodup_cons] at I2
  obtain ⟨hc, hp, hn⟩ := I2
  rw [List.mem_cons, not_or] at hc
  obtain ⟨c1, hc⟩ := hc
  -- what stands in M2
  have s2 : Stk CR M2 (a :: as) (f :: s) := by
    refine (Stk.cons I.fr I.stk).keep fun q hq o ho => ?_
    rw [e2, updM_ne (show q ≠ pl from fun e => hp (by rw [← e]; exact hq)), updM_ne (show q ≠ c from fun e => hc (by rw [← e]; exact hq))]; exact ho
  have cu2 : M2 c = some (.ins CC (cf R i' (k + f.nots + deepS s + 1))) := by rw [e2, updM_ne c1, updM_same]
  have l2 : M2 pl = some (.lst ((as.map fun a => D.obj a.1).reverse ++ [.obj a.1])) := by rw [e2, updM_same]
  have old2 : ∀ q o, q ≠ c → M0 q = some o → M2 q = some o := fun q o hq ho => by
    have hpl : q ≠ pl := fun e => by
      have := I.new pl (List.mem_cons_self ..)
      rw [← e, ho] at this; cases this
    rw [e2, updM_ne hpl, updM_ne hq]; exact I.old q o hq ho
  have nx : ∀ {q : Addr} {o : MO}, M2 q = some o → q ≠ x := fun h => neM h hx
  have k2 : ∀ {q : Addr} {o : MO}, M2 q = some o → M' q = some o := fun h => hk _ _ (nx h) (by rw [updM_ne (nx h)]; exact h)
  have npo : ∀ {q : Addr} {o : MO}, M2 q = some o → q ≠ po' := fun h e => by
    rw [← e, updM_ne (nx h), h] at hpo; cases hpo
  have npa : ∀ {q : Addr} {o : MO}, M2 q = some o → q ≠ pa' := fun h e => by
    rw [← e, updM_ne (nx h), h] at hpa; cases hpa
  have xpo : x ≠ po' := fun e => by rw [← e, updM_same] at hpo; cases hpo
  have xpa : x ≠ pa' := fun e => by rw [← e, updM_same] at hpa; cases hpa
  have fresh0 : ∀ q, q ≠ c → (M2 q = none) → M0 q = none := fun q hq h => by
    cases e : M0 q with
    | none => rfl
    | some o => rw [old2 q o hq e] at h; cases h
  refine ⟨?_, hf, s2.keep fun q hq o ho => k2 ho, ?_, ?_, ?_, fun q o hq ho => k2 (old2 q o hq ho)⟩
  · rw [k2 cu2]
    show some (MO.ins CC (cf R i' (k + f.nots + deepS s + 1))) = some (.ins CC (cf R i' (k + 0 + (f.nots + 1 + deepS s))))
    rw [show k + f.nots + deepS s + 1 = k + 0 + (f.nots + 1 + deepS s) by omega]
  · rw [k2 l2, List.map_cons, List.reverse_cons]
  · rw [fl_cons]
    have t2 := s2.there
    have notx : x ∉ fl (a :: as) := fun h => by obtain ⟨o, ho⟩ := t2 _ h; exact nx ho rfl
    have notpo : po' ∉ fl (a :: as) := fun h => by obtain ⟨o, ho⟩ := t2 _ h; exact npo ho rfl
    have notpa : pa' ∉ fl (a :: as) := fun h => by obtain ⟨o, ho⟩ := t2 _ h; exact npa ho rfl
    simp only [List.nodup_cons, List.mem_cons, not_or]
    exact ⟨⟨c1, nx cu2, npo cu2, npa cu2, hc⟩, ⟨nx l2, npo l2, npa l2, hp⟩, ⟨xpo, xpa, notx⟩, ⟨hf.ne, notpo⟩, notpa, hn⟩
  · intro q hq
    rw [fl_cons] at hq
    simp only [List.mem_cons] at hq
    have n2 : ∀ {q : Addr}, q ≠ x → updM M2 x (.ins CR []) q = none → M2 q = none := fun h h2 => by rw [updM_ne h] at h2; exact h2
    rcases hq with e | e | e | e | e
    · rw [e]; exact I.new pl (List.mem_cons_self ..)
    · rw [e]; exact fresh0 _ (fun e => nx cu2 e.symm) hx
    · rw [e]; exact fresh0 _ (fun e => npo cu2 e.symm) (n2 xpo.symm hpo)
    · rw [e]; exact fresh0 _ (fun e => npa cu2 e.symm) (n2 xpa.symm hpa)
    · exact I.new q (List.mem_cons_of_mem _ e)
end
theorem Stk.len {CR : Addr} {M : Mp} {as : List A3} {fs : List Fr} (h : Stk CR M as fs) : as.length = fs.length := by
  induction h with
  | nil => rfl
  | cons _ _ ih => simp [ih]
theorem deepS_len : ∀ s : List Fr, s.length ≤ deepS s
  | [] => Nat.le_refl _
  | g :: s => by
    have := deepS_len s
    unfold deepS
    rw [List.length_cons]; omega
section
variable {CC CR c pl : Addr} {R : List D} {M0 M M' : Mp} {i k i' : Nat} {f g : Fr} {a a' : A3} {s : List Fr} {as : List A3}
theorem Inv.pop (I : Inv CC CR c pl R M0 i k f a (g :: s) (a' :: as) M) : Inv CC CR c pl R M0 i' k g a' s as (updM (updM M c (.ins CC (cf R i' (k + g.nots + deepS s)))) pl (.lst ((as.map fun a => D.obj a.1).reverse))) := by
  have I2 := I.nd
  rw [fl_cons] at I2
  simp only [List.nodup_cons, List.mem_cons, not_or] at I2
  obtain ⟨⟨c1, _, _, _, c5⟩, ⟨_, _, _, p4⟩, _, _, _, hn⟩ := I2
  have u : ∀ {q : Addr}, q ∈ fl (a' :: as) → ∀ {o o' : MO}, updM (updM M c o) pl o' q = M q := fun hq => by
    intro o o'
    rw [updM_ne (fun e => p4 (by rw [← e]; exact hq)), updM_ne (fun e => c5 (by rw [← e]; exact hq))]
  have st : Stk CR (updM (updM M c (.ins CC (cf R i' (k + g.nots + deepS s)))) pl (.lst ((as.map fun a => D.obj a.1).reverse))) (a' :: as) (g :: s) := I.stk.keep fun q hq o ho => by rw [u hq]; exact ho
  cases st with
  | cons h1 h2 =>
    refine ⟨by rw [updM_ne c1, updM_same], h1, h2, updM_same, ?_, fun q hq => I.new q ?_, fun q o hq ho => ?_⟩
    · simp only [List.nodup_cons, List.mem_cons, not_or]
      exact ⟨⟨c1, c5⟩, p4, hn⟩
    · rcases List.mem_cons.mp hq with e | e
      · rw [e]; exact List.mem_cons_self ..
      · rw [fl_cons]; simp [e]
    · have hpl : q ≠ pl := fun e => by
        have := I.new pl (List.mem_cons_self ..)
        rw [← e, ho] at this; cases this
      rw [updM_ne hpl, updM_ne hq]; exact I.old q o hq ho
theorem atom_tok {x : Atom} (h : x.ok) : ∃ sx, tokOf x.s = (sx, x.s) ∧ sx ≠ "not" ∧ sx ≠ "(" := by
  cases x with
  | nm s => exact ⟨"name", tok_name (g := false) h, by decide +kernel, by decide +kernel⟩
  | vl s => exact ⟨"Name", tok_name (g := true) h, by decide +kernel, by decide +kernel⟩
/-- the word at the place behind rows -/
theorem head_tok {toks rest : List (Str × Str)} {ws : List Str} {i : Nat} (hd : toks.drop i = ws.map tokOf ++ rest) (hr : ∃ x r, rest = x :: r ∧ x.1 ≠ "and" ∧ x.1 ≠ "or") : ∃ s u, toks[i]? = some (s, u) ∧ (ws.map tokOf ++ rest)[0]? = some (s, u) := by
  obtain ⟨x, r, e, _⟩ := hr
  obtain ⟨t, l, e2⟩ : ∃ t l, ws.map tokOf ++ rest = t :: l := by
    cases ws with
    | nil => exact ⟨x, r, e⟩
    | cons w ws => exact ⟨_, _, rfl⟩
  rw [e2] at hd ⊢
  exact ⟨t.1, t.2, (at_drop hd).1, rfl⟩
end
theorem Inv.cr {CC CR c pl : Addr} {R : List D} {M0 M : Mp} {i k : Nat} {f : Fr} {a : A3} {s : List Fr} {as : List A3} (I : Inv CC CR c pl R M0 i k f a s as M) : c ≠ a.1 := by
  have h := I.nd
  rw [fl_cons] at h
  simp only [List.nodup_cons, List.mem_cons, not_or] at h
  exact h.1.2.1
theorem put_len {out : Tst} {O A : List Tst} {n : Nat} {s : List Fr} {t : Tst} {ws : List Str} {rest : List (Str × Str)} (h : Put out ⟨O, A, n⟩ s t ws) {s0 u : Str} (h0 : (ws.map tokOf ++ rest)[0]? = some (s0, u)) : A.length < 50 ∧ (s0 ≠ "and" → O.length < 50) := by
  cases h with
  | and_ hA h =>
    refine ⟨hA, fun hs => ?_⟩
    rw [List.map_cons, show tokOf ("and" : Str) = (("and" : Str), ("and" : Str)) from tok_self] at h0
    cases h0
    exact absurd rfl hs
  | or_ hO hA h => exact ⟨hA, fun _ => hO⟩
  | close hO hA h => exact ⟨hA, fun _ => hO⟩
  | done hO hA h => exact ⟨hA, fun _ => hO⟩
/-- behind a put term -/
def Aft (out : Tst) (b : Bool) (f : Fr) (s : List Fr) (ws : List Str) : Prop :=
  (b = false ∧ Run out f s ws) ∨ (b = true ∧ f.nots = 0 ∧ (∃ O x, f.ors = O ++ [x] ∧ O.length < 50) ∧ ((s = [] ∧ ws = [] ∧ gD f.ors = out) ∨ ∃ g s' w2, s = g :: s' ∧ ws = (")" : Str) :: w2 ∧ Put out g s' (gD f.ors) w2))
theorem cnt_tail {w : Str} {ws : List Str} : cnt ws ≤ cnt (w :: ws) := by
  unfold cnt
  exact List.Sublist.length_le (List.Sublist.filter _ ((List.Sublist.refl ws).cons w))
theorem put_aft {CC CR c r po pa pa' : Addr} {R : List D} {M M' : Mp} {i k i' : Nat} {f' : Fr} {s0 : Str} {b : Bool} {out : Tst} {O A : List Tst} {n : Nat} {s : List Fr} {t : Tst} {ws : List Str} {toks rest : List (Str × Str)} (h : Put out ⟨O, A, n⟩ s t ws) (hr : ∃ x r, rest = x :: r ∧ x.1 ≠ "and" ∧ x.1 ≠ "or") {u : Str}
    (h0 : (ws.map tokOf ++ rest)[0]? = some (s0, u)) (P : PutR CC CR c r po pa R i k s0 O A (negN n t) M b i' f' pa' M') (hd : toks.drop i = ws.map tokOf ++ rest) :
    f'.nots = 0 ∧ ∃ ws1, Aft out b f' s ws1 ∧ toks.drop i' = ws1.map tokOf ++ rest ∧ ws1.length ≤ ws.length ∧ i' + ws1.length = i + ws.length ∧ cnt ws1 ≤ cnt ws := by
  have hn : f'.nots = 0 := by
    rcases P.way with ⟨_, _, _, e, _⟩ | ⟨_, _, _, _, e, _⟩ | ⟨_, _, _, _, e, _⟩ <;> rw [e]
  refine ⟨hn, ?_⟩
  rcases put_next h hr h0 P with ⟨e1, w0, ws', rfl, e2, hrun, _, _⟩ | ⟨e1, e2, e3, hO, hc⟩
  · refine ⟨ws', .inl ⟨e1, hrun⟩, ?_, by simp, by rw [e2, List.length_cons]; omega, cnt_tail⟩
    rw [e2]
    exact (at_drop hd).2
  · refine ⟨ws, .inr ⟨e1, hn, ⟨O, _, by rw [e3], hO⟩, hc⟩, by rw [e2]; exact hd, Nat.le_refl _, by rw [e2], Nat.le_refl _⟩
end Rt
/-! How values are read: a stack of tests with a first value, or none yet. -/
namespace Rv
open PySem L2 DL Syn Wr Lx Cu Rt
/-- the tokens of a value -/
def VT : Val → List Str → Prop
  | .at a, ws => a.ok ∧ ws = [a.s]
  | .ite t x y, ws => ∃ wt wx wy, TR t 1 wt ∧ nodes t < 50 ∧ VT x wx ∧ VT y wy ∧ ws = ("if" : Str) :: (wt ++ ("then" : Str) :: (wx ++ ("else" : Str) :: wy))
abbrev Ct : Type := Tst × Option Val
def ctO : Option Val → D
  | none => .non
  | some v => v.d
def ctD (c : Ct) : D := .tup [c.1.d, ctO c.2]
mutual
inductive VRun (out : Val) : List Ct → List Str → Prop where
  | if_ {s : List Ct} {t : Tst} {wt ws : List Str} : TR t 1 wt → nodes t < 50 → VRun out ((t, none) :: s) ws → VRun out s (("if" : Str) :: (wt ++ ("then" : Str) :: ws))
  | atom {s : List Ct} {a : Atom} {ws : List Str} : a.ok → VPut out s (.at a) ws → VRun out s (a.s :: ws)
inductive VPut (out : Val) : List Ct → Val → List Str → Prop where
  | fin : VPut out [] out []
  | close {s : List Ct} {t : Tst} {x v : Val} {ws : List Str} : VPut out s (.ite t x v) ws → VPut out ((t, some x) :: s) v ws
  | else_ {s : List Ct} {t : Tst} {v : Val} {ws : List Str} : VRun out ((t, some v) :: s) ws → VPut out ((t, none) :: s) v (("else" : Str) :: ws)
end
theorem vinside {out : Val} : ∀ (v : Val) (ws : List Str), VT v ws → ∀ s ws', VPut out s v ws' → VRun out s (ws ++ ws')
  | .at a, ws, h, s, ws', k => by
    obtain ⟨ha, rfl⟩ := h
    exact .atom ha k
  | .ite t x y, ws, h, s, ws', k => by
    obtain ⟨wt, wx, wy, ht, hn, hx, hy, rfl⟩ := h
    have e : ("if" : Str) :: (wt ++ ("then" : Str) :: (wx ++ ("else" : Str) :: wy)) ++ ws' = ("if" : Str) :: (wt ++ ("then" : Str) :: (wx ++ (("else" : Str) :: (wy ++ ws')))) := by simp
    rw [e]
    exact .if_ ht hn (vinside x wx hx _ _ (.else_ (vinside y wy hy _ _ (.close k))))
theorem vrun_all {v : Val} {ws : List Str} (h : VT v ws) : VRun v [] ws := by
  have := vinside (out := v) v ws h [] [] .fin
  rw [List.append_nil] at this
  exact this
/-- the words that open, ifs too -/
def vcnt (ws : List Str) : Nat := (ws.filter fun w : Str => decide (w = ("(" : Str)) || (decide (w = ("not" : Str)) || decide (w = ("if" : Str)))).length
theorem vcnt_app (a b : List Str) : vcnt (a ++ b) = vcnt a + vcnt b := by
  unfold vcnt
  rw [List.filter_append, List.length_append]
theorem cnt_vcnt (ws : List Str) : cnt ws ≤ vcnt ws := by
  unfold cnt vcnt
  induction ws with
  | nil => exact Nat.le_refl _
  | cons w ws ih =>
    rw [List.filter_cons, List.filter_cons]
    by_cases h1 : w = "("
    · rw [if_pos (by simp [h1]), if_pos (by simp [h1])]; simp; exact ih
    · by_cases h2 : w = "not"
      · rw [if_pos (by simp [h2]), if_pos (by simp [h2])]; simp; exact ih
      · rw [if_neg (by simp [h1, h2])]
        split
        · simp; omega
        · exact ih
theorem vcnt_if {ws : List Str} : vcnt (("if" : Str) :: ws) = vcnt ws + 1 := by
  unfold vcnt
  rw [List.filter_cons, if_pos (by decide +kernel)] <;> rfl
theorem vcnt_tail {w : Str} {ws : List Str} : vcnt ws ≤ vcnt (w :: ws) := by
  unfold vcnt
  exact List.Sublist.length_le (List.Sublist.filter _ ((List.Sublist.refl ws).cons w))
theorem at_end {α : Type} {l : List α} {x : α} : atI (l ++ [x]) (-1) = some x := by
  have e : ixN (l ++ [x]).length (-1) = some l.length := by
    unfold ixN
    rw [List.length_append, List.length_singleton, if_neg (by omega), if_pos (by omega)]
    congr 1
    omega
  unfold atI
  rw [e]
  show (l ++ [x])[l.length]? = some x
  simp
theorem e_isN_val {n : Bool} {v : Val} {M : Mp} {Q : DK} : dIsN n v.d .non M Q = Q (.bl (n != false)) M := by
  rcases v with a | ⟨t, x, y⟩
  · rcases a with s | s <;> rfl
  · rfl
theorem atom_sort {x : Atom} (h : x.ok) : ∃ sx, tokOf x.s = (sx, x.s) ∧ sx ≠ "if" := by
  cases x with
  | nm s => exact ⟨"name", tok_name (g := false) h, by decide +kernel⟩
  | vl s => exact ⟨"Name", tok_name (g := true) h, by decide +kernel⟩
/-- the tokens of rows of vars -/
def VarsT : List Vr → List Str → Prop
  | [], ws => ws = []
  | v :: vs, ws => ∃ wv w2, NameOk false v.1 ∧ NameOk true v.2.1 ∧ VT v.2.2 wv ∧ vcnt wv ≤ 47 ∧ VarsT vs w2 ∧ ws = ("var" : Str) :: v.1 :: (":" : Str) :: v.2.1 :: ("=" : Str) :: (wv ++ (";" : Str) :: w2)
/-- the tokens of rows of kinds -/
def KindsT : List (Str × List Str) → List Str → Prop
  | [], ws => ws = []
  | k :: ks, ws => ∃ w2, NameOk true k.1 ∧ 1 ≤ k.2.length ∧ k.2.length ≤ 5 ∧ (∀ x ∈ k.2, NameOk true x) ∧ KindsT ks w2 ∧ ws = ("kind" : Str) :: k.1 :: ("=" : Str) :: (bars k.2 ++ (";" : Str) :: w2)
/-- what is to come behind n values -/
def pbar (xs : List Str) (n : Nat) : List Str := (xs.drop n).flatMap fun y => [("|" : Str), y]
theorem pbar_end {xs : List Str} {n : Nat} (h : xs.length ≤ n) : pbar xs n = [] := by
  unfold pbar; rw [List.drop_eq_nil_of_le h] <;> rfl
theorem pbar_at {xs : List Str} {n : Nat} {x : Str} (h : xs[n]? = some x) : pbar xs n = ("|" : Str) :: x :: pbar xs (n + 1) := by
  have hn : n < xs.length := (List.getElem?_eq_some_iff.mp h).1
  have e : xs[n] = x := (List.getElem?_eq_some_iff.mp h).2
  unfold pbar
  rw [List.drop_eq_getElem_cons hn, e] <;> rfl
end Rv
/-! How deeds and parts are read: own lists, a stack of them. -/
namespace Rp
open PySem L2 DL Syn Wr Lx Cu Rt Rv
/-- the tokens of a set or a do -/
def PlainT : Deed → List Str → Prop
  | .set n v, ws => ∃ wv, NameOk false n ∧ VT v wv ∧ vcnt wv ≤ 47 ∧ ws = n :: (":=" : Str) :: (wv ++ [(";" : Str)])
  | .doo n f vs, ws => ∃ vw : List (Val × List Str), vs = vw.map (·.1) ∧ NameOk false n ∧ NameOk false f ∧ vw.length ≤ 3 ∧ (∀ p ∈ vw, VT p.1 p.2 ∧ vcnt p.2 ≤ 47) ∧ ws = n :: (":=" : Str) :: ("do" : Str) :: f :: ("(" : Str) :: (commas (vw.map (·.2)) ++ [(")" : Str), (";" : Str)])
  | .ite _ _ _, _ => False
theorem tok_if : tokOf "if" = (("if" : Str), ("if" : Str)) := tok_self
theorem vt_hd {v : Val} {ws : List Str} (h : VT v ws) : ∃ w r, ws = w :: r ∧ (tokOf w).1 ≠ "do" ∧ (tokOf w).1 ≠ ")" := by
  cases v with
  | «at» a =>
    obtain ⟨ha, rfl⟩ := h
    refine ⟨_, _, rfl, ?_⟩
    cases a with
    | nm s => rw [show tokOf (Atom.nm s).s = (("name" : Str), s) from tok_name (g := false) ha]; exact ⟨by dsimp only; decide +kernel, by dsimp only; decide +kernel⟩
    | vl s => rw [show tokOf (Atom.vl s).s = (("Name" : Str), s) from tok_name (g := true) ha]; exact ⟨by dsimp only; decide +kernel, by dsimp only; decide +kernel⟩
  | ite t x y =>
    obtain ⟨wt, wx, wy, _, _, _, _, rfl⟩ := h
    refine ⟨_, _, rfl, ?_⟩
    rw [tok_if]; exact ⟨by dsimp only; decide +kernel, by dsimp only; decide +kernel⟩
mutual
/-- the tokens of a deed, ifs at most d deep -/
def DdT : Nat → Deed → List Str → Prop
  | d + 1, .ite t xs ys, w => ∃ wt wx wy, TR t 1 wt ∧ nodes t < 50 ∧ cnt wt ≤ 47 ∧ xs.length ≤ 50 ∧ ys.length ≤ 50 ∧ DsT d xs wx ∧ DsT d ys wy ∧ ((ys = [] ∧ w = ("if" : Str) :: (wt ++ ("{" : Str) :: (wx ++ [("}" : Str)]))) ∨ w = ("if" : Str) :: (wt ++ ("{" : Str) :: (wx ++ ("}" : Str) :: ("else" : Str) :: ("{" : Str) :: (wy ++ [("}" : Str)]))))
  | 0, .ite _ _ _, _ => False
  | _, .set n v, w => PlainT (.set n v) w
  | _, .doo n f vs, w => PlainT (.doo n f vs) w
def DsT : Nat → List Deed → List Str → Prop
  | _, [], w => w = []
  | d, x :: xs, w => ∃ wx w2, DdT d x wx ∧ DsT d xs w2 ∧ w = wx ++ w2
end
abbrev Fd : Type := List Deed × Tst × Option (List Deed)
inductive DRun (out : List Deed) : List Deed → List Fd → List Str → Prop where
  | fin : DRun out out [] []
  | plain {xs : List Deed} {x : Deed} {s : List Fd} {wx ws : List Str} : xs.length < 50 → PlainT x wx → DRun out (xs ++ [x]) s ws → DRun out xs s (wx ++ ws)
  | if_ {xs : List Deed} {s : List Fd} {t : Tst} {wt ws : List Str} : TR t 1 wt → nodes t < 50 → cnt wt ≤ 47 → s.length < 2 → DRun out [] ((xs, t, none) :: s) ws → DRun out xs s (("if" : Str) :: (wt ++ ("{" : Str) :: ws))
  | else_ {xs o : List Deed} {s : List Fd} {t : Tst} {ws : List Str} : DRun out [] ((o, t, some xs) :: s) ws → DRun out xs ((o, t, none) :: s) (("}" : Str) :: ("else" : Str) :: ("{" : Str) :: ws)
  | close1 {xs o : List Deed} {s : List Fd} {t : Tst} {ws : List Str} : o.length < 50 → DRun out (o ++ [.ite t xs []]) s ws → DRun out xs ((o, t, none) :: s) (("}" : Str) :: ws)
  | close2 {xs o f : List Deed} {s : List Fd} {t : Tst} {ws : List Str} : o.length < 50 → DRun out (o ++ [.ite t f xs]) s ws → DRun out xs ((o, t, some f) :: s) (("}" : Str) :: ws)
mutual
theorem dinside {out : List Deed} : ∀ (d : Nat) (x : Deed) (w : List Str), DdT d x w → ∀ (acc : List Deed) s ws', acc.length < 50 → s.length + d ≤ 2 → DRun out (acc ++ [x]) s ws' → DRun out acc s (w ++ ws')
  | d, .set n v, w, h, acc, s, ws', ha, hs, k => by
    have h : PlainT (.set n v) w := by cases d <;> (unfold DdT at h; exact h)
    exact .plain ha h k
  | d, .doo n f vs, w, h, acc, s, ws', ha, hs, k => by
    have h : PlainT (.doo n f vs) w := by cases d <;> (unfold DdT at h; exact h)
    exact .plain ha h k
  | 0, .ite t xs ys, w, h, _, _, _, _, _, _ => by unfold DdT at h; exact h.elim
  | d + 1, .ite t xs ys, w, h, acc, s, ws', ha, hs, k => by
    unfold DdT at h
    obtain ⟨wt, wx, wy, h1, h2, h3, h4, h5, h6, h7, h8⟩ := h
    have go : ∀ r, DRun out ([] ++ xs) ((acc, t, none) :: s) r → DRun out acc s (("if" : Str) :: (wt ++ ("{" : Str) :: (wx ++ r))) := fun r q =>
      .if_ h1 h2 h3 (by omega) (dsinside d xs wx h6 [] ((acc, t, none) :: s) r (by simpa using h4) (by rw [List.length_cons]; omega) q)
    rcases h8 with ⟨rfl, rfl⟩ | rfl
    · have := go (("}" : Str) :: ws') (.close1 ha k)
      simpa using this
    · have := go (("}" : Str) :: ("else" : Str) :: ("{" : Str) :: (wy ++ ("}" : Str) :: ws')) (.else_ (dsinside d ys wy h7 [] ((acc, t, some xs) :: s) _ (by simpa using h5) (by rw [List.length_cons]; omega) (.close2 ha k)))
      simpa using this
theorem dsinside {out : List Deed} : ∀ (d : Nat) (xs : List Deed) (w : List Str), DsT d xs w → ∀ (acc : List Deed) s ws', acc.length + xs.length ≤ 50 → s.length + d ≤ 2 → DRun out (acc ++ xs) s ws' → DRun out acc s (w ++ ws')
  | d, [], w, h, acc, s, ws', _, _, k => by
    unfold DsT at h
    subst h
    rw [List.append_nil] at k
    exact k
  | d, x :: xs, w, h, acc, s, ws', ha, hs, k => by
    unfold DsT at h
    obtain ⟨wx, w2, h1, h2, rfl⟩ := h
    rw [List.length_cons] at ha
    have e : acc ++ x :: xs = (acc ++ [x]) ++ xs := by simp
    rw [e] at k
    have := dsinside d xs w2 h2 (acc ++ [x]) s ws' (by rw [List.length_append, List.length_singleton]; omega) hs k
    rw [List.append_assoc]
    exact dinside d x wx h1 acc s _ (by omega) hs this
end
theorem drun_all {xs : List Deed} {ws : List Str} (h : DsT 2 xs ws) (hl : xs.length ≤ 50) : DRun xs [] [] ws := by
  have := dsinside (out := xs) 2 xs ws h [] [] [] (by simpa using hl) (by simp) .fin
  rw [List.append_nil] at this
  exact this
theorem plain_hd {x : Deed} {ws : List Str} (h : PlainT x ws) : ∃ n r, ws = n :: r ∧ tokOf n = (("name" : Str), n) := by
  rcases x with ⟨n, v⟩ | ⟨n, f, vs⟩ | ⟨t, xs, ys⟩
  · obtain ⟨wv, h1, _, _, rfl⟩ := h
    exact ⟨_, _, rfl, tok_name (g := false) h1⟩
  · obtain ⟨vw, _, h1, _, _, _, rfl⟩ := h
    exact ⟨_, _, rfl, tok_name (g := false) h1⟩
  · exact h.elim
/-- no else stands here -/
theorem DRun.hd {out xs : List Deed} {s : List Fd} {ws : List Str} {rest : List (Str × Str)} (h : DRun out xs s ws) (hr : ∃ x r, rest = x :: r ∧ x.1 ≠ "else") : ∃ u r, ws.map tokOf ++ rest = u :: r ∧ u.1 ≠ "else" := by
  have cl : ∀ r : List Str, ∃ u r', (("}" : Str) :: r).map tokOf ++ rest = u :: r' ∧ u.1 ≠ "else" := fun r => by
    refine ⟨_, _, rfl, ?_⟩
    rw [tok_self]; dsimp only; decide +kernel
  cases h with
  | fin => exact hr
  | plain _ hx _ =>
    obtain ⟨n, r, rfl, e⟩ := plain_hd hx
    refine ⟨_, _, rfl, ?_⟩
    rw [e]; dsimp only; decide +kernel
  | if_ _ _ _ _ _ =>
    refine ⟨_, _, rfl, ?_⟩
    rw [tok_if]; dsimp only; decide +kernel
  | else_ _ => exact cl _
  | close1 _ _ => exact cl _
  | close2 _ _ => exact cl _
/-- a reader's own lists: the current one at a, others in frames of the list at pl -/
structure SI (C c pl : Addr) (R : List D) (M : Mp) (i k : Nat) (a : Addr) (xs : List D) (st : List (Addr × List D × D)) (M' : Mp) : Prop where
  rd : Rd C c R M i k M'
  lst : M' pl = some (.lst ((st.map fun e => e.2.2).reverse))
  cur : M' a = some (.lst xs)
  stk : ∀ e ∈ st, M' e.1 = some (.lst e.2.1)
  nd : (pl :: a :: st.map (·.1)).Nodup
  new : ∀ q ∈ pl :: a :: st.map (·.1), M q = none ∧ q ≠ c
section
variable {C c pl a b : Addr} {R : List D} {M M' : Mp} {i k i' k' : Nat} {xs ys : List D} {d x : D} {st : List (Addr × List D × D)}
theorem SI.pc (h : SI C c pl R M i k a xs st M') {M2 : Mp} {o : MO} : updM M2 c o pl = M2 pl := updM_ne (h.new pl (List.mem_cons_self ..)).2
theorem SI.ac (h : SI C c pl R M i k a xs st M') {M2 : Mp} {o : MO} : updM M2 c o a = M2 a := updM_ne (h.new a (by simp)).2
theorem SI.step (h : SI C c pl R M i k a xs st M') : SI C c pl R M i' k' a xs st (updM M' c (.ins C (cf R i' k'))) :=
  ⟨h.rd.step, by rw [h.pc]; exact h.lst, by rw [h.ac]; exact h.cur, fun e he => by
    rw [updM_ne (h.new e.1 (by simp only [List.mem_cons, List.mem_map]; exact .inr (.inr ⟨e, he, rfl⟩))).2]; exact h.stk e he, h.nd, h.new⟩
theorem SI.start (hM : M c = some (.ins C (cf R i k))) (h1 : M pl = none) (h2 : updM M pl (.lst []) a = none) : SI C c pl R M i k a [] [] (updM (updM M pl (.lst [])) a (.lst [])) := by
  have n1 : pl ≠ a := neM updM_same h2
  have h3 : M a = none := by rw [updM_ne n1.symm] at h2; exact h2
  have c1 : pl ≠ c := (neM hM h1).symm
  have c2 : a ≠ c := (neM hM h3).symm
  refine ⟨((Rd.start hM).put h1 c1).put h3 c2, by rw [updM_ne n1, updM_same]; rfl, updM_same, fun e he => (List.not_mem_nil he).elim, by simp [n1], fun q hq => ?_⟩
  simp only [List.map_nil, List.mem_cons, List.not_mem_nil, or_false] at hq
  rcases hq with rfl | rfl
  · exact ⟨h1, c1⟩
  · exact ⟨h3, c2⟩
theorem SI.app (h : SI C c pl R M i k a xs st M') : SI C c pl R M i k a (xs ++ [d]) st (updM M' a (.lst (xs ++ [d]))) := by
  have hn := h.new a (by simp)
  have nd := h.nd
  simp only [List.nodup_cons, List.mem_cons, not_or] at nd
  refine ⟨h.rd.put hn.1 hn.2, by rw [updM_ne nd.1.1]; exact h.lst, updM_same, fun e he => ?_, h.nd, h.new⟩
  rw [updM_ne (fun e2 => nd.2.1 (List.mem_map.mpr ⟨e, he, e2⟩))]; exact h.stk e he
/-- the list at pl gets a frame, a new list is the current one -/
theorem SI.push {M2 : Mp} (h : SI C c pl R M i k a xs st M') (e2 : M2 = updM M' pl (.lst ((st.map fun e => e.2.2).reverse ++ [d]))) (hb : M2 b = none) : SI C c pl R M i k b [] ((a, xs, d) :: st) (updM M2 b (.lst [])) := by
  have hp := h.new pl (by simp)
  have nd := h.nd
  simp only [List.nodup_cons, List.mem_cons, not_or] at nd
  have rd2 : Rd C c R M i k M2 := by rw [e2]; exact h.rd.put hp.1 hp.2
  have hM : ∃ o, M2 c = some o := ⟨_, rd2.cur⟩
  have l2 : M2 pl = some (.lst ((st.map fun e => e.2.2).reverse ++ [d])) := by rw [e2, updM_same]
  have c2 : M2 a = some (.lst xs) := by rw [e2, updM_ne (fun e => nd.1.1 e.symm)]; exact h.cur
  have s2 : ∀ e ∈ st, M2 e.1 = some (.lst e.2.1) := fun e he => by rw [e2, updM_ne (fun e3 => nd.1.2 (List.mem_map.mpr ⟨e, he, e3⟩))]; exact h.stk e he
  have bc : b ≠ c := fun e => by rw [e, rd2.cur] at hb; cases hb
  have bM : M b = none := by
    cases e : M b with
    | none => rfl
    | some o => rw [rd2.rest b o bc e] at hb; cases hb
  have npl : pl ≠ b := neM l2 hb
  have na : a ≠ b := neM c2 hb
  refine ⟨rd2.put bM bc, ?_, updM_same, fun e he => ?_, ?_, fun q hq => ?_⟩
  · rw [updM_ne npl, l2, List.map_cons, List.reverse_cons]
  · rcases List.mem_cons.mp he with rfl | he
    · rw [updM_ne na]; exact c2
    · rw [updM_ne (neM (s2 e he) hb)]; exact s2 e he
  · simp only [List.map_cons, List.nodup_cons, List.mem_cons, not_or]
    refine ⟨⟨npl, nd.1.1, nd.1.2⟩, ⟨na.symm, fun hm => ?_⟩, nd.2.1, nd.2.2⟩
    obtain ⟨e, he, e3⟩ := List.mem_map.mp hm
    exact neM (s2 e he) hb e3
  · simp only [List.map_cons, List.mem_cons] at hq
    rcases hq with rfl | rfl | rfl | hq
    · exact hp
    · exact ⟨bM, bc⟩
    · exact h.new _ (by simp)
    · exact h.new q (by simp [hq])
/-- the last frame is taken off -/
theorem SI.pop (h : SI C c pl R M i k a xs ((b, ys, d) :: st) M') : SI C c pl R M i k b ys st (updM M' pl (.lst ((st.map fun e => e.2.2).reverse))) := by
  have hp := h.new pl (by simp)
  have nd := h.nd
  simp only [List.map_cons, List.nodup_cons, List.mem_cons, not_or] at nd
  obtain ⟨⟨n1, n2, n3⟩, ⟨n4, n5⟩, n6, n7⟩ := nd
  refine ⟨h.rd.put hp.1 hp.2, updM_same, ?_, fun e he => ?_, ?_, fun q hq => ?_⟩
  · rw [updM_ne (fun e => n2 e.symm)]; exact h.stk (b, ys, d) (List.mem_cons_self ..)
  · rw [updM_ne (fun e3 => n3 (List.mem_map.mpr ⟨e, he, e3⟩))]; exact h.stk e (List.mem_cons_of_mem _ he)
  · simp only [List.nodup_cons, List.mem_cons, not_or]
    exact ⟨⟨n2, n3⟩, n6, n7⟩
  · simp only [List.mem_cons] at hq
    rcases hq with rfl | rfl | hq
    · exact hp
    · exact h.new _ (by simp)
    · exact h.new q (by simp [hq])
/-- the list that was the current one stays as it is -/
theorem SI.was (h : SI C c pl R M i k a xs st M') : M' a = some (.lst xs) ∧ a ≠ c ∧ a ≠ pl := by
  have nd := h.nd
  simp only [List.nodup_cons, List.mem_cons, not_or] at nd
  exact ⟨h.cur, (h.new a (by simp)).2, fun e => nd.1.1 e.symm⟩
end
def fdD (e : Addr × Fd) : Addr × List D × D := (e.1, deedsD e.2.1, .tup [.obj e.1, e.2.2.1.d, match e.2.2.2 with | none => .non | some f => .tup (deedsD f)])
theorem deedsD_app (a b : List Deed) : deedsD (a ++ b) = deedsD a ++ deedsD b := by rw [deedsD_map, deedsD_map, deedsD_map, List.map_append]
theorem deedsD_snoc (a : List Deed) (x : Deed) : deedsD (a ++ [x]) = deedsD a ++ [x.d] := by rw [deedsD_map, deedsD_map, List.map_append] <;> rfl
theorem deedsD_len (a : List Deed) : (deedsD a).length = a.length := by rw [deedsD_map, List.length_map]
/-- the tokens of an act -/
def ActT : Part → List Str → Prop
  | .act n gs kd ds v, ws => ∃ wd wv, NameOk false n ∧ (∀ g ∈ gs, NameOk false g.1 ∧ NameOk true g.2) ∧ gs.length ≤ 3 ∧ NameOk true kd ∧ DsT 2 ds wd ∧ ds.length ≤ 50 ∧ VT v wv ∧ vcnt wv ≤ 47 ∧ ws = ("act" : Str) :: n :: (givW gs ++ (":" : Str) :: kd :: ("{" : Str) :: (wd ++ ("answer" : Str) :: (wv ++ [(";" : Str), ("}" : Str)])))
  | .make _ _ _ _, _ => False
mutual
/-- the tokens of a part, makers at most d deep -/
def PtT : Nat → Part → List Str → Prop
  | d + 1, .make n gs vs ps, w => ∃ wv wp, NameOk true n ∧ (∀ g ∈ gs, NameOk false g.1 ∧ NameOk true g.2) ∧ gs.length ≤ 3 ∧ VarsT vs wv ∧ vs.length ≤ 1000 ∧ ps.length ≤ 50 ∧ PsT d ps wp ∧ w = ("make" : Str) :: n :: (givW gs ++ ("{" : Str) :: (wv ++ (wp ++ [("}" : Str)])))
  | 0, .make _ _ _ _, _ => False
  | _, .act n gs kd ds v, w => ActT (.act n gs kd ds v) w
def PsT : Nat → List Part → List Str → Prop
  | _, [], w => w = []
  | d, x :: xs, w => ∃ wx w2, PtT d x wx ∧ PsT d xs w2 ∧ w = wx ++ w2
end
abbrev Fp : Type := List Part × Str × List Giv × List Vr
inductive PRun (out : List Part) : List Part → List Fp → List Str → Prop where
  | fin : PRun out out [] []
  | act {xs : List Part} {x : Part} {s : List Fp} {wx ws : List Str} : xs.length < 50 → ActT x wx → PRun out (xs ++ [x]) s ws → PRun out xs s (wx ++ ws)
  | make {xs : List Part} {s : List Fp} {n : Str} {gs : List Giv} {vs : List Vr} {wv ws : List Str} : NameOk true n → (∀ g ∈ gs, NameOk false g.1 ∧ NameOk true g.2) → gs.length ≤ 3 → VarsT vs wv → vs.length ≤ 1000 → s.length < 3 → PRun out [] ((xs, n, gs, vs) :: s) ws → PRun out xs s (("make" : Str) :: n :: (givW gs ++ ("{" : Str) :: (wv ++ ws)))
  | close {xs o : List Part} {s : List Fp} {n : Str} {gs : List Giv} {vs : List Vr} {ws : List Str} : o.length < 50 → PRun out (o ++ [.make n gs vs xs]) s ws → PRun out xs ((o, n, gs, vs) :: s) (("}" : Str) :: ws)
mutual
theorem pinside {out : List Part} : ∀ (d : Nat) (x : Part) (w : List Str), PtT d x w → ∀ (acc : List Part) s ws', acc.length < 50 → s.length + d ≤ 3 → PRun out (acc ++ [x]) s ws' → PRun out acc s (w ++ ws')
  | d, .act n gs kd ds v, w, h, acc, s, ws', ha, hs, k => by
    have h : ActT (.act n gs kd ds v) w := by cases d <;> (unfold PtT at h; exact h)
    exact .act ha h k
  | 0, .make n gs vs ps, w, h, _, _, _, _, _, _ => by unfold PtT at h; exact h.elim
  | d + 1, .make n gs vs ps, w, h, acc, s, ws', ha, hs, k => by
    unfold PtT at h
    obtain ⟨wv, wp, h1, h2, h3, h4, h5, h6, h7, rfl⟩ := h
    have := PRun.make (xs := acc) h1 h2 h3 h4 h5 (show s.length < 3 by omega) (psinside (out := out) d ps wp h7 [] ((acc, n, gs, vs) :: s) (("}" : Str) :: ws') (by simpa using h6) (by rw [List.length_cons]; omega) (.close ha k))
    simpa using this
theorem psinside {out : List Part} : ∀ (d : Nat) (xs : List Part) (w : List Str), PsT d xs w → ∀ (acc : List Part) s ws', acc.length + xs.length ≤ 50 → s.length + d ≤ 3 → PRun out (acc ++ xs) s ws' → PRun out acc s (w ++ ws')
  | d, [], w, h, acc, s, ws', _, _, k => by
    unfold PsT at h
    subst h
    rw [List.append_nil] at k
    exact k
  | d, x :: xs, w, h, acc, s, ws', ha, hs, k => by
    unfold PsT at h
    obtain ⟨wx, w2, h1, h2, rfl⟩ := h
    rw [List.length_cons] at ha
    have e : acc ++ x :: xs = (acc ++ [x]) ++ xs := by simp
    rw [e] at k
    have := psinside d xs w2 h2 (acc ++ [x]) s ws' (by rw [List.length_append, List.length_singleton]; omega) hs k
    rw [List.append_assoc]
    exact pinside d x wx h1 acc s _ (by omega) hs this
end
theorem prun_all {xs : List Part} {ws : List Str} (h : PsT 3 xs ws) (hl : xs.length ≤ 50) : PRun xs [] [] ws := by
  have := psinside (out := xs) 3 xs ws h [] [] [] (by simpa using hl) (by simp) .fin
  rw [List.append_nil] at this
  exact this
theorem act_hd {x : Part} {ws : List Str} (h : ActT x ws) : ∃ r, ws = ("act" : Str) :: r := by
  rcases x with ⟨n, gs, vs, ps⟩ | ⟨n, gs, kd, ds, v⟩
  · exact h.elim
  · obtain ⟨wd, wv, _, _, _, _, _, _, _, _, rfl⟩ := h
    exact ⟨_, rfl⟩
/-- no var stands here -/
theorem PRun.hd {out xs : List Part} {s : List Fp} {ws : List Str} {rest : List (Str × Str)} (h : PRun out xs s ws) (hr : ∃ x r, rest = x :: r ∧ x.1 ≠ "var") : ∃ u r, ws.map tokOf ++ rest = u :: r ∧ u.1 ≠ "var" := by
  cases h with
  | fin => exact hr
  | act _ hx _ =>
    obtain ⟨r, rfl⟩ := act_hd hx
    refine ⟨_, _, rfl, ?_⟩
    rw [tok_self]; dsimp only; decide +kernel
  | make _ _ _ _ _ _ _ =>
    refine ⟨_, _, rfl, ?_⟩
    rw [tok_self]; dsimp only; decide +kernel
  | close _ _ =>
    refine ⟨_, _, rfl, ?_⟩
    rw [tok_self]; dsimp only; decide +kernel
theorem PRun.hd2 {out xs : List Part} {s : List Fp} {ws : List Str} {rest : List (Str × Str)} (h : PRun out xs s ws) (hr : ∃ x r, rest = x :: r ∧ x.1 ≠ "var" ∧ x.1 ≠ "kind") : ∃ u r, ws.map tokOf ++ rest = u :: r ∧ u.1 ≠ "var" ∧ u.1 ≠ "kind" := by
  cases h with
  | fin => exact hr
  | act _ hx _ =>
    obtain ⟨r, rfl⟩ := act_hd hx
    refine ⟨_, _, rfl, ?_⟩
    rw [tok_self]; dsimp only; decide +kernel
  | make _ _ _ _ _ _ _ =>
    refine ⟨_, _, rfl, ?_⟩
    rw [tok_self]; dsimp only; decide +kernel
  | close _ _ =>
    refine ⟨_, _, rfl, ?_⟩
    rw [tok_self]; dsimp only; decide +kernel
/-- the tokens of a program -/
def PrgT (p : Prg) (ws : List Str) : Prop := ∃ wk wv wp, KindsT p.kinds wk ∧ VarsT p.vars wv ∧ PsT 3 p.parts wp ∧ ws = wk ++ (wv ++ wp)
theorem vars_hd {vs : List Vr} {ws : List Str} {rest : List (Str × Str)} (h : VarsT vs ws) (hr : ∃ x r, rest = x :: r ∧ x.1 ≠ "kind") : ∃ u r, ws.map tokOf ++ rest = u :: r ∧ u.1 ≠ "kind" := by
  cases vs with
  | nil => obtain rfl : ws = [] := h; exact hr
  | cons v vs =>
    obtain ⟨wv, w2, _, _, _, _, _, rfl⟩ := h
    refine ⟨_, _, rfl, ?_⟩
    rw [tok_self]; dsimp only; decide +kernel
def fpD (e : Addr × Fp) : Addr × List D × D := (e.1, partsD e.2.1, .tup [.str e.2.2.1, .tup (e.2.2.2.1.map givD), .tup (e.2.2.2.2.map vrD), .obj e.1])
theorem partsD_snoc (a : List Part) (x : Part) : partsD (a ++ [x]) = partsD a ++ [x.d] := by rw [partsD_map, partsD_map, List.map_append] <;> rfl
theorem partsD_len (a : List Part) : (partsD a).length = a.length := by rw [partsD_map, List.length_map]
end Rp
/-! Trees of data beside themselves: ==. -/
namespace DL
open PySem PySem.Spec L2
mutual
def tame : D → Bool
  | .non => true
  | .bl _ => true
  | .int _ => true
  | .str s => PyData.strOk s
  | .obj _ => false
  | .rdl _ => false
  | .tup ds => tames ds
  | .lst ds => tames ds
def tames : List D → Bool
  | [] => true
  | d :: ds => tame d && tames ds
end
mutual
def dpt : D → Nat
  | .tup ds => dpts ds + 1
  | .lst ds => dpts ds + 1
  | _ => 0
def dpts : List D → Nat
  | [] => 0
  | d :: ds => max (dpt d) (dpts ds)
end
mutual
theorem tame_py : ∀ d : D, tame d = true → ∃ y, pyD d = some y ∧ y.canLay0 = true ∧ y.depth ≤ dpt d ∧ PyData.eqv y y = true
  | .non, h => ⟨_, by unfold pyD; rfl, by unfold PyData.canLay0; rfl, by unfold PyData.depth; omega, by unfold PyData.eqv; rfl⟩
  | .bl b, h => ⟨_, by unfold pyD; rfl, by unfold PyData.canLay0; rfl, by unfold PyData.depth; omega, by unfold PyData.eqv; simp⟩
  | .int i, h => ⟨_, by unfold pyD; rfl, by unfold PyData.canLay0; rfl, by unfold PyData.depth; omega, by unfold PyData.eqv; simp⟩
  | .str s, h => ⟨_, by unfold pyD; rfl, by
      unfold tame at h
      unfold PyData.canLay0; exact h, by unfold PyData.depth; omega, by unfold PyData.eqv; simp⟩
  | .obj b, h => by unfold tame at h; cases h
  | .rdl b, h => by unfold tame at h; cases h
  | .tup ds, h => by
    unfold tame at h
    obtain ⟨ys, h1, h2, h3, h4⟩ := tames_py ds h
    exact ⟨.tuple ys, by unfold pyD; rw [h1]; rfl, by unfold PyData.canLay0; exact h2, by unfold PyData.depth dpt; omega, by unfold PyData.eqv; exact h4⟩
  | .lst ds, h => by
    unfold tame at h
    obtain ⟨ys, h1, h2, h3, h4⟩ := tames_py ds h
    exact ⟨.list ys, by unfold pyD; rw [h1]; rfl, by unfold PyData.canLay0; exact h2, by unfold PyData.depth dpt; omega, by unfold PyData.eqv; exact h4⟩
theorem tames_py : ∀ ds : List D, tames ds = true → ∃ ys, pyDs ds = some ys ∧ PyData.canLayAll0 ys = true ∧ PyData.depthAll ys ≤ dpts ds ∧ PyData.eqvAll ys ys = true
  | [], h => ⟨[], by unfold pyDs; rfl, by unfold PyData.canLayAll0; rfl, by unfold PyData.depthAll; omega, by unfold PyData.eqvAll; rfl⟩
  | d :: ds, h => by
    unfold tames at h
    rw [Bool.and_eq_true] at h
    obtain ⟨y, a1, a2, a3, a4⟩ := tame_py d h.1
    obtain ⟨ys, h1, h2, h3, h4⟩ := tames_py ds h.2
    exact ⟨y :: ys, by unfold pyDs; rw [a1, h1]; rfl, by unfold PyData.canLayAll0; rw [a2, h2]; rfl, by unfold PyData.depthAll dpts; omega, by unfold PyData.eqvAll; rw [a4, h4]; rfl⟩
end
theorem e_eq_self {n : Bool} {ds : List D} {M : Mp} {Q : DK} (h : tame (.tup ds) = true) (hd : dpt (.tup ds) ≤ 64) (q : Q (.bl (n != true)) M) : dEq n (.tup ds) (.tup ds) M Q := by
  obtain ⟨y, h1, h2, h3, h4⟩ := tame_py _ h
  refine ⟨y, y, h1, h1, ?_, ?_, by rw [h4]; exact q⟩ <;>
  · unfold SeqAt.shaped
    rw [h2, decide_eq_true (Nat.le_trans h3 hd)]; rfl
theorem tames_map {α : Type} {f : α → D} {xs : List α} {n : Nat} (h : ∀ x ∈ xs, tame (f x) = true ∧ dpt (f x) ≤ n) : tames (xs.map f) = true ∧ dpts (xs.map f) ≤ n := by
  induction xs with
  | nil => exact ⟨by unfold List.map tames; rfl, by unfold List.map dpts; omega⟩
  | cons x xs ih =>
    obtain ⟨a, b⟩ := h x (List.mem_cons_self ..)
    obtain ⟨c, d⟩ := ih fun y hy => h y (List.mem_cons_of_mem _ hy)
    rw [List.map_cons]
    exact ⟨by unfold tames; rw [a, c]; rfl, by unfold dpts; omega⟩
end DL
namespace Syn
open PySem L2 DL
theorem strOk_name {g : Bool} {s : Str} (h : NameOk g s) : PyData.strOk s = true := by
  unfold PyData.strOk
  rw [← Array.all_toList, List.all_eq_true]
  intro c hc
  have := h.all c hc
  unfold rowC smallC greatC at this
  simp at this
  simp
  omega
theorem tm_atom {a : Atom} (h : a.ok) : tame a.d = true ∧ dpt a.d ≤ 1 := by
  cases a with
  | nm s => exact ⟨by unfold Atom.d tame tames tame tames tame tames; rw [strOk_name (g := false) h]; decide +kernel, by unfold Atom.d dpt dpts dpt dpts dpt dpts; omega⟩
  | vl s => exact ⟨by unfold Atom.d tame tames tame tames tame tames; rw [strOk_name (g := true) h]; decide +kernel, by unfold Atom.d dpt dpts dpt dpts dpt dpts; omega⟩
theorem tm_tst : ∀ (t : Tst) (d : Nat), t.ok d → tame t.d = true ∧ dpt t.d ≤ d + 2
  | .same a b, d, h => by
    have h : a.ok ∧ b.ok := by cases d <;> (unfold Tst.ok at h; exact h)
    obtain ⟨a1, a2⟩ := tm_atom h.1
    obtain ⟨b1, b2⟩ := tm_atom h.2
    unfold Tst.d
    exact ⟨by simp only [tame, tames, a1, b1]; decide +kernel, by simp only [dpt, dpts]; omega⟩
  | .neg t, 0, h => by unfold Tst.ok at h; exact h.elim
  | .con t u, 0, h => by unfold Tst.ok at h; exact h.elim
  | .dis t u, 0, h => by unfold Tst.ok at h; exact h.elim
  | .neg t, d + 1, h => by
    unfold Tst.ok at h
    obtain ⟨a1, a2⟩ := tm_tst t d h
    unfold Tst.d
    exact ⟨by simp only [tame, tames, a1]; decide +kernel, by simp only [dpt, dpts]; omega⟩
  | .con t u, d + 1, h => by
    unfold Tst.ok at h
    obtain ⟨a1, a2⟩ := tm_tst t d h.1
    obtain ⟨b1, b2⟩ := tm_tst u d h.2
    unfold Tst.d
    exact ⟨by simp only [tame, tames, a1, b1]; decide +kernel, by simp only [dpt, dpts]; omega⟩
  | .dis t u, d + 1, h => by
    unfold Tst.ok at h
    obtain ⟨a1, a2⟩ := tm_tst t d h.1
    obtain ⟨b1, b2⟩ := tm_tst u d h.2
    unfold Tst.d
    exact ⟨by simp only [tame, tames, a1, b1]; decide +kernel, by simp only [dpt, dpts]; omega⟩
theorem tm_val : ∀ (v : Val) (d : Nat), v.ok d → tame v.d = true ∧ dpt v.d ≤ d + 3
  | .at a, d, h => by
    have h : a.ok := by cases d <;> (unfold Val.ok at h; exact h)
    obtain ⟨a1, a2⟩ := tm_atom h
    unfold Val.d
    exact ⟨a1, by omega⟩
  | .ite t x y, 0, h => by unfold Val.ok at h; exact h.elim
  | .ite t x y, d + 1, h => by
    unfold Val.ok at h
    obtain ⟨a1, a2⟩ := tm_tst t (d + 1) h.1
    obtain ⟨b1, b2⟩ := tm_val x d h.2.1
    obtain ⟨c1, c2⟩ := tm_val y d h.2.2
    unfold Val.d
    exact ⟨by simp only [tame, tames, a1, b1, c1]; decide +kernel, by simp only [dpt, dpts]; omega⟩
mutual
theorem tm_deed : ∀ (x : Deed) (d : Nat), x.ok d → tame x.d = true ∧ dpt x.d ≤ 2 * d + 6
  | .set n v, d, h => by
    have h : NameOk false n ∧ v.ok 2 := by cases d <;> (unfold Deed.ok at h; exact h)
    obtain ⟨a1, a2⟩ := tm_val v 2 h.2
    have n1 := strOk_name h.1
    unfold Deed.d
    exact ⟨by simp only [tame, tames, a1, n1]; decide +kernel, by simp only [dpt, dpts]; omega⟩
  | .doo n f vs, d, h => by
    have h : NameOk false n ∧ NameOk false f ∧ vs.length ≤ 3 ∧ ∀ v ∈ vs, Val.ok 1 v := by cases d <;> (unfold Deed.ok at h; exact h)
    obtain ⟨a1, a2⟩ := tames_map (f := Val.d) (xs := vs) (n := 4) fun v hv => tm_val v 1 (h.2.2.2 v hv)
    have n1 := strOk_name h.1
    have n2 := strOk_name h.2.1
    unfold Deed.d
    exact ⟨by simp only [tame, tames, a1, n1, n2]; decide +kernel, by simp only [dpt, dpts]; omega⟩
  | .ite t xs ys, 0, h => by unfold Deed.ok at h; exact h.elim
  | .ite t xs ys, d + 1, h => by
    unfold Deed.ok at h
    obtain ⟨a1, a2⟩ := tm_tst t 2 h.1
    obtain ⟨b1, b2⟩ := tm_deeds xs d h.2.2.1
    obtain ⟨c1, c2⟩ := tm_deeds ys d h.2.2.2.2
    unfold Deed.d
    exact ⟨by simp only [tame, tames, a1, b1, c1]; decide +kernel, by simp only [dpt, dpts]; omega⟩
theorem tm_deeds : ∀ (xs : List Deed) (d : Nat), (∀ x ∈ xs, x.ok d) → tames (deedsD xs) = true ∧ dpts (deedsD xs) ≤ 2 * d + 6
  | [], d, h => by unfold deedsD; exact ⟨by unfold tames; rfl, by unfold dpts; omega⟩
  | x :: xs, d, h => by
    obtain ⟨a1, a2⟩ := tm_deed x d (h x (List.mem_cons_self ..))
    obtain ⟨b1, b2⟩ := tm_deeds xs d fun y hy => h y (List.mem_cons_of_mem _ hy)
    unfold deedsD
    exact ⟨by unfold tames; rw [a1, b1]; rfl, by unfold dpts; omega⟩
end
theorem tm_givs {gs : List Giv} (h : ∀ g ∈ gs, NameOk false g.1 ∧ NameOk true g.2) : tames (gs.map givD) = true ∧ dpts (gs.map givD) ≤ 1 :=
  tames_map fun g hg => by
    have n1 := strOk_name (h g hg).1
    have n2 := strOk_name (h g hg).2
    unfold givD
    exact ⟨by simp only [tame, tames, n1, n2]; decide +kernel, by simp only [dpt, dpts]; omega⟩
theorem tm_vars {vs : List Vr} (h : ∀ v ∈ vs, VrOk v) : tames (vs.map vrD) = true ∧ dpts (vs.map vrD) ≤ 6 :=
  tames_map fun v hv => by
    obtain ⟨h1, h2, h3⟩ := h v hv
    have n1 := strOk_name h1
    have n2 := strOk_name h2
    obtain ⟨a1, a2⟩ := tm_val v.2.2 2 h3
    unfold vrD
    exact ⟨by simp only [tame, tames, n1, n2, a1]; decide +kernel, by simp only [dpt, dpts]; omega⟩
mutual
theorem tm_part : ∀ (x : Part) (d : Nat), x.ok d → tame x.d = true ∧ dpt x.d ≤ 2 * d + 12
  | .act n gs k ds v, d, h => by
    have h : NameOk false n ∧ GivOk gs ∧ NameOk true k ∧ ds.length ≤ 3 ∧ (∀ x ∈ ds, Deed.ok 2 x) ∧ v.ok 2 := by cases d <;> (unfold Part.ok at h; exact h)
    obtain ⟨h1, h2, h3, _, h5, h6⟩ := h
    obtain ⟨a1, a2⟩ := tm_val v 2 h6
    obtain ⟨b1, b2⟩ := tm_givs h2.2
    obtain ⟨c1, c2⟩ := tm_deeds ds 2 h5
    have n1 := strOk_name h1
    have n2 := strOk_name h3
    unfold Part.d
    exact ⟨by simp only [tame, tames, a1, b1, c1, n1, n2]; decide +kernel, by simp only [dpt, dpts]; omega⟩
  | .make n gs vs ps, 0, h => by unfold Part.ok at h; exact h.elim
  | .make n gs vs ps, d + 1, h => by
    unfold Part.ok at h
    obtain ⟨h1, h2, _, h4, _, h6⟩ := h
    obtain ⟨a1, a2⟩ := tm_vars h4
    obtain ⟨b1, b2⟩ := tm_givs h2.2
    obtain ⟨c1, c2⟩ := tm_parts ps d h6
    have n1 := strOk_name h1
    unfold Part.d
    exact ⟨by simp only [tame, tames, a1, b1, c1, n1]; decide +kernel, by simp only [dpt, dpts]; omega⟩
theorem tm_parts : ∀ (xs : List Part) (d : Nat), (∀ x ∈ xs, x.ok d) → tames (partsD xs) = true ∧ dpts (partsD xs) ≤ 2 * d + 12
  | [], d, h => by unfold partsD; exact ⟨by unfold tames; rfl, by unfold dpts; omega⟩
  | x :: xs, d, h => by
    obtain ⟨a1, a2⟩ := tm_part x d (h x (List.mem_cons_self ..))
    obtain ⟨b1, b2⟩ := tm_parts xs d fun y hy => h y (List.mem_cons_of_mem _ hy)
    unfold partsD
    exact ⟨by unfold tames; rw [a1, b1]; rfl, by unfold dpts; omega⟩
end
theorem tm_prg {p : Prg} (h : p.ok) : tame p.d = true ∧ dpt p.d ≤ 64 := by
  obtain ⟨a1, a2⟩ := tm_vars h.vs
  obtain ⟨b1, b2⟩ := tm_parts p.parts 3 h.ps
  obtain ⟨c1, c2⟩ := tames_map (f := kindD) (xs := p.kinds) (n := 2) fun k hk => by
    obtain ⟨h1, _, _, h4⟩ := h.ks k hk
    have n1 := strOk_name h1
    obtain ⟨d1, d2⟩ := tames_map (f := D.str) (xs := k.2) (n := 0) fun x hx => ⟨by unfold tame; exact strOk_name (h4 x hx), by unfold dpt; omega⟩
    unfold kindD
    exact ⟨by simp only [tame, tames, n1, d1]; decide +kernel, by simp only [dpt, dpts]; omega⟩
  unfold Prg.d
  exact ⟨by simp only [tame, tames, a1, b1, c1]; decide +kernel, by simp only [dpt, dpts]; omega⟩
end Syn
/-! Tokens with draws: how long, how deep. -/
namespace Bd
open PySem L2 DL Syn Wr Lx Cu Rt Rv Rp
/-- a token: a name or one that stands for itself -/
def Wt (w : Str) : Prop := (∃ g, NameOk g w) ∨ w ∈ SELF
def Wts (n : Nat) (ws : List Str) : Prop := ws.length ≤ n ∧ ∀ w ∈ ws, Wt w
theorem Wts.nil : Wts 0 [] := ⟨Nat.le_refl _, fun _ h => (List.not_mem_nil h).elim⟩
theorem Wts.cons {n : Nat} {w : Str} {ws : List Str} (h : Wt w) (t : Wts n ws) : Wts (n + 1) (w :: ws) := ⟨Nat.succ_le_succ t.1, fun x hx => by
  rcases List.mem_cons.mp hx with rfl | hx
  · exact h
  · exact t.2 x hx⟩
theorem Wts.fix {n : Nat} {w : Str} {ws : List Str} (t : Wts n ws) (h : w ∈ SELF := by decide +kernel) : Wts (n + 1) (w :: ws) := .cons (.inr h) t
theorem Wts.nm {n : Nat} {g : Bool} {w : Str} {ws : List Str} (h : NameOk g w) (t : Wts n ws) : Wts (n + 1) (w :: ws) := .cons (.inl ⟨g, h⟩) t
theorem Wts.app {n m : Nat} {ws vs : List Str} (a : Wts n ws) (b : Wts m vs) : Wts (n + m) (ws ++ vs) := ⟨by rw [List.length_append]; exact Nat.add_le_add a.1 b.1, fun x hx => by
  rcases List.mem_append.mp hx with hx | hx
  · exact a.2 x hx
  · exact b.2 x hx⟩
theorem Wts.mono {n m : Nat} {ws : List Str} (a : Wts n ws) (h : n ≤ m) : Wts m ws := ⟨Nat.le_trans a.1 h, a.2⟩
theorem wt_atom {a : Atom} (h : a.ok) : Wt a.s := by
  cases a with
  | nm s => exact .inl ⟨false, h⟩
  | vl s => exact .inl ⟨true, h⟩
theorem wts_rep {n p : Nat} {w : List Str} (h : Wts n w) (hp : p ≤ 3) : Wts (n + 6) (rep p w) := by
  refine ⟨?_, fun x hx => ?_⟩
  · unfold rep
    simp only [List.length_append, List.length_replicate]
    have := h.1
    omega
  · unfold rep at hx
    rcases List.mem_append.mp hx with hx | hx
    · rw [(List.mem_replicate.mp hx).2]; exact .inr (by decide +kernel)
    · rcases List.mem_append.mp hx with hx | hx
      · exact h.2 x hx
      · rw [(List.mem_replicate.mp hx).2]; exact .inr (by decide +kernel)
def op3 (w : Str) : Bool := decide (w = ("(" : Str)) || (decide (w = ("not" : Str)) || decide (w = ("if" : Str)))
theorem vcnt_cons {w : Str} {ws : List Str} (h : op3 w = false) : vcnt (w :: ws) = vcnt ws := by
  unfold vcnt
  rw [List.filter_cons, if_neg]
  unfold op3 at h
  rw [h]; simp
theorem vcnt_le {w : Str} {ws : List Str} : vcnt (w :: ws) ≤ vcnt ws + 1 := by
  unfold vcnt
  rw [List.filter_cons]
  split
  · exact Nat.le_refl _
  · omega
theorem op3_name {g : Bool} {w : Str} (h : NameOk g w) : op3 w = false := by
  have hs := name_self h
  unfold op3
  rw [Bool.or_eq_false_iff, Bool.or_eq_false_iff]
  refine ⟨decide_eq_false fun e => hs ?_, decide_eq_false fun e => hs ?_, decide_eq_false fun e => hs ?_⟩ <;> (rw [e]; decide +kernel)
theorem op3_atom {a : Atom} (h : a.ok) : op3 a.s = false := by
  cases a with
  | nm s => exact op3_name (g := false) h
  | vl s => exact op3_name (g := true) h
theorem vcnt_rep {p : Nat} {w : List Str} (hp : p ≤ 3) : vcnt (rep p w) ≤ vcnt w + 3 := by
  have h1 : ∀ n, vcnt (List.replicate n (")" : Str)) = 0 := fun n => by
    induction n with
    | zero => rfl
    | succ n ih => rw [List.replicate_succ, vcnt_cons (by decide +kernel)]; exact ih
  have h2 : ∀ n, vcnt (List.replicate n ("(" : Str)) ≤ n := fun n => by
    induction n with
    | zero => exact Nat.le_refl _
    | succ n ih => rw [List.replicate_succ]; exact Nat.le_trans vcnt_le (by omega)
  unfold rep
  rw [vcnt_app, vcnt_app, h1]
  have := h2 p
  omega
/-- of a test of depth d: how many tokens, how many that open -/
def LT : Nat → Nat
  | 0 => 9
  | d + 1 => 2 * LT d + 7
def CT : Nat → Nat
  | 0 => 3
  | d + 1 => 2 * CT d + 4
theorem LT_s (d : Nat) : LT (d + 1) = 2 * LT d + 7 := rfl
theorem CT_s (d : Nat) : CT (d + 1) = 2 * CT d + 4 := rfl
theorem LT_mono (d : Nat) : 9 ≤ LT d := by induction d with
  | zero => exact Nat.le_refl _
  | succ d ih => unfold LT; omega
theorem CT_pos (d : Nat) : 3 ≤ CT d := by induction d with
  | zero => exact Nat.le_refl _
  | succ d ih => unfold CT; omega
theorem tr_bd : ∀ (t : Tst) (d n : Nat) (ws : List Str), t.ok d → TR t n ws → Wts (LT d) ws ∧ vcnt ws ≤ CT d
  | .same a b, d, n, ws, ok, h => by
    obtain ⟨p, hp, ha, hb, rfl⟩ := h
    have h1 : Wts 3 [a.s, ("==" : Str), b.s] := .cons (wt_atom ha) (.fix (.cons (wt_atom hb) .nil))
    refine ⟨(wts_rep h1 hp).mono (LT_mono d), Nat.le_trans (vcnt_rep hp) ?_⟩
    rw [vcnt_cons (op3_atom ha), vcnt_cons (by decide +kernel), vcnt_cons (op3_atom hb)]
    exact CT_pos d
  | .neg u, 0, n, ws, ok, h => by unfold Tst.ok at ok; exact ok.elim
  | .con u v, 0, n, ws, ok, h => by unfold Tst.ok at ok; exact ok.elim
  | .dis u v, 0, n, ws, ok, h => by unfold Tst.ok at ok; exact ok.elim
  | .neg u, d + 1, n, ws, ok, h => by
    unfold Tst.ok at ok
    obtain ⟨p, w, hp, hu, rfl⟩ := h
    obtain ⟨h1, h2⟩ := tr_bd u d 3 w ok hu
    have := LT_mono d
    have := CT_pos d
    refine ⟨(wts_rep (Wts.fix h1) hp).mono (by rw [LT_s]; omega), Nat.le_trans (vcnt_rep hp) ?_⟩
    have := @vcnt_le ("not" : Str) w
    rw [CT_s]; omega
  | .con l r, d + 1, n, ws, ok, h => by
    unfold Tst.ok at ok
    obtain ⟨p, wl, wr, hp, _, hl, hr, rfl⟩ := h
    obtain ⟨h1, h2⟩ := tr_bd l d 2 wl ok.1 hl
    obtain ⟨h3, h4⟩ := tr_bd r d 3 wr ok.2 hr
    refine ⟨(wts_rep (h1.app (Wts.fix h3)) hp).mono (by rw [LT_s]; omega), Nat.le_trans (vcnt_rep hp) ?_⟩
    rw [vcnt_app, vcnt_cons (by decide +kernel)]
    rw [CT_s]; omega
  | .dis l r, d + 1, n, ws, ok, h => by
    unfold Tst.ok at ok
    obtain ⟨p, wl, wr, hp, _, hl, hr, rfl⟩ := h
    obtain ⟨h1, h2⟩ := tr_bd l d 1 wl ok.1 hl
    obtain ⟨h3, h4⟩ := tr_bd r d 2 wr ok.2 hr
    refine ⟨(wts_rep (h1.app (Wts.fix h3)) hp).mono (by rw [LT_s]; omega), Nat.le_trans (vcnt_rep hp) ?_⟩
    rw [vcnt_app, vcnt_cons (by decide +kernel)]
    rw [CT_s]; omega
def ND : Nat → Nat
  | 0 => 1
  | d + 1 => 2 * ND d + 1
theorem ND_pos (d : Nat) : 1 ≤ ND d := by cases d <;> (unfold ND; omega)
theorem nd_bd : ∀ (t : Tst) (d : Nat), t.ok d → nodes t ≤ ND d
  | .same a b, d, ok => by unfold nodes; exact ND_pos d
  | .neg u, 0, ok => by unfold Tst.ok at ok; exact ok.elim
  | .con u v, 0, ok => by unfold Tst.ok at ok; exact ok.elim
  | .dis u v, 0, ok => by unfold Tst.ok at ok; exact ok.elim
  | .neg u, d + 1, ok => by
    unfold Tst.ok at ok
    have := nd_bd u d ok
    have := ND_pos d
    unfold nodes ND; omega
  | .con l r, d + 1, ok => by
    unfold Tst.ok at ok
    have := nd_bd l d ok.1
    have := nd_bd r d ok.2
    unfold nodes ND; omega
  | .dis l r, d + 1, ok => by
    unfold Tst.ok at ok
    have := nd_bd l d ok.1
    have := nd_bd r d ok.2
    unfold nodes ND; omega
theorem le3 {d : Nat} (h : d ≤ 3) : d = 0 ∨ d = 1 ∨ d = 2 ∨ d = 3 := by omega
theorem nd_50 {t : Tst} {d : Nat} (ok : t.ok d) (h : d ≤ 3) : nodes t < 50 := by
  have h1 := nd_bd t d ok
  rcases le3 h with rfl | rfl | rfl | rfl <;> exact Nat.lt_of_le_of_lt h1 (by decide)
theorem LT_le {d : Nat} (h : d ≤ 3) : LT d ≤ 130 := by
  rcases le3 h with rfl | rfl | rfl | rfl <;> decide
theorem CT_le {d : Nat} (h : d ≤ 2) : CT d ≤ 47 := by
  rcases le3 (Nat.le_trans h (by decide)) with rfl | rfl | rfl | rfl <;> first | decide | omega
/-- .. of a value -/
def LV : Nat → Nat
  | 0 => 1
  | d + 1 => LT (d + 1) + 3 + 2 * LV d
def CV : Nat → Nat
  | 0 => 0
  | d + 1 => CT (d + 1) + 1 + 2 * CV d
theorem LV_s (d : Nat) : LV (d + 1) = LT (d + 1) + 3 + 2 * LV d := rfl
theorem CV_s (d : Nat) : CV (d + 1) = CT (d + 1) + 1 + 2 * CV d := rfl
theorem LV_pos (d : Nat) : 1 ≤ LV d := by cases d <;> (unfold LV; omega)
theorem vt_bd : ∀ (v : Val) (d : Nat) (ws : List Str), v.ok d → VT v ws → Wts (LV d) ws ∧ vcnt ws ≤ CV d
  | .at a, d, ws, ok, h => by
    obtain ⟨ha, rfl⟩ := h
    refine ⟨(Wts.cons (wt_atom ha) .nil).mono (LV_pos d), ?_⟩
    rw [vcnt_cons (op3_atom ha)]
    exact Nat.zero_le _
  | .ite t x y, 0, ws, ok, h => by unfold Val.ok at ok; exact ok.elim
  | .ite t x y, d + 1, ws, ok, h => by
    unfold Val.ok at ok
    obtain ⟨wt, wx, wy, ht, _, hx, hy, rfl⟩ := h
    obtain ⟨t1, t2⟩ := tr_bd t (d + 1) 1 wt ok.1 ht
    obtain ⟨x1, x2⟩ := vt_bd x d wx ok.2.1 hx
    obtain ⟨y1, y2⟩ := vt_bd y d wy ok.2.2 hy
    refine ⟨(Wts.fix (t1.app (Wts.fix (x1.app (Wts.fix y1))))).mono (by rw [LV_s]; omega), ?_⟩
    rw [vcnt_if, vcnt_app, vcnt_cons (by decide +kernel), vcnt_app, vcnt_cons (by decide +kernel)]
    rw [CV_s]; omega
theorem le2 {d : Nat} (h : d ≤ 2) : d = 0 ∨ d = 1 ∨ d = 2 := by omega
theorem LV_le {d : Nat} (h : d ≤ 2) : LV d ≤ 130 := by
  rcases le2 h with rfl | rfl | rfl <;> decide
theorem LV_le1 {d : Nat} (h : d ≤ 1) : LV d ≤ 30 := by
  rcases le2 (Nat.le_trans h (by decide)) with rfl | rfl | rfl <;> first | decide | omega
theorem CV_le {d : Nat} (h : d ≤ 2) : CV d ≤ 47 := by
  rcases le2 h with rfl | rfl | rfl <;> decide
/-- rows grow at their ends -/
theorem dst_snoc {d : Nat} {x : Deed} {wx : List Str} (hx : DdT d x wx) : ∀ {xs : List Deed} {w : List Str}, DsT d xs w → DsT d (xs ++ [x]) (w ++ wx)
  | [], w, h => by
    unfold DsT at h; subst h
    rw [List.nil_append, List.nil_append]
    unfold DsT
    exact ⟨wx, [], hx, by unfold DsT; rfl, by simp⟩
  | y :: ys, w, h => by
    unfold DsT at h
    obtain ⟨wy, w2, h1, h2, rfl⟩ := h
    rw [List.cons_append, List.append_assoc]
    unfold DsT
    exact ⟨wy, _, h1, dst_snoc hx h2, rfl⟩
theorem pst_snoc {d : Nat} {x : Part} {wx : List Str} (hx : PtT d x wx) : ∀ {xs : List Part} {w : List Str}, PsT d xs w → PsT d (xs ++ [x]) (w ++ wx)
  | [], w, h => by
    unfold PsT at h; subst h
    rw [List.nil_append, List.nil_append]
    unfold PsT
    exact ⟨wx, [], hx, by unfold PsT; rfl, by simp⟩
  | y :: ys, w, h => by
    unfold PsT at h
    obtain ⟨wy, w2, h1, h2, rfl⟩ := h
    rw [List.cons_append, List.append_assoc]
    unfold PsT
    exact ⟨wy, _, h1, pst_snoc hx h2, rfl⟩
theorem vars_snoc {v : Vr} {wv : List Str} (h1 : NameOk false v.1) (h2 : NameOk true v.2.1) (h3 : VT v.2.2 wv) (h4 : vcnt wv ≤ 47) : ∀ {vs : List Vr} {w : List Str}, VarsT vs w → VarsT (vs ++ [v]) (w ++ ("var" : Str) :: v.1 :: (":" : Str) :: v.2.1 :: ("=" : Str) :: (wv ++ [(";" : Str)]))
  | [], w, h => by
    obtain rfl : w = [] := h
    exact ⟨wv, [], h1, h2, h3, h4, rfl, by simp⟩
  | y :: ys, w, h => by
    obtain ⟨wy, w2, a1, a2, a3, a4, a5, rfl⟩ := h
    exact ⟨wy, _, a1, a2, a3, a4, vars_snoc h1 h2 h3 h4 a5, by simp⟩
theorem kinds_snoc {k : Str × List Str} (h1 : NameOk true k.1) (h2 : 1 ≤ k.2.length) (h3 : k.2.length ≤ 5) (h4 : ∀ x ∈ k.2, NameOk true x) : ∀ {ks : List (Str × List Str)} {w : List Str}, KindsT ks w → KindsT (ks ++ [k]) (w ++ ("kind" : Str) :: k.1 :: ("=" : Str) :: (bars k.2 ++ [(";" : Str)]))
  | [], w, h => by
    obtain rfl : w = [] := h
    exact ⟨[], h1, h2, h3, h4, rfl, by simp⟩
  | y :: ys, w, h => by
    obtain ⟨w2, a1, a2, a3, a4, a5, rfl⟩ := h
    exact ⟨_, a1, a2, a3, a4, kinds_snoc h1 h2 h3 h4 a5, by simp⟩
/-- a test's row without the brackets around it -/
def TB : Tst → List Str → Prop
  | .same a b, ws => a.ok ∧ b.ok ∧ ws = [a.s, ("==" : Str), b.s]
  | .neg u, ws => ∃ w, TR u 3 w ∧ ws = ("not" : Str) :: w
  | .con l r, ws => ∃ wl wr, TR l 2 wl ∧ TR r 3 wr ∧ ws = wl ++ ("and" : Str) :: wr
  | .dis l r, ws => ∃ wl wr, TR l 1 wl ∧ TR r 2 wr ∧ ws = wl ++ ("or" : Str) :: wr
theorem tb_tr {t : Tst} {ws : List Str} {p n : Nat} (h : TB t ws) (hp : p ≤ 3) (hr : rank t < n → 1 ≤ p) : TR t n (rep p ws) := by
  cases t with
  | same a b => exact ⟨p, hp, h.1, h.2.1, by rw [h.2.2]⟩
  | neg u =>
    obtain ⟨w, h1, rfl⟩ := h
    exact ⟨p, w, hp, h1, rfl⟩
  | con l r =>
    obtain ⟨wl, wr, h1, h2, rfl⟩ := h
    exact ⟨p, wl, wr, hp, hr, h1, h2, rfl⟩
  | dis l r =>
    obtain ⟨wl, wr, h1, h2, rfl⟩ := h
    exact ⟨p, wl, wr, hp, hr, h1, h2, rfl⟩
theorem tb_bd {t : Tst} {ws : List Str} {d : Nat} (ok : t.ok d) (hd : d ≤ 3) (h : TB t ws) : ws.length ≤ 130 := by
  have h1 := tb_tr (p := 0) (n := 0) h (by decide) (fun h => absurd h (Nat.not_lt_zero _))
  rw [rep_zero] at h1
  exact Nat.le_trans (tr_bd t d 0 ws ok h1).1.1 (LT_le hd)
end Bd
/-! Rows of deeds, parts, programs: how long. -/
namespace Bd
open PySem L2 DL Syn Wr Lx Cu Rt Rv Rp
theorem wts_commas {n : Nat} : ∀ (xs : List (List Str)), (∀ x ∈ xs, Wts n x) → Wts ((n + 1) * xs.length) (commas xs)
  | [], _ => .nil
  | x :: xs, h => by
    have h2 : Wts ((n + 1) * xs.length) (xs.flatMap fun y => ("," : Str) :: y) := by
      have h3 : ∀ y ∈ xs, Wts n y := fun y hy => h y (List.mem_cons_of_mem _ hy)
      clear h
      induction xs with
      | nil => exact .nil
      | cons y ys ih =>
        rw [List.flatMap_cons, List.length_cons, Nat.mul_succ]
        exact ((Wts.fix (h3 y (List.mem_cons_self ..))).app (ih fun z hz => h3 z (List.mem_cons_of_mem _ hz))).mono (by omega)
    rw [List.length_cons, Nat.mul_succ]
    exact ((h x (List.mem_cons_self ..)).app h2).mono (by omega)
theorem wts_giv {gs : List Giv} (h : GivOk gs) : Wts 14 (givW gs) := by
  have h1 : Wts ((3 + 1) * (gs.map fun g => [g.1, (":" : Str), g.2]).length) (commas (gs.map fun g => [g.1, (":" : Str), g.2])) := wts_commas _ fun x hx => by
    obtain ⟨g, hg, rfl⟩ := List.mem_map.mp hx
    exact .nm (h.2 g hg).1 (.fix (.nm (h.2 g hg).2 .nil))
  rw [List.length_map] at h1
  have := h.1
  exact (Wts.fix (h1.app (.fix .nil))).mono (by omega)
theorem wts_bars : ∀ {xs : List Str}, (∀ x ∈ xs, NameOk true x) → Wts (2 * xs.length) (bars xs)
  | [], _ => .nil
  | x :: xs, h => by
    have h2 : Wts (2 * xs.length) (xs.flatMap fun y => [("|" : Str), y]) := by
      have h3 : ∀ y ∈ xs, NameOk true y := fun y hy => h y (List.mem_cons_of_mem _ hy)
      clear h
      induction xs with
      | nil => exact .nil
      | cons y ys ih =>
        rw [List.flatMap_cons, List.length_cons, Nat.mul_succ]
        exact ((Wts.fix (Wts.nm (h3 y (List.mem_cons_self ..)) .nil)).app (ih fun z hz => h3 z (List.mem_cons_of_mem _ hz))).mono (by omega)
    rw [List.length_cons, Nat.mul_succ]
    exact (Wts.nm (h x (List.mem_cons_self ..)) h2).mono (by omega)
def LD : Nat → Nat
  | 0 => 140
  | d + 1 => 3 * LD d + 140
theorem LD_s (d : Nat) : LD (d + 1) = 3 * LD d + 140 := rfl
theorem LD_lo (d : Nat) : 140 ≤ LD d := by cases d <;> (unfold LD; omega)
theorem LD_le {d : Nat} (h : d ≤ 2) : LD d ≤ 1820 := by
  rcases le2 h with rfl | rfl | rfl <;> decide
/-- a deed without ifs -/
theorem ddt_plain {d : Nat} {x : Deed} {w : List Str} (h : PlainT x w) : DdT d x w := by
  rcases x with ⟨n, v⟩ | ⟨n, f, vs⟩ | ⟨t, xs, ys⟩
  · cases d <;> (unfold DdT; exact h)
  · cases d <;> (unfold DdT; exact h)
  · exact h.elim
def LP : Nat → Nat
  | 0 => 5800
  | d + 1 => 2 * LP d + 500
theorem LP_s (d : Nat) : LP (d + 1) = 2 * LP d + 500 := rfl
theorem LP_lo (d : Nat) : 5800 ≤ LP d := by cases d <;> (unfold LP; have := 0; first | omega | (rename_i d; induction d with | zero => unfold LP; omega | succ d ih => unfold LP; omega))
theorem LP_le {d : Nat} (h : d ≤ 3) : LP d ≤ 50000 := by
  rcases le3 h with rfl | rfl | rfl | rfl <;> decide
end Bd
/-! A text that is laid of tokens and gaps. -/
namespace La
open PySem PySem.Spec L2 DL Syn Wr Lx Cu Bd
/-- what may stand between tokens -/
inductive Gap : List Nat → Prop where
  | blanks (n : Nat) : n ≤ 9 → Gap (List.replicate n 32)
  | line (n : Nat) : n ≤ 8 → Gap (10 :: List.replicate n 32)
  | lines : Gap [32, 10, 10, 32]
  | remark (n : Nat) (row : List Nat) : n ≤ 1 → row.length ≤ 6 → (∀ c ∈ row, textC c = true) → Gap (List.replicate n 32 ++ 35 :: (row ++ [10]))
theorem lex_blanks {r : List Nat} {rs : List (Str × Str)} (h : Lex r rs) : ∀ n, Lex (List.replicate n 32 ++ r) rs
  | 0 => h
  | n + 1 => by rw [List.replicate_succ]; exact .blank (lex_blanks h n)
theorem lex_blanks0 (n : Nat) : Lex (List.replicate n 32) [] := by
  have := lex_blanks .nil n
  rw [List.append_nil] at this; exact this
theorem Gap.go {g r : List Nat} {rs : List (Str × Str)} (h : Gap g) (k : Lex r rs) : Lex (g ++ r) rs := by
  cases h with
  | blanks n _ => exact lex_blanks k n
  | line n _ => exact .line (lex_blanks k n)
  | lines => exact .blank (.line (.line (.blank k)))
  | remark n row _ _ hr =>
    rw [List.append_assoc]
    refine lex_blanks ?_ n
    show Lex (35 :: (row ++ [10] ++ r)) rs
    rw [List.append_assoc]
    exact .remark hr (.inr ⟨_, rfl⟩) (.line k)
theorem Gap.stop {g : List Nat} (h : Gap g) : Lex g [] := by
  have := h.go .nil
  rw [List.append_nil] at this; exact this
theorem Gap.cut {g : List Nat} (h : Gap g) : Lex g.dropLast [] := by
  cases h with
  | blanks n _ =>
    rw [List.dropLast_replicate]
    exact lex_blanks0 _
  | line n _ =>
    cases n with
    | zero => exact .nil
    | succ n =>
      rw [List.replicate_succ, List.dropLast_cons_cons]
      have := lex_blanks0 (n + 1)
      rw [← List.replicate_succ, List.dropLast_replicate]
      exact .line (lex_blanks0 _)
  | lines => exact .blank (.line (.line .nil))
  | remark n row _ _ hr =>
    have e : List.replicate n 32 ++ 35 :: (row ++ [10]) = (List.replicate n 32 ++ 35 :: row) ++ [10] := by simp
    rw [e, List.dropLast_concat]
    refine lex_blanks ?_ n
    have := Lex.remark (r := []) hr (.inl rfl) .nil
    rw [List.append_nil] at this
    exact this
theorem Gap.hd {g : List Nat} (h : Gap g) : g = [] ∨ ∃ c r, g = c :: r ∧ (c = 32 ∨ c = 10 ∨ c = 35) := by
  cases h with
  | blanks n _ =>
    cases n with
    | zero => exact .inl rfl
    | succ n => exact .inr ⟨32, _, rfl, .inl rfl⟩
  | line n _ => exact .inr ⟨10, _, rfl, .inr (.inl rfl)⟩
  | lines => exact .inr ⟨32, _, rfl, .inl rfl⟩
  | remark n row _ _ hr =>
    cases n with
    | zero => exact .inr ⟨35, _, rfl, .inr (.inr rfl)⟩
    | succ n => exact .inr ⟨32, _, rfl, .inl rfl⟩
theorem Gap.len {g : List Nat} (h : Gap g) : g.length ≤ 9 := by
  cases h with
  | blanks n h => rw [List.length_replicate]; exact h
  | line n h => rw [List.length_cons, List.length_replicate]; omega
  | lines => decide
  | remark n row h1 h2 hr =>
    simp only [List.length_append, List.length_replicate, List.length_cons, List.length_nil]
    omega
/-- the token left does not grow into what stands behind it -/
def NF (left : Str) : List Nat → Prop
  | [] => True
  | c :: _ => (∀ d, left.cps.toList.getLast? = some d → rowC d = true → rowC c = true → False) ∧ (left = ":" ∨ left = "=" → c ≠ 61)
theorem nf_gap {left : Str} {c : Nat} {r : List Nat} (h : c = 32 ∨ c = 10 ∨ c = 35) : NF left (c :: r) := by
  refine ⟨fun d _ _ hc => ?_, fun _ => ?_⟩
  · rcases h with rfl | rfl | rfl <;> exact absurd hc (by decide)
  · rcases h with rfl | rfl | rfl <;> decide
theorem nf_none {r : List Nat} : NF "" r := by
  cases r with
  | nil => trivial
  | cons c r =>
    refine ⟨fun d hd => ?_, fun h => ?_⟩
    · cases hd
    · rcases h with h | h
      · exact absurd h (by decide +kernel)
      · exact absurd h (by decide +kernel)
theorem tw_all {f : Nat → Bool} {l r : List Nat} (h : ∀ c ∈ l, f c = true) (hr : ∀ c r', r = c :: r' → f c = false) : tw f (l ++ r) = l.length := by
  induction l with
  | nil =>
    cases r with
    | nil => rfl
    | cons c r => exact tw_stop (hr c r rfl)
  | cons c l ih =>
    rw [List.cons_append, tw_step (h c (List.mem_cons_self ..)), ih fun x hx => h x (List.mem_cons_of_mem _ hx)] <;> rfl
theorem last_row {w : Str} (h : ∀ c ∈ w.cps.toList, rowC c = true) {d : Nat} (hd : w.cps.toList.getLast? = some d) : rowC d = true := h d (List.mem_of_getLast? hd)
theorem nf_row {w : Str} {c0 : Nat} {l r : List Nat} (e : w.cps.toList = c0 :: l) (h : ∀ c ∈ w.cps.toList, rowC c = true) (hn : NF w r) : ∀ c r', r = c :: r' → rowC c = false := by
  rintro c r' rfl
  obtain ⟨d, hd⟩ : ∃ d, w.cps.toList.getLast? = some d := by
    cases e2 : w.cps.toList.getLast? with
    | some d => exact ⟨d, rfl⟩
    | none => rw [List.getLast?_eq_none_iff, e] at e2; cases e2
  cases e3 : rowC c with
  | false => rfl
  | true => exact (hn.1 d hd (last_row h hd) e3).elim
theorem smallC_ne {c : Nat} (h : smallC c = true ∨ greatC c = true) : c ≠ 10 ∧ c ≠ 35 ∧ c ≠ 32 := by
  unfold smallC greatC at h
  simp at h
  omega
/-- a token in front -/
theorem lex_tok {w : Str} {r : List Nat} {rs : List (Str × Str)} {c0 n : Nat} {l : List Nat} {s : Str} (e : w.cps.toList = c0 :: l) (h10 : c0 ≠ 10 ∧ c0 ≠ 35 ∧ c0 ≠ 32) (hn : n = w.cps.toList.length) (ht : TokAt (c0 :: (l ++ r)) s n) (k : Lex r rs) : Lex (w.cps.toList ++ r) ((s, w) :: rs) := by
  have e1 : w.cps.toList ++ r = c0 :: (l ++ r) := by rw [e]; rfl
  have e2 : (c0 :: (l ++ r)).take n = w.cps.toList := by rw [← e1, hn, List.take_left]
  have e3 : (c0 :: (l ++ r)).drop n = r := by rw [← e1, hn, List.drop_left]
  have := Lex.tok (c := c0) (r := l ++ r) h10.1 h10.2.1 h10.2.2 ht (by rw [e3]; exact k)
  rw [e2, str_arr] at this
  rw [e1]; exact this
theorem lex_row {w : Str} {r : List Nat} {rs : List (Str × Str)} {c0 : Nat} {l : List Nat} (e : w.cps.toList = c0 :: l) (h : ∀ c ∈ w.cps.toList, rowC c = true) (hc : smallC c0 = true ∨ greatC c0 = true) (hn : NF w r) (k : Lex r rs) : Lex (w.cps.toList ++ r) ((if greatC c0 then "Name" else if w ∈ WORDS then w else "name", w) :: rs) := by
  have htw : tw rowC (c0 :: (l ++ r)) = w.cps.toList.length := by
    have := tw_all (r := r) h (nf_row e h hn)
    rw [e] at this ⊢; exact this
  have etk : (⟨((c0 :: (l ++ r)).take (tw rowC (c0 :: (l ++ r)))).toArray⟩ : Str) = w := by
    rw [htw, show c0 :: (l ++ r) = w.cps.toList ++ r by rw [e]; rfl, List.take_left, str_arr]
  refine lex_tok e (smallC_ne hc) htw ?_ k
  rcases hc with hc | hc
  · rw [if_neg (by rw [small_great hc]; simp)]
    by_cases hw : w ∈ WORDS
    · rw [if_pos hw]
      have := TokAt.word (c := c0) (r := l ++ r) hc (by rw [etk]; exact hw)
      rw [etk] at this; exact this
    · rw [if_neg hw]
      exact TokAt.small hc (by rw [etk]; exact hw)
  · rw [if_pos hc]
    exact TokAt.great hc
theorem self_shape : ∀ w ∈ SELF, (w ∈ WORDS ∧ ∃ c l, w.cps.toList = c :: l ∧ smallC c = true ∧ ∀ c ∈ w.cps.toList, rowC c = true) ∨ w ∈ PRS ∨ ∃ c, w = ⟨#[c]⟩ ∧ c ∈ SGN.cps.toList := by
  intro w hw
  rcases self_word w hw with h | h
  · obtain ⟨c, l, e, h1, h2, _⟩ := words_row w h
    exact .inl ⟨h, c, l, e, h1, h2⟩
  · have key : ∀ w ∈ SELF, w.cps.toList.all rowC = false → w ∈ PRS ∨ (match w.cps.toList with | [c] => decide (c ∈ SGN.cps.toList) | _ => false) = true := by decide +kernel
    rcases key w hw h with h | h
    · exact .inr (.inl h)
    · right; right
      cases e : w.cps.toList with
      | nil => rw [e] at h; cases h
      | cons c l =>
        rw [e] at h
        cases l with
        | nil => exact ⟨c, by rw [← str_arr w, e], of_decide_eq_true h⟩
        | cons _ _ => cases h
theorem sgn_ne : ∀ c ∈ SGN.cps.toList, c ≠ 10 ∧ c ≠ 35 ∧ c ≠ 32 := by decide +kernel
theorem prs_ne : ∀ p ∈ PRS, ∃ c d, p.cps.toList = [c, d] ∧ c ≠ 10 ∧ c ≠ 35 ∧ c ≠ 32 := by
  intro p hp
  rcases List.mem_cons.mp hp with rfl | hp
  · exact ⟨58, 61, by decide +kernel, by decide, by decide, by decide⟩
  · rw [List.mem_singleton.mp hp]
    exact ⟨61, 61, by decide +kernel, by decide, by decide, by decide⟩
theorem prs_of {c d : Nat} (h : (⟨#[c, d]⟩ : Str) ∈ PRS) : (c = 58 ∨ c = 61) ∧ d = 61 := by
  have e1 : (":=" : Str) = ⟨#[58, 61]⟩ := by decide +kernel
  have e2 : ("==" : Str) = ⟨#[61, 61]⟩ := by decide +kernel
  rcases List.mem_cons.mp h with h | h
  · rw [e1] at h
    simp at h
    exact ⟨.inl h.1, h.2⟩
  · have h := List.mem_singleton.mp h
    rw [e2] at h
    simp at h
    exact ⟨.inr h.1, h.2⟩
theorem prs_one {c : Nat} : (⟨#[c]⟩ : Str) ∉ PRS := fun h => by
  have := prs_len2 _ h
  exact absurd this (by simp)
where prs_len2 : ∀ p ∈ PRS, p.cps.toList.length = 2 := by decide +kernel
theorem lex_wt {w : Str} {r : List Nat} {rs : List (Str × Str)} (h : Wt w) (hn : NF w r) (k : Lex r rs) : Lex (w.cps.toList ++ r) (tokOf w :: rs) := by
  rcases h with ⟨g, h⟩ | h
  · obtain ⟨c, l, e, hc⟩ := h.hd
    have hc2 : smallC c = true ∨ greatC c = true := by cases g <;> simp at hc <;> simp [hc]
    have := lex_row e h.all hc2 hn k
    rw [if_neg h.nw] at this
    rw [tok_name h]
    cases g with
    | true => simp at hc; rw [if_pos hc] at this; exact this
    | false => simp at hc; rw [if_neg (by rw [small_great hc]; simp)] at this; exact this
  · rw [tok_self h]
    rcases self_shape w h with ⟨hw, c, l, e, hc, ha⟩ | hp | ⟨c, rfl, hc⟩
    · have := lex_row e ha (.inl hc) hn k
      rw [if_neg (by rw [small_great hc]; simp), if_pos hw] at this
      exact this
    · obtain ⟨c, d, e, h1, h2, h3⟩ := prs_ne w hp
      exact lex_tok e ⟨h1, h2, h3⟩ (by rw [e]; rfl) (.pair hp (by rw [e]; rfl)) k
    · refine lex_tok (w := ⟨#[c]⟩) (l := []) rfl (sgn_ne c hc) rfl (.sign hc ?_) k
      cases r with
      | nil => exact prs_one
      | cons d r =>
        intro hm
        obtain ⟨h1, h2⟩ := prs_of (show (⟨#[c, d]⟩ : Str) ∈ PRS from hm)
        refine hn.2 ?_ h2
        have e1 : (":" : Str) = ⟨#[58]⟩ := by decide +kernel
        have e2 : ("=" : Str) = ⟨#[61]⟩ := by decide +kernel
        rw [e1, e2]
        rcases h1 with rfl | rfl
        · exact .inl rfl
        · exact .inr rfl
theorem wt_len {w : Str} (h : Wt w) : 1 ≤ w.length ∧ w.length ≤ 12 := by
  rcases h with ⟨g, h⟩ | h
  · obtain ⟨c, l, e, _⟩ := h.hd
    exact ⟨by rw [TL.len_tl]; show 1 ≤ w.cps.toList.length; rw [e]; simp, h.len⟩
  · have : ∀ w ∈ SELF, 1 ≤ w.length ∧ w.length ≤ 12 := by decide +kernel
    exact this w h
/-- a text so far: what may come behind it -/
def TextP (text : Str) (toks : List (Str × Str)) (left : Str) : Prop := ∀ r rs, NF left r → Lex r rs → Lex (text.cps.toList ++ r) (toks ++ rs)
theorem textP_nil : TextP "" [] "" := fun r rs _ k => k
/-- what is known of a gap -/
def GapR (left right g : Str) : Prop := Gap g.cps.toList ∧ (g.cps.toList = [] → right = "" ∨ ∀ r, NF left (right.cps.toList ++ r))
theorem textP_next {text left g w : Str} {toks : List (Str × Str)} (h : TextP text toks left) (hw : Wt w) (hg : GapR left w g) : TextP (text ++ g ++ w) (toks ++ [tokOf w]) w := by
  intro r rs hn k
  rw [tl_app, tl_app, List.append_assoc, List.append_assoc, List.append_assoc]
  refine h _ _ ?_ (hg.1.go (lex_wt hw hn k))
  rcases hg.1.hd with e | ⟨c, l, e, hc⟩
  · rw [e, List.nil_append]
    rcases hg.2 e with rfl | hn2
    · exact absurd (wt_len hw).1 (by decide +kernel)
    · exact hn2 r
  · rw [e]; exact nf_gap hc
theorem textP_end {text left g : Str} {toks : List (Str × Str)} (h : TextP text toks left) (hg : Lex g.cps.toList [] ∧ (g.cps.toList = [] ∨ ∃ c l, g.cps.toList = c :: l ∧ (c = 32 ∨ c = 10 ∨ c = 35))) : Lex (text ++ g ++ "").cps.toList toks := by
  have := h g.cps.toList [] ?_ hg.1
  · rw [tl_app, tl_app]
    rw [List.append_nil] at this
    rw [show ("" : Str).cps.toList = [] by decide +kernel, List.append_nil]
    exact this
  · rcases hg.2 with e | ⟨c, l, e, hc⟩
    · rw [e]; trivial
    · rw [e]; exact nf_gap hc
theorem Gap.cut_hd {g : List Nat} (h : Gap g) : g.dropLast = [] ∨ ∃ c r, g.dropLast = c :: r ∧ (c = 32 ∨ c = 10 ∨ c = 35) := by
  rcases h.hd with e | ⟨c, r, e, hc⟩
  · rw [e]; exact .inl rfl
  · rw [e]
    cases r with
    | nil => exact .inl rfl
    | cons d r => exact .inr ⟨c, _, List.dropLast_cons_cons .., hc⟩
theorem str_ext {a b : Str} (h : a.cps.toList = b.cps.toList) : a = b := by
  rw [← str_arr a, ← str_arr b, h]
theorem join_ones : ∀ cs : List Nat, (Txt.join "" (cs.map fun c => (⟨#[c]⟩ : Str))).cps.toList = cs := by
  have e0 : ("" : Str).cps.toList = [] := by decide +kernel
  have key : ∀ (cs : List Nat) (c : Nat), (Str.join "" ((c :: cs).map fun c => (⟨#[c]⟩ : Str))).cps.toList = c :: cs := by
    intro cs
    induction cs with
    | nil => intro c; rfl
    | cons d cs ih =>
      intro c
      show ((⟨#[c]⟩ : Str) ++ "" ++ Str.join "" ((d :: cs).map fun c => (⟨#[c]⟩ : Str))).cps.toList = _
      rw [tl_app, tl_app, ih d, e0] <;> rfl
  intro cs
  rw [TL.join_eq]
  cases cs with
  | nil => decide +kernel
  | cons c cs => exact key cs c
theorem cut_neg1 {α : Type} {l : List α} : cutL l none (some (-1)) = l.dropLast := by
  unfold cutL
  rw [HT.sIx_none, List.dropLast_eq_take, List.drop_zero, Nat.sub_zero]
  congr 1
  unfold HT.sIx
  dsimp only
  rw [if_pos (by decide)]
  omega
end La
namespace K01
open PySem PySem.Spec L2 DL Syn
local macro_rules | `(tactic| walk_at "st") => `(tactic| simp only [start_def, List.map_cons, List.map_nil, List.length_cons, List.length_nil, List.cons_append, List.nil_append, Nat.zero_add, Nat.reduceAdd, Nat.reduceSub, List.replicate])
local macro_rules | `(tactic| walk_at "dl") => `(tactic| simp only [dSeq, dNext, dDrop, dRet, dRetF, dRetN, dIfS, dAsg, dAug, dPar, nGm, nTup, nCons, nNil, dVar, dC, dOp, dUn, dCons, dNil, dTup, dLst, dB, dTru, dAnd, dOr, dNot, dAndV, dOrV, dNotV, dIf, dChain, dCB, dCall, dSlE, dNoPart, dPart, dRev, dS0, dS1, dBL, dBL0, dIsi, dBreak, dCont, List.set_cons_zero, List.set_cons_succ, List.getElem?_cons_zero, List.getElem?_cons_succ, ifB_t, ifB_f, e_new_f, e_new_t, e_add_int, e_add_str, e_add_tup, e_add_lst, e_sub, e_mul, e_mul_str, e_mul_lst, e_div, e_mod, e_pow, e_neg, e_eq_int, e_eq_str, e_isN_non, e_isN_obj, e_isN_tup, e_isN_lst, e_lt_int, e_lt_str, e_le_int, e_le_str, e_gt, e_ge, e_in_str, e_t0, e_t1, e_t2, e_t3, e_t4, e_t5, e_l0, e_l1, e_l2, e_l3, e_sl_tup, e_sl_rdl, e_sl_str, e_sl_lst, e_len_str, e_len_lst, e_len_tup, e_int, e_tupC_tup, e_tupC_lst, e_iadd_int, e_iadd_str, e_isub, tru_bl, tru_int, tru_non, tru_lst, tru_tup, ex_some, bne_f, bne_t, e_nSub, lsD_lst, sz0, sz1, sz2, sz3, sz4, sz5, sz6, sz7, sz8, true_and])
def topS (i : Nat) : Stmt := PySem.Challenge.pw_outlived_k01_whole_any_layout.main.body.getD i (.Pass ⟨0, 0, 0, 0⟩)
abbrev sis_small : Stmt := topS 7
abbrev Nis_small : List Str := ["sign"]
abbrev Pis_small : List Str := ["sign"]
theorem scis_small : FnScope Nis_small Pis_small (defScope sis_small) := ⟨rfl, rfl, rfl, by decide +kernel, rfl, by decide +kernel, by decide +kernel⟩
abbrev sis_great : Stmt := topS 8
abbrev Nis_great : List Str := ["sign"]
abbrev Pis_great : List Str := ["sign"]
theorem scis_great : FnScope Nis_great Pis_great (defScope sis_great) := ⟨rfl, rfl, rfl, by decide +kernel, rfl, by decide +kernel, by decide +kernel⟩
abbrev sin_row : Stmt := topS 9
abbrev Nin_row : List Str := ["sign"]
abbrev Pin_row : List Str := ["sign"]
theorem scin_row : FnScope Nin_row Pin_row (defScope sin_row) := ⟨rfl, rfl, rfl, by decide +kernel, rfl, by decide +kernel, by decide +kernel⟩
abbrev sin_text : Stmt := topS 10
abbrev Nin_text : List Str := ["sign"]
abbrev Pin_text : List Str := ["sign"]
theorem scin_text : FnScope Nin_text Pin_text (defScope sin_text) := ⟨rfl, rfl, rfl, by decide +kernel, rfl, by decide +kernel, by decide +kernel⟩
abbrev stokens : Stmt := topS 11
abbrev Ntokens : List Str := ["text", "rows", "at", "line", "start", "sign", "behind", "sort"]
abbrev Ptokens : List Str := ["text"]
theorem sctokens : FnScope Ntokens Ptokens (defScope stokens) := ⟨rfl, rfl, rfl, by decide +kernel, rfl, by decide +kernel, by decide +kernel⟩
abbrev sbehind_remark : Stmt := topS 12
abbrev Nbehind_remark : List Str := ["text", "at"]
abbrev Pbehind_remark : List Str := ["text", "at"]
theorem scbehind_remark : FnScope Nbehind_remark Pbehind_remark (defScope sbehind_remark) := ⟨rfl, rfl, rfl, by decide +kernel, rfl, by decide +kernel, by decide +kernel⟩
abbrev stoken_at : Stmt := topS 13
abbrev Ntoken_at : List Str := ["text", "at", "behind", "word"]
abbrev Ptoken_at : List Str := ["text", "at"]
theorem sctoken_at : FnScope Ntoken_at Ptoken_at (defScope stoken_at) := ⟨rfl, rfl, rfl, by decide +kernel, rfl, by decide +kernel, by decide +kernel⟩
abbrev sCursorU_initU : Stmt := inClass (topS 17) 0
abbrev NCursorU_initU : List Str := ["self", "rows"]
abbrev PCursorU_initU : List Str := ["self", "rows"]
theorem scCursorU_initU : FnScope NCursorU_initU PCursorU_initU (defScope sCursorU_initU) := ⟨rfl, rfl, rfl, by decide +kernel, rfl, by decide +kernel, by decide +kernel⟩
abbrev sCursor_now : Stmt := inClass (topS 17) 1
abbrev NCursor_now : List Str := ["self"]
abbrev PCursor_now : List Str := ["self"]
theorem scCursor_now : FnScope NCursor_now PCursor_now (defScope sCursor_now) := ⟨rfl, rfl, rfl, by decide +kernel, rfl, by decide +kernel, by decide +kernel⟩
abbrev sCursor_take : Stmt := inClass (topS 17) 3
abbrev NCursor_take : List Str := ["self", "sort"]
abbrev PCursor_take : List Str := ["self", "sort"]
theorem scCursor_take : FnScope NCursor_take PCursor_take (defScope sCursor_take) := ⟨rfl, rfl, rfl, by decide +kernel, rfl, by decide +kernel, by decide +kernel⟩
abbrev sCursor_enter : Stmt := inClass (topS 17) 4
abbrev NCursor_enter : List Str := ["self", "sort"]
abbrev PCursor_enter : List Str := ["self", "sort"]
theorem scCursor_enter : FnScope NCursor_enter PCursor_enter (defScope sCursor_enter) := ⟨rfl, rfl, rfl, by decide +kernel, rfl, by decide +kernel, by decide +kernel⟩
abbrev sCursor_leave : Stmt := inClass (topS 17) 5
abbrev NCursor_leave : List Str := ["self", "sort"]
abbrev PCursor_leave : List Str := ["self", "sort"]
theorem scCursor_leave : FnScope NCursor_leave PCursor_leave (defScope sCursor_leave) := ⟨rfl, rfl, rfl, by decide +kernel, rfl, by decide +kernel, by decide +kernel⟩
abbrev sCursor_shut : Stmt := inClass (topS 17) 6
abbrev NCursor_shut : List Str := ["self"]
abbrev PCursor_shut : List Str := ["self"]
theorem scCursor_shut : FnScope NCursor_shut PCursor_shut (defScope sCursor_shut) := ⟨rfl, rfl, rfl, by decide +kernel, rfl, by decide +kernel, by decide +kernel⟩
abbrev sread_kinds : Stmt := topS 18
abbrev Nread_kinds : List Str := ["cursor", "rows", "name", "words"]
abbrev Pread_kinds : List Str := ["cursor"]
theorem scread_kinds : FnScope Nread_kinds Pread_kinds (defScope sread_kinds) := ⟨rfl, rfl, rfl, by decide +kernel, rfl, by decide +kernel, by decide +kernel⟩
abbrev sread_vars : Stmt := topS 19
abbrev Nread_vars : List Str := ["cursor", "rows", "name", "kind", "value"]
abbrev Pread_vars : List Str := ["cursor"]
theorem scread_vars : FnScope Nread_vars Pread_vars (defScope sread_vars) := ⟨rfl, rfl, rfl, by decide +kernel, rfl, by decide +kernel, by decide +kernel⟩
abbrev sread_givens : Stmt := topS 20
abbrev Nread_givens : List Str := ["cursor", "rows", "name"]
abbrev Pread_givens : List Str := ["cursor"]
theorem scread_givens : FnScope Nread_givens Pread_givens (defScope sread_givens) := ⟨rfl, rfl, rfl, by decide +kernel, rfl, by decide +kernel, by decide +kernel⟩
abbrev sread_parts : Stmt := topS 21
abbrev Nread_parts : List Str := ["cursor", "around", "parts", "now", "name", "givens", "rows", "outer"]
abbrev Pread_parts : List Str := ["cursor"]
theorem scread_parts : FnScope Nread_parts Pread_parts (defScope sread_parts) := ⟨rfl, rfl, rfl, by decide +kernel, rfl, by decide +kernel, by decide +kernel⟩
abbrev sread_act : Stmt := topS 22
abbrev Nread_act : List Str := ["cursor", "name", "givens", "kind", "deeds", "value"]
abbrev Pread_act : List Str := ["cursor"]
theorem scread_act : FnScope Nread_act Pread_act (defScope sread_act) := ⟨rfl, rfl, rfl, by decide +kernel, rfl, by decide +kernel, by decide +kernel⟩
abbrev sread_deeds : Stmt := topS 23
abbrev Nread_deeds : List Str := ["cursor", "around", "rows", "now", "test", "outer", "first", "sides"]
abbrev Pread_deeds : List Str := ["cursor"]
theorem scread_deeds : FnScope Nread_deeds Pread_deeds (defScope sread_deeds) := ⟨rfl, rfl, rfl, by decide +kernel, rfl, by decide +kernel, by decide +kernel⟩
abbrev sread_plain : Stmt := topS 24
abbrev Nread_plain : List Str := ["cursor", "name", "value", "act", "values"]
abbrev Pread_plain : List Str := ["cursor"]
theorem scread_plain : FnScope Nread_plain Pread_plain (defScope sread_plain) := ⟨rfl, rfl, rfl, by decide +kernel, rfl, by decide +kernel, by decide +kernel⟩
abbrev sread_atom : Stmt := topS 25
abbrev Nread_atom : List Str := ["cursor"]
abbrev Pread_atom : List Str := ["cursor"]
theorem scread_atom : FnScope Nread_atom Pread_atom (defScope sread_atom) := ⟨rfl, rfl, rfl, by decide +kernel, rfl, by decide +kernel, by decide +kernel⟩
abbrev sread_value : Stmt := topS 26
abbrev Nread_value : List Str := ["cursor", "around", "test", "value", "first"]
abbrev Pread_value : List Str := ["cursor"]
theorem scread_value : FnScope Nread_value Pread_value (defScope sread_value) := ⟨rfl, rfl, rfl, by decide +kernel, rfl, by decide +kernel, by decide +kernel⟩
abbrev sRowsU_initU : Stmt := inClass (topS 27) 0
abbrev NRowsU_initU : List Str := ["self"]
abbrev PRowsU_initU : List Str := ["self"]
theorem scRowsU_initU : FnScope NRowsU_initU PRowsU_initU (defScope sRowsU_initU) := ⟨rfl, rfl, rfl, by decide +kernel, rfl, by decide +kernel, by decide +kernel⟩
abbrev sgrouped : Stmt := topS 28
abbrev Ngrouped : List Str := ["word", "parts", "test", "part"]
abbrev Pgrouped : List Str := ["word", "parts"]
theorem scgrouped : FnScope Ngrouped Pgrouped (defScope sgrouped) := ⟨rfl, rfl, rfl, by decide +kernel, rfl, by decide +kernel, by decide +kernel⟩
abbrev sread_test : Stmt := topS 29
abbrev Nread_test : List Str := ["cursor", "around", "rows", "first", "whole", "test"]
abbrev Pread_test : List Str := ["cursor"]
theorem scread_test : FnScope Nread_test Pread_test (defScope sread_test) := ⟨rfl, rfl, rfl, by decide +kernel, rfl, by decide +kernel, by decide +kernel⟩
abbrev s_put : Stmt := topS 30
abbrev N_put : List Str := ["cursor", "rows", "term", "_"]
abbrev P_put : List Str := ["cursor", "rows", "term"]
theorem sc_put : FnScope N_put P_put (defScope s_put) := ⟨rfl, rfl, rfl, by decide +kernel, rfl, by decide +kernel, by decide +kernel⟩
abbrev s_go_on : Stmt := topS 31
abbrev N_go_on : List Str := ["cursor", "word", "parts"]
abbrev P_go_on : List Str := ["cursor", "word", "parts"]
theorem sc_go_on : FnScope N_go_on P_go_on (defScope s_go_on) := ⟨rfl, rfl, rfl, by decide +kernel, rfl, by decide +kernel, by decide +kernel⟩
abbrev sread : Stmt := topS 32
abbrev Nread : List Str := ["text", "cursor", "kinds", "rows"]
abbrev Pread : List Str := ["text"]
theorem scread : FnScope Nread Pread (defScope sread) := ⟨rfl, rfl, rfl, by decide +kernel, rfl, by decide +kernel, by decide +kernel⟩
abbrev s_law_draw : Stmt := topS 34
abbrev N_law_draw : List Str := ["script", "cell"]
abbrev P_law_draw : List Str := ["script"]
theorem sc_law_draw : FnScope N_law_draw P_law_draw (defScope s_law_draw) := ⟨rfl, rfl, rfl, by decide +kernel, rfl, by decide +kernel, by decide +kernel⟩
abbrev s_law_next : Stmt := topS 35
abbrev N_law_next : List Str := ["draw", "many", "cell", "digit"]
abbrev P_law_next : List Str := ["draw", "many"]
theorem sc_law_next : FnScope N_law_next P_law_next (defScope s_law_next) := ⟨rfl, rfl, rfl, by decide +kernel, rfl, by decide +kernel, by decide +kernel⟩
abbrev s_law_pick : Stmt := topS 36
abbrev N_law_pick : List Str := ["draw", "row"]
abbrev P_law_pick : List Str := ["draw", "row"]
theorem sc_law_pick : FnScope N_law_pick P_law_pick (defScope s_law_pick) := ⟨rfl, rfl, rfl, by decide +kernel, rfl, by decide +kernel, by decide +kernel⟩
abbrev s_law_words : Stmt := topS 37
abbrev N_law_words : List Str := []
abbrev P_law_words : List Str := []
theorem sc_law_words : FnScope N_law_words P_law_words (defScope s_law_words) := ⟨rfl, rfl, rfl, by decide +kernel, rfl, by decide +kernel, by decide +kernel⟩
abbrev s_law_spelled : Stmt := topS 38
abbrev N_law_spelled : List Str := ["draw", "great", "low", "signs", "text", "k"]
abbrev P_law_spelled : List Str := ["draw", "great"]
theorem sc_law_spelled : FnScope N_law_spelled P_law_spelled (defScope s_law_spelled) := ⟨rfl, rfl, rfl, by decide +kernel, rfl, by decide +kernel, by decide +kernel⟩
abbrev s_law_fuse : Stmt := topS 39
abbrev N_law_fuse : List Str := ["left", "right"]
abbrev P_law_fuse : List Str := ["left", "right"]
theorem sc_law_fuse : FnScope N_law_fuse P_law_fuse (defScope s_law_fuse) := ⟨rfl, rfl, rfl, by decide +kernel, rfl, by decide +kernel, by decide +kernel⟩
abbrev s_law_gap : Stmt := topS 40
abbrev N_law_gap : List Str := ["draw", "left", "right", "what", "low", "signs", "row", "k"]
abbrev P_law_gap : List Str := ["draw", "left", "right"]
theorem sc_law_gap : FnScope N_law_gap P_law_gap (defScope s_law_gap) := ⟨rfl, rfl, rfl, by decide +kernel, rfl, by decide +kernel, by decide +kernel⟩
abbrev s_law_behind : Stmt := topS 41
abbrev N_law_behind : List Str := ["place", "text"]
abbrev P_law_behind : List Str := ["place", "text"]
theorem sc_law_behind : FnScope N_law_behind P_law_behind (defScope s_law_behind) := ⟨rfl, rfl, rfl, by decide +kernel, rfl, by decide +kernel, by decide +kernel⟩
abbrev s_law_laid : Stmt := topS 42
abbrev N_law_laid : List Str := ["draw", "tokens_v", "text", "places", "place", "left", "token", "gap"]
abbrev P_law_laid : List Str := ["draw", "tokens_v"]
theorem sc_law_laid : FnScope N_law_laid P_law_laid (defScope s_law_laid) := ⟨rfl, rfl, rfl, by decide +kernel, rfl, by decide +kernel, by decide +kernel⟩
abbrev s_law_atom : Stmt := topS 43
abbrev N_law_atom : List Str := ["draw"]
abbrev P_law_atom : List Str := ["draw"]
theorem sc_law_atom : FnScope N_law_atom P_law_atom (defScope s_law_atom) := ⟨rfl, rfl, rfl, by decide +kernel, rfl, by decide +kernel, by decide +kernel⟩
abbrev s_law_value : Stmt := topS 44
abbrev N_law_value : List Str := ["draw", "deep"]
abbrev P_law_value : List Str := ["draw", "deep"]
theorem sc_law_value : FnScope N_law_value P_law_value (defScope s_law_value) := ⟨rfl, rfl, rfl, by decide +kernel, rfl, by decide +kernel, by decide +kernel⟩
abbrev s_law_test : Stmt := topS 45
abbrev N_law_test : List Str := ["draw", "deep", "what"]
abbrev P_law_test : List Str := ["draw", "deep"]
theorem sc_law_test : FnScope N_law_test P_law_test (defScope s_law_test) := ⟨rfl, rfl, rfl, by decide +kernel, rfl, by decide +kernel, by decide +kernel⟩
abbrev s_law_deeds : Stmt := topS 46
abbrev N_law_deeds : List Str := ["draw", "deep", "many", "deeds", "k", "what", "values", "n"]
abbrev P_law_deeds : List Str := ["draw", "deep", "many"]
theorem sc_law_deeds : FnScope N_law_deeds P_law_deeds (defScope s_law_deeds) := ⟨rfl, rfl, rfl, by decide +kernel, rfl, by decide +kernel, by decide +kernel⟩
abbrev s_law_givens : Stmt := topS 47
abbrev N_law_givens : List Str := ["draw", "k"]
abbrev P_law_givens : List Str := ["draw"]
theorem sc_law_givens : FnScope N_law_givens P_law_givens (defScope s_law_givens) := ⟨rfl, rfl, rfl, by decide +kernel, rfl, by decide +kernel, by decide +kernel⟩
abbrev s_law_vars : Stmt := topS 48
abbrev N_law_vars : List Str := ["draw", "many", "rows", "k"]
abbrev P_law_vars : List Str := ["draw", "many"]
theorem sc_law_vars : FnScope N_law_vars P_law_vars (defScope s_law_vars) := ⟨rfl, rfl, rfl, by decide +kernel, rfl, by decide +kernel, by decide +kernel⟩
abbrev s_law_parts : Stmt := topS 49
abbrev N_law_parts : List Str := ["draw", "deep", "many", "parts", "k", "name", "head"]
abbrev P_law_parts : List Str := ["draw", "deep", "many"]
theorem sc_law_parts : FnScope N_law_parts P_law_parts (defScope s_law_parts) := ⟨rfl, rfl, rfl, by decide +kernel, rfl, by decide +kernel, by decide +kernel⟩
abbrev s_law_program : Stmt := topS 50
abbrev N_law_program : List Str := ["draw", "kinds", "k", "name", "n"]
abbrev P_law_program : List Str := ["draw"]
theorem sc_law_program : FnScope N_law_program P_law_program (defScope s_law_program) := ⟨rfl, rfl, rfl, by decide +kernel, rfl, by decide +kernel, by decide +kernel⟩
abbrev s_law_commas : Stmt := topS 51
abbrev N_law_commas : List Str := ["rows", "row", "one"]
abbrev P_law_commas : List Str := ["rows"]
theorem sc_law_commas : FnScope N_law_commas P_law_commas (defScope s_law_commas) := ⟨rfl, rfl, rfl, by decide +kernel, rfl, by decide +kernel, by decide +kernel⟩
abbrev s_law_test_row : Stmt := topS 52
abbrev N_law_test_row : List Str := ["draw", "test", "least", "rank", "row", "pairs"]
abbrev P_law_test_row : List Str := ["draw", "test", "least"]
theorem sc_law_test_row : FnScope N_law_test_row P_law_test_row (defScope s_law_test_row) := ⟨rfl, rfl, rfl, by decide +kernel, rfl, by decide +kernel, by decide +kernel⟩
abbrev s_law_value_row : Stmt := topS 53
abbrev N_law_value_row : List Str := ["draw", "value", "row"]
abbrev P_law_value_row : List Str := ["draw", "value"]
theorem sc_law_value_row : FnScope N_law_value_row P_law_value_row (defScope s_law_value_row) := ⟨rfl, rfl, rfl, by decide +kernel, rfl, by decide +kernel, by decide +kernel⟩
abbrev s_law_deed_row : Stmt := topS 54
abbrev N_law_deed_row : List Str := ["draw", "deeds", "row", "deed", "value"]
abbrev P_law_deed_row : List Str := ["draw", "deeds"]
theorem sc_law_deed_row : FnScope N_law_deed_row P_law_deed_row (defScope s_law_deed_row) := ⟨rfl, rfl, rfl, by decide +kernel, rfl, by decide +kernel, by decide +kernel⟩
abbrev s_law_var_row : Stmt := topS 55
abbrev N_law_var_row : List Str := ["draw", "rows", "row", "one"]
abbrev P_law_var_row : List Str := ["draw", "rows"]
theorem sc_law_var_row : FnScope N_law_var_row P_law_var_row (defScope s_law_var_row) := ⟨rfl, rfl, rfl, by decide +kernel, rfl, by decide +kernel, by decide +kernel⟩
abbrev s_law_part_row : Stmt := topS 56
abbrev N_law_part_row : List Str := ["draw", "parts", "row", "part", "one"]
abbrev P_law_part_row : List Str := ["draw", "parts"]
theorem sc_law_part_row : FnScope N_law_part_row P_law_part_row (defScope s_law_part_row) := ⟨rfl, rfl, rfl, by decide +kernel, rfl, by decide +kernel, by decide +kernel⟩
abbrev s_law_tokens : Stmt := topS 57
abbrev N_law_tokens : List Str := ["draw", "program", "row", "one", "value"]
abbrev P_law_tokens : List Str := ["draw", "program"]
theorem sc_law_tokens : FnScope N_law_tokens P_law_tokens (defScope s_law_tokens) := ⟨rfl, rfl, rfl, by decide +kernel, rfl, by decide +kernel, by decide +kernel⟩
abbrev slaw : Stmt := topS 58
abbrev Nlaw : List Str := ["script", "draw", "program", "first", "second", "other", "third"]
abbrev Plaw : List Str := ["script"]
theorem sclaw : FnScope Nlaw Plaw (defScope slaw) := ⟨rfl, rfl, rfl, by decide +kernel, rfl, by decide +kernel, by decide +kernel⟩
structure Txt (K : PySem.W.Frag) (mg : Str → Option Value) : Prop where
  len : mg "len" = none
  PAIRS : GTup K mg "PAIRS" [":=", "=="]
  SIGNS : ∃ t, mg "SIGNS" = some (.str "=|;:,(){}" t)
  WORDS : GTup K mg "WORDS" ["kind", "var", "make", "act", "if", "then", "else", "do", "answer", "and", "or", "not"]
  DEEP : ∃ t, mg "DEEP" = some (.int 60 t)
  tuple : mg "tuple" = none
  range : mg "range" = none
  LONG : ∃ t, mg "LONG" = some (.int 60 t)
  int : mg "int" = none
section
variable {P : Program} {w : World} {K : PySem.W.Frag} {mg : Str → Option Value} {base : Heap}
def sp_draw : SpD := fun ds M Q _ => ∃ ns : List Int, ds = [.rdl ns] ∧ ns.length ≤ 63 ∧ ∀ a o, M a = none → DrawO o → Q (.obj a) (updM M a (.lst o))
def sp_next : SpD := fun ds M Q _ => ∃ a many, ds = [.obj a, .int many] ∧ 0 < many ∧ many < 1073741824 ∧ DrawAt M a ∧ ∀ n M', 0 ≤ n → n < many → DrN a M M' → Q (.int n) M'
theorem ok__law_draw (T : Txt K mg) {f : Addr} {fd : FuncData} (F : FunD K "_law_draw" "_law_draw" (defArgs s_law_draw) (defBody s_law_draw) (defScope s_law_draw) [] [] f fd) : FnOk P w K mg base CX0 (0 + 1) f fd P_law_draw (LSp K (sp_draw)) := by
  refine fnD0 F sc_law_draw (fun ds M Q E h => by first | (obtain ⟨rfl, _⟩ := h; rfl) | (obtain ⟨_, rfl, _⟩ := h; rfl) | (obtain ⟨_, _, rfl, _⟩ := h; rfl) | (obtain ⟨_, _, _, rfl, _⟩ := h; rfl) | (obtain ⟨_, _, _, _, rfl, _⟩ := h; rfl) | (obtain ⟨_, _, _, _, _, rfl, _⟩ := h; rfl) | (obtain ⟨_, _, _, _, _, _, rfl, _⟩ := h; rfl) | (obtain ⟨_, _, _, _, _, _, _, rfl, _⟩ := h; rfl) | (obtain ⟨_, _, _, _, _, _, _, _, rfl, _⟩ := h; rfl) | (obtain ⟨_, _, _, _, _, _, _, _, _, rfl, _⟩ := h; rfl) | (obtain ⟨_, _, _, _, _, _, _, _, _, _, rfl, _⟩ := h; rfl) | (obtain ⟨_, _, _, _, _, _, _, _, _, _, _, rfl, _⟩ := h; rfl) | (obtain ⟨_, _, _, _, _, _, _, _, _, _, _, _, rfl, _⟩ := h; rfl) | (obtain ⟨_, _, _, _, _, _, _, _, _, _, _, _, _, rfl, _⟩ := h; rfl) | (obtain ⟨_, _, _, _, _, _, _, _, _, _, _, _, _, _, rfl, _⟩ := h; rfl) | (obtain ⟨_, _, _, _, _, _, _, _, _, _, _, _, _, _, _, rfl, _⟩ := h; rfl) | (obtain ⟨_, _, _, _, _, _, _, _, _, _, _, _, _, _, _, _, rfl, _⟩ := h; rfl) | (obtain ⟨_, _, _, _, _, _, _, _, _, _, _, _, _, _, _, _, _, rfl, _⟩ := h; rfl) | (obtain ⟨_, _, _, _, _, _, _, _, _, _, _, _, _, _, _, _, _, _, rfl, _⟩ := h; rfl) | (obtain ⟨_, _, _, _, _, _, _, _, _, _, _, _, _, _, _, _, _, _, _, rfl, _⟩ := h; rfl)) fun cdv A outer s H E F0 hr => ⟨_, (dss_one (ds_ret (de_lst (own := true) (da_cons (de_lc (own := false) (x := "cell") (j := 1) rfl sc_law_draw.nd (di_items (de_sl (own := false) (de_var (pv 0)) do_none (do_some de_int))) (blkOk_by (N := N_law_draw) (sc := defScope s_law_draw) (by decide +kernel)) (fun _ _ _ _ _ => pg_name (i := 1) sc_law_draw.nd rfl (by first | exact Or.inl rfl | exact Or.inr rfl)) (fun _ _ _ _ _ => (de_callTy cd_int rfl T.int (by decide +kernel) (da_cons (de_var (pv 1)) da_nil)))) (da_cons de_int (da_cons de_int (da_cons de_int da_nil))))))), fun ds M Q Ex h => ?_⟩
  obtain ⟨ns, rfl, hn, q⟩ := h
  walk_at "st"
  walk_at "dl"
  refine lc_pure ((cutL ns none (some 63)).map D.int) (fun d => d) (fun Kd hk => ?_) ?_ ?_ ?_
  · unfold dItems
    walk_at "dl"
    exact hk
  · rw [List.length_map]
    refine Nat.le_trans (show (cutL ns none (some ((63 : Nat) : Int))).length ≤ 63 from ?_) (by decide)
    rw [cut_to, List.length_take]
    exact Nat.min_le_left _ _
  · intro i d M2 Q2 hd _ q2
    rw [List.getElem?_map] at hd
    obtain ⟨n, _, rfl⟩ := Option.map_eq_some_iff.mp hd
    walk_at "dl"
    exact q2
  · walk_at "dl"
    refine fun a ha => Wk.here (q a _ ha ⟨cutL ns none (some 63), 0, 0, 41, ?_, by decide⟩)
    rw [List.map_id']
theorem ok__law_next (T : Txt K mg) {f : Addr} {fd : FuncData} (F : FunD K "_law_next" "_law_next" (defArgs s_law_next) (defBody s_law_next) (defScope s_law_next) [] [] f fd) : FnOk P w K mg base CX0 (0 + 1) f fd P_law_next (LSp K (sp_next)) := by
  refine fnD0 F sc_law_next (fun ds M Q E h => by first | (obtain ⟨rfl, _⟩ := h; rfl) | (obtain ⟨_, rfl, _⟩ := h; rfl) | (obtain ⟨_, _, rfl, _⟩ := h; rfl) | (obtain ⟨_, _, _, rfl, _⟩ := h; rfl) | (obtain ⟨_, _, _, _, rfl, _⟩ := h; rfl) | (obtain ⟨_, _, _, _, _, rfl, _⟩ := h; rfl) | (obtain ⟨_, _, _, _, _, _, rfl, _⟩ := h; rfl) | (obtain ⟨_, _, _, _, _, _, _, rfl, _⟩ := h; rfl) | (obtain ⟨_, _, _, _, _, _, _, _, rfl, _⟩ := h; rfl) | (obtain ⟨_, _, _, _, _, _, _, _, _, rfl, _⟩ := h; rfl) | (obtain ⟨_, _, _, _, _, _, _, _, _, _, rfl, _⟩ := h; rfl) | (obtain ⟨_, _, _, _, _, _, _, _, _, _, _, rfl, _⟩ := h; rfl) | (obtain ⟨_, _, _, _, _, _, _, _, _, _, _, _, rfl, _⟩ := h; rfl) | (obtain ⟨_, _, _, _, _, _, _, _, _, _, _, _, _, rfl, _⟩ := h; rfl) | (obtain ⟨_, _, _, _, _, _, _, _, _, _, _, _, _, _, rfl, _⟩ := h; rfl) | (obtain ⟨_, _, _, _, _, _, _, _, _, _, _, _, _, _, _, rfl, _⟩ := h; rfl) | (obtain ⟨_, _, _, _, _, _, _, _, _, _, _, _, _, _, _, _, rfl, _⟩ := h; rfl) | (obtain ⟨_, _, _, _, _, _, _, _, _, _, _, _, _, _, _, _, _, rfl, _⟩ := h; rfl) | (obtain ⟨_, _, _, _, _, _, _, _, _, _, _, _, _, _, _, _, _, _, rfl, _⟩ := h; rfl) | (obtain ⟨_, _, _, _, _, _, _, _, _, _, _, _, _, _, _, _, _, _, _, rfl, _⟩ := h; rfl)) fun cdv A outer s H E F0 hr => ⟨_, (dss_cons (ds_if (dt_w (dw_and (dt_cmp (od_eq hr.units) (de_ix (de_var (pv 0)) de_int (fun _ _ => rfl)) de_int (nomark _)) (dw_and1 (dt_cmp (od_lt) (de_ix (de_var (pv 0)) de_int (fun _ _ => rfl)) (de_callB cd_len rfl T.len (by decide +kernel) (da_cons (de_ix (de_var (pv 0)) de_int (fun _ _ => rfl)) da_nil)) (nomark _))))) (dss_cons (ds_set (i := 2) sc_law_next.nd rfl (Or.inl rfl) (de_ix (de_ix (de_var (pv 0)) de_int (fun _ _ => rfl)) (de_ix (de_var (pv 0)) de_int (fun _ _ => rfl)) (fun _ _ => rfl)))
      (dss_cons (ds_asg (de_op (od_add (own := false)) (de_ix (de_var (pv 0)) de_int (fun _ _ => rfl)) de_int) (dg_sub (de_var (pv 0)) de_int))
      (dss_one (ds_if (dt_cmp (od_ge) (de_var (pv 2)) (de_op (od_pow) de_int de_int) (nomark _)) (dss_one (ds_asg (de_var (pv 2)) (dg_sub (de_var (pv 0)) de_int))) (dss_one (ds_asg (de_op (od_mod) (de_callTy cd_int rfl T.int (by decide +kernel) (da_cons (de_op (od_add (own := false)) (de_op (od_add (own := false)) (de_op (od_mul (own := false)) (de_ix (de_var (pv 0)) de_int (fun _ _ => rfl)) de_int) (de_op (od_mul (own := false)) (de_var (pv 2)) de_int)) de_int) da_nil)) de_int) (dg_sub (de_var (pv 0)) de_int))))))) dss_nil)
      (dss_cons (ds_if (dt_cmp (od_gt) (de_ix (de_var (pv 0)) de_int (fun _ _ => rfl)) de_int (nomark _)) (dss_cons (ds_set (i := 3) sc_law_next.nd rfl (Or.inl rfl) (de_op (od_mod) (de_callTy cd_int rfl T.int (by decide +kernel) (da_cons (de_ix (de_var (pv 0)) de_int (fun _ _ => rfl)) da_nil)) (de_var (pv 1))))
      (dss_cons (ds_asg (de_op (od_div) (de_ix (de_var (pv 0)) de_int (fun _ _ => rfl)) (de_var (pv 1))) (dg_sub (de_var (pv 0)) de_int))
      (dss_one (ds_ret (de_var (pv 3)))))) dss_nil)
      (dss_cons (ds_asg (de_op (od_mod) (de_callTy cd_int rfl T.int (by decide +kernel) (da_cons (de_op (od_add (own := false)) (de_op (od_mul (own := false)) (de_ix (de_var (pv 0)) de_int (fun _ _ => rfl)) de_int) de_int) da_nil)) de_int) (dg_sub (de_var (pv 0)) de_int))
      (dss_one (ds_ret (de_op (od_mod) (de_callTy cd_int rfl T.int (by decide +kernel) (da_cons (de_op (od_div) (de_op (od_mod) (de_callTy cd_int rfl T.int (by decide +kernel) (da_cons (de_op (od_mul (own := false)) (de_ix (de_var (pv 0)) de_int (fun _ _ => rfl)) de_int) da_nil)) de_int) de_int) da_nil)) (de_var (pv 1)))))))), fun ds M Q Ex h => ?_⟩
  obtain ⟨a, many, rfl, hm, hm2, ⟨o, ho, hO⟩, q⟩ := h
  walk_at "st"
  have e0 : M = updM M a (.lst o) := (updM_self ho).symm
  refine seq_tail (fun σ M' => ∃ c o', DrawO o' ∧ M' = updM M a (.lst o') ∧ σ = [some (.obj a), some (.int many), c, none]) ?_ ?_
  · rintro σ M' ⟨c, o', ⟨cells, at_, big, mix, rfl, h0⟩, rfl, rfl⟩
    have h1 : updM M a (.lst [.lst (cells.map D.int), .int at_, .int big, .int mix]) a = some (.lst [.lst (cells.map D.int), .int at_, .int big, .int mix]) := updM_same
    have done : ∀ (n : Int) (o : List D), DrawO o → 0 ≤ n → n < many → Wk Q (.int n) (updM (updM M a (.lst [.lst (cells.map D.int), .int at_, .int big, .int mix])) a (.lst o)) := fun n o hO h2 h3 => Wk.here (q n _ h2 h3 ⟨o, by rw [updM_updM], hO⟩)
    refine seq_tail (fun σ M' => σ = [some (.obj a), some (.int many), c, none] ∧ M' = updM M a (.lst [.lst (cells.map D.int), .int at_, .int big, .int mix])) ?_ ?_
    · rintro σ M' ⟨rfl, rfl⟩
      walk_at "dl"
      rw [e_o3 h1]
      walk_at "dl"
      refine ⟨.inr ⟨by decide, by decide⟩, by decide, a, _, 3, 3, rfl, rfl, h1, rfl, ?_⟩
      walk_at "dl"
      rw [e_o3 updM_same]
      walk_at "dl"
      refine ⟨.inr ⟨by decide, by decide⟩, by decide, ⟨by decide, by decide⟩, hm, done _ _ ⟨cells, at_, big, _, rfl, h0⟩ (Int.emod_nonneg _ (by omega)) (Int.emod_lt_of_pos _ hm)⟩
    · intro N hN
      walk_at "dl"
      rw [e_o2 h1]
      walk_at "dl"
      refine ifB (fun _ => ?_) (fun _ => hN _ _ ⟨rfl, rfl⟩)
      rw [e_o2 h1]
      walk_at "dl"
      refine ⟨hm, ?_⟩
      rw [e_o2 h1]
      walk_at "dl"
      refine ⟨⟨hm, hm2⟩, a, _, 2, 2, rfl, rfl, h1, rfl, ?_⟩
      exact done _ _ ⟨cells, at_, _, mix, rfl, h0⟩ (Int.emod_nonneg _ (by omega)) (Int.emod_lt_of_pos _ hm)
  · intro N hN
    obtain ⟨cells, at_, big, mix, rfl, h0⟩ := hO
    walk_at "dl"
    rw [e_o2 ho]
    walk_at "dl"
    refine ifB (fun _ => ?_) (fun _ => hN _ _ ⟨none, _, ⟨cells, at_, big, mix, rfl, h0⟩, e0, rfl⟩)
    rw [e_o1 ho]
    rw [e_o0 ho]
    walk_at "dl"
    refine ifB (fun hlt => ?_) (fun _ => hN _ _ ⟨none, _, ⟨cells, at_, big, mix, rfl, h0⟩, e0, rfl⟩)
    rw [e_o0 ho]
    rw [e_o1 ho]
    have hlt' : at_.toNat < cells.length := by
      have := of_decide_eq_true hlt
      rw [List.length_map] at this
      omega
    have ea : (at_.toNat : Int) = at_ := by omega
    have hx : (cells.map D.int)[at_.toNat]? = some (.int cells[at_.toNat]) := by
      rw [List.getElem?_map, List.getElem?_eq_getElem hlt'] <;> rfl
    rw [show dIx (.lst (cells.map D.int)) (.int at_) = dIx (.lst (cells.map D.int)) (.int (at_.toNat : Int)) by rw [ea]]
    refine e_ix (x := .lst (cells.map D.int)) rfl hx ?_
    generalize cells[at_.toNat] = cell
    rw [e_o1 ho]
    walk_at "dl"
    refine ⟨a, _, 1, 1, rfl, rfl, ho, rfl, ?_⟩
    refine ⟨by decide, ?_⟩
    have h1 : updM M a (.lst [.lst (cells.map D.int), .int (at_ + 1), .int big, .int mix]) a = some (.lst [.lst (cells.map D.int), .int (at_ + 1), .int big, .int mix]) := updM_same
    refine ifB (fun _ => ?_) (fun _ => ?_)
    · refine ⟨a, _, 2, 2, rfl, rfl, h1, rfl, ?_⟩
      exact hN _ _ ⟨_, _, ⟨cells, _, _, mix, rfl, by omega⟩, updM_updM, rfl⟩
    · show dIx (.obj a) (.int 3) (updM M a (.lst [.lst (cells.map D.int), .int (at_ + 1), .int big, .int mix])) _
      rw [e_o3 h1]
      walk_at "dl"
      refine ⟨.inr ⟨by decide, by decide⟩, .inr ⟨by decide, by decide⟩, by decide, a, _, 3, 3, rfl, rfl, h1, rfl, ?_⟩
      exact hN _ _ ⟨_, _, ⟨cells, _, big, _, rfl, by omega⟩, updM_updM, rfl⟩
def sp_pick : SpD := fun ds M Q _ => ∃ a x, ds = [.obj a, x] ∧ DrawAt M a ∧ ((∃ z, x = .str z ∧ 0 < z.length ∧ z.length ≤ sizeLine ∧ ∀ c M', c ∈ z.cps.toList → DrN a M M' → Q (.str ⟨#[c]⟩) M') ∨ (∃ xs, (x = .lst xs ∨ x = .tup xs) ∧ 0 < xs.length ∧ xs.length ≤ sizeLine ∧ ∀ d M', d ∈ xs → DrN a M M' → Q d M'))
theorem ok__law_pick (T : Txt K mg) {f : Addr} {fd : FuncData} (F : FunD K "_law_pick" "_law_pick" (defArgs s_law_pick) (defBody s_law_pick) (defScope s_law_pick) [] [] f fd) (h__law_next : Callee P w K mg base CX0 (1) "_law_next" P_law_next sp_next) : FnOk P w K mg base CX0 (1 + 1) f fd P_law_pick (LSp K (sp_pick)) := by
  refine fnD0 F sc_law_pick (fun ds M Q E h => by first | (obtain ⟨rfl, _⟩ := h; rfl) | (obtain ⟨_, rfl, _⟩ := h; rfl) | (obtain ⟨_, _, rfl, _⟩ := h; rfl) | (obtain ⟨_, _, _, rfl, _⟩ := h; rfl) | (obtain ⟨_, _, _, _, rfl, _⟩ := h; rfl) | (obtain ⟨_, _, _, _, _, rfl, _⟩ := h; rfl) | (obtain ⟨_, _, _, _, _, _, rfl, _⟩ := h; rfl) | (obtain ⟨_, _, _, _, _, _, _, rfl, _⟩ := h; rfl) | (obtain ⟨_, _, _, _, _, _, _, _, rfl, _⟩ := h; rfl) | (obtain ⟨_, _, _, _, _, _, _, _, _, rfl, _⟩ := h; rfl) | (obtain ⟨_, _, _, _, _, _, _, _, _, _, rfl, _⟩ := h; rfl) | (obtain ⟨_, _, _, _, _, _, _, _, _, _, _, rfl, _⟩ := h; rfl) | (obtain ⟨_, _, _, _, _, _, _, _, _, _, _, _, rfl, _⟩ := h; rfl) | (obtain ⟨_, _, _, _, _, _, _, _, _, _, _, _, _, rfl, _⟩ := h; rfl) | (obtain ⟨_, _, _, _, _, _, _, _, _, _, _, _, _, _, rfl, _⟩ := h; rfl) | (obtain ⟨_, _, _, _, _, _, _, _, _, _, _, _, _, _, _, rfl, _⟩ := h; rfl) | (obtain ⟨_, _, _, _, _, _, _, _, _, _, _, _, _, _, _, _, rfl, _⟩ := h; rfl) | (obtain ⟨_, _, _, _, _, _, _, _, _, _, _, _, _, _, _, _, _, rfl, _⟩ := h; rfl) | (obtain ⟨_, _, _, _, _, _, _, _, _, _, _, _, _, _, _, _, _, _, rfl, _⟩ := h; rfl) | (obtain ⟨_, _, _, _, _, _, _, _, _, _, _, _, _, _, _, _, _, _, _, rfl, _⟩ := h; rfl)) fun cdv A outer s H E F0 hr => ⟨_, (dss_one (ds_ret (de_ix (de_var (pv 1)) (de_fn h__law_next (hr.mono (by omega)) rfl pass0 finX0 (da_cons (de_var (pv 0)) (da_cons (de_callB cd_len rfl T.len (by decide +kernel) (da_cons (de_var (pv 1)) da_nil)) da_nil))) (fun _ _ => rfl)))), fun ds M Q Ex h => ?_⟩
  obtain ⟨a, x, rfl, hD, q⟩ := h
  walk_at "st"
  walk_at "dl"
  rcases q with ⟨z, rfl, hz, hz2, q⟩ | ⟨xs, hx, hz, hz2, q⟩
  · rw [e_len_str]
    refine ⟨hz2, a, _, rfl, by omega, by have := sizeLine_eq; omega, hD, fun n M' h0 h1 hN => ?_⟩
    have hn : n.toNat < z.cps.toList.length := by
      have e : z.length = z.cps.toList.length := TL.len_tl z
      omega
    have en : n = (n.toNat : Int) := by omega
    rw [en]
    exact e_ix_str hz2 (List.getElem?_eq_getElem hn) (Wk.here (q _ _ (List.getElem_mem hn) hN))
  · have sq : ∀ M, sqD M x = some xs := fun M => by rcases hx with rfl | rfl <;> rfl
    rw [e_len (sq M)]
    refine ⟨a, _, rfl, by omega, by have := sizeLine_eq; omega, hD, fun n M' h0 h1 hN => ?_⟩
    have hn : n.toNat < xs.length := by omega
    have en : n = (n.toNat : Int) := by omega
    rw [en]
    exact e_ix (sq M') (List.getElem?_eq_getElem hn) (Wk.here (q _ _ (List.getElem_mem hn) hN))
def sp_words : SpD := fun ds M Q _ => ds = [] ∧ Q (.lst (WORDS.map D.str)) M
theorem split_words : Txt.split "kind var make act if then else do answer and or not" " " = WORDS := by decide +kernel
theorem ok__law_words (T : Txt K mg) {f : Addr} {fd : FuncData} (F : FunD K "_law_words" "_law_words" (defArgs s_law_words) (defBody s_law_words) (defScope s_law_words) [] [] f fd) : FnOk P w K mg base CX0 (0 + 1) f fd P_law_words (LSp K (sp_words)) := by
  refine fnD0 F sc_law_words (fun ds M Q E h => by first | (obtain ⟨rfl, _⟩ := h; rfl) | (obtain ⟨_, rfl, _⟩ := h; rfl) | (obtain ⟨_, _, rfl, _⟩ := h; rfl) | (obtain ⟨_, _, _, rfl, _⟩ := h; rfl) | (obtain ⟨_, _, _, _, rfl, _⟩ := h; rfl) | (obtain ⟨_, _, _, _, _, rfl, _⟩ := h; rfl) | (obtain ⟨_, _, _, _, _, _, rfl, _⟩ := h; rfl) | (obtain ⟨_, _, _, _, _, _, _, rfl, _⟩ := h; rfl) | (obtain ⟨_, _, _, _, _, _, _, _, rfl, _⟩ := h; rfl) | (obtain ⟨_, _, _, _, _, _, _, _, _, rfl, _⟩ := h; rfl) | (obtain ⟨_, _, _, _, _, _, _, _, _, _, rfl, _⟩ := h; rfl) | (obtain ⟨_, _, _, _, _, _, _, _, _, _, _, rfl, _⟩ := h; rfl) | (obtain ⟨_, _, _, _, _, _, _, _, _, _, _, _, rfl, _⟩ := h; rfl) | (obtain ⟨_, _, _, _, _, _, _, _, _, _, _, _, _, rfl, _⟩ := h; rfl) | (obtain ⟨_, _, _, _, _, _, _, _, _, _, _, _, _, _, rfl, _⟩ := h; rfl) | (obtain ⟨_, _, _, _, _, _, _, _, _, _, _, _, _, _, _, rfl, _⟩ := h; rfl) | (obtain ⟨_, _, _, _, _, _, _, _, _, _, _, _, _, _, _, _, rfl, _⟩ := h; rfl) | (obtain ⟨_, _, _, _, _, _, _, _, _, _, _, _, _, _, _, _, _, rfl, _⟩ := h; rfl) | (obtain ⟨_, _, _, _, _, _, _, _, _, _, _, _, _, _, _, _, _, _, rfl, _⟩ := h; rfl) | (obtain ⟨_, _, _, _, _, _, _, _, _, _, _, _, _, _, _, _, _, _, _, rfl, _⟩ := h; rfl)) fun cdv A outer s H E F0 hr => ⟨_, (dss_one (ds_ret (de_s1 PySem.F.slot_str_split PySem.F.type_str_split (xs_split (own := false)) de_str de_str))), fun ds M Q Ex h => ?_⟩
  obtain ⟨rfl, q⟩ := h
  walk_at "st"
  walk_at "dl"
  refine ⟨by decide +kernel, by decide +kernel, ?_⟩
  rw [split_words]
  exact Wk.here q
def sp_spelled : SpD := fun ds M Q _ => ∃ a g, ds = [.obj a, .bl g] ∧ DrawAt M a ∧ ∀ s M', NameOk g s → DrN a M M' → Q (.str s) M'
theorem ok__law_spelled (T : Txt K mg) {f : Addr} {fd : FuncData} (F : FunD K "_law_spelled" "_law_spelled" (defArgs s_law_spelled) (defBody s_law_spelled) (defScope s_law_spelled) [] [] f fd) (h__law_next : Callee P w K mg base CX0 (1) "_law_next" P_law_next sp_next) (h__law_pick : Callee P w K mg base CX0 (2) "_law_pick" P_law_pick sp_pick) (h__law_words : Callee P w K mg base CX0 (1) "_law_words" P_law_words sp_words) : FnOk P w K mg base CX0 (2 + 1) f fd P_law_spelled (LSp K (sp_spelled)) := by
  refine fnD0 F sc_law_spelled (fun ds M Q E h => by first | (obtain ⟨rfl, _⟩ := h; rfl) | (obtain ⟨_, rfl, _⟩ := h; rfl) | (obtain ⟨_, _, rfl, _⟩ := h; rfl) | (obtain ⟨_, _, _, rfl, _⟩ := h; rfl) | (obtain ⟨_, _, _, _, rfl, _⟩ := h; rfl) | (obtain ⟨_, _, _, _, _, rfl, _⟩ := h; rfl) | (obtain ⟨_, _, _, _, _, _, rfl, _⟩ := h; rfl) | (obtain ⟨_, _, _, _, _, _, _, rfl, _⟩ := h; rfl) | (obtain ⟨_, _, _, _, _, _, _, _, rfl, _⟩ := h; rfl) | (obtain ⟨_, _, _, _, _, _, _, _, _, rfl, _⟩ := h; rfl) | (obtain ⟨_, _, _, _, _, _, _, _, _, _, rfl, _⟩ := h; rfl) | (obtain ⟨_, _, _, _, _, _, _, _, _, _, _, rfl, _⟩ := h; rfl) | (obtain ⟨_, _, _, _, _, _, _, _, _, _, _, _, rfl, _⟩ := h; rfl) | (obtain ⟨_, _, _, _, _, _, _, _, _, _, _, _, _, rfl, _⟩ := h; rfl) | (obtain ⟨_, _, _, _, _, _, _, _, _, _, _, _, _, _, rfl, _⟩ := h; rfl) | (obtain ⟨_, _, _, _, _, _, _, _, _, _, _, _, _, _, _, rfl, _⟩ := h; rfl) | (obtain ⟨_, _, _, _, _, _, _, _, _, _, _, _, _, _, _, _, rfl, _⟩ := h; rfl) | (obtain ⟨_, _, _, _, _, _, _, _, _, _, _, _, _, _, _, _, _, rfl, _⟩ := h; rfl) | (obtain ⟨_, _, _, _, _, _, _, _, _, _, _, _, _, _, _, _, _, _, rfl, _⟩ := h; rfl) | (obtain ⟨_, _, _, _, _, _, _, _, _, _, _, _, _, _, _, _, _, _, _, rfl, _⟩ := h; rfl)) fun cdv A outer s H E F0 hr => ⟨_, (dss_cons (ds_set (i := 2) sc_law_spelled.nd rfl (Or.inl rfl) de_str)
      (dss_cons (ds_set (i := 3) sc_law_spelled.nd rfl (Or.inl rfl) (de_op (od_add (own := false)) (de_op (od_add (own := false)) (de_var (pv 2)) (de_s0 PySem.F.slot_str_upper PySem.F.type_str_upper xs_upper (de_var (pv 2)))) de_str))
      (dss_cons (ds_set (i := 4) sc_law_spelled.nd rfl (Or.inl rfl) (de_if (dt_tru (de_var (pv 1))) (de_ix (de_s0 PySem.F.slot_str_upper PySem.F.type_str_upper xs_upper (de_var (pv 2))) (de_fn h__law_next (hr.mono (by omega)) rfl pass0 finX0 (da_cons (de_var (pv 0)) (da_cons de_int da_nil))) (fun _ _ => rfl)) (de_ix (de_var (pv 2)) (de_fn h__law_next (hr.mono (by omega)) rfl pass0 finX0 (da_cons (de_var (pv 0)) (da_cons de_int da_nil))) (fun _ _ => rfl))))
      (dss_cons (ds_if (dt_w (dw_and (dt_not (dt_tru (de_var (pv 1)))) (dw_and1 (dt_cmp (od_eq hr.units) (de_fn h__law_next (hr.mono (by omega)) rfl pass0 finX0 (da_cons (de_var (pv 0)) (da_cons de_int da_nil))) de_int (nomark _))))) (dss_one (ds_set (i := 4) sc_law_spelled.nd rfl (Or.inl rfl) (de_op (od_add (own := false)) (de_fn h__law_pick (hr.mono (by omega)) rfl pass0 finX0 (da_cons (de_var (pv 0)) (da_cons (de_fn0 h__law_words (hr.mono (by omega)) rfl pass0 finX0) da_nil))) (de_ix (de_var (pv 3)) (de_fn h__law_next (hr.mono (by omega)) rfl pass0 finX0 (da_cons (de_var (pv 0)) (da_cons de_int da_nil))) (fun _ _ => rfl))))) dss_nil)
      (dss_cons (ds_for PassesOwn.never rfl (di_range1 rfl T.range (da_cons (de_fn h__law_next (hr.mono (by omega)) rfl pass0 finX0 (da_cons (de_var (pv 0)) (da_cons de_int da_nil))) da_nil)) (dg_name (pg_name (i := 5) sc_law_spelled.nd rfl (Or.inl rfl))) (dss_one (ds_set (i := 4) sc_law_spelled.nd rfl (Or.inl rfl) (de_op (od_add (own := false)) (de_var (pv 4)) (de_ix (de_var (pv 3)) (de_fn h__law_next (hr.mono (by omega)) rfl pass0 finX0 (da_cons (de_var (pv 0)) (da_cons de_int da_nil))) (fun _ _ => rfl))))))
      (dss_one (ds_ret (de_if (dt_cmp (od_in) (de_var (pv 4)) (de_fn0 h__law_words (hr.mono (by omega)) rfl pass0 finX0) rfl) (de_op (od_add (own := false)) (de_var (pv 4)) de_str) (de_var (pv 4)))))))))), fun ds M Q Ex h => ?_⟩
  obtain ⟨a, g, rfl, hD, q⟩ := h
  walk_at "st"
  have sigL : SIG.length ≤ sizeLine := by decide +kernel
  -- one further sign
  have sign : ∀ (M' : Mp) (Q' : DK), DrawAt M' a → (∀ c M2, rowC c = true → DrN a M' M2 → Q' (.str ⟨#[c]⟩) M2) → sp_next [D.obj a, D.int 63] M' (fun y M2 => dIx (.str SIG) y M2 Q') X0 := by
    intro M' Q' hD' hq
    refine ⟨a, 63, rfl, by decide, by decide, hD', fun n M2 h0 h1 hN => ?_⟩
    have hn : n.toNat < SIG.cps.toList.length := by
      have e : SIG.cps.toList.length = 63 := by decide +kernel
      omega
    rw [show n = (n.toNat : Int) by omega]
    exact e_ix_str sigL (List.getElem?_eq_getElem hn) (hq _ _ (sig_row _ (List.getElem_mem hn)) hN)
  refine seq_tail (fun σ M' => M' = M ∧ σ = [some (.obj a), some (.bl g), some (.str LOW), none, none, none]) ?_ (fun N hN => by walk_at "dl"; exact hN _ _ ⟨rfl, rfl⟩)
  rintro _ M0 ⟨e0, rfl⟩
  rw [e0]; clear e0 M0
  refine seq_tail (fun σ M' => M' = M ∧ σ = [some (.obj a), some (.bl g), some (.str LOW), some (.str SIG), none, none]) ?_ (fun N hN => ?_)
  rotate_left
  · walk_at "dl"
    refine ⟨by decide +kernel, ?_⟩
    rw [up_low]
    walk_at "dl"
    exact ⟨by decide +kernel, by decide +kernel, hN _ _ ⟨rfl, rfl⟩⟩
  rintro _ M0 ⟨e0, rfl⟩
  rw [e0]; clear e0 M0
  refine seq_tail (fun σ M' => DrN a M M' ∧ ∃ s, Txt0 g 1 s ∧ σ = [some (.obj a), some (.bl g), some (.str LOW), some (.str SIG), some (.str s), none]) ?_ (fun N hN => ?_)
  rotate_left
  · walk_at "dl"
    refine ifB (fun hg => ?_) (fun hg => ?_)
    · refine ⟨by decide +kernel, a, 26, rfl, by decide, by decide, hD, fun n M2 h0 h1 hN2 => ?_⟩
      rw [up_low]
      have hn : n.toNat < UP.cps.toList.length := by
        have e : UP.cps.toList.length = 26 := by decide +kernel
        omega
      rw [show n = (n.toNat : Int) by omega]
      refine e_ix_str (by decide +kernel) (List.getElem?_eq_getElem hn) (hN _ _ ⟨hN2, _, Txt0.one ?_, rfl⟩)
      rw [hg]
      exact up_great _ (List.getElem_mem hn)
    · refine ⟨a, 26, rfl, by decide, by decide, hD, fun n M2 h0 h1 hN2 => ?_⟩
      have hn : n.toNat < LOW.cps.toList.length := by
        have e : LOW.cps.toList.length = 26 := by decide +kernel
        omega
      rw [show n = (n.toNat : Int) by omega]
      refine e_ix_str (by decide +kernel) (List.getElem?_eq_getElem hn) (hN _ _ ⟨hN2, _, Txt0.one ?_, rfl⟩)
      rw [hg]
      exact low_small _ (List.getElem_mem hn)
  rintro _ M1 ⟨n1, s1, t1, rfl⟩
  refine seq_tail (fun σ M' => DrN a M M' ∧ ∃ s, Txt0 g 7 s ∧ σ = [some (.obj a), some (.bl g), some (.str LOW), some (.str SIG), some (.str s), none]) ?_ (fun N hN => ?_)
  rotate_left
  · have no : N [some (.obj a), some (.bl g), some (.str LOW), some (.str SIG), some (.str s1), none] M1 := hN _ _ ⟨n1, s1, t1.mono (by decide), rfl⟩
    walk_at "dl"
    refine ifB (fun hg => ?_) (fun _ => no)
    have eg : g = false := by simpa using hg
    subst eg
    refine ⟨a, 4, rfl, by decide, by decide, n1.at, fun n M2 h0 h1 hN2 => ?_⟩
    have n2 := n1.trans hN2
    walk_at "dl"
    refine ifB (fun _ => ?_) (fun _ => hN _ _ ⟨n2, s1, t1.mono (by decide), rfl⟩)
    refine ⟨rfl, ?_⟩
    refine ⟨a, _, rfl, n2.at, .inr ⟨WORDS.map D.str, .inl rfl, by decide, by decide, fun d M3 hd hN3 => ?_⟩⟩
    obtain ⟨x, hx, rfl⟩ := List.mem_map.mp hd
    have n3 := n2.trans hN3
    refine sign M3 _ n3.at fun c M4 hc hN4 => ?_
    walk_at "dl"
    have tx := (Txt0.word hx).app hc
    refine ⟨?_, hN _ _ ⟨n3.trans hN4, _, tx, rfl⟩⟩
    rw [← len_app]
    exact Nat.le_trans tx.len (by decide)
  rintro _ M2 ⟨n2, s2, t2, rfl⟩
  refine seq_tail (fun σ M' => DrN a M M' ∧ ∃ s c, Txt0 g 11 s ∧ σ = [some (.obj a), some (.bl g), some (.str LOW), some (.str SIG), some (.str s), c]) ?_ (fun N hN => ?_)
  rotate_left
  · refine for_gen (fun ds M' => ∃ k : Nat, k ≤ 3 ∧ ds = upto 0 k ∧ DrN a M M') (fun Kd hk => ?_) (fun ds i σ M' => DrN a M M' ∧ ds.length ≤ 3 ∧ ∃ s c, Txt0 g (7 + i) s ∧ σ = [some (.obj a), some (.bl g), some (.str LOW), some (.str SIG), some (.str s), c]) ?_ ?_ ?_
    · unfold dRange1
      walk_at "dl"
      refine ⟨a, 4, rfl, by decide, by decide, n2.at, fun n M3 h0 h1 hN3 => ?_⟩
      walk_at "dl"
      exact ⟨⟨by omega, by omega⟩, hk _ _ ⟨n.toNat, by omega, rfl, n2.trans hN3⟩⟩
    · rintro ds M' ⟨k, hk, rfl, hn⟩
      exact ⟨hn, by rw [upto_len]; exact hk, s2, none, t2, rfl⟩
    · rintro ds i d σ M' N' hd ⟨hn, hl, s, c, ts, rfl⟩ hN'
      have hi : i < ds.length := (List.getElem?_eq_some_iff.mp hd).1
      walk_at "dl"
      refine sign M' _ hn.at fun c M4 hc hN4 => ?_
      walk_at "dl"
      have tx := ts.app hc
      refine ⟨?_, hN' _ _ ⟨hn.trans hN4, hl, _, _, tx, rfl⟩⟩
      rw [← len_app]
      refine Nat.le_trans tx.len (Nat.le_trans (show 7 + i + 1 ≤ 11 by omega) (by decide))
    · rintro ds σ M' ⟨hn, hl, s, c, ts, rfl⟩
      exact hN _ _ ⟨hn, s, c, ts.mono (by omega), rfl⟩
  rintro _ M3 ⟨n3, s3, c3, t3, rfl⟩
  walk_at "dl"
  refine ⟨rfl, ?_⟩
  refine e_in (xs := WORDS) (.inr rfl) ?_
  walk_at "dl"
  refine ifB (fun _ => ?_) (fun hw => ?_)
  · have t := t3.name_
    refine ⟨?_, Wk.here (q _ _ t n3)⟩
    rw [← len_app]
    exact Nat.le_trans t.len (by decide)
  · exact Wk.here (q _ _ ((t3.mono (by decide)).name (of_decide_eq_false hw)) n3)
def sp_atom : SpD := fun ds M Q _ => ∃ a, ds = [.obj a] ∧ DrawAt M a ∧ ∀ t M', Atom.ok t → DrN a M M' → Q t.d M'
def sp_test (n : Nat) : SpD := fun ds M Q _ => ∃ a d, ds = [.obj a, .int ((d : Nat) : Int)] ∧ d < n ∧ DrawAt M a ∧ ∀ t M', Tst.ok d t → DrN a M M' → Q t.d M'
def sp_value (n : Nat) : SpD := fun ds M Q _ => ∃ a d, ds = [.obj a, .int ((d : Nat) : Int)] ∧ d < n ∧ d < 4 ∧ DrawAt M a ∧ ∀ t M', Val.ok d t → DrN a M M' → Q t.d M'
def sp_deeds (n : Nat) : SpD := fun ds M Q _ => ∃ a d m, ds = [.obj a, .int ((d : Nat) : Int), .int ((m : Nat) : Int)] ∧ d < n ∧ m ≤ 3 ∧ DrawAt M a ∧ ∀ (xs : List Deed) M', xs.length ≤ m → (∀ x ∈ xs, Deed.ok d x) → DrN a M M' → Q (.tup (deedsD xs)) M'
def sp_givens : SpD := fun ds M Q _ => ∃ a, ds = [.obj a] ∧ DrawAt M a ∧ ∀ (gs : List Giv) M', GivOk gs → DrN a M M' → Q (.tup (gs.map givD)) M'
def sp_vars : SpD := fun ds M Q _ => ∃ a m, ds = [.obj a, .int ((m : Nat) : Int)] ∧ m ≤ 3 ∧ DrawAt M a ∧ ∀ (vs : List Vr) M', vs.length ≤ m → (∀ v ∈ vs, VrOk v) → DrN a M M' → Q (.tup (vs.map vrD)) M'
def sp_parts (n : Nat) : SpD := fun ds M Q _ => ∃ a d m, ds = [.obj a, .int ((d : Nat) : Int), .int ((m : Nat) : Int)] ∧ d < n ∧ m ≤ 3 ∧ DrawAt M a ∧ ∀ (xs : List Part) M', xs.length ≤ m → (∀ x ∈ xs, Part.ok d x) → DrN a M M' → Q (.tup (partsD xs)) M'
def sp_program : SpD := fun ds M Q _ => ∃ a, ds = [.obj a] ∧ DrawAt M a ∧ ∀ (p : Prg) M', p.ok → DrN a M M' → Q p.d M'
theorem next_small {n : Int} {m : Nat} (h0 : 0 ≤ n) (h1 : n < (m : Int)) : ∃ k : Nat, n = (k : Int) ∧ k < m := ⟨n.toNat, by omega, by omega⟩
theorem ok__law_atom (T : Txt K mg) {f : Addr} {fd : FuncData} (F : FunD K "_law_atom" "_law_atom" (defArgs s_law_atom) (defBody s_law_atom) (defScope s_law_atom) [] [] f fd) (h__law_next : Callee P w K mg base CX0 (1) "_law_next" P_law_next sp_next) (h__law_spelled : Callee P w K mg base CX0 (3) "_law_spelled" P_law_spelled sp_spelled) : FnOk P w K mg base CX0 (3 + 1) f fd P_law_atom (LSp K (sp_atom)) := by
  refine fnD0 F sc_law_atom (fun ds M Q E h => by first | (obtain ⟨rfl, _⟩ := h; rfl) | (obtain ⟨_, rfl, _⟩ := h; rfl) | (obtain ⟨_, _, rfl, _⟩ := h; rfl) | (obtain ⟨_, _, _, rfl, _⟩ := h; rfl) | (obtain ⟨_, _, _, _, rfl, _⟩ := h; rfl) | (obtain ⟨_, _, _, _, _, rfl, _⟩ := h; rfl) | (obtain ⟨_, _, _, _, _, _, rfl, _⟩ := h; rfl) | (obtain ⟨_, _, _, _, _, _, _, rfl, _⟩ := h; rfl) | (obtain ⟨_, _, _, _, _, _, _, _, rfl, _⟩ := h; rfl) | (obtain ⟨_, _, _, _, _, _, _, _, _, rfl, _⟩ := h; rfl) | (obtain ⟨_, _, _, _, _, _, _, _, _, _, rfl, _⟩ := h; rfl) | (obtain ⟨_, _, _, _, _, _, _, _, _, _, _, rfl, _⟩ := h; rfl) | (obtain ⟨_, _, _, _, _, _, _, _, _, _, _, _, rfl, _⟩ := h; rfl) | (obtain ⟨_, _, _, _, _, _, _, _, _, _, _, _, _, rfl, _⟩ := h; rfl) | (obtain ⟨_, _, _, _, _, _, _, _, _, _, _, _, _, _, rfl, _⟩ := h; rfl) | (obtain ⟨_, _, _, _, _, _, _, _, _, _, _, _, _, _, _, rfl, _⟩ := h; rfl) | (obtain ⟨_, _, _, _, _, _, _, _, _, _, _, _, _, _, _, _, rfl, _⟩ := h; rfl) | (obtain ⟨_, _, _, _, _, _, _, _, _, _, _, _, _, _, _, _, _, rfl, _⟩ := h; rfl) | (obtain ⟨_, _, _, _, _, _, _, _, _, _, _, _, _, _, _, _, _, _, rfl, _⟩ := h; rfl) | (obtain ⟨_, _, _, _, _, _, _, _, _, _, _, _, _, _, _, _, _, _, _, rfl, _⟩ := h; rfl)) fun cdv A outer s H E F0 hr => ⟨_, (dss_cons (ds_if (dt_cmp (od_eq hr.units) (de_fn h__law_next (hr.mono (by omega)) rfl pass0 finX0 (da_cons (de_var (pv 0)) (da_cons de_int da_nil))) de_int (nomark _)) (dss_one (ds_ret (de_tup (da_cons de_str (da_cons (de_fn h__law_spelled (hr.mono (by omega)) rfl pass0 finX0 (da_cons (de_var (pv 0)) (da_cons de_bl da_nil))) da_nil))))) dss_nil)
      (dss_one (ds_ret (de_tup (da_cons de_str (da_cons (de_fn h__law_spelled (hr.mono (by omega)) rfl pass0 finX0 (da_cons (de_var (pv 0)) (da_cons de_bl da_nil))) da_nil)))))), fun ds M Q Ex h => ?_⟩
  obtain ⟨a, rfl, hD, q⟩ := h
  walk_at "st"
  walk_at "dl"
  refine ⟨a, 3, rfl, by decide, by decide, hD, fun n M1 h0 h1 hN => ?_⟩
  walk_at "dl"
  refine ifB (fun _ => ?_) (fun _ => ?_)
  · exact ⟨a, true, rfl, hN.at, fun s M2 hs hn => Wk.here (q (.vl s) _ hs (hN.trans hn))⟩
  · exact ⟨a, false, rfl, hN.at, fun s M2 hs hn => Wk.here (q (.nm s) _ hs (hN.trans hn))⟩
theorem Tst.ok_same {d : Nat} {x y : Atom} (h1 : x.ok) (h2 : y.ok) : Tst.ok d (.same x y) := by
  cases d <;> (unfold Tst.ok; exact ⟨h1, h2⟩)
theorem Val.ok_at {d : Nat} {x : Atom} (h1 : x.ok) : Val.ok d (.at x) := by
  cases d <;> (unfold Val.ok; exact h1)
variable {n : Nat}
theorem ok__law_test (T : Txt K mg) {f : Addr} {fd : FuncData} (F : FunD K "_law_test" "_law_test" (defArgs s_law_test) (defBody s_law_test) (defScope s_law_test) [] [] f fd) (h__law_next : Callee P w K mg base CX0 (1) "_law_next" P_law_next sp_next) (h__law_atom : Callee P w K mg base CX0 (4) "_law_atom" P_law_atom sp_atom) (h__law_test : Callee P w K mg base CX0 (4+n) "_law_test" P_law_test (sp_test n)) : FnOk P w K mg base CX0 (4+n + 1) f fd P_law_test (LSp K ((sp_test (n+1)))) := by
  refine fnD0 F sc_law_test (fun ds M Q E h => by first | (obtain ⟨rfl, _⟩ := h; rfl) | (obtain ⟨_, rfl, _⟩ := h; rfl) | (obtain ⟨_, _, rfl, _⟩ := h; rfl) | (obtain ⟨_, _, _, rfl, _⟩ := h; rfl) | (obtain ⟨_, _, _, _, rfl, _⟩ := h; rfl) | (obtain ⟨_, _, _, _, _, rfl, _⟩ := h; rfl) | (obtain ⟨_, _, _, _, _, _, rfl, _⟩ := h; rfl) | (obtain ⟨_, _, _, _, _, _, _, rfl, _⟩ := h; rfl) | (obtain ⟨_, _, _, _, _, _, _, _, rfl, _⟩ := h; rfl) | (obtain ⟨_, _, _, _, _, _, _, _, _, rfl, _⟩ := h; rfl) | (obtain ⟨_, _, _, _, _, _, _, _, _, _, rfl, _⟩ := h; rfl) | (obtain ⟨_, _, _, _, _, _, _, _, _, _, _, rfl, _⟩ := h; rfl) | (obtain ⟨_, _, _, _, _, _, _, _, _, _, _, _, rfl, _⟩ := h; rfl) | (obtain ⟨_, _, _, _, _, _, _, _, _, _, _, _, _, rfl, _⟩ := h; rfl) | (obtain ⟨_, _, _, _, _, _, _, _, _, _, _, _, _, _, rfl, _⟩ := h; rfl) | (obtain ⟨_, _, _, _, _, _, _, _, _, _, _, _, _, _, _, rfl, _⟩ := h; rfl) | (obtain ⟨_, _, _, _, _, _, _, _, _, _, _, _, _, _, _, _, rfl, _⟩ := h; rfl) | (obtain ⟨_, _, _, _, _, _, _, _, _, _, _, _, _, _, _, _, _, rfl, _⟩ := h; rfl) | (obtain ⟨_, _, _, _, _, _, _, _, _, _, _, _, _, _, _, _, _, _, rfl, _⟩ := h; rfl) | (obtain ⟨_, _, _, _, _, _, _, _, _, _, _, _, _, _, _, _, _, _, _, rfl, _⟩ := h; rfl)) fun cdv A outer s H E F0 hr => ⟨_, (dss_cons (ds_set (i := 2) sc_law_test.nd rfl (Or.inl rfl) (de_fn h__law_next (hr.mono (by omega)) rfl pass0 finX0 (da_cons (de_var (pv 0)) (da_cons de_int da_nil))))
      (dss_cons (ds_if (dt_w (dw_or (dt_cmp (od_eq hr.units) (de_var (pv 1)) de_int (nomark _)) (dw_or1 (dt_cmp (od_lt) (de_var (pv 2)) de_int (nomark _))))) (dss_one (ds_ret (de_tup (da_cons de_str (da_cons (de_fn h__law_atom (hr.mono (by omega)) rfl pass0 finX0 (da_cons (de_var (pv 0)) da_nil)) (da_cons (de_fn h__law_atom (hr.mono (by omega)) rfl pass0 finX0 (da_cons (de_var (pv 0)) da_nil)) da_nil)))))) dss_nil)
      (dss_cons (ds_if (dt_cmp (od_eq hr.units) (de_var (pv 2)) de_int (nomark _)) (dss_one (ds_ret (de_tup (da_cons de_str (da_cons (de_fn h__law_test (hr.mono (by omega)) rfl pass0 finX0 (da_cons (de_var (pv 0)) (da_cons (de_op (od_sub) (de_var (pv 1)) de_int) da_nil))) da_nil))))) dss_nil)
      (dss_one (ds_ret (de_tup (da_cons (de_if (dt_cmp (od_lt) (de_var (pv 2)) de_int (nomark _)) de_str de_str) (da_cons (de_fn h__law_test (hr.mono (by omega)) rfl pass0 finX0 (da_cons (de_var (pv 0)) (da_cons (de_op (od_sub) (de_var (pv 1)) de_int) da_nil))) (da_cons (de_fn h__law_test (hr.mono (by omega)) rfl pass0 finX0 (da_cons (de_var (pv 0)) (da_cons (de_op (od_sub) (de_var (pv 1)) de_int) da_nil))) da_nil))))))))), fun ds M Q Ex h => ?_⟩
  obtain ⟨a, d, rfl, hd, hD, q⟩ := h
  walk_at "st"
  refine seq_tail (fun σ M' => DrN a M M' ∧ ∃ z : Nat, σ = [some (.obj a), some (.int d), some (.int z)]) ?_ (fun N hN => ?_)
  rotate_left
  · walk_at "dl"
    refine ⟨a, 7, rfl, by decide, by decide, hD, fun z M1 h0 h1 n1 => ?_⟩
    obtain ⟨z, rfl, _⟩ := next_small (m := 7) h0 h1
    exact hN _ _ ⟨n1, z, rfl⟩
  rintro _ M1 ⟨n1, z, rfl⟩
  have same : sp_atom [.obj a] M1 (fun x M2 => sp_atom [.obj a] M2 (fun y M3 => Wk Q (.tup [.str "same", x, y]) M3) X0) X0 :=
    ⟨a, rfl, n1.at, fun x M2 hx n2 => ⟨a, rfl, n2.at, fun y M3 hy n3 => Wk.here (q (.same x y) _ (Tst.ok_same hx hy) (n1.trans (n2.trans n3)))⟩⟩
  walk_at "dl"
  refine ifB (fun _ => same) (fun h1 => ?_)
  obtain ⟨e, rfl⟩ : ∃ e, d = e + 1 := ⟨d - 1, by have := of_decide_eq_false h1; omega⟩
  have dn : ∀ M (Q : DK), DrawAt M a → (∀ t M', Tst.ok e t → DrN a M M' → Q t.d M') → sp_test n [.obj a, .int (((e + 1 : Nat) : Int) - 1)] M Q X0 := fun M Q hD q => ⟨a, e, by rw [show ((e + 1 : Nat) : Int) - 1 = e by omega], by omega, hD, q⟩
  refine ifB (fun _ => same) (fun _ => ?_)
  refine ifB (fun _ => ?_) (fun _ => ?_)
  · exact dn _ _ n1.at fun t M2 ht n2 => Wk.here (q (.neg t) _ (by unfold Tst.ok; exact ht) (n1.trans n2))
  · refine ifB (fun _ => ?_) (fun _ => ?_)
    · exact dn _ _ n1.at fun t M2 ht n2 => dn _ _ n2.at fun u M3 hu n3 => Wk.here (q (.con t u) _ (by unfold Tst.ok; exact ⟨ht, hu⟩) (n1.trans (n2.trans n3)))
    · exact dn _ _ n1.at fun t M2 ht n2 => dn _ _ n2.at fun u M3 hu n3 => Wk.here (q (.dis t u) _ (by unfold Tst.ok; exact ⟨ht, hu⟩) (n1.trans (n2.trans n3)))
theorem ok__law_value (T : Txt K mg) {f : Addr} {fd : FuncData} (F : FunD K "_law_value" "_law_value" (defArgs s_law_value) (defBody s_law_value) (defScope s_law_value) [] [] f fd) (h__law_next : Callee P w K mg base CX0 (1) "_law_next" P_law_next sp_next) (h__law_atom : Callee P w K mg base CX0 (4) "_law_atom" P_law_atom sp_atom) (h__law_test : Callee P w K mg base CX0 (8) "_law_test" P_law_test (sp_test 4)) (h__law_value : Callee P w K mg base CX0 (8+n) "_law_value" P_law_value (sp_value n)) : FnOk P w K mg base CX0 (8+n + 1) f fd P_law_value (LSp K ((sp_value (n+1)))) := by
  refine fnD0 F sc_law_value (fun ds M Q E h => by first | (obtain ⟨rfl, _⟩ := h; rfl) | (obtain ⟨_, rfl, _⟩ := h; rfl) | (obtain ⟨_, _, rfl, _⟩ := h; rfl) | (obtain ⟨_, _, _, rfl, _⟩ := h; rfl) | (obtain ⟨_, _, _, _, rfl, _⟩ := h; rfl) | (obtain ⟨_, _, _, _, _, rfl, _⟩ := h; rfl) | (obtain ⟨_, _, _, _, _, _, rfl, _⟩ := h; rfl) | (obtain ⟨_, _, _, _, _, _, _, rfl, _⟩ := h; rfl) | (obtain ⟨_, _, _, _, _, _, _, _, rfl, _⟩ := h; rfl) | (obtain ⟨_, _, _, _, _, _, _, _, _, rfl, _⟩ := h; rfl) | (obtain ⟨_, _, _, _, _, _, _, _, _, _, rfl, _⟩ := h; rfl) | (obtain ⟨_, _, _, _, _, _, _, _, _, _, _, rfl, _⟩ := h; rfl) | (obtain ⟨_, _, _, _, _, _, _, _, _, _, _, _, rfl, _⟩ := h; rfl) | (obtain ⟨_, _, _, _, _, _, _, _, _, _, _, _, _, rfl, _⟩ := h; rfl) | (obtain ⟨_, _, _, _, _, _, _, _, _, _, _, _, _, _, rfl, _⟩ := h; rfl) | (obtain ⟨_, _, _, _, _, _, _, _, _, _, _, _, _, _, _, rfl, _⟩ := h; rfl) | (obtain ⟨_, _, _, _, _, _, _, _, _, _, _, _, _, _, _, _, rfl, _⟩ := h; rfl) | (obtain ⟨_, _, _, _, _, _, _, _, _, _, _, _, _, _, _, _, _, rfl, _⟩ := h; rfl) | (obtain ⟨_, _, _, _, _, _, _, _, _, _, _, _, _, _, _, _, _, _, rfl, _⟩ := h; rfl) | (obtain ⟨_, _, _, _, _, _, _, _, _, _, _, _, _, _, _, _, _, _, _, rfl, _⟩ := h; rfl)) fun cdv A outer s H E F0 hr => ⟨_, (dss_cons (ds_if (dt_w (dw_or (dt_cmp (od_eq hr.units) (de_var (pv 1)) de_int (nomark _)) (dw_or1 (dt_cmp (od_gt) (de_fn h__law_next (hr.mono (by omega)) rfl pass0 finX0 (da_cons (de_var (pv 0)) (da_cons de_int da_nil))) de_int (nomark _))))) (dss_one (ds_ret (de_fn h__law_atom (hr.mono (by omega)) rfl pass0 finX0 (da_cons (de_var (pv 0)) da_nil)))) dss_nil)
      (dss_one (ds_ret (de_tup (da_cons de_str (da_cons (de_fn h__law_test (hr.mono (by omega)) rfl pass0 finX0 (da_cons (de_var (pv 0)) (da_cons (de_var (pv 1)) da_nil))) (da_cons (de_fn h__law_value (hr.mono (by omega)) rfl pass0 finX0 (da_cons (de_var (pv 0)) (da_cons (de_op (od_sub) (de_var (pv 1)) de_int) da_nil))) (da_cons (de_fn h__law_value (hr.mono (by omega)) rfl pass0 finX0 (da_cons (de_var (pv 0)) (da_cons (de_op (od_sub) (de_var (pv 1)) de_int) da_nil))) da_nil)))))))), fun ds M Q Ex h => ?_⟩
  obtain ⟨a, d, rfl, hd, hd4, hD, q⟩ := h
  walk_at "st"
  have at_ : ∀ M1, DrN a M M1 → sp_atom [.obj a] M1 (Wk Q) X0 := fun M1 n1 => ⟨a, rfl, n1.at, fun x M2 hx n2 => Wk.here (q (.at x) _ (Val.ok_at hx) (n1.trans n2))⟩
  walk_at "dl"
  refine ifB (fun _ => at_ M (.refl hD)) (fun h1 => ?_)
  obtain ⟨e, rfl⟩ : ∃ e, d = e + 1 := ⟨d - 1, by have := of_decide_eq_false h1; omega⟩
  have dn : ∀ M (Q : DK), DrawAt M a → (∀ t M', Val.ok e t → DrN a M M' → Q t.d M') → sp_value n [.obj a, .int (((e + 1 : Nat) : Int) - 1)] M Q X0 := fun M Q hD q => ⟨a, e, by rw [show ((e + 1 : Nat) : Int) - 1 = e by omega], by omega, by omega, hD, q⟩
  refine ⟨a, 3, rfl, by decide, by decide, hD, fun z M1 h0 h1 n1 => ?_⟩
  walk_at "dl"
  refine ifB (fun _ => at_ M1 n1) (fun _ => ?_)
  refine ⟨a, e + 1, rfl, hd4, n1.at, fun t M2 ht n2 => ?_⟩
  have n2 := n1.trans n2
  exact dn _ _ n2.at fun x M3 hx n3 => dn _ _ (n2.trans n3).at fun y M4 hy n4 => Wk.here (q (.ite t x y) _ (by unfold Val.ok; exact ⟨ht, hx, hy⟩) (n2.trans (n3.trans n4)))
theorem ok__law_givens (T : Txt K mg) {f : Addr} {fd : FuncData} (F : FunD K "_law_givens" "_law_givens" (defArgs s_law_givens) (defBody s_law_givens) (defScope s_law_givens) [] [] f fd) (h__law_next : Callee P w K mg base CX0 (1) "_law_next" P_law_next sp_next) (h__law_spelled : Callee P w K mg base CX0 (3) "_law_spelled" P_law_spelled sp_spelled) : FnOk P w K mg base CX0 (3 + 1) f fd P_law_givens (LSp K (sp_givens)) := by
  refine fnD0 F sc_law_givens (fun ds M Q E h => by first | (obtain ⟨rfl, _⟩ := h; rfl) | (obtain ⟨_, rfl, _⟩ := h; rfl) | (obtain ⟨_, _, rfl, _⟩ := h; rfl) | (obtain ⟨_, _, _, rfl, _⟩ := h; rfl) | (obtain ⟨_, _, _, _, rfl, _⟩ := h; rfl) | (obtain ⟨_, _, _, _, _, rfl, _⟩ := h; rfl) | (obtain ⟨_, _, _, _, _, _, rfl, _⟩ := h; rfl) | (obtain ⟨_, _, _, _, _, _, _, rfl, _⟩ := h; rfl) | (obtain ⟨_, _, _, _, _, _, _, _, rfl, _⟩ := h; rfl) | (obtain ⟨_, _, _, _, _, _, _, _, _, rfl, _⟩ := h; rfl) | (obtain ⟨_, _, _, _, _, _, _, _, _, _, rfl, _⟩ := h; rfl) | (obtain ⟨_, _, _, _, _, _, _, _, _, _, _, rfl, _⟩ := h; rfl) | (obtain ⟨_, _, _, _, _, _, _, _, _, _, _, _, rfl, _⟩ := h; rfl) | (obtain ⟨_, _, _, _, _, _, _, _, _, _, _, _, _, rfl, _⟩ := h; rfl) | (obtain ⟨_, _, _, _, _, _, _, _, _, _, _, _, _, _, rfl, _⟩ := h; rfl) | (obtain ⟨_, _, _, _, _, _, _, _, _, _, _, _, _, _, _, rfl, _⟩ := h; rfl) | (obtain ⟨_, _, _, _, _, _, _, _, _, _, _, _, _, _, _, _, rfl, _⟩ := h; rfl) | (obtain ⟨_, _, _, _, _, _, _, _, _, _, _, _, _, _, _, _, _, rfl, _⟩ := h; rfl) | (obtain ⟨_, _, _, _, _, _, _, _, _, _, _, _, _, _, _, _, _, _, rfl, _⟩ := h; rfl) | (obtain ⟨_, _, _, _, _, _, _, _, _, _, _, _, _, _, _, _, _, _, _, rfl, _⟩ := h; rfl)) fun cdv A outer s H E F0 hr => ⟨_, (dss_one (ds_ret (de_callTy cd_tuple rfl T.tuple (by decide +kernel) (da_cons (de_lc (own := false) (x := "k") (j := 1) rfl sc_law_givens.nd (di_range1 rfl T.range (da_cons (de_fn h__law_next (hr.mono (by omega)) rfl pass0 finX0 (da_cons (de_var (pv 0)) (da_cons de_int da_nil))) da_nil)) (blkOk_by (N := N_law_givens) (sc := defScope s_law_givens) (by decide +kernel)) (fun _ _ _ _ _ => pg_name (i := 1) sc_law_givens.nd rfl (by first | exact Or.inl rfl | exact Or.inr rfl)) (fun _ _ _ _ _ => (de_tup (da_cons (de_fn h__law_spelled (hr.mono (by omega)) rfl pass0 finX0 (da_cons (de_var (pv 0)) (da_cons de_bl da_nil))) (da_cons (de_fn h__law_spelled (hr.mono (by omega)) rfl pass0 finX0 (da_cons (de_var (pv 0)) (da_cons de_bl da_nil))) da_nil))))) da_nil)))), fun ds M Q Ex h => ?_⟩
  obtain ⟨a, rfl, hD, q⟩ := h
  walk_at "st"
  walk_at "dl"
  refine lc_draw (a := a) (fun m => m ≤ 3) (fun y => ∃ g : Giv, y = givD g ∧ NameOk false g.1 ∧ NameOk true g.2) (fun m hm => Nat.le_trans hm (by decide)) (fun Kd hk => ?_) ?_ ?_
  · unfold dRange1
    walk_at "dl"
    refine ⟨a, 4, rfl, by decide, by decide, hD, fun z M1 h0 h1 n1 => ?_⟩
    obtain ⟨z, rfl, hz⟩ := next_small (m := 4) h0 h1
    exact ⟨⟨by omega, by omega⟩, hk _ _ (by omega) n1⟩
  · intro d M1 Q' hD' hq
    walk_at "dl"
    exact ⟨a, false, rfl, hD', fun s M2 hs n2 => ⟨a, true, rfl, n2.at, fun u M3 hu n3 => hq _ _ ⟨(s, u), rfl, hs, hu⟩ (n2.trans n3)⟩⟩
  · intro acc M2 hP hm n2
    obtain ⟨gs, rfl, hg⟩ := row_of hP
    rw [List.length_map] at hm
    walk_at "dl"
    exact Wk.here (q gs _ ⟨hm, hg⟩ n2)
theorem ok__law_vars (T : Txt K mg) {f : Addr} {fd : FuncData} (F : FunD K "_law_vars" "_law_vars" (defArgs s_law_vars) (defBody s_law_vars) (defScope s_law_vars) [] [] f fd) (h__law_next : Callee P w K mg base CX0 (1) "_law_next" P_law_next sp_next) (h__law_spelled : Callee P w K mg base CX0 (3) "_law_spelled" P_law_spelled sp_spelled) (h__law_value : Callee P w K mg base CX0 (11) "_law_value" P_law_value (sp_value 3)) : FnOk P w K mg base CX0 (11 + 1) f fd P_law_vars (LSp K (sp_vars)) := by
  refine fnD0 F sc_law_vars (fun ds M Q E h => by first | (obtain ⟨rfl, _⟩ := h; rfl) | (obtain ⟨_, rfl, _⟩ := h; rfl) | (obtain ⟨_, _, rfl, _⟩ := h; rfl) | (obtain ⟨_, _, _, rfl, _⟩ := h; rfl) | (obtain ⟨_, _, _, _, rfl, _⟩ := h; rfl) | (obtain ⟨_, _, _, _, _, rfl, _⟩ := h; rfl) | (obtain ⟨_, _, _, _, _, _, rfl, _⟩ := h; rfl) | (obtain ⟨_, _, _, _, _, _, _, rfl, _⟩ := h; rfl) | (obtain ⟨_, _, _, _, _, _, _, _, rfl, _⟩ := h; rfl) | (obtain ⟨_, _, _, _, _, _, _, _, _, rfl, _⟩ := h; rfl) | (obtain ⟨_, _, _, _, _, _, _, _, _, _, rfl, _⟩ := h; rfl) | (obtain ⟨_, _, _, _, _, _, _, _, _, _, _, rfl, _⟩ := h; rfl) | (obtain ⟨_, _, _, _, _, _, _, _, _, _, _, _, rfl, _⟩ := h; rfl) | (obtain ⟨_, _, _, _, _, _, _, _, _, _, _, _, _, rfl, _⟩ := h; rfl) | (obtain ⟨_, _, _, _, _, _, _, _, _, _, _, _, _, _, rfl, _⟩ := h; rfl) | (obtain ⟨_, _, _, _, _, _, _, _, _, _, _, _, _, _, _, rfl, _⟩ := h; rfl) | (obtain ⟨_, _, _, _, _, _, _, _, _, _, _, _, _, _, _, _, rfl, _⟩ := h; rfl) | (obtain ⟨_, _, _, _, _, _, _, _, _, _, _, _, _, _, _, _, _, rfl, _⟩ := h; rfl) | (obtain ⟨_, _, _, _, _, _, _, _, _, _, _, _, _, _, _, _, _, _, rfl, _⟩ := h; rfl) | (obtain ⟨_, _, _, _, _, _, _, _, _, _, _, _, _, _, _, _, _, _, _, rfl, _⟩ := h; rfl)) fun cdv A outer s H E F0 hr => ⟨_, (dss_cons (ds_set (i := 2) sc_law_vars.nd rfl (Or.inl rfl) (de_lst (own := true) da_nil))
      (dss_cons (ds_for PassesOwn.never rfl (di_range1 rfl T.range (da_cons (de_fn h__law_next (hr.mono (by omega)) rfl pass0 finX0 (da_cons (de_var (pv 0)) (da_cons (de_op (od_add (own := false)) (de_var (pv 1)) de_int) da_nil))) da_nil)) (dg_name (pg_name (i := 3) sc_law_vars.nd rfl (Or.inl rfl))) (dss_one (ds_expr (de_bl1 PySem.F.slot_list_append PySem.F.type_list_append md_append (de_var (pv 2)) (da_cons (de_tup (da_cons (de_fn h__law_spelled (hr.mono (by omega)) rfl pass0 finX0 (da_cons (de_var (pv 0)) (da_cons de_bl da_nil))) (da_cons (de_fn h__law_spelled (hr.mono (by omega)) rfl pass0 finX0 (da_cons (de_var (pv 0)) (da_cons de_bl da_nil))) (da_cons (de_fn h__law_value (hr.mono (by omega)) rfl pass0 finX0 (da_cons (de_var (pv 0)) (da_cons de_int da_nil))) da_nil)))) da_nil)))))
      (dss_one (ds_ret (de_callTy cd_tuple rfl T.tuple (by decide +kernel) (da_cons (de_var (pv 2)) da_nil)))))), fun ds M Q Ex h => ?_⟩
  obtain ⟨a, m, rfl, hm, hD, q⟩ := h
  walk_at "st"
  refine seq_tail (fun σ M' => ∃ p, M p = none ∧ M' = updM M p (.lst []) ∧ σ = [some (.obj a), some (.int m), some (.obj p), none]) ?_ (fun N hN => by walk_at "dl"; exact fun p hp => hN _ _ ⟨p, hp, rfl, rfl⟩)
  rintro _ M0 ⟨p, hp, e0, rfl⟩
  rw [e0]; clear e0 M0
  refine seq_tail (fun σ M' => ∃ acc M2 c, (∀ y ∈ acc, ∃ v : Vr, y = vrD v ∧ VrOk v) ∧ acc.length ≤ m ∧ DrN a M M2 ∧ M2 p = none ∧ M' = updM M2 p (.lst acc) ∧ σ = [some (.obj a), some (.int m), some (.obj p), c]) ?_ (fun N hN => ?_)
  · rintro _ M0 ⟨acc, M2, c, hP, hl, n2, hp2, e0, rfl⟩
    rw [e0]; clear e0 M0
    obtain ⟨vs, rfl, hv⟩ := row_of hP
    walk_at "dl"
    rw [e_tupC_obj updM_same]
    rw [List.length_map] at hl
    exact Wk.drop hp2 (q vs _ hl hv n2)
  · refine for_draw (a := a) (fun k => k ≤ m) (fun y => ∃ v : Vr, y = vrD v ∧ VrOk v) (fun σ => ∃ c, σ = [some (.obj a), some (.int m), some (.obj p), c]) (fun k hk => Nat.le_trans hk (Nat.le_trans hm (by decide))) hD hp ⟨_, rfl⟩ (fun Kd hk => ?_) ?_ ?_
    · unfold dRange1
      walk_at "dl"
      refine ⟨a, _, rfl, by omega, by omega, hD.upd hp, fun z M1 h0 h1 n1 => ?_⟩
      obtain ⟨z, rfl, hz⟩ := next_small (m := m + 1) h0 (by omega)
      obtain ⟨M2, rfl, n2⟩ := n1.off (hD.ne hp)
      exact ⟨⟨by omega, by omega⟩, hk _ _ (by omega) n2⟩
    · rintro d σ M1 acc N' ⟨c, rfl⟩ hM hD1 hl hn
      walk_at "dl"
      refine ⟨isLst_of hM, a, false, rfl, hD1, fun s M2 hs n2 => ⟨a, true, rfl, n2.at, fun u M3 hu n3 => ?_⟩⟩
      have n3 := n2.trans n3
      refine ⟨a, 2, rfl, by decide, by decide, n3.at, fun v M4 hv n4 => ?_⟩
      have n4 := n3.trans n4
      dsimp only
      rw [e_append (n4.keep (hD.ne hp) hM)]
      exact ⟨hl, hn _ (vrD (s, u, v)) _ ⟨_, rfl⟩ ⟨(s, u, v), rfl, hs, hu, hv⟩ n4⟩
    · rintro σ acc M2 ⟨c, rfl⟩ hP hk n2 hp2
      exact hN _ _ ⟨acc, M2, c, hP, hk, n2, hp2, rfl, rfl⟩
theorem Deed.ok_set {d : Nat} {n : Str} {v : Val} (h1 : NameOk false n) (h2 : v.ok 2) : Deed.ok d (.set n v) := by
  cases d <;> (unfold Deed.ok; exact ⟨h1, h2⟩)
theorem Deed.ok_doo {d : Nat} {n f : Str} {vs : List Val} (h1 : NameOk false n) (h2 : NameOk false f) (h3 : vs.length ≤ 3) (h4 : ∀ v ∈ vs, Val.ok 1 v) : Deed.ok d (.doo n f vs) := by
  cases d <;> (unfold Deed.ok; exact ⟨h1, h2, h3, h4⟩)
theorem Part.ok_act {d : Nat} {n : Str} {gs : List Giv} {k : Str} {ds : List Deed} {v : Val} (h1 : NameOk false n) (h2 : GivOk gs) (h3 : NameOk true k) (h4 : ds.length ≤ 3) (h5 : ∀ x ∈ ds, Deed.ok 2 x) (h6 : v.ok 2) : Part.ok d (.act n gs k ds v) := by
  cases d <;> (unfold Part.ok; exact ⟨h1, h2, h3, h4, h5, h6⟩)
theorem ok__law_deeds (T : Txt K mg) {f : Addr} {fd : FuncData} (F : FunD K "_law_deeds" "_law_deeds" (defArgs s_law_deeds) (defBody s_law_deeds) (defScope s_law_deeds) [] [] f fd) (h__law_next : Callee P w K mg base CX0 (1) "_law_next" P_law_next sp_next) (h__law_spelled : Callee P w K mg base CX0 (3) "_law_spelled" P_law_spelled sp_spelled) (h__law_value : Callee P w K mg base CX0 (11) "_law_value" P_law_value (sp_value 3)) (h__law_test : Callee P w K mg base CX0 (8) "_law_test" P_law_test (sp_test 4)) (h__law_deeds : Callee P w K mg base CX0 (11+n) "_law_deeds" P_law_deeds (sp_deeds n)) : FnOk P w K mg base CX0 (11+n + 1) f fd P_law_deeds (LSp K ((sp_deeds (n+1)))) := by
  refine fnD0 F sc_law_deeds (fun ds M Q E h => by first | (obtain ⟨rfl, _⟩ := h; rfl) | (obtain ⟨_, rfl, _⟩ := h; rfl) | (obtain ⟨_, _, rfl, _⟩ := h; rfl) | (obtain ⟨_, _, _, rfl, _⟩ := h; rfl) | (obtain ⟨_, _, _, _, rfl, _⟩ := h; rfl) | (obtain ⟨_, _, _, _, _, rfl, _⟩ := h; rfl) | (obtain ⟨_, _, _, _, _, _, rfl, _⟩ := h; rfl) | (obtain ⟨_, _, _, _, _, _, _, rfl, _⟩ := h; rfl) | (obtain ⟨_, _, _, _, _, _, _, _, rfl, _⟩ := h; rfl) | (obtain ⟨_, _, _, _, _, _, _, _, _, rfl, _⟩ := h; rfl) | (obtain ⟨_, _, _, _, _, _, _, _, _, _, rfl, _⟩ := h; rfl) | (obtain ⟨_, _, _, _, _, _, _, _, _, _, _, rfl, _⟩ := h; rfl) | (obtain ⟨_, _, _, _, _, _, _, _, _, _, _, _, rfl, _⟩ := h; rfl) | (obtain ⟨_, _, _, _, _, _, _, _, _, _, _, _, _, rfl, _⟩ := h; rfl) | (obtain ⟨_, _, _, _, _, _, _, _, _, _, _, _, _, _, rfl, _⟩ := h; rfl) | (obtain ⟨_, _, _, _, _, _, _, _, _, _, _, _, _, _, _, rfl, _⟩ := h; rfl) | (obtain ⟨_, _, _, _, _, _, _, _, _, _, _, _, _, _, _, _, rfl, _⟩ := h; rfl) | (obtain ⟨_, _, _, _, _, _, _, _, _, _, _, _, _, _, _, _, _, rfl, _⟩ := h; rfl) | (obtain ⟨_, _, _, _, _, _, _, _, _, _, _, _, _, _, _, _, _, _, rfl, _⟩ := h; rfl) | (obtain ⟨_, _, _, _, _, _, _, _, _, _, _, _, _, _, _, _, _, _, _, rfl, _⟩ := h; rfl)) fun cdv A outer s H E F0 hr => ⟨_, (dss_cons (ds_set (i := 3) sc_law_deeds.nd rfl (Or.inl rfl) (de_lst (own := true) da_nil))
      (dss_cons (ds_for PassesOwn.never rfl (di_range1 rfl T.range (da_cons (de_fn h__law_next (hr.mono (by omega)) rfl pass0 finX0 (da_cons (de_var (pv 0)) (da_cons (de_op (od_add (own := false)) (de_var (pv 2)) de_int) da_nil))) da_nil)) (dg_name (pg_name (i := 4) sc_law_deeds.nd rfl (Or.inl rfl))) (dss_cons (ds_set (i := 5) sc_law_deeds.nd rfl (Or.inl rfl) (de_fn h__law_next (hr.mono (by omega)) rfl pass0 finX0 (da_cons (de_var (pv 0)) (da_cons de_int da_nil))))
      (dss_one (ds_if (dt_w (dw_and (dt_cmp (od_eq hr.units) (de_var (pv 5)) de_int (nomark _)) (dw_and1 (dt_cmp (od_gt) (de_var (pv 1)) de_int (nomark _))))) (dss_one (ds_expr (de_bl1 PySem.F.slot_list_append PySem.F.type_list_append md_append (de_var (pv 3)) (da_cons (de_tup (da_cons de_str (da_cons (de_fn h__law_test (hr.mono (by omega)) rfl pass0 finX0 (da_cons (de_var (pv 0)) (da_cons de_int da_nil))) (da_cons (de_fn h__law_deeds (hr.mono (by omega)) rfl pass0 finX0 (da_cons (de_var (pv 0)) (da_cons (de_op (od_sub) (de_var (pv 1)) de_int) (da_cons de_int da_nil)))) (da_cons (de_fn h__law_deeds (hr.mono (by omega)) rfl pass0 finX0 (da_cons (de_var (pv 0)) (da_cons (de_op (od_sub) (de_var (pv 1)) de_int) (da_cons de_int da_nil)))) da_nil))))) da_nil)))) (dss_one (ds_if (dt_cmp (od_eq hr.units) (de_var (pv 5)) de_int (nomark _)) (dss_cons (ds_set (i := 6) sc_law_deeds.nd rfl (Or.inl rfl) (de_callTy cd_tuple rfl T.tuple (by decide +kernel) (da_cons (de_lc (own := false) (x := "n") (j := 7) rfl sc_law_deeds.nd (di_range1 rfl T.range (da_cons (de_fn h__law_next (hr.mono (by omega)) rfl pass0 finX0 (da_cons (de_var (pv 0)) (da_cons de_int da_nil))) da_nil)) (blkOk_by (N := N_law_deeds) (sc := defScope s_law_deeds) (by decide +kernel)) (fun _ _ _ _ _ => pg_name (i := 7) sc_law_deeds.nd rfl (by first | exact Or.inl rfl | exact Or.inr rfl)) (fun _ _ _ _ _ => (de_fn h__law_value (hr.mono (by omega)) rfl pass0 finX0 (da_cons (de_var (pv 0)) (da_cons de_int da_nil))))) da_nil)))
      (dss_one (ds_expr (de_bl1 PySem.F.slot_list_append PySem.F.type_list_append md_append (de_var (pv 3)) (da_cons (de_tup (da_cons de_str (da_cons (de_fn h__law_spelled (hr.mono (by omega)) rfl pass0 finX0 (da_cons (de_var (pv 0)) (da_cons de_bl da_nil))) (da_cons (de_fn h__law_spelled (hr.mono (by omega)) rfl pass0 finX0 (da_cons (de_var (pv 0)) (da_cons de_bl da_nil))) (da_cons (de_var (pv 6)) da_nil))))) da_nil))))) (dss_one (ds_expr (de_bl1 PySem.F.slot_list_append PySem.F.type_list_append md_append (de_var (pv 3)) (da_cons (de_tup (da_cons de_str (da_cons (de_fn h__law_spelled (hr.mono (by omega)) rfl pass0 finX0 (da_cons (de_var (pv 0)) (da_cons de_bl da_nil))) (da_cons (de_fn h__law_value (hr.mono (by omega)) rfl pass0 finX0 (da_cons (de_var (pv 0)) (da_cons de_int da_nil))) da_nil)))) da_nil))))))))))
      (dss_one (ds_ret (de_callTy cd_tuple rfl T.tuple (by decide +kernel) (da_cons (de_var (pv 3)) da_nil)))))), fun ds M Q Ex h => ?_⟩
  obtain ⟨a, d, m, rfl, hd, hm, hD, q⟩ := h
  walk_at "st"
  refine seq_tail (fun σ M' => ∃ p, M p = none ∧ M' = updM M p (.lst []) ∧ σ = [some (.obj a), some (.int d), some (.int m), some (.obj p), none, none, none, none]) ?_ (fun N hN => by walk_at "dl"; exact fun p hp => hN _ _ ⟨p, hp, rfl, rfl⟩)
  rintro _ M0 ⟨p, hp, e0, rfl⟩
  rw [e0]; clear e0 M0
  have ne := hD.ne hp
  refine seq_tail (fun σ M' => ∃ acc M2 c e f g, (∀ y ∈ acc, ∃ v : Deed, y = v.d ∧ Deed.ok d v) ∧ acc.length ≤ m ∧ DrN a M M2 ∧ M2 p = none ∧ M' = updM M2 p (.lst acc) ∧ σ = [some (.obj a), some (.int d), some (.int m), some (.obj p), c, e, f, g]) ?_ (fun N hN => ?_)
  · rintro _ M0 ⟨acc, M2, c, e, f, g, hP, hl, n2, hp2, e0, rfl⟩
    rw [e0]; clear e0 M0
    obtain ⟨vs, rfl, hv⟩ := row_of hP
    walk_at "dl"
    rw [e_tupC_obj updM_same]
    rw [List.length_map] at hl
    rw [← deedsD_map]
    exact Wk.drop hp2 (q vs _ hl hv n2)
  · refine for_draw (a := a) (fun k => k ≤ m) (fun y => ∃ v : Deed, y = v.d ∧ Deed.ok d v) (fun σ => ∃ c e f g, σ = [some (.obj a), some (.int d), some (.int m), some (.obj p), c, e, f, g]) (fun k hk => Nat.le_trans hk (Nat.le_trans hm (by decide))) hD hp ⟨_, _, _, _, rfl⟩ (fun Kd hk => ?_) ?_ ?_
    · unfold dRange1
      walk_at "dl"
      refine ⟨a, _, rfl, by omega, by omega, hD.upd hp, fun z M1 h0 h1 n1 => ?_⟩
      obtain ⟨z, rfl, hz⟩ := next_small (m := m + 1) h0 (by omega)
      obtain ⟨M2, rfl, n2⟩ := n1.off ne
      exact ⟨⟨by omega, by omega⟩, hk _ _ (by omega) n2⟩
    · rintro x σ M1 acc N' ⟨c, e, f, g, rfl⟩ hM hD1 hl hn
      refine seq_tail (fun σ M' => DrN a M1 M' ∧ ∃ z : Nat, σ = [some (.obj a), some (.int d), some (.int m), some (.obj p), some x, some (.int z), f, g]) ?_ (fun N hN => ?_)
      rotate_left
      · walk_at "dl"
        refine ⟨a, 4, rfl, by decide, by decide, hD1, fun z M2 h0 h1 n1 => ?_⟩
        obtain ⟨z, rfl, _⟩ := next_small (m := 4) h0 h1
        exact hN _ _ ⟨n1, z, rfl⟩
      rintro _ M2 ⟨n2, z, rfl⟩
      have last : ∀ {y : Deed} {M3 : Mp} (f g : Option D), Deed.ok d y → DrN a M1 M3 → dAppend (D.obj p) [y.d] M3 fun x' M1 => N' [some (D.obj a), some (D.int d), some (D.int m), some (D.obj p), some x, some (.int z), f, g] M1 := by
        intro y M3 f g hy n3
        rw [e_append (n3.keep ne hM)]
        exact ⟨hl, hn _ y.d _ ⟨_, _, _, _, rfl⟩ ⟨y, rfl, hy⟩ n3⟩
      have io : isLst (.obj p) M2 := isLst_of (n2.keep ne hM)
      walk_at "dl"
      rw [ifB_and]
      refine ifB (fun hb => ?_) (fun _ => ?_)
      · have hd0 : 0 < d := by
          have := of_decide_eq_true (Bool.and_eq_true_iff.mp hb).2
          omega
        obtain ⟨e, rfl⟩ : ∃ e, d = e + 1 := ⟨d - 1, by omega⟩
        refine ⟨io, a, 2, rfl, by decide, n2.at, fun t M3 ht n3 => ?_⟩
        have n3 := n2.trans n3
        refine ⟨a, e, 2, by rw [show ((e + 1 : Nat) : Int) - 1 = e by omega]; rfl, by omega, by decide, n3.at, fun xs M4 hx1 hx2 n4 => ?_⟩
        have n4 := n3.trans n4
        refine ⟨a, e, 1, by rw [show ((e + 1 : Nat) : Int) - 1 = e by omega]; rfl, by omega, by decide, n4.at, fun ys M5 hy1 hy2 n5 => ?_⟩
        exact last (y := .ite t xs ys) f g (by unfold Deed.ok; exact ⟨ht, hx1, hx2, hy1, hy2⟩) (n4.trans n5)
      · refine ifB (fun _ => ?_) (fun _ => ?_)
        · refine lc_draw (a := a) (fun m => m ≤ 3) (fun y => ∃ v : Val, y = v.d ∧ Val.ok 1 v) (fun m hm => Nat.le_trans hm (by decide)) (fun Kd hk => ?_) ?_ ?_
          · unfold dRange1
            walk_at "dl"
            refine ⟨a, 4, rfl, by decide, by decide, n2.at, fun z M3 h0 h1 n3 => ?_⟩
            obtain ⟨z, rfl, hz⟩ := next_small (m := 4) h0 h1
            exact ⟨⟨by omega, by omega⟩, hk _ _ (by omega) n3⟩
          · intro d' M3 Q' hD' hq
            walk_at "dl"
            exact ⟨a, 1, rfl, by decide, by decide, hD', fun v M4 hv n4 => hq _ _ ⟨v, rfl, hv⟩ n4⟩
          · intro acc' M3 hP' hm' n3
            have n3 := n2.trans n3
            obtain ⟨vs, rfl, hv⟩ := row_of hP'
            rw [List.length_map] at hm'
            walk_at "dl"
            refine ⟨isLst_of (n3.keep ne hM), a, false, rfl, n3.at, fun s M4 hs n4 => ?_⟩
            have n4 := n3.trans n4
            refine ⟨a, false, rfl, n4.at, fun u M5 hu n5 => ?_⟩
            exact last (y := .doo s u vs) _ g (Deed.ok_doo hs hu hm' hv) (n4.trans n5)
        · refine ⟨io, a, false, rfl, n2.at, fun s M3 hs n3 => ?_⟩
          have n3 := n2.trans n3
          refine ⟨a, 2, rfl, by decide, by decide, n3.at, fun v M4 hv n4 => ?_⟩
          exact last (y := .set s v) f g (Deed.ok_set hs hv) (n3.trans n4)
    · rintro σ acc M2 ⟨c, e, f, g, rfl⟩ hP hk n2 hp2
      exact hN _ _ ⟨acc, M2, c, e, f, g, hP, hk, n2, hp2, rfl, rfl⟩
theorem ok__law_parts (T : Txt K mg) {f : Addr} {fd : FuncData} (F : FunD K "_law_parts" "_law_parts" (defArgs s_law_parts) (defBody s_law_parts) (defScope s_law_parts) [] [] f fd) (h__law_next : Callee P w K mg base CX0 (1) "_law_next" P_law_next sp_next) (h__law_spelled : Callee P w K mg base CX0 (3) "_law_spelled" P_law_spelled sp_spelled) (h__law_givens : Callee P w K mg base CX0 (4) "_law_givens" P_law_givens sp_givens) (h__law_value : Callee P w K mg base CX0 (11) "_law_value" P_law_value (sp_value 3)) (h__law_vars : Callee P w K mg base CX0 (12) "_law_vars" P_law_vars sp_vars) (h__law_deeds : Callee P w K mg base CX0 (14) "_law_deeds" P_law_deeds (sp_deeds 3)) (h__law_parts : Callee P w K mg base CX0 (14+n) "_law_parts" P_law_parts (sp_parts n)) : FnOk P w K mg base CX0 (14+n + 1) f fd P_law_parts (LSp K ((sp_parts (n+1)))) := by
  refine fnD0 F sc_law_parts (fun ds M Q E h => by first | (obtain ⟨rfl, _⟩ := h; rfl) | (obtain ⟨_, rfl, _⟩ := h; rfl) | (obtain ⟨_, _, rfl, _⟩ := h; rfl) | (obtain ⟨_, _, _, rfl, _⟩ := h; rfl) | (obtain ⟨_, _, _, _, rfl, _⟩ := h; rfl) | (obtain ⟨_, _, _, _, _, rfl, _⟩ := h; rfl) | (obtain ⟨_, _, _, _, _, _, rfl, _⟩ := h; rfl) | (obtain ⟨_, _, _, _, _, _, _, rfl, _⟩ := h; rfl) | (obtain ⟨_, _, _, _, _, _, _, _, rfl, _⟩ := h; rfl) | (obtain ⟨_, _, _, _, _, _, _, _, _, rfl, _⟩ := h; rfl) | (obtain ⟨_, _, _, _, _, _, _, _, _, _, rfl, _⟩ := h; rfl) | (obtain ⟨_, _, _, _, _, _, _, _, _, _, _, rfl, _⟩ := h; rfl) | (obtain ⟨_, _, _, _, _, _, _, _, _, _, _, _, rfl, _⟩ := h; rfl) | (obtain ⟨_, _, _, _, _, _, _, _, _, _, _, _, _, rfl, _⟩ := h; rfl) | (obtain ⟨_, _, _, _, _, _, _, _, _, _, _, _, _, _, rfl, _⟩ := h; rfl) | (obtain ⟨_, _, _, _, _, _, _, _, _, _, _, _, _, _, _, rfl, _⟩ := h; rfl) | (obtain ⟨_, _, _, _, _, _, _, _, _, _, _, _, _, _, _, _, rfl, _⟩ := h; rfl) | (obtain ⟨_, _, _, _, _, _, _, _, _, _, _, _, _, _, _, _, _, rfl, _⟩ := h; rfl) | (obtain ⟨_, _, _, _, _, _, _, _, _, _, _, _, _, _, _, _, _, _, rfl, _⟩ := h; rfl) | (obtain ⟨_, _, _, _, _, _, _, _, _, _, _, _, _, _, _, _, _, _, _, rfl, _⟩ := h; rfl)) fun cdv A outer s H E F0 hr => ⟨_, (dss_cons (ds_set (i := 3) sc_law_parts.nd rfl (Or.inl rfl) (de_lst (own := true) da_nil))
      (dss_cons (ds_for PassesOwn.never rfl (di_range1 rfl T.range (da_cons (de_fn h__law_next (hr.mono (by omega)) rfl pass0 finX0 (da_cons (de_var (pv 0)) (da_cons (de_op (od_add (own := false)) (de_var (pv 2)) de_int) da_nil))) da_nil)) (dg_name (pg_name (i := 4) sc_law_parts.nd rfl (Or.inl rfl))) (dss_one (ds_if (dt_w (dw_and (dt_cmp (od_gt) (de_var (pv 1)) de_int (nomark _)) (dw_and1 (dt_cmp (od_eq hr.units) (de_fn h__law_next (hr.mono (by omega)) rfl pass0 finX0 (da_cons (de_var (pv 0)) (da_cons de_int da_nil))) de_int (nomark _))))) (dss_cons (ds_set (i := 5) sc_law_parts.nd rfl (Or.inl rfl) (de_fn h__law_spelled (hr.mono (by omega)) rfl pass0 finX0 (da_cons (de_var (pv 0)) (da_cons de_bl da_nil))))
      (dss_one (ds_expr (de_bl1 PySem.F.slot_list_append PySem.F.type_list_append md_append (de_var (pv 3)) (da_cons (de_tup (da_cons de_str (da_cons (de_var (pv 5)) (da_cons (de_fn h__law_givens (hr.mono (by omega)) rfl pass0 finX0 (da_cons (de_var (pv 0)) da_nil)) (da_cons (de_fn h__law_vars (hr.mono (by omega)) rfl pass0 finX0 (da_cons (de_var (pv 0)) (da_cons de_int da_nil))) (da_cons (de_fn h__law_parts (hr.mono (by omega)) rfl pass0 finX0 (da_cons (de_var (pv 0)) (da_cons (de_op (od_sub) (de_var (pv 1)) de_int) (da_cons de_int da_nil)))) da_nil)))))) da_nil))))) (dss_cons (ds_set (i := 5) sc_law_parts.nd rfl (Or.inl rfl) (de_fn h__law_spelled (hr.mono (by omega)) rfl pass0 finX0 (da_cons (de_var (pv 0)) (da_cons de_bl da_nil))))
      (dss_cons (ds_set (i := 6) sc_law_parts.nd rfl (Or.inl rfl) (de_tup (da_cons de_str (da_cons (de_var (pv 5)) (da_cons (de_fn h__law_givens (hr.mono (by omega)) rfl pass0 finX0 (da_cons (de_var (pv 0)) da_nil)) (da_cons (de_fn h__law_spelled (hr.mono (by omega)) rfl pass0 finX0 (da_cons (de_var (pv 0)) (da_cons de_bl da_nil))) da_nil))))))
      (dss_one (ds_expr (de_bl1 PySem.F.slot_list_append PySem.F.type_list_append md_append (de_var (pv 3)) (da_cons (de_op (od_add (own := false)) (de_var (pv 6)) (de_tup (da_cons (de_fn h__law_deeds (hr.mono (by omega)) rfl pass0 finX0 (da_cons (de_var (pv 0)) (da_cons de_int (da_cons de_int da_nil)))) (da_cons (de_fn h__law_value (hr.mono (by omega)) rfl pass0 finX0 (da_cons (de_var (pv 0)) (da_cons de_int da_nil))) da_nil)))) da_nil)))))))))
      (dss_one (ds_ret (de_callTy cd_tuple rfl T.tuple (by decide +kernel) (da_cons (de_var (pv 3)) da_nil)))))), fun ds M Q Ex h => ?_⟩
  obtain ⟨a, d, m, rfl, hd, hm, hD, q⟩ := h
  walk_at "st"
  refine seq_tail (fun σ M' => ∃ p, M p = none ∧ M' = updM M p (.lst []) ∧ σ = [some (.obj a), some (.int d), some (.int m), some (.obj p), none, none, none]) ?_ (fun N hN => by walk_at "dl"; exact fun p hp => hN _ _ ⟨p, hp, rfl, rfl⟩)
  rintro _ M0 ⟨p, hp, e0, rfl⟩
  rw [e0]; clear e0 M0
  have ne := hD.ne hp
  refine seq_tail (fun σ M' => ∃ acc M2 c e f, (∀ y ∈ acc, ∃ v : Part, y = v.d ∧ Part.ok d v) ∧ acc.length ≤ m ∧ DrN a M M2 ∧ M2 p = none ∧ M' = updM M2 p (.lst acc) ∧ σ = [some (.obj a), some (.int d), some (.int m), some (.obj p), c, e, f]) ?_ (fun N hN => ?_)
  · rintro _ M0 ⟨acc, M2, c, e, f, hP, hl, n2, hp2, e0, rfl⟩
    rw [e0]; clear e0 M0
    obtain ⟨vs, rfl, hv⟩ := row_of hP
    walk_at "dl"
    rw [e_tupC_obj updM_same]
    rw [List.length_map] at hl
    rw [← partsD_map]
    exact Wk.drop hp2 (q vs _ hl hv n2)
  · refine for_draw (a := a) (fun k => k ≤ m) (fun y => ∃ v : Part, y = v.d ∧ Part.ok d v) (fun σ => ∃ c e f, σ = [some (.obj a), some (.int d), some (.int m), some (.obj p), c, e, f]) (fun k hk => Nat.le_trans hk (Nat.le_trans hm (by decide))) hD hp ⟨_, _, _, rfl⟩ (fun Kd hk => ?_) ?_ ?_
    · unfold dRange1
      walk_at "dl"
      refine ⟨a, _, rfl, by omega, by omega, hD.upd hp, fun z M1 h0 h1 n1 => ?_⟩
      obtain ⟨z, rfl, hz⟩ := next_small (m := m + 1) h0 (by omega)
      obtain ⟨M2, rfl, n2⟩ := n1.off ne
      exact ⟨⟨by omega, by omega⟩, hk _ _ (by omega) n2⟩
    · rintro x σ M1 acc N' ⟨c, e, f, rfl⟩ hM hD1 hl hn
      have last : ∀ {y : Part} {M3 : Mp} (e f : Option D), Part.ok d y → DrN a M1 M3 → dAppend (D.obj p) [y.d] M3 fun x' M1 => N' [some (D.obj a), some (D.int d), some (D.int m), some (D.obj p), some x, e, f] M1 := by
        intro y M3 e f hy n3
        rw [e_append (n3.keep ne hM)]
        exact ⟨hl, hn _ y.d _ ⟨_, _, _, rfl⟩ ⟨y, rfl, hy⟩ n3⟩
      have act : ∀ M2, DrN a M1 M2 → sp_spelled [.obj a, .bl false] M2 (fun y M3 => sp_givens [.obj a] M3 (fun g M4 => sp_spelled [.obj a, .bl true] M4 (fun k M5 => isLst (.obj p) M5 ∧ sp_deeds 3 [.obj a, .int 2, .int 3] M5 (fun ds M6 => sp_value 3 [.obj a, .int 2] M6 (fun v M7 => dAppend (D.obj p) [.tup [.str "act", y, g, k, ds, v]] M7 fun x' M1 => N' [some (D.obj a), some (D.int d), some (D.int m), some (D.obj p), some x, some y, some (.tup [.str "act", y, g, k])] M1) X0) X0) X0) X0) X0 := by
        intro M2 n2
        refine ⟨a, false, rfl, n2.at, fun s M3 hs n3 => ?_⟩
        have n3 := n2.trans n3
        refine ⟨a, rfl, n3.at, fun gs M4 hg n4 => ?_⟩
        have n4 := n3.trans n4
        refine ⟨a, true, rfl, n4.at, fun k M5 hk n5 => ?_⟩
        have n5 := n4.trans n5
        refine ⟨isLst_of (n5.keep ne hM), a, 2, 3, rfl, by decide, by decide, n5.at, fun ds M6 hd1 hd2 n6 => ?_⟩
        have n6 := n5.trans n6
        refine ⟨a, 2, rfl, by decide, by decide, n6.at, fun v M7 hv n7 => ?_⟩
        exact last (y := .act s gs k ds v) _ _ (Part.ok_act hs hg hk hd1 hd2 hv) (n6.trans n7)
      have add : ∀ (a b c d e f : D), ([a, b, c, d].length + [e, f].length ≤ sizeLine) = True := fun _ _ _ _ _ _ => eq_true (by show 6 ≤ sizeLine; decide)
      walk_at "dl"
      refine ifB (fun hb => ?_) (fun _ => ?_)
      rotate_left
      · simp only [add, true_and, List.cons_append, List.nil_append]
        exact act M1 (.refl hD1)
      have hd0 : 0 < d := by
        have := of_decide_eq_true hb
        omega
      obtain ⟨e', rfl⟩ : ∃ e, d = e + 1 := ⟨d - 1, by omega⟩
      refine ⟨a, 2, rfl, by decide, by decide, hD1, fun z M2 h0 h1 n2 => ?_⟩
      walk_at "dl"
      simp only [add, true_and, List.cons_append, List.nil_append]
      refine ifB (fun hb => ?_) (fun _ => act M2 n2)
      refine ⟨a, true, rfl, n2.at, fun s M3 hs n3 => ?_⟩
      have n3 := n2.trans n3
      refine ⟨isLst_of (n3.keep ne hM), a, rfl, n3.at, fun gs M4 hg n4 => ?_⟩
      have n4 := n3.trans n4
      refine ⟨a, 2, rfl, by decide, n4.at, fun vs M5 hv1 hv2 n5 => ?_⟩
      have n5 := n4.trans n5
      refine ⟨a, e', 2, by rw [show ((e' + 1 : Nat) : Int) - 1 = e' by omega]; rfl, by omega, by decide, n5.at, fun xs M6 hx1 hx2 n6 => ?_⟩
      exact last (y := .make s gs vs xs) _ f (by unfold Part.ok; exact ⟨hs, hg, hv1, hv2, hx1, hx2⟩) (n5.trans n6)
    · rintro σ acc M2 ⟨c, e, f, rfl⟩ hP hk n2 hp2
      exact hN _ _ ⟨acc, M2, c, e, f, hP, hk, n2, hp2, rfl, rfl⟩
theorem ok__law_program (T : Txt K mg) {f : Addr} {fd : FuncData} (F : FunD K "_law_program" "_law_program" (defArgs s_law_program) (defBody s_law_program) (defScope s_law_program) [] [] f fd) (h__law_next : Callee P w K mg base CX0 (1) "_law_next" P_law_next sp_next) (h__law_spelled : Callee P w K mg base CX0 (3) "_law_spelled" P_law_spelled sp_spelled) (h__law_vars : Callee P w K mg base CX0 (12) "_law_vars" P_law_vars sp_vars) (h__law_parts : Callee P w K mg base CX0 (18) "_law_parts" P_law_parts (sp_parts 4)) : FnOk P w K mg base CX0 (18 + 1) f fd P_law_program (LSp K (sp_program)) := by
  refine fnD0 F sc_law_program (fun ds M Q E h => by first | (obtain ⟨rfl, _⟩ := h; rfl) | (obtain ⟨_, rfl, _⟩ := h; rfl) | (obtain ⟨_, _, rfl, _⟩ := h; rfl) | (obtain ⟨_, _, _, rfl, _⟩ := h; rfl) | (obtain ⟨_, _, _, _, rfl, _⟩ := h; rfl) | (obtain ⟨_, _, _, _, _, rfl, _⟩ := h; rfl) | (obtain ⟨_, _, _, _, _, _, rfl, _⟩ := h; rfl) | (obtain ⟨_, _, _, _, _, _, _, rfl, _⟩ := h; rfl) | (obtain ⟨_, _, _, _, _, _, _, _, rfl, _⟩ := h; rfl) | (obtain ⟨_, _, _, _, _, _, _, _, _, rfl, _⟩ := h; rfl) | (obtain ⟨_, _, _, _, _, _, _, _, _, _, rfl, _⟩ := h; rfl) | (obtain ⟨_, _, _, _, _, _, _, _, _, _, _, rfl, _⟩ := h; rfl) | (obtain ⟨_, _, _, _, _, _, _, _, _, _, _, _, rfl, _⟩ := h; rfl) | (obtain ⟨_, _, _, _, _, _, _, _, _, _, _, _, _, rfl, _⟩ := h; rfl) | (obtain ⟨_, _, _, _, _, _, _, _, _, _, _, _, _, _, rfl, _⟩ := h; rfl) | (obtain ⟨_, _, _, _, _, _, _, _, _, _, _, _, _, _, _, rfl, _⟩ := h; rfl) | (obtain ⟨_, _, _, _, _, _, _, _, _, _, _, _, _, _, _, _, rfl, _⟩ := h; rfl) | (obtain ⟨_, _, _, _, _, _, _, _, _, _, _, _, _, _, _, _, _, rfl, _⟩ := h; rfl) | (obtain ⟨_, _, _, _, _, _, _, _, _, _, _, _, _, _, _, _, _, _, rfl, _⟩ := h; rfl) | (obtain ⟨_, _, _, _, _, _, _, _, _, _, _, _, _, _, _, _, _, _, _, rfl, _⟩ := h; rfl)) fun cdv A outer s H E F0 hr => ⟨_, (dss_cons (ds_set (i := 1) sc_law_program.nd rfl (Or.inl rfl) (de_lst (own := true) da_nil))
      (dss_cons (ds_for PassesOwn.never rfl (di_range1 rfl T.range (da_cons (de_fn h__law_next (hr.mono (by omega)) rfl pass0 finX0 (da_cons (de_var (pv 0)) (da_cons de_int da_nil))) da_nil)) (dg_name (pg_name (i := 2) sc_law_program.nd rfl (Or.inl rfl))) (dss_cons (ds_set (i := 3) sc_law_program.nd rfl (Or.inl rfl) (de_fn h__law_spelled (hr.mono (by omega)) rfl pass0 finX0 (da_cons (de_var (pv 0)) (da_cons de_bl da_nil))))
      (dss_one (ds_expr (de_bl1 PySem.F.slot_list_append PySem.F.type_list_append md_append (de_var (pv 1)) (da_cons (de_tup (da_cons (de_var (pv 3)) (da_cons (de_callTy cd_tuple rfl T.tuple (by decide +kernel) (da_cons (de_lc (own := false) (x := "n") (j := 4) rfl sc_law_program.nd (di_range1 rfl T.range (da_cons (de_op (od_add (own := false)) de_int (de_fn h__law_next (hr.mono (by omega)) rfl pass0 finX0 (da_cons (de_var (pv 0)) (da_cons de_int da_nil)))) da_nil)) (blkOk_by (N := N_law_program) (sc := defScope s_law_program) (by decide +kernel)) (fun _ _ _ _ _ => pg_name (i := 4) sc_law_program.nd rfl (by first | exact Or.inl rfl | exact Or.inr rfl)) (fun _ _ _ _ _ => (de_fn h__law_spelled (hr.mono (by omega)) rfl pass0 finX0 (da_cons (de_var (pv 0)) (da_cons de_bl da_nil))))) da_nil)) da_nil))) da_nil))))))
      (dss_one (ds_ret (de_tup (da_cons de_str (da_cons (de_callTy cd_tuple rfl T.tuple (by decide +kernel) (da_cons (de_var (pv 1)) da_nil)) (da_cons (de_fn h__law_vars (hr.mono (by omega)) rfl pass0 finX0 (da_cons (de_var (pv 0)) (da_cons de_int da_nil))) (da_cons (de_fn h__law_parts (hr.mono (by omega)) rfl pass0 finX0 (da_cons (de_var (pv 0)) (da_cons de_int (da_cons de_int da_nil)))) da_nil))))))))), fun ds M Q Ex h => ?_⟩
  obtain ⟨a, rfl, hD, q⟩ := h
  walk_at "st"
  refine seq_tail (fun σ M' => ∃ p, M p = none ∧ M' = updM M p (.lst []) ∧ σ = [some (.obj a), some (.obj p), none, none, none]) ?_ (fun N hN => by walk_at "dl"; exact fun p hp => hN _ _ ⟨p, hp, rfl, rfl⟩)
  rintro _ M0 ⟨p, hp, e0, rfl⟩
  rw [e0]; clear e0 M0
  have ne := hD.ne hp
  refine seq_tail (fun σ M' => ∃ acc M2 c e f, (∀ y ∈ acc, ∃ v : Str × List Str, y = kindD v ∧ NameOk true v.1 ∧ 1 ≤ v.2.length ∧ v.2.length ≤ 5 ∧ ∀ x ∈ v.2, NameOk true x) ∧ acc.length ≤ 3 ∧ DrN a M M2 ∧ M2 p = none ∧ M' = updM M2 p (.lst acc) ∧ σ = [some (.obj a), some (.obj p), c, e, f]) ?_ (fun N hN => ?_)
  · rintro _ M0 ⟨acc, M2, c, e, f, hP, hl, n2, hp2, e0, rfl⟩
    rw [e0]; clear e0 M0
    obtain ⟨ks, rfl, hk⟩ := row_of hP
    walk_at "dl"
    rw [e_tupC_obj updM_same]
    rw [List.length_map] at hl
    refine ⟨a, 3, rfl, by decide, n2.at.upd hp2, fun vs M3 hv1 hv2 n3 => ?_⟩
    obtain ⟨M3, rfl, n5⟩ := n3.off ne
    refine ⟨a, 3, 3, rfl, by decide, by decide, (n2.trans n5).at.upd (n5.none n2.at hp2), fun ps M4 hp1 hp2' n4 => ?_⟩
    obtain ⟨M4, rfl, n6⟩ := n4.off ne
    exact Wk.drop (n6.none n5.at (n5.none n2.at hp2)) (q ⟨ks, vs, ps⟩ _ ⟨hl, hk, hv1, hv2, hp1, hp2'⟩ (n2.trans (n5.trans n6)))
  · refine for_draw (a := a) (fun k => k ≤ 3) (fun y => ∃ v : Str × List Str, y = kindD v ∧ NameOk true v.1 ∧ 1 ≤ v.2.length ∧ v.2.length ≤ 5 ∧ ∀ x ∈ v.2, NameOk true x) (fun σ => ∃ c e f, σ = [some (.obj a), some (.obj p), c, e, f]) (fun k hk => Nat.le_trans hk (by decide)) hD hp ⟨_, _, _, rfl⟩ (fun Kd hk => ?_) ?_ ?_
    · unfold dRange1
      walk_at "dl"
      refine ⟨a, _, rfl, by omega, by omega, hD.upd hp, fun z M1 h0 h1 n1 => ?_⟩
      obtain ⟨z, rfl, hz⟩ := next_small (m := 4) h0 (by omega)
      obtain ⟨M2, rfl, n2⟩ := n1.off ne
      exact ⟨⟨by omega, by omega⟩, hk _ _ (by omega) n2⟩
    · rintro x σ M1 acc N' ⟨c, e, f, rfl⟩ hM hD1 hl hn
      refine seq_tail (fun σ M' => DrN a M1 M' ∧ ∃ s, NameOk true s ∧ σ = [some (.obj a), some (.obj p), some x, some (.str s), f]) ?_ (fun N hN => ?_)
      rotate_left
      · walk_at "dl"
        exact ⟨a, true, rfl, hD1, fun s M3 hs n3 => hN _ _ ⟨n3, s, hs, rfl⟩⟩
      rintro _ M2 ⟨n2, s, hs, rfl⟩
      walk_at "dl"
      refine ⟨isLst_of (n2.keep ne hM), ?_⟩
      refine lc_draw (a := a) (fun m => 1 ≤ m ∧ m ≤ 5) (fun y => ∃ v : Str, y = .str v ∧ NameOk true v) (fun m hm => Nat.le_trans hm.2 (by decide)) (fun Kd hk => ?_) ?_ ?_
      · unfold dRange1
        walk_at "dl"
        refine ⟨a, 5, rfl, by decide, by decide, n2.at, fun z M3 h0 h1 n3 => ?_⟩
        obtain ⟨z, rfl, hz⟩ := next_small (m := 5) h0 h1
        have := hk (1 + z) _ ⟨by omega, by omega⟩ n3
        exact ⟨⟨by omega, by omega⟩, by rw [show (1 + (z : Int)).toNat = 1 + z by omega]; exact this⟩
      · intro d' M3 Q' hD' hq
        walk_at "dl"
        exact ⟨a, true, rfl, hD', fun v M4 hv n4 => hq _ _ ⟨v, rfl, hv⟩ n4⟩
      · intro acc' M3 hP' hm' n3
        have n3 := n2.trans n3
        obtain ⟨vs, rfl, hv⟩ := row_of hP'
        rw [List.length_map] at hm'
        walk_at "dl"
        rw [e_append (n3.keep ne hM)]
        exact ⟨hl, hn _ (kindD (s, vs)) _ ⟨_, _, _, rfl⟩ ⟨(s, vs), rfl, hs, hm'.1, hm'.2, hv⟩ n3⟩
    · rintro σ acc M2 ⟨c, e, f, rfl⟩ hP hk n2 hp2
      exact hN _ _ ⟨acc, M2, c, e, f, hP, hk, n2, hp2, rfl, rfl⟩
end
end K01
namespace K01
open PySem PySem.Spec L2 DL Syn Wr Lx
local macro_rules | `(tactic| walk_at "st") => `(tactic| simp only [start_def, List.map_cons, List.map_nil, List.length_cons, List.length_nil, List.cons_append, List.nil_append, Nat.zero_add, Nat.reduceAdd, Nat.reduceSub, List.replicate])
local macro_rules | `(tactic| walk_at "dl") => `(tactic| simp only [dSeq, dNext, dDrop, dRet, dRetF, dRetN, dIfS, dAsg, dAug, dPar, nGm, nTup, nCons, nNil, dVar, dC, dOp, dUn, dCons, dNil, dTup, dLst, dB, dTru, dAnd, dOr, dNot, dAndV, dOrV, dNotV, dIf, dChain, dCB, dCall, dSlE, dNoPart, dPart, dRev, dS0, dS1, dBL, dBL0, dIsi, dBreak, dCont, List.set_cons_zero, List.set_cons_succ, List.getElem?_cons_zero, List.getElem?_cons_succ, ifB_t, ifB_f, e_new_f, e_new_t, e_add_int, e_add_str, e_add_tup, e_add_lst, e_sub, e_mul, e_mul_str, e_mul_lst, e_div, e_mod, e_pow, e_neg, e_eq_int, e_eq_str, e_isN_non, e_isN_obj, e_isN_tup, e_isN_lst, e_lt_int, e_lt_str, e_le_int, e_le_str, e_gt, e_ge, e_in_str, e_t0, e_t1, e_t2, e_t3, e_t4, e_t5, e_l0, e_l1, e_l2, e_l3, e_sl_tup, e_sl_rdl, e_sl_str, e_sl_lst, e_len_str, e_len_lst, e_len_tup, e_int, e_tupC_tup, e_tupC_lst, e_iadd_int, e_iadd_str, e_isub, tru_bl, tru_int, tru_non, tru_lst, tru_tup, ex_some, bne_f, bne_t, e_nSub, lsD_lst, sz0, sz1, sz2, sz3, sz4, sz5, sz6, sz7, sz8, true_and])
section
variable {P : Program} {w : World} {K : PySem.W.Frag} {mg : Str → Option Value} {base : Heap}
def sp_sign (f : Nat → Bool) : SpD := fun ds M Q _ => ∃ c, ds = [.str ⟨#[c]⟩] ∧ Q (.bl (f c)) M
theorem ok_is_small (T : Txt K mg) {f : Addr} {fd : FuncData} (F : FunD K "is_small" "is_small" (defArgs sis_small) (defBody sis_small) (defScope sis_small) [] [] f fd) : FnOk P w K mg base CX0 (0 + 1) f fd Pis_small (LSp K ((sp_sign smallC))) := by
  refine fnD0 F scis_small (fun ds M Q E h => by first | (obtain ⟨rfl, _⟩ := h; rfl) | (obtain ⟨_, rfl, _⟩ := h; rfl) | (obtain ⟨_, _, rfl, _⟩ := h; rfl) | (obtain ⟨_, _, _, rfl, _⟩ := h; rfl) | (obtain ⟨_, _, _, _, rfl, _⟩ := h; rfl) | (obtain ⟨_, _, _, _, _, rfl, _⟩ := h; rfl) | (obtain ⟨_, _, _, _, _, _, rfl, _⟩ := h; rfl) | (obtain ⟨_, _, _, _, _, _, _, rfl, _⟩ := h; rfl) | (obtain ⟨_, _, _, _, _, _, _, _, rfl, _⟩ := h; rfl) | (obtain ⟨_, _, _, _, _, _, _, _, _, rfl, _⟩ := h; rfl) | (obtain ⟨_, _, _, _, _, _, _, _, _, _, rfl, _⟩ := h; rfl) | (obtain ⟨_, _, _, _, _, _, _, _, _, _, _, rfl, _⟩ := h; rfl) | (obtain ⟨_, _, _, _, _, _, _, _, _, _, _, _, rfl, _⟩ := h; rfl) | (obtain ⟨_, _, _, _, _, _, _, _, _, _, _, _, _, rfl, _⟩ := h; rfl) | (obtain ⟨_, _, _, _, _, _, _, _, _, _, _, _, _, _, rfl, _⟩ := h; rfl) | (obtain ⟨_, _, _, _, _, _, _, _, _, _, _, _, _, _, _, rfl, _⟩ := h; rfl) | (obtain ⟨_, _, _, _, _, _, _, _, _, _, _, _, _, _, _, _, rfl, _⟩ := h; rfl) | (obtain ⟨_, _, _, _, _, _, _, _, _, _, _, _, _, _, _, _, _, rfl, _⟩ := h; rfl) | (obtain ⟨_, _, _, _, _, _, _, _, _, _, _, _, _, _, _, _, _, _, rfl, _⟩ := h; rfl) | (obtain ⟨_, _, _, _, _, _, _, _, _, _, _, _, _, _, _, _, _, _, _, rfl, _⟩ := h; rfl)) fun cdv A outer s H E F0 hr => ⟨_, (dss_one (ds_ret (de_chain (od_le) (od_le) de_str (de_var (pv 0)) de_str))), fun ds M Q Ex h => ?_⟩
  obtain ⟨c, rfl, q⟩ := h
  walk_at "st"
  have e1 : decide ((⟨#[c]⟩ : Str).cps.toList < ("a" : Str).cps.toList) = decide (c < 97) := cps_lt
  have e2 : decide (("z" : Str).cps.toList < (⟨#[c]⟩ : Str).cps.toList) = decide (122 < c) := cps_lt
  walk_at "dl"
  rw [e1, e2]
  rw [small_eq] at q
  refine ifB (fun h => ?_) (fun h => ?_)
  · rw [h, Bool.true_and] at q; exact Wk.here q
  · rw [h, Bool.false_and] at q; exact Wk.here q
theorem ok_is_great (T : Txt K mg) {f : Addr} {fd : FuncData} (F : FunD K "is_great" "is_great" (defArgs sis_great) (defBody sis_great) (defScope sis_great) [] [] f fd) : FnOk P w K mg base CX0 (0 + 1) f fd Pis_great (LSp K ((sp_sign greatC))) := by
  refine fnD0 F scis_great (fun ds M Q E h => by first | (obtain ⟨rfl, _⟩ := h; rfl) | (obtain ⟨_, rfl, _⟩ := h; rfl) | (obtain ⟨_, _, rfl, _⟩ := h; rfl) | (obtain ⟨_, _, _, rfl, _⟩ := h; rfl) | (obtain ⟨_, _, _, _, rfl, _⟩ := h; rfl) | (obtain ⟨_, _, _, _, _, rfl, _⟩ := h; rfl) | (obtain ⟨_, _, _, _, _, _, rfl, _⟩ := h; rfl) | (obtain ⟨_, _, _, _, _, _, _, rfl, _⟩ := h; rfl) | (obtain ⟨_, _, _, _, _, _, _, _, rfl, _⟩ := h; rfl) | (obtain ⟨_, _, _, _, _, _, _, _, _, rfl, _⟩ := h; rfl) | (obtain ⟨_, _, _, _, _, _, _, _, _, _, rfl, _⟩ := h; rfl) | (obtain ⟨_, _, _, _, _, _, _, _, _, _, _, rfl, _⟩ := h; rfl) | (obtain ⟨_, _, _, _, _, _, _, _, _, _, _, _, rfl, _⟩ := h; rfl) | (obtain ⟨_, _, _, _, _, _, _, _, _, _, _, _, _, rfl, _⟩ := h; rfl) | (obtain ⟨_, _, _, _, _, _, _, _, _, _, _, _, _, _, rfl, _⟩ := h; rfl) | (obtain ⟨_, _, _, _, _, _, _, _, _, _, _, _, _, _, _, rfl, _⟩ := h; rfl) | (obtain ⟨_, _, _, _, _, _, _, _, _, _, _, _, _, _, _, _, rfl, _⟩ := h; rfl) | (obtain ⟨_, _, _, _, _, _, _, _, _, _, _, _, _, _, _, _, _, rfl, _⟩ := h; rfl) | (obtain ⟨_, _, _, _, _, _, _, _, _, _, _, _, _, _, _, _, _, _, rfl, _⟩ := h; rfl) | (obtain ⟨_, _, _, _, _, _, _, _, _, _, _, _, _, _, _, _, _, _, _, rfl, _⟩ := h; rfl)) fun cdv A outer s H E F0 hr => ⟨_, (dss_one (ds_ret (de_chain (od_le) (od_le) de_str (de_var (pv 0)) de_str))), fun ds M Q Ex h => ?_⟩
  obtain ⟨c, rfl, q⟩ := h
  walk_at "st"
  have e1 : decide ((⟨#[c]⟩ : Str).cps.toList < ("A" : Str).cps.toList) = decide (c < 65) := cps_lt
  have e2 : decide (("Z" : Str).cps.toList < (⟨#[c]⟩ : Str).cps.toList) = decide (90 < c) := cps_lt
  walk_at "dl"
  rw [e1, e2]
  rw [great_eq] at q
  refine ifB (fun h => ?_) (fun h => ?_)
  · rw [h, Bool.true_and] at q; exact Wk.here q
  · rw [h, Bool.false_and] at q; exact Wk.here q
theorem ok_in_row (T : Txt K mg) {f : Addr} {fd : FuncData} (F : FunD K "in_row" "in_row" (defArgs sin_row) (defBody sin_row) (defScope sin_row) [] [] f fd) (h_is_small : Callee P w K mg base CX0 (1) "is_small" Pis_small (sp_sign smallC)) (h_is_great : Callee P w K mg base CX0 (1) "is_great" Pis_great (sp_sign greatC)) : FnOk P w K mg base CX0 (1 + 1) f fd Pin_row (LSp K ((sp_sign rowC))) := by
  refine fnD0 F scin_row (fun ds M Q E h => by first | (obtain ⟨rfl, _⟩ := h; rfl) | (obtain ⟨_, rfl, _⟩ := h; rfl) | (obtain ⟨_, _, rfl, _⟩ := h; rfl) | (obtain ⟨_, _, _, rfl, _⟩ := h; rfl) | (obtain ⟨_, _, _, _, rfl, _⟩ := h; rfl) | (obtain ⟨_, _, _, _, _, rfl, _⟩ := h; rfl) | (obtain ⟨_, _, _, _, _, _, rfl, _⟩ := h; rfl) | (obtain ⟨_, _, _, _, _, _, _, rfl, _⟩ := h; rfl) | (obtain ⟨_, _, _, _, _, _, _, _, rfl, _⟩ := h; rfl) | (obtain ⟨_, _, _, _, _, _, _, _, _, rfl, _⟩ := h; rfl) | (obtain ⟨_, _, _, _, _, _, _, _, _, _, rfl, _⟩ := h; rfl) | (obtain ⟨_, _, _, _, _, _, _, _, _, _, _, rfl, _⟩ := h; rfl) | (obtain ⟨_, _, _, _, _, _, _, _, _, _, _, _, rfl, _⟩ := h; rfl) | (obtain ⟨_, _, _, _, _, _, _, _, _, _, _, _, _, rfl, _⟩ := h; rfl) | (obtain ⟨_, _, _, _, _, _, _, _, _, _, _, _, _, _, rfl, _⟩ := h; rfl) | (obtain ⟨_, _, _, _, _, _, _, _, _, _, _, _, _, _, _, rfl, _⟩ := h; rfl) | (obtain ⟨_, _, _, _, _, _, _, _, _, _, _, _, _, _, _, _, rfl, _⟩ := h; rfl) | (obtain ⟨_, _, _, _, _, _, _, _, _, _, _, _, _, _, _, _, _, rfl, _⟩ := h; rfl) | (obtain ⟨_, _, _, _, _, _, _, _, _, _, _, _, _, _, _, _, _, _, rfl, _⟩ := h; rfl) | (obtain ⟨_, _, _, _, _, _, _, _, _, _, _, _, _, _, _, _, _, _, _, rfl, _⟩ := h; rfl)) fun cdv A outer s H E F0 hr => ⟨_, (dss_one (ds_ret (de_or (de_fn h_is_small (hr.mono (by omega)) rfl pass0 finX0 (da_cons (de_var (pv 0)) da_nil)) (de_or (de_fn h_is_great (hr.mono (by omega)) rfl pass0 finX0 (da_cons (de_var (pv 0)) da_nil)) (de_or (de_chain (od_le) (od_le) de_str (de_var (pv 0)) de_str) (de_one (de_cmp (od_eq hr.units) (de_var (pv 0)) de_str (nomark _)))))))), fun ds M Q Ex h => ?_⟩
  obtain ⟨c, rfl, q⟩ := h
  walk_at "st"
  have e1 : decide ((⟨#[c]⟩ : Str).cps.toList < ("0" : Str).cps.toList) = decide (c < 48) := cps_lt
  have e2 : decide (("9" : Str).cps.toList < (⟨#[c]⟩ : Str).cps.toList) = decide (57 < c) := cps_lt
  have e3 : decide ((⟨#[c]⟩ : Str) = "_") = decide (c = 95) := one_eq
  rw [row_eq] at q
  walk_at "dl"
  refine ⟨c, rfl, ?_⟩
  dsimp only
  refine ifB (fun h1 => ?_) (fun h1 => ?_)
  · rw [h1] at q; exact Wk.here q
  · refine ⟨c, rfl, ?_⟩
    dsimp only
    refine ifB (fun h2 => ?_) (fun h2 => ?_)
    · rw [h1, h2] at q; exact Wk.here q
    · rw [e1, e2, e3]
      rw [h1, h2] at q
      refine ifB (fun h3 => ifB (fun h4 => ?_) (fun h4 => ?_)) (fun h3 => ?_)
      · rw [h3, h4] at q; exact Wk.here q
      · rw [h3, h4] at q; exact Wk.here q
      · rw [h3] at q; exact Wk.here q
theorem ok_in_text (T : Txt K mg) {f : Addr} {fd : FuncData} (F : FunD K "in_text" "in_text" (defArgs sin_text) (defBody sin_text) (defScope sin_text) [] [] f fd) : FnOk P w K mg base CX0 (0 + 1) f fd Pin_text (LSp K ((sp_sign textC))) := by
  refine fnD0 F scin_text (fun ds M Q E h => by first | (obtain ⟨rfl, _⟩ := h; rfl) | (obtain ⟨_, rfl, _⟩ := h; rfl) | (obtain ⟨_, _, rfl, _⟩ := h; rfl) | (obtain ⟨_, _, _, rfl, _⟩ := h; rfl) | (obtain ⟨_, _, _, _, rfl, _⟩ := h; rfl) | (obtain ⟨_, _, _, _, _, rfl, _⟩ := h; rfl) | (obtain ⟨_, _, _, _, _, _, rfl, _⟩ := h; rfl) | (obtain ⟨_, _, _, _, _, _, _, rfl, _⟩ := h; rfl) | (obtain ⟨_, _, _, _, _, _, _, _, rfl, _⟩ := h; rfl) | (obtain ⟨_, _, _, _, _, _, _, _, _, rfl, _⟩ := h; rfl) | (obtain ⟨_, _, _, _, _, _, _, _, _, _, rfl, _⟩ := h; rfl) | (obtain ⟨_, _, _, _, _, _, _, _, _, _, _, rfl, _⟩ := h; rfl) | (obtain ⟨_, _, _, _, _, _, _, _, _, _, _, _, rfl, _⟩ := h; rfl) | (obtain ⟨_, _, _, _, _, _, _, _, _, _, _, _, _, rfl, _⟩ := h; rfl) | (obtain ⟨_, _, _, _, _, _, _, _, _, _, _, _, _, _, rfl, _⟩ := h; rfl) | (obtain ⟨_, _, _, _, _, _, _, _, _, _, _, _, _, _, _, rfl, _⟩ := h; rfl) | (obtain ⟨_, _, _, _, _, _, _, _, _, _, _, _, _, _, _, _, rfl, _⟩ := h; rfl) | (obtain ⟨_, _, _, _, _, _, _, _, _, _, _, _, _, _, _, _, _, rfl, _⟩ := h; rfl) | (obtain ⟨_, _, _, _, _, _, _, _, _, _, _, _, _, _, _, _, _, _, rfl, _⟩ := h; rfl) | (obtain ⟨_, _, _, _, _, _, _, _, _, _, _, _, _, _, _, _, _, _, _, rfl, _⟩ := h; rfl)) fun cdv A outer s H E F0 hr => ⟨_, (dss_one (ds_ret (de_chain (od_le) (od_le) de_str (de_var (pv 0)) de_str))), fun ds M Q Ex h => ?_⟩
  obtain ⟨c, rfl, q⟩ := h
  walk_at "st"
  have e1 : decide ((⟨#[c]⟩ : Str).cps.toList < (" " : Str).cps.toList) = decide (c < 32) := cps_lt
  have e2 : decide (("~" : Str).cps.toList < (⟨#[c]⟩ : Str).cps.toList) = decide (126 < c) := cps_lt
  walk_at "dl"
  rw [e1, e2]
  rw [text_eq] at q
  refine ifB (fun h => ?_) (fun h => ?_)
  · rw [h, Bool.true_and] at q; exact Wk.here q
  · rw [h, Bool.false_and] at q; exact Wk.here q
def sp_behind : SpD := fun ds M Q _ => ∃ (z : Str) (i : Nat), ds = [.str z, .int i] ∧ z.length ≤ sizeLine ∧ i ≤ z.length ∧ Q (.int ((i + tw textC (z.cps.toList.drop i) : Nat) : Int)) M
theorem ok_behind_remark (T : Txt K mg) {f : Addr} {fd : FuncData} (F : FunD K "behind_remark" "behind_remark" (defArgs sbehind_remark) (defBody sbehind_remark) (defScope sbehind_remark) [] [] f fd) (h_in_text : Callee P w K mg base CX0 (1) "in_text" Pin_text (sp_sign textC)) : FnOk P w K mg base CX0 (1 + 1) f fd Pbehind_remark (LSp K (sp_behind)) := by
  refine fnD0 F scbehind_remark (fun ds M Q E h => by first | (obtain ⟨rfl, _⟩ := h; rfl) | (obtain ⟨_, rfl, _⟩ := h; rfl) | (obtain ⟨_, _, rfl, _⟩ := h; rfl) | (obtain ⟨_, _, _, rfl, _⟩ := h; rfl) | (obtain ⟨_, _, _, _, rfl, _⟩ := h; rfl) | (obtain ⟨_, _, _, _, _, rfl, _⟩ := h; rfl) | (obtain ⟨_, _, _, _, _, _, rfl, _⟩ := h; rfl) | (obtain ⟨_, _, _, _, _, _, _, rfl, _⟩ := h; rfl) | (obtain ⟨_, _, _, _, _, _, _, _, rfl, _⟩ := h; rfl) | (obtain ⟨_, _, _, _, _, _, _, _, _, rfl, _⟩ := h; rfl) | (obtain ⟨_, _, _, _, _, _, _, _, _, _, rfl, _⟩ := h; rfl) | (obtain ⟨_, _, _, _, _, _, _, _, _, _, _, rfl, _⟩ := h; rfl) | (obtain ⟨_, _, _, _, _, _, _, _, _, _, _, _, rfl, _⟩ := h; rfl) | (obtain ⟨_, _, _, _, _, _, _, _, _, _, _, _, _, rfl, _⟩ := h; rfl) | (obtain ⟨_, _, _, _, _, _, _, _, _, _, _, _, _, _, rfl, _⟩ := h; rfl) | (obtain ⟨_, _, _, _, _, _, _, _, _, _, _, _, _, _, _, rfl, _⟩ := h; rfl) | (obtain ⟨_, _, _, _, _, _, _, _, _, _, _, _, _, _, _, _, rfl, _⟩ := h; rfl) | (obtain ⟨_, _, _, _, _, _, _, _, _, _, _, _, _, _, _, _, _, rfl, _⟩ := h; rfl) | (obtain ⟨_, _, _, _, _, _, _, _, _, _, _, _, _, _, _, _, _, _, rfl, _⟩ := h; rfl) | (obtain ⟨_, _, _, _, _, _, _, _, _, _, _, _, _, _, _, _, _, _, _, rfl, _⟩ := h; rfl)) fun cdv A outer s H E F0 hr => ⟨_, (dss_cons (ds_while PassesOwn.never (dt_w (dw_and (dt_cmp (od_lt) (de_var (pv 1)) (de_callB cd_len rfl T.len (by decide +kernel) (da_cons (de_var (pv 0)) da_nil)) (nomark _)) (dw_and1 (dt_tru (de_fn h_in_text (hr.mono (by omega)) rfl pass0 finX0 (da_cons (de_ix (de_var (pv 0)) (de_var (pv 1)) (fun _ _ => rfl)) da_nil)))))) (dss_one (ds_aug (i := 1) scbehind_remark.nd rfl (Or.inl rfl) de_int od_iadd)))
      (dss_one (ds_retF (de_var (pv 1))))), fun ds M Q Ex h => ?_⟩
  obtain ⟨z, i, rfl, hz, hi, q⟩ := h
  walk_at "st"
  have hzl : z.length = z.cps.toList.length := TL.len_tl z
  refine seq_tail (fun σ M' => M' = M ∧ σ = [some (.str z), some (.int ((i + tw textC (z.cps.toList.drop i) : Nat) : Int))]) ?_ (fun N hN => ?_)
  · rintro _ M0 ⟨e0, rfl⟩
    rw [e0]; clear e0 M0
    walk_at "dl"
    exact Wk.here q
  · refine while_gen (fun m σ M' => ∃ k : Nat, m = z.length - k ∧ k ≤ z.length ∧ k + tw textC (z.cps.toList.drop k) = i + tw textC (z.cps.toList.drop i) ∧ M' = M ∧ σ = [some (.str z), some (.int k)]) _ ⟨i, rfl, hi, rfl, rfl, rfl⟩ ?_
    rintro m σ M' N' ⟨k, rfl, hk, hkt, e0, rfl⟩ hN'
    rw [e0]; clear e0 M'
    walk_at "dl"
    refine ⟨hz, ?_⟩
    cases hd : z.cps.toList.drop k with
    | nil =>
      have := drop_nil hd
      refine ifB (fun h => ?_) (fun _ => ?_)
      · have := of_decide_eq_true h; omega
      · refine hN _ _ ⟨rfl, ?_⟩
        rw [hd, tw_nil] at hkt
        rw [← hkt] <;> rfl
    | cons c r =>
      have hlt := drop_lt hd
      refine ifB (fun _ => ?_) (fun h => absurd (of_decide_eq_false h) (by omega))
      refine e_ix_str hz (drop_get hd) ⟨c, rfl, _, rfl, ?_⟩
      refine ifB (fun h2 => ?_) (fun h2 => ?_)
      · refine hN' (z.length - (k + 1)) _ _ (by omega) ⟨k + 1, rfl, by omega, ?_, rfl, rfl⟩
        rw [drop_next hd]
        rw [hd, tw_step h2] at hkt
        omega
      · refine hN _ _ ⟨rfl, ?_⟩
        rw [hd, tw_stop h2] at hkt
        rw [← hkt] <;> rfl
def sp_tokenat : SpD := fun ds M Q _ => ∃ (z : Str) (i : Nat) (s : Str) (n : Nat), ds = [.str z, .int i] ∧ z.length ≤ sizeLine ∧ i < z.length ∧ TokAt (z.cps.toList.drop i) s n ∧ Q (.tup [.str s, .int ((i + n : Nat) : Int)]) M
theorem sl_mid {own : Bool} {z : Str} {i n : Nat} {M : Mp} {Q : DK} (hz : z.length ≤ sizeLine) (q : Q (.str ⟨((z.cps.toList.drop i).take n).toArray⟩) M) : dSl own (.str z) (some (i : Int)) (some ((i + n : Nat) : Int)) M Q := by
  refine ⟨hz, ?_⟩
  rw [cut_mid]
  exact q
theorem ok_token_at (T : Txt K mg) {f : Addr} {fd : FuncData} (F : FunD K "token_at" "token_at" (defArgs stoken_at) (defBody stoken_at) (defScope stoken_at) [] [] f fd) (h_is_small : Callee P w K mg base CX0 (1) "is_small" Pis_small (sp_sign smallC)) (h_is_great : Callee P w K mg base CX0 (1) "is_great" Pis_great (sp_sign greatC)) (h_in_row : Callee P w K mg base CX0 (2) "in_row" Pin_row (sp_sign rowC)) : FnOk P w K mg base CX0 (2 + 1) f fd Ptoken_at (LSp K (sp_tokenat)) := by
  refine fnD0 F sctoken_at (fun ds M Q E h => by first | (obtain ⟨rfl, _⟩ := h; rfl) | (obtain ⟨_, rfl, _⟩ := h; rfl) | (obtain ⟨_, _, rfl, _⟩ := h; rfl) | (obtain ⟨_, _, _, rfl, _⟩ := h; rfl) | (obtain ⟨_, _, _, _, rfl, _⟩ := h; rfl) | (obtain ⟨_, _, _, _, _, rfl, _⟩ := h; rfl) | (obtain ⟨_, _, _, _, _, _, rfl, _⟩ := h; rfl) | (obtain ⟨_, _, _, _, _, _, _, rfl, _⟩ := h; rfl) | (obtain ⟨_, _, _, _, _, _, _, _, rfl, _⟩ := h; rfl) | (obtain ⟨_, _, _, _, _, _, _, _, _, rfl, _⟩ := h; rfl) | (obtain ⟨_, _, _, _, _, _, _, _, _, _, rfl, _⟩ := h; rfl) | (obtain ⟨_, _, _, _, _, _, _, _, _, _, _, rfl, _⟩ := h; rfl) | (obtain ⟨_, _, _, _, _, _, _, _, _, _, _, _, rfl, _⟩ := h; rfl) | (obtain ⟨_, _, _, _, _, _, _, _, _, _, _, _, _, rfl, _⟩ := h; rfl) | (obtain ⟨_, _, _, _, _, _, _, _, _, _, _, _, _, _, rfl, _⟩ := h; rfl) | (obtain ⟨_, _, _, _, _, _, _, _, _, _, _, _, _, _, _, rfl, _⟩ := h; rfl) | (obtain ⟨_, _, _, _, _, _, _, _, _, _, _, _, _, _, _, _, rfl, _⟩ := h; rfl) | (obtain ⟨_, _, _, _, _, _, _, _, _, _, _, _, _, _, _, _, _, rfl, _⟩ := h; rfl) | (obtain ⟨_, _, _, _, _, _, _, _, _, _, _, _, _, _, _, _, _, _, rfl, _⟩ := h; rfl) | (obtain ⟨_, _, _, _, _, _, _, _, _, _, _, _, _, _, _, _, _, _, _, rfl, _⟩ := h; rfl)) fun cdv A outer s H E F0 hr => ⟨_, (dss_cons (ds_if (dt_cmp (od_in) (de_sl (own := false) (de_var (pv 0)) (do_some (de_var (pv 1))) (do_some (de_op (od_add (own := false)) (de_var (pv 1)) de_int))) (de_gtupS T.PAIRS rfl) rfl) (dss_one (ds_ret (de_tup (da_cons (de_sl (own := false) (de_var (pv 0)) (do_some (de_var (pv 1))) (do_some (de_op (od_add (own := false)) (de_var (pv 1)) de_int))) (da_cons (de_op (od_add (own := false)) (de_var (pv 1)) de_int) da_nil))))) dss_nil)
      (dss_cons (ds_if (dt_cmp (od_in) (de_ix (de_var (pv 0)) (de_var (pv 1)) (fun _ _ => rfl)) (de_gstrE T.SIGNS rfl) rfl) (dss_one (ds_ret (de_tup (da_cons (de_ix (de_var (pv 0)) (de_var (pv 1)) (fun _ _ => rfl)) (da_cons (de_op (od_add (own := false)) (de_var (pv 1)) de_int) da_nil))))) dss_nil)
      (dss_cons (ds_if (dt_w (dw_and (dt_not (dt_tru (de_fn h_is_small (hr.mono (by omega)) rfl pass0 finX0 (da_cons (de_ix (de_var (pv 0)) (de_var (pv 1)) (fun _ _ => rfl)) da_nil)))) (dw_and1 (dt_not (dt_tru (de_fn h_is_great (hr.mono (by omega)) rfl pass0 finX0 (da_cons (de_ix (de_var (pv 0)) (de_var (pv 1)) (fun _ _ => rfl)) da_nil))))))) (dss_one (ds_ret (de_tup (da_cons de_str (da_cons (de_op (od_add (own := false)) (de_var (pv 1)) de_int) da_nil))))) dss_nil)
      (dss_cons (ds_set (i := 2) sctoken_at.nd rfl (Or.inl rfl) (de_var (pv 1)))
      (dss_cons (ds_while PassesOwn.never (dt_w (dw_and (dt_cmp (od_lt) (de_var (pv 2)) (de_callB cd_len rfl T.len (by decide +kernel) (da_cons (de_var (pv 0)) da_nil)) (nomark _)) (dw_and1 (dt_tru (de_fn h_in_row (hr.mono (by omega)) rfl pass0 finX0 (da_cons (de_ix (de_var (pv 0)) (de_var (pv 2)) (fun _ _ => rfl)) da_nil)))))) (dss_one (ds_aug (i := 2) sctoken_at.nd rfl (Or.inl rfl) de_int od_iadd)))
      (dss_cons (ds_set (i := 3) sctoken_at.nd rfl (Or.inl rfl) (de_sl (own := false) (de_var (pv 0)) (do_some (de_var (pv 1))) (do_some (de_var (pv 2)))))
      (dss_cons (ds_if (dt_tru (de_fn h_is_great (hr.mono (by omega)) rfl pass0 finX0 (da_cons (de_ix (de_var (pv 3)) de_int (fun _ _ => rfl)) da_nil))) (dss_one (ds_ret (de_tup (da_cons de_str (da_cons (de_var (pv 2)) da_nil))))) dss_nil)
      (dss_one (ds_ret (de_tup (da_cons (de_if (dt_cmp (od_in) (de_var (pv 3)) (de_gtupS T.WORDS rfl) rfl) (de_var (pv 3)) de_str) (da_cons (de_var (pv 2)) da_nil)))))))))))), fun ds M Q Ex h => ?_⟩
  obtain ⟨z, i, s, n, rfl, hz, hi, ht, q⟩ := h
  walk_at "st"
  have hzl : z.length = z.cps.toList.length := TL.len_tl z
  obtain ⟨c, r, hd⟩ : ∃ c r, z.cps.toList.drop i = c :: r := by
    cases e : z.cps.toList.drop i with
    | nil => have := drop_nil e; omega
    | cons c r => exact ⟨c, r, rfl⟩
  have hc : z.cps.toList[i]? = some c := drop_get hd
  have ct : cutL z.cps.toList (some (i : Int)) (some ((i : Int) + 2)) = (c :: r).take 2 := by
    rw [show (i : Int) + 2 = ((i + 2 : Nat) : Int) by omega, cut_mid, hd]
  refine seq_tail (fun σ M' => M' = M ∧ (⟨((c :: r).take 2).toArray⟩ : Str) ∉ PRS ∧ σ = [some (.str z), some (.int i), none, none]) ?_ (fun N hN => ?_)
  rotate_left
  · walk_at "dl"
    rw [ct]
    refine ⟨hz, ?_⟩
    refine e_in (xs := PRS) (.inl rfl) ?_
    try dsimp only
    rw [bne_f]
    refine ifB (fun h => ?_) (fun h => hN _ _ ⟨rfl, of_decide_eq_false h, rfl⟩)
    refine ⟨hz, ?_⟩
    obtain ⟨rfl, rfl⟩ := tok_pair (hd ▸ ht) (of_decide_eq_true h)
    exact Wk.here q
  rintro _ M0 ⟨e0, hno, rfl⟩
  rw [e0]; clear e0 M0
  rw [hd] at ht
  refine seq_tail (fun σ M' => M' = M ∧ c ∉ SGN.cps.toList ∧ σ = [some (.str z), some (.int i), none, none]) ?_ (fun N hN => ?_)
  rotate_left
  · walk_at "dl"
    refine e_ix_str hz hc ?_
    try dsimp only
    by_cases h128 : c < 128
    · rw [show (Str.ofString "=|;:,(){}") = SGN from rfl, e_in_str, in_sgn c h128, bne_f]
      try dsimp only
      refine ifB (fun h => ?_) (fun h => hN _ _ ⟨rfl, of_decide_eq_false h, rfl⟩)
      obtain ⟨rfl, rfl⟩ := tok_sign ht hno (of_decide_eq_true h)
      exact e_ix_str hz hc (Wk.here q)
    · exfalso
      have hs : c ∉ SGN.cps.toList := fun h => h128 (sgn_lt c h)
      obtain ⟨_, h⟩ := tok_word ht hno hs
      rcases h with ⟨h, _⟩ | ⟨h, _⟩
      · exact h128 (row_lt (great_row h))
      · exact h128 (row_lt (small_row h))
  rintro _ M0 ⟨e0, hs, rfl⟩
  rw [e0]; clear e0 M0
  obtain ⟨hn, hw⟩ := tok_word ht hno hs
  refine seq_tail (fun σ M' => M' = M ∧ σ = [some (.str z), some (.int i), none, none]) ?_ (fun N hN => ?_)
  rotate_left
  · walk_at "dl"
    refine e_ix_str hz hc ⟨c, rfl, ?_⟩
    refine ⟨_, rfl, ?_⟩
    rcases hw with ⟨hg, _⟩ | ⟨hsm, _, _⟩
    · refine ifB (fun _ => ?_) (fun _ => hN _ _ ⟨rfl, rfl⟩)
      refine e_ix_str hz hc ⟨c, rfl, _, rfl, ?_⟩
      exact ifB (fun h => by rw [hg] at h; cases h) (fun h => hN _ _ ⟨rfl, rfl⟩)
    · exact ifB (fun h => by rw [hsm] at h; cases h) (fun _ => hN _ _ ⟨rfl, rfl⟩)
  rintro _ M0 ⟨e0, rfl⟩
  rw [e0]; clear e0 M0
  have htw : tw rowC (c :: r) = n := hn.symm
  refine seq_tail (fun σ M' => M' = M ∧ σ = [some (.str z), some (.int i), some (.int i), none]) ?_ (fun N hN => by walk_at "dl"; exact hN _ _ ⟨rfl, rfl⟩)
  rintro _ M0 ⟨e0, rfl⟩
  rw [e0]; clear e0 M0
  have hle : n ≤ (c :: r).length := by rw [hn]; exact tw_le _ _
  have hrl : (c :: r).length = z.length - i := by rw [← hd, List.length_drop, hzl]
  refine seq_tail (fun σ M' => M' = M ∧ σ = [some (.str z), some (.int i), some (.int ((i + n : Nat) : Int)), none]) ?_ (fun N hN => ?_)
  rotate_left
  · refine while_gen (fun m σ M' => ∃ k : Nat, m = z.length - k ∧ k ≤ z.length ∧ k + tw rowC (z.cps.toList.drop k) = i + n ∧ M' = M ∧ σ = [some (.str z), some (.int i), some (.int k), none]) _ ⟨i, rfl, by omega, by rw [hd, htw], rfl, rfl⟩ ?_
    rintro m σ M' N' ⟨k, rfl, hk, hkt, e0, rfl⟩ hN'
    rw [e0]; clear e0 M'
    walk_at "dl"
    refine ⟨hz, ?_⟩
    cases hdk : z.cps.toList.drop k with
    | nil =>
      have := drop_nil hdk
      refine ifB (fun h => ?_) (fun _ => ?_)
      · have := of_decide_eq_true h; omega
      · refine hN _ _ ⟨rfl, ?_⟩
        rw [hdk, tw_nil] at hkt
        rw [← hkt] <;> rfl
    | cons c2 r2 =>
      have hlt := drop_lt hdk
      refine ifB (fun _ => ?_) (fun h => absurd (of_decide_eq_false h) (by omega))
      refine e_ix_str hz (drop_get hdk) ⟨c2, rfl, _, rfl, ?_⟩
      refine ifB (fun h2 => ?_) (fun h2 => ?_)
      · refine hN' (z.length - (k + 1)) _ _ (by omega) ⟨k + 1, rfl, by omega, ?_, rfl, rfl⟩
        rw [drop_next hdk]
        rw [hdk, tw_step h2] at hkt
        omega
      · refine hN _ _ ⟨rfl, ?_⟩
        rw [hdk, tw_stop h2] at hkt
        rw [← hkt] <;> rfl
  rintro _ M0 ⟨e0, rfl⟩
  rw [e0]; clear e0 M0
  have ct2 : cutL z.cps.toList (some (i : Int)) (some ((i + n : Nat) : Int)) = (c :: r).take n := by rw [cut_mid, hd]
  refine seq_tail (fun σ M' => M' = M ∧ σ = [some (.str z), some (.int i), some (.int ((i + n : Nat) : Int)), some (.str ⟨((c :: r).take n).toArray⟩)]) ?_ (fun N hN => by walk_at "dl"; rw [ct2]; exact ⟨hz, hN _ _ ⟨rfl, rfl⟩⟩)
  rintro _ M0 ⟨e0, rfl⟩
  rw [e0]; clear e0 M0
  have hn1 : 1 ≤ n := TokAt.pos ht (by simp)
  have hwz : (⟨((c :: r).take n).toArray⟩ : Str).length ≤ sizeLine := by
    have e : (⟨((c :: r).take n).toArray⟩ : Str).length = ((c :: r).take n).length := by
      rw [TL.len_tl]
    rw [e, List.length_take]
    omega
  have hw0 : (⟨((c :: r).take n).toArray⟩ : Str).cps.toList[0]? = some c := by
    show ((c :: r).take n).toArray.toList[0]? = some c
    rw [List.toList_toArray, List.getElem?_take_of_lt (by omega)] <;> rfl
  walk_at "dl"
  refine e_ix_str (n := 0) hwz hw0 ⟨c, rfl, _, rfl, ?_⟩
  rcases hw with ⟨hg, rfl⟩ | ⟨hsm, hg, rfl⟩
  · exact ifB (fun _ => Wk.here q) (fun h => by rw [hg] at h; cases h)
  · refine ifB (fun h => by rw [hg] at h; cases h) (fun _ => ?_)
    refine e_in (xs := WORDS) (.inl rfl) ?_
    try dsimp only
    rw [bne_f]
    refine ifB (fun h => ?_) (fun h => ?_)
    · rw [if_pos (of_decide_eq_true h)] at q
      exact Wk.here q
    · rw [if_neg (of_decide_eq_false h)] at q
      exact Wk.here q
def sp_tokens : SpD := fun ds M Q _ => ∃ (z : Str) (rows : List (Str × Str)), ds = [.str z] ∧ z.length ≤ 16000000 ∧ Lex z.cps.toList rows ∧ ∀ R, TokDs (rows ++ [(("end" : Str), ("" : Str))]) R → Q (.lst R) M
theorem ok_tokens (T : Txt K mg) {f : Addr} {fd : FuncData} (F : FunD K "tokens" "tokens" (defArgs stokens) (defBody stokens) (defScope stokens) [] [] f fd) (h_behind_remark : Callee P w K mg base CX0 (2) "behind_remark" Pbehind_remark sp_behind) (h_token_at : Callee P w K mg base CX0 (3) "token_at" Ptoken_at sp_tokenat) : FnOk P w K mg base CX0 (3 + 1) f fd Ptokens (LSp K (sp_tokens)) := by
  refine fnD0 F sctokens (fun ds M Q E h => by first | (obtain ⟨rfl, _⟩ := h; rfl) | (obtain ⟨_, rfl, _⟩ := h; rfl) | (obtain ⟨_, _, rfl, _⟩ := h; rfl) | (obtain ⟨_, _, _, rfl, _⟩ := h; rfl) | (obtain ⟨_, _, _, _, rfl, _⟩ := h; rfl) | (obtain ⟨_, _, _, _, _, rfl, _⟩ := h; rfl) | (obtain ⟨_, _, _, _, _, _, rfl, _⟩ := h; rfl) | (obtain ⟨_, _, _, _, _, _, _, rfl, _⟩ := h; rfl) | (obtain ⟨_, _, _, _, _, _, _, _, rfl, _⟩ := h; rfl) | (obtain ⟨_, _, _, _, _, _, _, _, _, rfl, _⟩ := h; rfl) | (obtain ⟨_, _, _, _, _, _, _, _, _, _, rfl, _⟩ := h; rfl) | (obtain ⟨_, _, _, _, _, _, _, _, _, _, _, rfl, _⟩ := h; rfl) | (obtain ⟨_, _, _, _, _, _, _, _, _, _, _, _, rfl, _⟩ := h; rfl) | (obtain ⟨_, _, _, _, _, _, _, _, _, _, _, _, _, rfl, _⟩ := h; rfl) | (obtain ⟨_, _, _, _, _, _, _, _, _, _, _, _, _, _, rfl, _⟩ := h; rfl) | (obtain ⟨_, _, _, _, _, _, _, _, _, _, _, _, _, _, _, rfl, _⟩ := h; rfl) | (obtain ⟨_, _, _, _, _, _, _, _, _, _, _, _, _, _, _, _, rfl, _⟩ := h; rfl) | (obtain ⟨_, _, _, _, _, _, _, _, _, _, _, _, _, _, _, _, _, rfl, _⟩ := h; rfl) | (obtain ⟨_, _, _, _, _, _, _, _, _, _, _, _, _, _, _, _, _, _, rfl, _⟩ := h; rfl) | (obtain ⟨_, _, _, _, _, _, _, _, _, _, _, _, _, _, _, _, _, _, _, rfl, _⟩ := h; rfl)) fun cdv A outer s H E F0 hr => ⟨_, (dss_cons (ds_set (i := 1) sctokens.nd rfl (Or.inl rfl) (de_lst (own := true) da_nil))
      (dss_cons (ds_set (i := 2) sctokens.nd rfl (Or.inl rfl) de_int)
      (dss_cons (ds_set (i := 3) sctokens.nd rfl (Or.inl rfl) de_int)
      (dss_cons (ds_set (i := 4) sctokens.nd rfl (Or.inl rfl) de_int)
      (dss_cons (ds_while PassesOwn.never (dt_cmp (od_lt) (de_var (pv 2)) (de_callB cd_len rfl T.len (by decide +kernel) (da_cons (de_var (pv 0)) da_nil)) (nomark _)) (dss_cons (ds_set (i := 5) sctokens.nd rfl (Or.inl rfl) (de_ix (de_var (pv 0)) (de_var (pv 2)) (fun _ _ => rfl)))
      (dss_cons (ds_set (i := 6) sctokens.nd rfl (Or.inl rfl) (de_op (od_add (own := false)) (de_var (pv 2)) de_int))
      (dss_cons (ds_if (dt_cmp (od_eq hr.units) (de_var (pv 5)) de_str (nomark _)) (dss_cons (ds_aug (i := 3) sctokens.nd rfl (Or.inl rfl) de_int od_iadd)
      (dss_one (ds_set (i := 4) sctokens.nd rfl (Or.inl rfl) (de_op (od_add (own := false)) (de_var (pv 2)) de_int)))) (dss_one (ds_if (dt_cmp (od_eq hr.units) (de_var (pv 5)) de_str (nomark _)) (dss_cons (ds_set (i := 6) sctokens.nd rfl (Or.inl rfl) (de_fn h_behind_remark (hr.mono (by omega)) rfl pass0 finX0 (da_cons (de_var (pv 0)) (da_cons (de_var (pv 2)) da_nil))))
      (dss_one (ds_if (dt_w (dw_and (dt_cmp (od_lt) (de_var (pv 6)) (de_callB cd_len rfl T.len (by decide +kernel) (da_cons (de_var (pv 0)) da_nil)) (nomark _)) (dw_and1 (dt_cmp (od_ne hr.units) (de_ix (de_var (pv 0)) (de_var (pv 6)) (fun _ _ => rfl)) de_str (nomark _))))) (dss_one (ds_ret (de_op (od_add (own := false)) (de_var (pv 1)) (de_lst (own := false) (da_cons (de_tup (da_cons de_str (da_cons de_str (da_cons (de_var (pv 3)) (da_cons (de_op (od_add (own := false)) (de_op (od_sub) (de_var (pv 6)) (de_var (pv 4))) de_int) da_nil))))) da_nil))))) dss_nil))) (dss_one (ds_if (dt_cmp (od_ne hr.units) (de_var (pv 5)) de_str (nomark _)) (dss_cons (ds_asg (de_fn h_token_at (hr.mono (by omega)) rfl pass0 finX0 (da_cons (de_var (pv 0)) (da_cons (de_var (pv 2)) da_nil))) (dg_tup rfl (dgs_cons (dg_name (pg_name (i := 7) sctokens.nd rfl (Or.inl rfl))) (dgs_cons (dg_name (pg_name (i := 6) sctokens.nd rfl (Or.inl rfl))) dgs_nil))))
      (dss_cons (ds_expr (de_bl1 PySem.F.slot_list_append PySem.F.type_list_append md_append (de_var (pv 1)) (da_cons (de_tup (da_cons (de_var (pv 7)) (da_cons (de_sl (own := false) (de_var (pv 0)) (do_some (de_var (pv 2))) (do_some (de_var (pv 6)))) (da_cons (de_var (pv 3)) (da_cons (de_op (od_add (own := false)) (de_op (od_sub) (de_var (pv 2)) (de_var (pv 4))) de_int) da_nil))))) da_nil)))
      (dss_one (ds_if (dt_cmp (od_eq hr.units) (de_var (pv 7)) de_str (nomark _)) (dss_one (ds_retF (de_var (pv 1)))) dss_nil)))) dss_nil)))))
      (dss_one (ds_set (i := 2) sctokens.nd rfl (Or.inl rfl) (de_var (pv 6))))))))
      (dss_one (ds_ret (de_op (od_add (own := false)) (de_var (pv 1)) (de_lst (own := false) (da_cons (de_tup (da_cons de_str (da_cons de_str (da_cons (de_var (pv 3)) (da_cons (de_op (od_add (own := false)) (de_op (od_sub) (de_var (pv 2)) (de_var (pv 4))) de_int) da_nil))))) da_nil)))))))))), fun ds M Q Ex h => ?_⟩
  obtain ⟨z, rows, rfl, hz6, hlex, q⟩ := h
  walk_at "st"
  have hs : sizeLine = 16777216 := sizeLine_eq
  have hz : z.length ≤ sizeLine := by omega
  have hzl : z.length = z.cps.toList.length := TL.len_tl z
  refine seq_tail (fun σ M' => ∃ p, M p = none ∧ Ow M p [] M' ∧ σ = [some (.str z), some (.obj p), none, none, none, none, none, none]) ?_ (fun N hN => by walk_at "dl"; exact fun p hp => hN _ _ ⟨p, hp, .start hp, rfl⟩)
  rintro _ M0 ⟨p, hp, ow, rfl⟩
  refine seq_tail (fun σ M' => M' = M0 ∧ σ = [some (.str z), some (.obj p), some (.int 0), none, none, none, none, none]) ?_ (fun N hN => by walk_at "dl"; exact hN _ _ ⟨rfl, rfl⟩)
  rintro _ M1 ⟨e0, rfl⟩
  rw [e0]; clear e0 M1
  refine seq_tail (fun σ M' => M' = M0 ∧ σ = [some (.str z), some (.obj p), some (.int 0), some (.int 1), none, none, none, none]) ?_ (fun N hN => by walk_at "dl"; exact hN _ _ ⟨rfl, rfl⟩)
  rintro _ M1 ⟨e0, rfl⟩
  rw [e0]; clear e0 M1
  refine seq_tail (fun σ M' => M' = M0 ∧ σ = [some (.str z), some (.obj p), some (.int 0), some (.int 1), some (.int 0), none, none, none]) ?_ (fun N hN => by walk_at "dl"; exact hN _ _ ⟨rfl, rfl⟩)
  rintro _ M1 ⟨e0, rfl⟩
  rw [e0]; clear e0 M1
  refine seq_tail (fun σ M' => ∃ (i : Nat) (acc : List D) (l s : Int) (a b c : Option D), TokDs rows acc ∧ acc.length ≤ i ∧ i ≤ z.length ∧ Ow M p acc M' ∧ σ = [some (.str z), some (.obj p), some (.int i), some (.int l), some (.int s), a, b, c]) ?_ (fun N hN => ?_)
  · rintro _ M1 ⟨i, acc, l, s, a, b, c, ht, hal, hi, ow, rfl⟩
    walk_at "dl"
    rw [e_add_obj ow.one, e_new_f]
    refine ⟨by simp only [List.length_cons, List.length_nil]; omega, ow.wk (q _ (ht.app .one))⟩
  · refine while_two (fun m σ M' => ∃ (i : Nat) (done todo : List (Str × Str)) (acc : List D) (l s : Int) (a b c : Option D), m = z.length - i ∧ i ≤ z.length ∧ Lex (z.cps.toList.drop i) todo ∧ done ++ todo = rows ∧ TokDs done acc ∧ acc.length ≤ i ∧ Ow M p acc M' ∧ σ = [some (.str z), some (.obj p), some (.int i), some (.int l), some (.int s), a, b, c]) _ ⟨0, [], rows, [], 1, 0, none, none, none, rfl, Nat.zero_le _, hlex, rfl, .nil, Nat.le_refl _, ow, rfl⟩ ?_
    rintro m σ M' N' ⟨i, done, todo, acc, l, s, a, b, c, rfl, hi, hlx, hdt, hta, hal, ow, rfl⟩ hN'
    refine ⟨decide (i < z.length), fun Kk hk => ?_, ?_⟩
    · walk_at "dl"
      refine ⟨hz, ?_⟩
      rw [show decide ((i : Int) < (z.length : Int)) = decide (i < z.length) from decide_eq_decide.mpr (by omega)]
      exact hk
    refine ifB (fun hlt => ?_) (fun hge => ?_)
    rotate_left
    · have hge := of_decide_eq_false hge
      have hd : z.cps.toList.drop i = [] := List.drop_eq_nil_of_le (by omega)
      rw [hd] at hlx
      cases hlx
      rw [List.append_nil] at hdt
      subst hdt
      exact hN _ _ ⟨i, acc, l, s, a, b, c, hta, hal, hi, ow, rfl⟩
    have hlt := of_decide_eq_true hlt
    obtain ⟨ch, r, hd⟩ : ∃ c r, z.cps.toList.drop i = c :: r := by
      cases e : z.cps.toList.drop i with
      | nil => have := drop_nil e; omega
      | cons c r => exact ⟨c, r, rfl⟩
    have hc : z.cps.toList[i]? = some ch := drop_get hd
    have hdn := drop_next hd
    rw [hd] at hlx
    refine seq_tail (fun σ M2 => M2 = M' ∧ σ = [some (.str z), some (.obj p), some (.int i), some (.int l), some (.int s), some (.str ⟨#[ch]⟩), b, c]) ?_ (fun N2 hN2 => by walk_at "dl"; exact e_ix_str hz hc (hN2 _ _ ⟨rfl, rfl⟩))
    rintro _ M2 ⟨e0, rfl⟩
    rw [e0]; clear e0 M2
    refine seq_tail (fun σ M2 => M2 = M' ∧ σ = [some (.str z), some (.obj p), some (.int i), some (.int l), some (.int s), some (.str ⟨#[ch]⟩), some (.int ((i : Int) + 1)), c]) ?_ (fun N2 hN2 => by walk_at "dl"; exact hN2 _ _ ⟨rfl, rfl⟩)
    rintro _ M2 ⟨e0, rfl⟩
    rw [e0]; clear e0 M2
    refine seq_tail (fun σ M2 => ∃ (j : Nat) (done todo : List (Str × Str)) (acc : List D) (l s : Int) (a c : Option D), i < j ∧ j ≤ z.length ∧ Lex (z.cps.toList.drop j) todo ∧ done ++ todo = rows ∧ TokDs done acc ∧ acc.length ≤ j ∧ Ow M p acc M2 ∧ σ = [some (.str z), some (.obj p), some (.int i), some (.int l), some (.int s), a, some (.int j), c]) ?_ (fun N2 hN2 => ?_)
    · rintro _ M2 ⟨j, done, todo, acc, l, s, a, c, hij, hj, hlx, hdt, hta, hal, ow, rfl⟩
      walk_at "dl"
      exact hN' (z.length - j) _ _ (by omega) ⟨j, done, todo, acc, l, s, a, some (.int j), c, rfl, hj, hlx, hdt, hta, hal, ow, rfl⟩
    have e10 : decide ((⟨#[ch]⟩ : Str) = "\n") = decide (ch = 10) := one_eq
    have e35 : decide ((⟨#[ch]⟩ : Str) = "#") = decide (ch = 35) := one_eq
    have e32 : decide ((⟨#[ch]⟩ : Str) = " ") = decide (ch = 32) := one_eq
    have plain : ∀ (l s : Int) (todo' : List (Str × Str)), Lex r todo' → todo' = todo → N2 [some (.str z), some (.obj p), some (.int i), some (.int l), some (.int s), some (.str ⟨#[ch]⟩), some (.int ((i : Int) + 1)), c] M' := fun l s todo' h e => by
      subst e
      exact hN2 _ _ ⟨i + 1, done, _, acc, l, s, some (.str ⟨#[ch]⟩), c, by omega, by omega, by rw [hdn]; exact h, hdt, hta, by omega, ow, rfl⟩
    walk_at "dl"
    rw [e10, e35, e32]
    cases hlx with
    | blank h =>
      refine ifB (fun h => absurd h (by decide)) (fun _ => ?_)
      refine ifB (fun h => absurd h (by decide)) (fun _ => ?_)
      refine ifB (fun h => absurd h (by decide)) (fun _ => ?_)
      exact plain _ _ _ h rfl
    | line h =>
      refine ifB (fun _ => ?_) (fun h => absurd h (by decide))
      exact plain _ _ _ h rfl
    | @remark g r' _ hg hr h =>
      refine ifB (fun h => absurd h (by decide)) (fun _ => ?_)
      refine ifB (fun _ => ?_) (fun h => absurd h (by decide))
      refine ⟨z, i, rfl, hz, hi, ?_⟩
      rw [hd, tw_remark hg hr]
      have hdl : z.cps.toList.drop (i + (g.length + 1)) = r' := by
        rw [← Nat.add_assoc, Nat.add_right_comm, ← List.drop_drop, hdn, List.drop_left]
      have hle : i + (g.length + 1) ≤ z.length := by
        have := congrArg List.length hd
        rw [List.length_drop, List.length_cons, List.length_append] at this
        omega
      have fin : N2 [some (.str z), some (.obj p), some (.int i), some (.int l), some (.int s), some (.str ⟨#[35]⟩), some (.int ((i + (g.length + 1) : Nat) : Int)), c] M' :=
        hN2 _ _ ⟨i + (g.length + 1), done, todo, acc, l, s, _, c, by omega, hle, by rw [hdl]; exact h, hdt, hta, by omega, ow, rfl⟩
      refine ⟨hz, ?_⟩
      rw [e_lt_int]
      try dsimp only
      refine ifB (fun h2 => ?_) (fun _ => fin)
      rcases hr with rfl | ⟨r2, rfl⟩
      · have := drop_nil hdl
        have := of_decide_eq_true h2
        omega
      · refine e_ix_str hz (drop_get hdl) ?_
        rw [e_eq_str, show decide ((⟨#[10]⟩ : Str) = "\n") = true by decide +kernel]
        exact fin
    | @tok _ _ sort n rows' h10 h35 h32 ht h =>
      refine ifB (fun h => absurd (of_decide_eq_true h) h10) (fun _ => ?_)
      refine ifB (fun h => absurd (of_decide_eq_true h) h35) (fun _ => ?_)
      refine ifB (fun _ => ?_) (fun h => absurd h (by rw [decide_eq_false h32]; decide))
      have hn1 := ht.pos (by simp)
      have hnl := ht.le
      have hrl : (ch :: r).length = z.length - i := by rw [← hd, List.length_drop, hzl]
      refine ⟨z, i, sort, n, rfl, hz, hlt, by rw [hd]; exact ht, rfl, rfl, ow.lst, hz, ?_⟩
      rw [cut_mid, hd, e_append ow.one]
      refine ⟨by omega, ?_⟩
      rw [e_eq_str, bne_f]
      try dsimp only
      refine ifB (fun h => absurd (of_decide_eq_true h) ht.nbad) (fun _ => ?_)
      refine hN2 _ _ ⟨i + n, done ++ [(sort, ⟨((ch :: r).take n).toArray⟩)], rows', _, l, s, _, _, by omega, by omega, ?_, ?_, hta.app .one, ?_, ow.set hp, rfl⟩
      · rw [← List.drop_drop, hd]; exact h
      · rw [← hdt]; simp
      · rw [List.length_append, List.length_singleton]; omega
end
end K01
namespace K01
open PySem PySem.Spec L2 DL Syn Wr Lx Cu
local macro_rules | `(tactic| walk_at "st") => `(tactic| simp only [start_def, List.map_cons, List.map_nil, List.length_cons, List.length_nil, List.cons_append, List.nil_append, Nat.zero_add, Nat.reduceAdd, Nat.reduceSub, List.replicate])
local macro_rules | `(tactic| walk_at "dl") => `(tactic| simp only [dSeq, dNext, dDrop, dRet, dRetF, dRetN, dIfS, dAsg, dAug, dPar, nGm, nTup, nCons, nNil, dVar, dC, dOp, dUn, dCons, dNil, dTup, dLst, dB, dTru, dAnd, dOr, dNot, dAndV, dOrV, dNotV, dIf, dChain, dCB, dCall, dSlE, dNoPart, dPart, dRev, dS0, dS1, dBL, dBL0, dIsi, dBreak, dCont, List.set_cons_zero, List.set_cons_succ, List.getElem?_cons_zero, List.getElem?_cons_succ, ifB_t, ifB_f, e_new_f, e_new_t, e_add_int, e_add_str, e_add_tup, e_add_lst, e_sub, e_mul, e_mul_str, e_mul_lst, e_div, e_mod, e_pow, e_neg, e_eq_int, e_eq_str, e_isN_non, e_isN_obj, e_isN_tup, e_isN_lst, e_lt_int, e_lt_str, e_le_int, e_le_str, e_gt, e_ge, e_in_str, e_t0, e_t1, e_t2, e_t3, e_t4, e_t5, e_l0, e_l1, e_l2, e_l3, e_sl_tup, e_sl_rdl, e_sl_str, e_sl_lst, e_len_str, e_len_lst, e_len_tup, e_int, e_tupC_tup, e_tupC_lst, e_iadd_int, e_iadd_str, e_isub, tru_bl, tru_int, tru_non, tru_lst, tru_tup, ex_some, bne_f, bne_t, e_nSub, cxK, e_fld, e_sfld, e_meth, lsD_lst, sz0, sz1, sz2, sz3, sz4, sz5, sz6, sz7, sz8, true_and])
section
variable {P : Program} {w : World} {K : PySem.W.Frag} {mg : Str → Option Value} {base : Heap}
theorem l_rows {R : List D} {i k : Nat} : (cf R i k).lookup ("rows" : Str) = some (D.lst R) := rfl
theorem l_at {R : List D} {i k : Nat} : (cf R i k).lookup ("at" : Str) = some (D.int (i : Nat)) := rfl
theorem l_deep {R : List D} {i k : Nat} : (cf R i k).lookup ("deep" : Str) = some (D.int (k : Nat)) := rfl
def sp_now (C : Addr) : SpD := fun ds M Q _ => ∃ (c : Addr) (R : List D) (i k : Nat) (toks : List (Str × Str)) (s t : Str), ds = [.obj c] ∧ M c = some (.ins C (cf R i k)) ∧ TokDs toks R ∧ toks[i]? = some (s, t) ∧ Q (.str s) M
def sp_take (C : Addr) : SpD := fun ds M Q _ => ∃ (c : Addr) (R : List D) (i k : Nat) (toks : List (Str × Str)) (s t : Str), ds = [.obj c, .str s] ∧ M c = some (.ins C (cf R i k)) ∧ TokDs toks R ∧ toks[i]? = some (s, t) ∧ Q (.str t) (updM M c (.ins C (cf R (i + 1) k)))
def sp_enter (C : Addr) : SpD := fun ds M Q _ => ∃ (c : Addr) (R : List D) (i k : Nat) (toks : List (Str × Str)) (s t : Str), ds = [.obj c, .str s] ∧ M c = some (.ins C (cf R i k)) ∧ TokDs toks R ∧ toks[i]? = some (s, t) ∧ k < 60 ∧ Q .non (updM M c (.ins C (cf R (i + 1) (k + 1))))
def sp_leave (C : Addr) : SpD := fun ds M Q _ => ∃ (c : Addr) (R : List D) (i k : Nat) (toks : List (Str × Str)) (s t : Str), ds = [.obj c, .str s] ∧ M c = some (.ins C (cf R i (k + 1))) ∧ TokDs toks R ∧ toks[i]? = some (s, t) ∧ Q .non (updM M c (.ins C (cf R (i + 1) k)))
def sp_shut (C : Addr) : SpD := fun ds M Q _ => ∃ (c : Addr) (R : List D) (i k : Nat), ds = [.obj c] ∧ M c = some (.ins C (cf R i (k + 1))) ∧ Q .non (updM M c (.ins C (cf R i k)))
def sp_curnew (C : Addr) : SpD := fun ds M Q _ => ∃ (c : Addr) (R : List D), ds = [.obj c, .lst R] ∧ M c = some (.ins C []) ∧ Q .non (updM M c (.ins C (cf R 0 0)))
variable {C_Cursor C_Rows : Addr}
theorem ok_CursorU_initU (T : Txt K mg) {f : Addr} {fd : FuncData} (F : FunD K "__init__" "Cursor.__init__" (defArgs sCursorU_initU) (defBody sCursorU_initU) (defScope sCursorU_initU) [] [] f fd) (fc : CurF K C_Cursor) : FnOk P w K mg base CX0 (0 + 1) f fd PCursorU_initU (LSp K ((sp_curnew C_Cursor))) := by
  refine fnD0 F scCursorU_initU (fun ds M Q E h => by first | (obtain ⟨rfl, _⟩ := h; rfl) | (obtain ⟨_, rfl, _⟩ := h; rfl) | (obtain ⟨_, _, rfl, _⟩ := h; rfl) | (obtain ⟨_, _, _, rfl, _⟩ := h; rfl) | (obtain ⟨_, _, _, _, rfl, _⟩ := h; rfl) | (obtain ⟨_, _, _, _, _, rfl, _⟩ := h; rfl) | (obtain ⟨_, _, _, _, _, _, rfl, _⟩ := h; rfl) | (obtain ⟨_, _, _, _, _, _, _, rfl, _⟩ := h; rfl) | (obtain ⟨_, _, _, _, _, _, _, _, rfl, _⟩ := h; rfl) | (obtain ⟨_, _, _, _, _, _, _, _, _, rfl, _⟩ := h; rfl) | (obtain ⟨_, _, _, _, _, _, _, _, _, _, rfl, _⟩ := h; rfl) | (obtain ⟨_, _, _, _, _, _, _, _, _, _, _, rfl, _⟩ := h; rfl) | (obtain ⟨_, _, _, _, _, _, _, _, _, _, _, _, rfl, _⟩ := h; rfl) | (obtain ⟨_, _, _, _, _, _, _, _, _, _, _, _, _, rfl, _⟩ := h; rfl) | (obtain ⟨_, _, _, _, _, _, _, _, _, _, _, _, _, _, rfl, _⟩ := h; rfl) | (obtain ⟨_, _, _, _, _, _, _, _, _, _, _, _, _, _, _, rfl, _⟩ := h; rfl) | (obtain ⟨_, _, _, _, _, _, _, _, _, _, _, _, _, _, _, _, rfl, _⟩ := h; rfl) | (obtain ⟨_, _, _, _, _, _, _, _, _, _, _, _, _, _, _, _, _, rfl, _⟩ := h; rfl) | (obtain ⟨_, _, _, _, _, _, _, _, _, _, _, _, _, _, _, _, _, _, rfl, _⟩ := h; rfl) | (obtain ⟨_, _, _, _, _, _, _, _, _, _, _, _, _, _, _, _, _, _, _, rfl, _⟩ := h; rfl)) fun cdv A outer s H E F0 hr => ⟨_, (dss_cons (ds_fld (de_var (pv 0)) (de_var (pv 1)) rfl)
      (dss_cons (ds_fld (de_var (pv 0)) de_int rfl)
      (dss_one (ds_fld (de_var (pv 0)) de_int rfl)))), fun ds M Q Ex h => ?_⟩
  obtain ⟨c, R, rfl, hM, q⟩ := h
  walk_at "st"
  walk_at "dl"
  refine f_set hM fc.cls fc.rows (by decide) ?_
  refine f_set updM_same fc.cls fc.at_ (show 1 < 1000 by decide) ?_
  rw [updM_updM]
  refine f_set updM_same fc.cls fc.deep (show 2 < 1000 by decide) ?_
  rw [updM_updM]
  exact Wk.here q
theorem ok_Cursor_now (T : Txt K mg) {f : Addr} {fd : FuncData} (F : FunD K "now" "Cursor.now" (defArgs sCursor_now) (defBody sCursor_now) (defScope sCursor_now) [] [] f fd) (fc : CurF K C_Cursor) : FnOk P w K mg base CX0 (0 + 1) f fd PCursor_now (LSp K ((sp_now C_Cursor))) := by
  refine fnD0 F scCursor_now (fun ds M Q E h => by first | (obtain ⟨rfl, _⟩ := h; rfl) | (obtain ⟨_, rfl, _⟩ := h; rfl) | (obtain ⟨_, _, rfl, _⟩ := h; rfl) | (obtain ⟨_, _, _, rfl, _⟩ := h; rfl) | (obtain ⟨_, _, _, _, rfl, _⟩ := h; rfl) | (obtain ⟨_, _, _, _, _, rfl, _⟩ := h; rfl) | (obtain ⟨_, _, _, _, _, _, rfl, _⟩ := h; rfl) | (obtain ⟨_, _, _, _, _, _, _, rfl, _⟩ := h; rfl) | (obtain ⟨_, _, _, _, _, _, _, _, rfl, _⟩ := h; rfl) | (obtain ⟨_, _, _, _, _, _, _, _, _, rfl, _⟩ := h; rfl) | (obtain ⟨_, _, _, _, _, _, _, _, _, _, rfl, _⟩ := h; rfl) | (obtain ⟨_, _, _, _, _, _, _, _, _, _, _, rfl, _⟩ := h; rfl) | (obtain ⟨_, _, _, _, _, _, _, _, _, _, _, _, rfl, _⟩ := h; rfl) | (obtain ⟨_, _, _, _, _, _, _, _, _, _, _, _, _, rfl, _⟩ := h; rfl) | (obtain ⟨_, _, _, _, _, _, _, _, _, _, _, _, _, _, rfl, _⟩ := h; rfl) | (obtain ⟨_, _, _, _, _, _, _, _, _, _, _, _, _, _, _, rfl, _⟩ := h; rfl) | (obtain ⟨_, _, _, _, _, _, _, _, _, _, _, _, _, _, _, _, rfl, _⟩ := h; rfl) | (obtain ⟨_, _, _, _, _, _, _, _, _, _, _, _, _, _, _, _, _, rfl, _⟩ := h; rfl) | (obtain ⟨_, _, _, _, _, _, _, _, _, _, _, _, _, _, _, _, _, _, rfl, _⟩ := h; rfl) | (obtain ⟨_, _, _, _, _, _, _, _, _, _, _, _, _, _, _, _, _, _, _, rfl, _⟩ := h; rfl)) fun cdv A outer s H E F0 hr => ⟨_, (dss_one (ds_ret (de_ix (de_ix (de_fld (de_var (pv 0)) rfl) (de_fld (de_var (pv 0)) rfl) (fun _ _ => rfl)) de_int (fun _ _ => rfl)))), fun ds M Q Ex h => ?_⟩
  obtain ⟨c, R, i, k, toks, s, t, rfl, hM, ht, hi, q⟩ := h
  walk_at "st"
  obtain ⟨x, y, hR⟩ := ht.get hi
  walk_at "dl"
  rw [f_get hM fc.cls fc.rows l_rows, f_get hM fc.cls fc.at_ l_at]
  refine e_ix (x := .lst R) rfl hR ?_
  rw [e_t0]
  exact Wk.here q
theorem ok_Cursor_take (T : Txt K mg) {f : Addr} {fd : FuncData} (F : FunD K "take" "Cursor.take" (defArgs sCursor_take) (defBody sCursor_take) (defScope sCursor_take) [] [] f fd) (fc : CurF K C_Cursor) (h_Cursor_now : Mth P w K mg base CX0 C_Cursor (1) "now" PCursor_now (sp_now C_Cursor)) : FnOk P w K mg base CX0 (1 + 1) f fd PCursor_take (LSp K ((sp_take C_Cursor))) := by
  refine fnD0 F scCursor_take (fun ds M Q E h => by first | (obtain ⟨rfl, _⟩ := h; rfl) | (obtain ⟨_, rfl, _⟩ := h; rfl) | (obtain ⟨_, _, rfl, _⟩ := h; rfl) | (obtain ⟨_, _, _, rfl, _⟩ := h; rfl) | (obtain ⟨_, _, _, _, rfl, _⟩ := h; rfl) | (obtain ⟨_, _, _, _, _, rfl, _⟩ := h; rfl) | (obtain ⟨_, _, _, _, _, _, rfl, _⟩ := h; rfl) | (obtain ⟨_, _, _, _, _, _, _, rfl, _⟩ := h; rfl) | (obtain ⟨_, _, _, _, _, _, _, _, rfl, _⟩ := h; rfl) | (obtain ⟨_, _, _, _, _, _, _, _, _, rfl, _⟩ := h; rfl) | (obtain ⟨_, _, _, _, _, _, _, _, _, _, rfl, _⟩ := h; rfl) | (obtain ⟨_, _, _, _, _, _, _, _, _, _, _, rfl, _⟩ := h; rfl) | (obtain ⟨_, _, _, _, _, _, _, _, _, _, _, _, rfl, _⟩ := h; rfl) | (obtain ⟨_, _, _, _, _, _, _, _, _, _, _, _, _, rfl, _⟩ := h; rfl) | (obtain ⟨_, _, _, _, _, _, _, _, _, _, _, _, _, _, rfl, _⟩ := h; rfl) | (obtain ⟨_, _, _, _, _, _, _, _, _, _, _, _, _, _, _, rfl, _⟩ := h; rfl) | (obtain ⟨_, _, _, _, _, _, _, _, _, _, _, _, _, _, _, _, rfl, _⟩ := h; rfl) | (obtain ⟨_, _, _, _, _, _, _, _, _, _, _, _, _, _, _, _, _, rfl, _⟩ := h; rfl) | (obtain ⟨_, _, _, _, _, _, _, _, _, _, _, _, _, _, _, _, _, _, rfl, _⟩ := h; rfl) | (obtain ⟨_, _, _, _, _, _, _, _, _, _, _, _, _, _, _, _, _, _, _, rfl, _⟩ := h; rfl)) fun cdv A outer s H E F0 hr => ⟨_, (dss_cons (ds_if (dt_cmp (od_ne hr.units) (de_mt0 h_Cursor_now (hr.mono (by omega)) pass0 finX0 (de_var (pv 0))) (de_var (pv 1)) (nomark _)) (dss_one ds_never) dss_nil)
      (dss_cons (ds_fldaug (de_var (pv 0)) de_int in_addG)
      (dss_one (ds_ret (de_ix (de_ix (de_fld (de_var (pv 0)) rfl) (de_op (od_sub) (de_fld (de_var (pv 0)) rfl) de_int) (fun _ _ => rfl)) de_int (fun _ _ => rfl)))))), fun ds M Q Ex h => ?_⟩
  obtain ⟨c, R, i, k, toks, s, t, rfl, hM, ht, hi, q⟩ := h
  walk_at "st"
  obtain ⟨x, y, hR⟩ := ht.get hi
  refine seq_tail (fun σ M' => M' = M ∧ σ = [some (.obj c), some (.str s)]) ?_ (fun N hN => ?_)
  rotate_left
  · walk_at "dl"
    refine ⟨c, _, rfl, hM, rfl, c, R, i, k, toks, s, t, rfl, hM, ht, hi, ?_⟩
    walk_at "dl"
    exact ifB (fun h => absurd h (by simp)) (fun _ => hN _ _ ⟨rfl, rfl⟩)
  rintro _ M0 ⟨e0, rfl⟩
  rw [e0]; clear e0 M0
  refine seq_tail (fun σ M' => M' = updM M c (.ins C_Cursor (cf R (i + 1) k)) ∧ σ = [some (.obj c), some (.str s)]) ?_ (fun N hN => ?_)
  · rintro _ M0 ⟨e0, rfl⟩
    rw [e0]; clear e0 M0
    walk_at "dl"
    rw [f_get updM_same fc.cls fc.rows l_rows, f_get updM_same fc.cls fc.at_ l_at]
    walk_at "dl"
    rw [show ((i + 1 : Nat) : Int) - 1 = ((i : Nat) : Int) by omega]
    refine e_ix (x := .lst R) rfl hR ?_
    rw [e_t1]
    exact Wk.here q
  · unfold dSFldA dVar
    dsimp only [List.getElem?_cons_succ, List.getElem?_cons_zero]
    refine ⟨c, C_Cursor, _, _, rfl, hM, fc.cls, fc.at_, l_at, ?_⟩
    unfold dC dIOp
    dsimp only
    exact ⟨_, hM, show 3 < 1000 by decide, hN _ _ ⟨rfl, rfl⟩⟩
theorem ok_Cursor_enter (T : Txt K mg) {f : Addr} {fd : FuncData} (F : FunD K "enter" "Cursor.enter" (defArgs sCursor_enter) (defBody sCursor_enter) (defScope sCursor_enter) [] [] f fd) (fc : CurF K C_Cursor) (h_Cursor_take : Mth P w K mg base CX0 C_Cursor (2) "take" PCursor_take (sp_take C_Cursor)) : FnOk P w K mg base CX0 (2 + 1) f fd PCursor_enter (LSp K ((sp_enter C_Cursor))) := by
  refine fnD0 F scCursor_enter (fun ds M Q E h => by first | (obtain ⟨rfl, _⟩ := h; rfl) | (obtain ⟨_, rfl, _⟩ := h; rfl) | (obtain ⟨_, _, rfl, _⟩ := h; rfl) | (obtain ⟨_, _, _, rfl, _⟩ := h; rfl) | (obtain ⟨_, _, _, _, rfl, _⟩ := h; rfl) | (obtain ⟨_, _, _, _, _, rfl, _⟩ := h; rfl) | (obtain ⟨_, _, _, _, _, _, rfl, _⟩ := h; rfl) | (obtain ⟨_, _, _, _, _, _, _, rfl, _⟩ := h; rfl) | (obtain ⟨_, _, _, _, _, _, _, _, rfl, _⟩ := h; rfl) | (obtain ⟨_, _, _, _, _, _, _, _, _, rfl, _⟩ := h; rfl) | (obtain ⟨_, _, _, _, _, _, _, _, _, _, rfl, _⟩ := h; rfl) | (obtain ⟨_, _, _, _, _, _, _, _, _, _, _, rfl, _⟩ := h; rfl) | (obtain ⟨_, _, _, _, _, _, _, _, _, _, _, _, rfl, _⟩ := h; rfl) | (obtain ⟨_, _, _, _, _, _, _, _, _, _, _, _, _, rfl, _⟩ := h; rfl) | (obtain ⟨_, _, _, _, _, _, _, _, _, _, _, _, _, _, rfl, _⟩ := h; rfl) | (obtain ⟨_, _, _, _, _, _, _, _, _, _, _, _, _, _, _, rfl, _⟩ := h; rfl) | (obtain ⟨_, _, _, _, _, _, _, _, _, _, _, _, _, _, _, _, rfl, _⟩ := h; rfl) | (obtain ⟨_, _, _, _, _, _, _, _, _, _, _, _, _, _, _, _, _, rfl, _⟩ := h; rfl) | (obtain ⟨_, _, _, _, _, _, _, _, _, _, _, _, _, _, _, _, _, _, rfl, _⟩ := h; rfl) | (obtain ⟨_, _, _, _, _, _, _, _, _, _, _, _, _, _, _, _, _, _, _, rfl, _⟩ := h; rfl)) fun cdv A outer s H E F0 hr => ⟨_, (dss_cons (ds_if (dt_cmp (od_eq hr.units) (de_fld (de_var (pv 0)) rfl) (de_gintE T.DEEP rfl) (nomark _)) (dss_one ds_never) dss_nil)
      (dss_cons (ds_expr (de_mt h_Cursor_take (hr.mono (by omega)) pass0 finX0 (de_var (pv 0)) (da_cons (de_var (pv 1)) da_nil)))
      (dss_one (ds_fldaug (de_var (pv 0)) de_int in_addG)))), fun ds M Q Ex h => ?_⟩
  obtain ⟨c, R, i, k, toks, s, t, rfl, hM, ht, hi, hk, q⟩ := h
  walk_at "st"
  refine seq_tail (fun σ M' => M' = M ∧ σ = [some (.obj c), some (.str s)]) ?_ (fun N hN => ?_)
  rotate_left
  · walk_at "dl"
    rw [f_get hM fc.cls fc.deep l_deep]
    walk_at "dl"
    refine ifB (fun h => ?_) (fun _ => hN _ _ ⟨rfl, rfl⟩)
    have := of_decide_eq_true h
    omega
  rintro _ M0 ⟨e0, rfl⟩
  rw [e0]; clear e0 M0
  refine seq_tail (fun σ M' => M' = updM M c (.ins C_Cursor (cf R (i + 1) k)) ∧ σ = [some (.obj c), some (.str s)]) ?_ (fun N hN => ?_)
  · rintro _ M0 ⟨e0, rfl⟩
    rw [e0]; clear e0 M0
    unfold dSFldA dVar
    dsimp only [List.getElem?_cons_succ, List.getElem?_cons_zero]
    refine ⟨c, C_Cursor, _, _, rfl, updM_same, fc.cls, fc.deep, l_deep, ?_⟩
    unfold dC dIOp
    dsimp only
    refine ⟨_, updM_same, show 3 < 1000 by decide, ?_⟩
    rw [updM_updM]
    exact Wk.here q
  · walk_at "dl"
    exact ⟨c, _, rfl, hM, rfl, c, R, i, k, toks, s, t, rfl, hM, ht, hi, hN _ _ ⟨rfl, rfl⟩⟩
theorem ok_Cursor_leave (T : Txt K mg) {f : Addr} {fd : FuncData} (F : FunD K "leave" "Cursor.leave" (defArgs sCursor_leave) (defBody sCursor_leave) (defScope sCursor_leave) [] [] f fd) (fc : CurF K C_Cursor) (h_Cursor_take : Mth P w K mg base CX0 C_Cursor (2) "take" PCursor_take (sp_take C_Cursor)) : FnOk P w K mg base CX0 (2 + 1) f fd PCursor_leave (LSp K ((sp_leave C_Cursor))) := by
  refine fnD0 F scCursor_leave (fun ds M Q E h => by first | (obtain ⟨rfl, _⟩ := h; rfl) | (obtain ⟨_, rfl, _⟩ := h; rfl) | (obtain ⟨_, _, rfl, _⟩ := h; rfl) | (obtain ⟨_, _, _, rfl, _⟩ := h; rfl) | (obtain ⟨_, _, _, _, rfl, _⟩ := h; rfl) | (obtain ⟨_, _, _, _, _, rfl, _⟩ := h; rfl) | (obtain ⟨_, _, _, _, _, _, rfl, _⟩ := h; rfl) | (obtain ⟨_, _, _, _, _, _, _, rfl, _⟩ := h; rfl) | (obtain ⟨_, _, _, _, _, _, _, _, rfl, _⟩ := h; rfl) | (obtain ⟨_, _, _, _, _, _, _, _, _, rfl, _⟩ := h; rfl) | (obtain ⟨_, _, _, _, _, _, _, _, _, _, rfl, _⟩ := h; rfl) | (obtain ⟨_, _, _, _, _, _, _, _, _, _, _, rfl, _⟩ := h; rfl) | (obtain ⟨_, _, _, _, _, _, _, _, _, _, _, _, rfl, _⟩ := h; rfl) | (obtain ⟨_, _, _, _, _, _, _, _, _, _, _, _, _, rfl, _⟩ := h; rfl) | (obtain ⟨_, _, _, _, _, _, _, _, _, _, _, _, _, _, rfl, _⟩ := h; rfl) | (obtain ⟨_, _, _, _, _, _, _, _, _, _, _, _, _, _, _, rfl, _⟩ := h; rfl) | (obtain ⟨_, _, _, _, _, _, _, _, _, _, _, _, _, _, _, _, rfl, _⟩ := h; rfl) | (obtain ⟨_, _, _, _, _, _, _, _, _, _, _, _, _, _, _, _, _, rfl, _⟩ := h; rfl) | (obtain ⟨_, _, _, _, _, _, _, _, _, _, _, _, _, _, _, _, _, _, rfl, _⟩ := h; rfl) | (obtain ⟨_, _, _, _, _, _, _, _, _, _, _, _, _, _, _, _, _, _, _, rfl, _⟩ := h; rfl)) fun cdv A outer s H E F0 hr => ⟨_, (dss_cons (ds_expr (de_mt h_Cursor_take (hr.mono (by omega)) pass0 finX0 (de_var (pv 0)) (da_cons (de_var (pv 1)) da_nil)))
      (dss_one (ds_fldaug (de_var (pv 0)) de_int in_subG))), fun ds M Q Ex h => ?_⟩
  obtain ⟨c, R, i, k, toks, s, t, rfl, hM, ht, hi, q⟩ := h
  walk_at "st"
  refine seq_tail (fun σ M' => M' = updM M c (.ins C_Cursor (cf R (i + 1) (k + 1))) ∧ σ = [some (.obj c), some (.str s)]) ?_ (fun N hN => ?_)
  · rintro _ M0 ⟨e0, rfl⟩
    rw [e0]; clear e0 M0
    unfold dSFldA dVar
    dsimp only [List.getElem?_cons_succ, List.getElem?_cons_zero]
    refine ⟨c, C_Cursor, _, _, rfl, updM_same, fc.cls, fc.deep, l_deep, ?_⟩
    unfold dC dIOp
    dsimp only
    refine ⟨_, updM_same, show 3 < 1000 by decide, ?_⟩
    rw [updM_updM, show ((k + 1 : Nat) : Int) - 1 = ((k : Nat) : Int) by omega]
    exact Wk.here q
  · walk_at "dl"
    exact ⟨c, _, rfl, hM, rfl, c, R, i, k + 1, toks, s, t, rfl, hM, ht, hi, hN _ _ ⟨rfl, rfl⟩⟩
theorem ok_Cursor_shut (T : Txt K mg) {f : Addr} {fd : FuncData} (F : FunD K "shut" "Cursor.shut" (defArgs sCursor_shut) (defBody sCursor_shut) (defScope sCursor_shut) [] [] f fd) (fc : CurF K C_Cursor) : FnOk P w K mg base CX0 (0 + 1) f fd PCursor_shut (LSp K ((sp_shut C_Cursor))) := by
  refine fnD0 F scCursor_shut (fun ds M Q E h => by first | (obtain ⟨rfl, _⟩ := h; rfl) | (obtain ⟨_, rfl, _⟩ := h; rfl) | (obtain ⟨_, _, rfl, _⟩ := h; rfl) | (obtain ⟨_, _, _, rfl, _⟩ := h; rfl) | (obtain ⟨_, _, _, _, rfl, _⟩ := h; rfl) | (obtain ⟨_, _, _, _, _, rfl, _⟩ := h; rfl) | (obtain ⟨_, _, _, _, _, _, rfl, _⟩ := h; rfl) | (obtain ⟨_, _, _, _, _, _, _, rfl, _⟩ := h; rfl) | (obtain ⟨_, _, _, _, _, _, _, _, rfl, _⟩ := h; rfl) | (obtain ⟨_, _, _, _, _, _, _, _, _, rfl, _⟩ := h; rfl) | (obtain ⟨_, _, _, _, _, _, _, _, _, _, rfl, _⟩ := h; rfl) | (obtain ⟨_, _, _, _, _, _, _, _, _, _, _, rfl, _⟩ := h; rfl) | (obtain ⟨_, _, _, _, _, _, _, _, _, _, _, _, rfl, _⟩ := h; rfl) | (obtain ⟨_, _, _, _, _, _, _, _, _, _, _, _, _, rfl, _⟩ := h; rfl) | (obtain ⟨_, _, _, _, _, _, _, _, _, _, _, _, _, _, rfl, _⟩ := h; rfl) | (obtain ⟨_, _, _, _, _, _, _, _, _, _, _, _, _, _, _, rfl, _⟩ := h; rfl) | (obtain ⟨_, _, _, _, _, _, _, _, _, _, _, _, _, _, _, _, rfl, _⟩ := h; rfl) | (obtain ⟨_, _, _, _, _, _, _, _, _, _, _, _, _, _, _, _, _, rfl, _⟩ := h; rfl) | (obtain ⟨_, _, _, _, _, _, _, _, _, _, _, _, _, _, _, _, _, _, rfl, _⟩ := h; rfl) | (obtain ⟨_, _, _, _, _, _, _, _, _, _, _, _, _, _, _, _, _, _, _, rfl, _⟩ := h; rfl)) fun cdv A outer s H E F0 hr => ⟨_, (dss_one (ds_fldaug (de_var (pv 0)) de_int in_subG)), fun ds M Q Ex h => ?_⟩
  obtain ⟨c, R, i, k, rfl, hM, q⟩ := h
  walk_at "st"
  unfold dSFldA dVar
  dsimp only [List.getElem?_cons_succ, List.getElem?_cons_zero]
  refine ⟨c, C_Cursor, _, _, rfl, hM, fc.cls, fc.deep, l_deep, ?_⟩
  unfold dC dIOp
  dsimp only
  refine ⟨_, hM, show 3 < 1000 by decide, ?_⟩
  rw [show ((k + 1 : Nat) : Int) - 1 = ((k : Nat) : Int) by omega]
  exact Wk.here q
end
end K01
namespace K01
open PySem PySem.Spec L2 DL Syn Wr Lx Cu
local macro_rules | `(tactic| walk_at "st") => `(tactic| simp only [start_def, List.map_cons, List.map_nil, List.length_cons, List.length_nil, List.cons_append, List.nil_append, Nat.zero_add, Nat.reduceAdd, Nat.reduceSub, List.replicate])
local macro_rules | `(tactic| walk_at "dl") => `(tactic| simp only [dSeq, dNext, dDrop, dRet, dRetF, dRetN, dIfS, dAsg, dAug, dPar, nGm, nTup, nCons, nNil, dVar, dC, dOp, dUn, dCons, dNil, dTup, dLst, dB, dTru, dAnd, dOr, dNot, dAndV, dOrV, dNotV, dIf, dChain, dCB, dCall, dSlE, dNoPart, dPart, dRev, dS0, dS1, dBL, dBL0, dIsi, dBreak, dCont, List.set_cons_zero, List.set_cons_succ, List.getElem?_cons_zero, List.getElem?_cons_succ, ifB_t, ifB_f, e_new_f, e_new_t, e_add_int, e_add_str, e_add_tup, e_add_lst, e_sub, e_mul, e_mul_str, e_mul_lst, e_div, e_mod, e_pow, e_neg, e_eq_int, e_eq_str, e_isN_non, e_isN_obj, e_isN_tup, e_isN_lst, e_lt_int, e_lt_str, e_le_int, e_le_str, e_gt, e_ge, e_in_str, e_t0, e_t1, e_t2, e_t3, e_t4, e_t5, e_l0, e_l1, e_l2, e_l3, e_sl_tup, e_sl_rdl, e_sl_str, e_sl_lst, e_len_str, e_len_lst, e_len_tup, e_int, e_tupC_tup, e_tupC_lst, e_iadd_int, e_iadd_str, e_isub, tru_bl, tru_int, tru_non, tru_lst, tru_tup, ex_some, bne_f, bne_t, e_nSub, cxK, e_fld, e_sfld, e_meth, lsD_lst, sz0, sz1, sz2, sz3, sz4, sz5, sz6, sz7, sz8, true_and])
section
variable {P : Program} {w : World} {K : PySem.W.Frag} {mg : Str → Option Value} {base : Heap}
variable {C_Cursor C_Rows : Addr}
/-- what a reading of one thing promises -/
def sp_rd (C : Addr) (α : Type) (dd : α → D) (G : α → List Str → List (Str × Str) → Nat → Prop) : SpD := fun ds M Q _ => ∃ (c : Addr) (R : List D) (i k : Nat) (toks rest : List (Str × Str)) (x : α) (ws : List Str), ds = [.obj c] ∧ M c = some (.ins C (cf R i k)) ∧ TokDs toks R ∧ toks.drop i = ws.map tokOf ++ rest ∧ G x ws rest k ∧ Q (dd x) (updM M c (.ins C (cf R (i + ws.length) k)))
def sp_ratom (C : Addr) : SpD := sp_rd C Atom Atom.d fun a ws _ _ => a.ok ∧ ws = [a.s]
theorem ok_read_atom (T : Txt K mg) {f : Addr} {fd : FuncData} (F : FunD K "read_atom" "read_atom" (defArgs sread_atom) (defBody sread_atom) (defScope sread_atom) [] [] f fd) (h_Cursor_now : Mth P w K mg base CX0 C_Cursor (1) "now" PCursor_now (sp_now C_Cursor)) (h_Cursor_take : Mth P w K mg base CX0 C_Cursor (2) "take" PCursor_take (sp_take C_Cursor)) : FnOk P w K mg base CX0 (2 + 1) f fd Pread_atom (LSp K ((sp_ratom C_Cursor))) := by
  refine fnD0 F scread_atom (fun ds M Q E h => by first | (obtain ⟨rfl, _⟩ := h; rfl) | (obtain ⟨_, rfl, _⟩ := h; rfl) | (obtain ⟨_, _, rfl, _⟩ := h; rfl) | (obtain ⟨_, _, _, rfl, _⟩ := h; rfl) | (obtain ⟨_, _, _, _, rfl, _⟩ := h; rfl) | (obtain ⟨_, _, _, _, _, rfl, _⟩ := h; rfl) | (obtain ⟨_, _, _, _, _, _, rfl, _⟩ := h; rfl) | (obtain ⟨_, _, _, _, _, _, _, rfl, _⟩ := h; rfl) | (obtain ⟨_, _, _, _, _, _, _, _, rfl, _⟩ := h; rfl) | (obtain ⟨_, _, _, _, _, _, _, _, _, rfl, _⟩ := h; rfl) | (obtain ⟨_, _, _, _, _, _, _, _, _, _, rfl, _⟩ := h; rfl) | (obtain ⟨_, _, _, _, _, _, _, _, _, _, _, rfl, _⟩ := h; rfl) | (obtain ⟨_, _, _, _, _, _, _, _, _, _, _, _, rfl, _⟩ := h; rfl) | (obtain ⟨_, _, _, _, _, _, _, _, _, _, _, _, _, rfl, _⟩ := h; rfl) | (obtain ⟨_, _, _, _, _, _, _, _, _, _, _, _, _, _, rfl, _⟩ := h; rfl) | (obtain ⟨_, _, _, _, _, _, _, _, _, _, _, _, _, _, _, rfl, _⟩ := h; rfl) | (obtain ⟨_, _, _, _, _, _, _, _, _, _, _, _, _, _, _, _, rfl, _⟩ := h; rfl) | (obtain ⟨_, _, _, _, _, _, _, _, _, _, _, _, _, _, _, _, _, rfl, _⟩ := h; rfl) | (obtain ⟨_, _, _, _, _, _, _, _, _, _, _, _, _, _, _, _, _, _, rfl, _⟩ := h; rfl) | (obtain ⟨_, _, _, _, _, _, _, _, _, _, _, _, _, _, _, _, _, _, _, rfl, _⟩ := h; rfl)) fun cdv A outer s H E F0 hr => ⟨_, (dss_cons (ds_if (dt_cmp (od_eq hr.units) (de_mt0 h_Cursor_now (hr.mono (by omega)) pass0 finX0 (de_var (pv 0))) de_str (nomark _)) (dss_one (ds_ret (de_tup (da_cons de_str (da_cons (de_mt h_Cursor_take (hr.mono (by omega)) pass0 finX0 (de_var (pv 0)) (da_cons de_str da_nil)) da_nil))))) dss_nil)
      (dss_one (ds_ret (de_tup (da_cons de_str (da_cons (de_mt h_Cursor_take (hr.mono (by omega)) pass0 finX0 (de_var (pv 0)) (da_cons de_str da_nil)) da_nil)))))), fun ds M Q Ex h => ?_⟩
  obtain ⟨c, R, i, k, toks, rest, a, ws, rfl, hM, ht, hd, ⟨ok, rfl⟩, q⟩ := h
  walk_at "st"
  obtain ⟨hi, _⟩ := at_drop (r := rest) hd
  walk_at "dl"
  rcases a with s | s
  · rw [show tokOf (Atom.nm s).s = (("name" : Str), s) from tok_name (g := false) ok] at hi
    refine ⟨c, _, rfl, hM, rfl, c, R, i, k, toks, "name", s, rfl, hM, ht, hi, ?_⟩
    walk_at "dl"
    refine ifB (fun _ => ?_) (fun h => absurd h (by simp))
    exact ⟨c, _, rfl, hM, rfl, c, R, i, k, toks, "name", s, rfl, hM, ht, hi, Wk.here q⟩
  · rw [show tokOf (Atom.vl s).s = (("Name" : Str), s) from tok_name (g := true) ok] at hi
    refine ⟨c, _, rfl, hM, rfl, c, R, i, k, toks, "Name", s, rfl, hM, ht, hi, ?_⟩
    walk_at "dl"
    refine ifB (fun h => absurd h (by decide +kernel)) (fun _ => ?_)
    exact ⟨c, _, rfl, hM, rfl, c, R, i, k, toks, "Name", s, rfl, hM, ht, hi, Wk.here q⟩
section
variable {C c : Addr} {R : List D} {M : Mp} {i k : Nat} {toks r : List (Str × Str)} {s t w : Str} {Q : DK}
theorem do_now (h : M c = some (.ins C (cf R i k))) (ht : TokDs toks R) (hi : toks[i]? = some (s, t)) (q : Q (.str s) M) :
    ∃ p fs, D.obj c = .obj p ∧ M p = some (.ins C fs) ∧ fs.lookup ("now" : Str) = none ∧ sp_now C [.obj c] M Q X0 := ⟨c, _, rfl, h, rfl, c, R, i, k, toks, s, t, rfl, h, ht, hi, q⟩
theorem do_take (h : M c = some (.ins C (cf R i k))) (ht : TokDs toks R) (hi : toks[i]? = some (s, t)) (q : Q (.str t) (updM M c (.ins C (cf R (i + 1) k)))) :
    ∃ p fs, D.obj c = .obj p ∧ M p = some (.ins C fs) ∧ fs.lookup ("take" : Str) = none ∧ sp_take C [.obj c, .str s] M Q X0 := ⟨c, _, rfl, h, rfl, c, R, i, k, toks, s, t, rfl, h, ht, hi, q⟩
theorem do_enter (h : M c = some (.ins C (cf R i k))) (ht : TokDs toks R) (hi : toks[i]? = some (s, t)) (hk : k < 60) (q : Q .non (updM M c (.ins C (cf R (i + 1) (k + 1))))) :
    ∃ p fs, D.obj c = .obj p ∧ M p = some (.ins C fs) ∧ fs.lookup ("enter" : Str) = none ∧ sp_enter C [.obj c, .str s] M Q X0 := ⟨c, _, rfl, h, rfl, c, R, i, k, toks, s, t, rfl, h, ht, hi, hk, q⟩
theorem do_leave (h : M c = some (.ins C (cf R i (k + 1)))) (ht : TokDs toks R) (hi : toks[i]? = some (s, t)) (q : Q .non (updM M c (.ins C (cf R (i + 1) k)))) :
    ∃ p fs, D.obj c = .obj p ∧ M p = some (.ins C fs) ∧ fs.lookup ("leave" : Str) = none ∧ sp_leave C [.obj c, .str s] M Q X0 := ⟨c, _, rfl, h, rfl, c, R, i, k, toks, s, t, rfl, h, ht, hi, q⟩
theorem do_shut (h : M c = some (.ins C (cf R i (k + 1)))) (q : Q .non (updM M c (.ins C (cf R i k)))) :
    ∃ p fs, D.obj c = .obj p ∧ M p = some (.ins C fs) ∧ fs.lookup ("shut" : Str) = none ∧ sp_shut C [.obj c] M Q X0 := ⟨c, _, rfl, h, rfl, c, R, i, k, rfl, h, q⟩
end
/-- the tokens of rows of givens, at each turn -/
def sp_rgivens (C : Addr) : SpD := sp_rd C (List Giv) (fun gs => .tup (gs.map givD)) fun gs ws _ k => (∀ g ∈ gs, NameOk false g.1 ∧ NameOk true g.2) ∧ gs.length ≤ 3 ∧ ws = givW gs ∧ k < 60
theorem ok_read_givens (T : Txt K mg) {f : Addr} {fd : FuncData} (F : FunD K "read_givens" "read_givens" (defArgs sread_givens) (defBody sread_givens) (defScope sread_givens) [] [] f fd) (h_Cursor_now : Mth P w K mg base CX0 C_Cursor (1) "now" PCursor_now (sp_now C_Cursor)) (h_Cursor_take : Mth P w K mg base CX0 C_Cursor (2) "take" PCursor_take (sp_take C_Cursor)) (h_Cursor_enter : Mth P w K mg base CX0 C_Cursor (3) "enter" PCursor_enter (sp_enter C_Cursor)) (h_Cursor_leave : Mth P w K mg base CX0 C_Cursor (3) "leave" PCursor_leave (sp_leave C_Cursor)) : FnOk P w K mg base CX0 (3 + 1) f fd Pread_givens (LSp K ((sp_rgivens C_Cursor))) := by
  refine fnD0 F scread_givens (fun ds M Q E h => by first | (obtain ⟨rfl, _⟩ := h; rfl) | (obtain ⟨_, rfl, _⟩ := h; rfl) | (obtain ⟨_, _, rfl, _⟩ := h; rfl) | (obtain ⟨_, _, _, rfl, _⟩ := h; rfl) | (obtain ⟨_, _, _, _, rfl, _⟩ := h; rfl) | (obtain ⟨_, _, _, _, _, rfl, _⟩ := h; rfl) | (obtain ⟨_, _, _, _, _, _, rfl, _⟩ := h; rfl) | (obtain ⟨_, _, _, _, _, _, _, rfl, _⟩ := h; rfl) | (obtain ⟨_, _, _, _, _, _, _, _, rfl, _⟩ := h; rfl) | (obtain ⟨_, _, _, _, _, _, _, _, _, rfl, _⟩ := h; rfl) | (obtain ⟨_, _, _, _, _, _, _, _, _, _, rfl, _⟩ := h; rfl) | (obtain ⟨_, _, _, _, _, _, _, _, _, _, _, rfl, _⟩ := h; rfl) | (obtain ⟨_, _, _, _, _, _, _, _, _, _, _, _, rfl, _⟩ := h; rfl) | (obtain ⟨_, _, _, _, _, _, _, _, _, _, _, _, _, rfl, _⟩ := h; rfl) | (obtain ⟨_, _, _, _, _, _, _, _, _, _, _, _, _, _, rfl, _⟩ := h; rfl) | (obtain ⟨_, _, _, _, _, _, _, _, _, _, _, _, _, _, _, rfl, _⟩ := h; rfl) | (obtain ⟨_, _, _, _, _, _, _, _, _, _, _, _, _, _, _, _, rfl, _⟩ := h; rfl) | (obtain ⟨_, _, _, _, _, _, _, _, _, _, _, _, _, _, _, _, _, rfl, _⟩ := h; rfl) | (obtain ⟨_, _, _, _, _, _, _, _, _, _, _, _, _, _, _, _, _, _, rfl, _⟩ := h; rfl) | (obtain ⟨_, _, _, _, _, _, _, _, _, _, _, _, _, _, _, _, _, _, _, rfl, _⟩ := h; rfl)) fun cdv A outer s H E F0 hr => ⟨_, (dss_cons (ds_expr (de_mt h_Cursor_enter (hr.mono (by omega)) pass0 finX0 (de_var (pv 0)) (da_cons de_str da_nil)))
      (dss_cons (ds_set (i := 1) scread_givens.nd rfl (Or.inl rfl) (de_lst (own := true) da_nil))
      (dss_cons (ds_while PassesOwn.never (dt_cmp (od_ne hr.units) (de_mt0 h_Cursor_now (hr.mono (by omega)) pass0 finX0 (de_var (pv 0))) de_str (nomark _)) (dss_cons (ds_if (dt_tru (de_var (pv 1))) (dss_one (ds_expr (de_mt h_Cursor_take (hr.mono (by omega)) pass0 finX0 (de_var (pv 0)) (da_cons de_str da_nil)))) dss_nil)
      (dss_cons (ds_set (i := 2) scread_givens.nd rfl (Or.inl rfl) (de_mt h_Cursor_take (hr.mono (by omega)) pass0 finX0 (de_var (pv 0)) (da_cons de_str da_nil)))
      (dss_cons (ds_expr (de_mt h_Cursor_take (hr.mono (by omega)) pass0 finX0 (de_var (pv 0)) (da_cons de_str da_nil)))
      (dss_one (ds_expr (de_bl1 PySem.F.slot_list_append PySem.F.type_list_append md_append (de_var (pv 1)) (da_cons (de_tup (da_cons (de_var (pv 2)) (da_cons (de_mt h_Cursor_take (hr.mono (by omega)) pass0 finX0 (de_var (pv 0)) (da_cons de_str da_nil)) da_nil))) da_nil))))))))
      (dss_cons (ds_expr (de_mt h_Cursor_leave (hr.mono (by omega)) pass0 finX0 (de_var (pv 0)) (da_cons de_str da_nil)))
      (dss_one (ds_ret (de_callTy cd_tuple rfl T.tuple (by decide +kernel) (da_cons (de_var (pv 1)) da_nil)))))))), fun ds M Q Ex h => ?_⟩
  obtain ⟨c, R, i, k, toks, rest, gs, ws, rfl, hM, ht, hd, ⟨ok, hl, rfl, hk⟩, q⟩ := h
  walk_at "st"
  have hs : sizeLine = 16777216 := sizeLine_eq
  have hd0 : toks.drop i = tokOf "(" :: ((commas (gs.map fun g => [g.1, (":" : Str), g.2])).map tokOf ++ (tokOf ")" :: rest)) := by
    rw [hd]; unfold givW; simp
  obtain ⟨hi0, hd1⟩ := at_drop hd0
  rw [tok_self] at hi0
  refine seq_tail (fun σ M' => Rd C_Cursor c R M (i + 1) (k + 1) M' ∧ σ = [some (.obj c), none, none]) ?_ (fun N hN => by walk_at "dl"; exact do_enter hM ht hi0 hk (hN _ _ ⟨(Rd.start hM).step, rfl⟩))
  rintro _ M0 ⟨rd, rfl⟩
  refine seq_tail (fun σ M' => ∃ p, M p = none ∧ p ≠ c ∧ M' p = some (.lst []) ∧ Rd C_Cursor c R M (i + 1) (k + 1) M' ∧ σ = [some (.obj c), some (.obj p), none]) ?_ (fun N hN => ?_)
  rotate_left
  · walk_at "dl"
    intro p hp
    obtain ⟨h1, h2⟩ := rd.fresh hM hp
    exact hN _ _ ⟨p, h1, h2, updM_same, rd.new hp, rfl⟩
  rintro _ M1 ⟨p, hp, hpc, hpl, rd, rfl⟩
  refine seq_tail (fun σ M' => ∃ (j : Nat) (a : Option D), toks.drop j = tokOf ")" :: rest ∧ j + 1 = i + (givW gs).length ∧ M' p = some (.lst (gs.map givD)) ∧ Rd C_Cursor c R M j (k + 1) M' ∧ σ = [some (.obj c), some (.obj p), a]) ?_ (fun N hN => ?_)
  · rintro _ M2 ⟨j, a, hdj, hj, hpl, rd, rfl⟩
    obtain ⟨hij, _⟩ := at_drop hdj
    rw [tok_self] at hij
    walk_at "dl"
    refine do_leave rd.cur ht hij ?_
    try dsimp only
    rw [e_tupC_obj (show updM M2 c (.ins C_Cursor (cf R (j + 1) k)) p = _ by rw [updM_ne hpc]; exact hpl)]
    refine (rd.step (i' := j + 1) (k' := k)).wk ?_
    rw [hj]
    exact q
  · have hg : givW gs = ("(" : Str) :: (pend giv3 gs 0 ++ [(")" : Str)]) := rfl
    refine while_two (fun m σ M' => ∃ (n j : Nat) (a : Option D), m = gs.length - n ∧ n ≤ gs.length ∧ toks.drop j = (pend giv3 gs n).map tokOf ++ (tokOf ")" :: rest) ∧ j + (pend giv3 gs n).length + 1 = i + (givW gs).length ∧ M' p = some (.lst ((gs.take n).map givD)) ∧ Rd C_Cursor c R M j (k + 1) M' ∧ σ = [some (.obj c), some (.obj p), a]) gs.length ⟨0, i + 1, none, by omega, Nat.zero_le _, hd1, by rw [hg]; simp; omega, by rw [List.take_zero]; exact hpl, rd, rfl⟩ ?_
    rintro m σ M' N' ⟨n, j, a, rfl, hn, hdj, hj, hpl, rd, rfl⟩ hN'
    by_cases hend : n = gs.length
    · subst hend
      rw [pend_end (Nat.le_refl _)] at hdj hj
      obtain ⟨hij, _⟩ := at_drop (by simpa using hdj)
      rw [tok_self] at hij
      refine ⟨false, fun Kk hk => ?_, ?_⟩
      · walk_at "dl"
        refine do_now rd.cur ht hij ?_
        walk_at "dl"
        exact hk
      · refine hN _ _ ⟨j, a, by simpa using hdj, by simpa using hj, ?_, rd, rfl⟩
        rw [List.take_length] at hpl
        exact hpl
    · obtain ⟨g, hgn⟩ : ∃ g, gs[n]? = some g := ⟨gs[n], List.getElem?_eq_getElem (by omega)⟩
      have hgo := ok g (List.mem_of_getElem? hgn)
      rw [pend_at hgn] at hdj hj
      have t1 : tokOf g.1 = (("name" : Str), g.1) := tok_name (g := false) hgo.1
      have t2 : tokOf g.2 = (("Name" : Str), g.2) := tok_name (g := true) hgo.2
      -- behind a comma, if there is one
      have go : ∀ (j2 : Nat) (M2 : Mp), toks.drop j2 = tokOf g.1 :: tokOf ":" :: tokOf g.2 :: ((pend giv3 gs (n + 1)).map tokOf ++ (tokOf ")" :: rest)) → j2 + 3 + (pend giv3 gs (n + 1)).length + 1 = i + (givW gs).length → M2 p = some (.lst ((gs.take n).map givD)) → Rd C_Cursor c R M j2 (k + 1) M2 → dSeq (dAsg (dMeth C_Cursor "take" (sp_take C_Cursor) X0 (dVar 0) (dCons (dC (.str "name")) dNil)) (nGm 2)) (dSeq (dDrop (dMeth C_Cursor "take" (sp_take C_Cursor) X0 (dVar 0) (dCons (dC (.str ":")) dNil))) (dDrop (dBL dAppend (dVar 1) (dCons (dTup (dCons (dVar 2) (dCons (dMeth C_Cursor "take" (sp_take C_Cursor) X0 (dVar 0) (dCons (dC (.str "Name")) dNil)) dNil))) dNil)))) { nx := N', rt := Wk Q, bk := N, ct := N' } [some (.obj c), some (.obj p), a] M2 := by
        intro j2 M2 h1 h2 h3 rd2
        obtain ⟨i1, d1⟩ := at_drop h1
        obtain ⟨i2, d2⟩ := at_drop d1
        obtain ⟨i3, d3⟩ := at_drop d2
        rw [t1] at i1
        rw [tok_self] at i2
        rw [t2] at i3
        have pc : ∀ {M : Mp} {o : MO}, updM M c o p = M p := fun {M o} => updM_ne hpc
        walk_at "dl"
        refine do_take rd2.cur ht i1 ?_
        refine do_take updM_same ht i2 ?_
        rw [updM_updM]
        refine ⟨isLst_of (by rw [pc]; exact h3), do_take updM_same ht i3 ?_⟩
        rw [updM_updM]
        try dsimp only
        rw [e_append (by rw [pc]; exact h3)]
        refine ⟨by rw [List.length_map, List.length_take]; omega, hN' (gs.length - (n + 1)) _ _ (by omega) ⟨n + 1, j2 + 3, some (.str g.1), rfl, by omega, d3, by omega, ?_, ?_, rfl⟩⟩
        · rw [updM_same, take_at hgn, List.map_append] <;> rfl
        · exact (rd2.step (i' := j2 + 3) (k' := k + 1)).put hp hpc
      have hl3 : (giv3 g).length = 3 := rfl
      by_cases h0 : n = 0
      · rw [if_pos h0, List.nil_append] at hdj hj
        have hd1 : toks.drop j = tokOf g.1 :: tokOf ":" :: tokOf g.2 :: ((pend giv3 gs (n + 1)).map tokOf ++ (tokOf ")" :: rest)) := by rw [hdj]; unfold giv3; simp
        rw [List.length_append, hl3] at hj
        obtain ⟨i1, _⟩ := at_drop hd1
        rw [t1] at i1
        refine ⟨true, fun Kk hk => ?_, ifB (fun _ => ?_) (fun h => by cases h)⟩
        · walk_at "dl"
          refine do_now rd.cur ht i1 ?_
          walk_at "dl"
          rw [decide_eq_false (show ¬ ("name" : Str) = ")" by decide +kernel)]
          exact hk
        · refine seq_tail (fun σ M2 => M2 = M' ∧ σ = [some (.obj c), some (.obj p), a]) ?_ (fun N2 hN2 => ?_)
          · rintro _ M2 ⟨e0, rfl⟩
            rw [e0]; clear e0 M2
            exact go j M' hd1 (by omega) hpl rd
          · walk_at "dl"
            rw [tru_obj hpl]
            refine ⟨_, rfl, ifB (fun h => ?_) (fun _ => hN2 _ _ ⟨rfl, rfl⟩)⟩
            rw [h0, List.take_zero] at h
            exact absurd h (by decide)
      · rw [if_neg h0] at hdj hj
        have hd1 : toks.drop j = tokOf "," :: tokOf g.1 :: tokOf ":" :: tokOf g.2 :: ((pend giv3 gs (n + 1)).map tokOf ++ (tokOf ")" :: rest)) := by rw [hdj]; unfold giv3; simp
        rw [List.length_append, List.length_append, hl3, List.length_singleton] at hj
        obtain ⟨i1, d1⟩ := at_drop hd1
        rw [tok_self] at i1
        refine ⟨true, fun Kk hk => ?_, ifB (fun _ => ?_) (fun h => by cases h)⟩
        · walk_at "dl"
          refine do_now rd.cur ht i1 ?_
          walk_at "dl"
          rw [decide_eq_false (show ¬ ("," : Str) = ")" by decide +kernel)]
          exact hk
        · refine seq_tail (fun σ M2 => M2 p = some (.lst ((gs.take n).map givD)) ∧ Rd C_Cursor c R M (j + 1) (k + 1) M2 ∧ σ = [some (.obj c), some (.obj p), a]) ?_ (fun N2 hN2 => ?_)
          · rintro _ M2 ⟨hpl2, rd2, rfl⟩
            exact go (j + 1) M2 d1 (by omega) hpl2 rd2
          · walk_at "dl"
            rw [tru_obj hpl]
            refine ⟨_, rfl, ifB (fun _ => ?_) (fun h => ?_)⟩
            · refine do_take rd.cur ht i1 ?_
              exact hN2 _ _ ⟨by rw [updM_ne hpc]; exact hpl, rd.step, rfl⟩
            · exfalso
              have hne : ((gs.take n).map givD) ≠ [] := by
                cases gs with
                | nil => cases hgn
                | cons y ys => cases n with
                  | zero => exact absurd rfl h0
                  | succ n => simp
              cases e : (gs.take n).map givD with
              | nil => exact hne e
              | cons y ys => rw [e] at h; cases h
end
end K01
namespace K01
open PySem PySem.Spec L2 DL Syn Wr Lx Cu Rt
local macro_rules | `(tactic| walk_at "st") => `(tactic| simp only [start_def, List.map_cons, List.map_nil, List.length_cons, List.length_nil, List.cons_append, List.nil_append, Nat.zero_add, Nat.reduceAdd, Nat.reduceSub, List.replicate])
local macro_rules | `(tactic| walk_at "dl") => `(tactic| simp only [dSeq, dNext, dDrop, dRet, dRetF, dRetN, dIfS, dAsg, dAug, dPar, nGm, nTup, nCons, nNil, dVar, dC, dOp, dUn, dCons, dNil, dTup, dLst, dB, dTru, dAnd, dOr, dNot, dAndV, dOrV, dNotV, dIf, dChain, dCB, dCall, dSlE, dNoPart, dPart, dRev, dS0, dS1, dBL, dBL0, dIsi, dBreak, dCont, List.set_cons_zero, List.set_cons_succ, List.getElem?_cons_zero, List.getElem?_cons_succ, ifB_t, ifB_f, e_new_f, e_new_t, e_add_int, e_add_str, e_add_tup, e_add_lst, e_sub, e_mul, e_mul_str, e_mul_lst, e_div, e_mod, e_pow, e_neg, e_eq_int, e_eq_str, e_isN_non, e_isN_obj, e_isN_tup, e_isN_lst, e_lt_int, e_lt_str, e_le_int, e_le_str, e_gt, e_ge, e_in_str, e_t0, e_t1, e_t2, e_t3, e_t4, e_t5, e_l0, e_l1, e_l2, e_l3, e_sl_tup, e_sl_rdl, e_sl_str, e_sl_lst, e_len_str, e_len_lst, e_len_tup, e_int, e_tupC_tup, e_tupC_lst, e_iadd_int, e_iadd_str, e_isub, tru_bl, tru_int, tru_non, tru_lst, tru_tup, ex_some, bne_f, bne_t, e_nSub, cxK, e_fld, e_sfld, e_meth, lsD_lst, sz0, sz1, sz2, sz3, sz4, sz5, sz6, sz7, sz8, true_and])
section
variable {P : Program} {w : World} {K : PySem.W.Frag} {mg : Str → Option Value} {base : Heap}
variable {C_Cursor C_Rows : Addr}
def sp_grouped : SpD := fun ds M Q _ => ∃ (w : Str) (f : Tst → Tst → Tst) (p : Addr) (t : Tst) (ts : List Tst), ds = [.str w, .obj p] ∧ (∀ l r, (f l r).d = .tup [.str w, l.d, r.d]) ∧ ts.length ≤ 100 ∧ M p = some (.lst ((t :: ts).map Tst.d)) ∧ Q (ts.foldl f t).d M
theorem ok_grouped (T : Txt K mg) {f : Addr} {fd : FuncData} (F : FunD K "grouped" "grouped" (defArgs sgrouped) (defBody sgrouped) (defScope sgrouped) [] [] f fd) : FnOk P w K mg base CX0 (0 + 1) f fd Pgrouped (LSp K (sp_grouped)) := by
  refine fnD0 F scgrouped (fun ds M Q E h => by first | (obtain ⟨rfl, _⟩ := h; rfl) | (obtain ⟨_, rfl, _⟩ := h; rfl) | (obtain ⟨_, _, rfl, _⟩ := h; rfl) | (obtain ⟨_, _, _, rfl, _⟩ := h; rfl) | (obtain ⟨_, _, _, _, rfl, _⟩ := h; rfl) | (obtain ⟨_, _, _, _, _, rfl, _⟩ := h; rfl) | (obtain ⟨_, _, _, _, _, _, rfl, _⟩ := h; rfl) | (obtain ⟨_, _, _, _, _, _, _, rfl, _⟩ := h; rfl) | (obtain ⟨_, _, _, _, _, _, _, _, rfl, _⟩ := h; rfl) | (obtain ⟨_, _, _, _, _, _, _, _, _, rfl, _⟩ := h; rfl) | (obtain ⟨_, _, _, _, _, _, _, _, _, _, rfl, _⟩ := h; rfl) | (obtain ⟨_, _, _, _, _, _, _, _, _, _, _, rfl, _⟩ := h; rfl) | (obtain ⟨_, _, _, _, _, _, _, _, _, _, _, _, rfl, _⟩ := h; rfl) | (obtain ⟨_, _, _, _, _, _, _, _, _, _, _, _, _, rfl, _⟩ := h; rfl) | (obtain ⟨_, _, _, _, _, _, _, _, _, _, _, _, _, _, rfl, _⟩ := h; rfl) | (obtain ⟨_, _, _, _, _, _, _, _, _, _, _, _, _, _, _, rfl, _⟩ := h; rfl) | (obtain ⟨_, _, _, _, _, _, _, _, _, _, _, _, _, _, _, _, rfl, _⟩ := h; rfl) | (obtain ⟨_, _, _, _, _, _, _, _, _, _, _, _, _, _, _, _, _, rfl, _⟩ := h; rfl) | (obtain ⟨_, _, _, _, _, _, _, _, _, _, _, _, _, _, _, _, _, _, rfl, _⟩ := h; rfl) | (obtain ⟨_, _, _, _, _, _, _, _, _, _, _, _, _, _, _, _, _, _, _, rfl, _⟩ := h; rfl)) fun cdv A outer s H E F0 hr => ⟨_, (dss_cons (ds_set (i := 2) scgrouped.nd rfl (Or.inl rfl) (de_ix (de_var (pv 1)) de_int (fun _ _ => rfl)))
      (dss_cons (ds_for PassesOwn.never rfl (di_items (de_sl (own := false) (de_var (pv 1)) (do_some de_int) do_none)) (dg_name (pg_name (i := 3) scgrouped.nd rfl (Or.inl rfl))) (dss_one (ds_set (i := 2) scgrouped.nd rfl (Or.inl rfl) (de_tup (da_cons (de_var (pv 0)) (da_cons (de_var (pv 2)) (da_cons (de_var (pv 3)) da_nil)))))))
      (dss_one (ds_ret (de_var (pv 2)))))), fun ds M Q Ex h => ?_⟩
  obtain ⟨w, f, p, t, ts, rfl, hf, hl, hp, q⟩ := h
  walk_at "st"
  have hs : sizeLine = 16777216 := sizeLine_eq
  rw [List.map_cons] at hp
  refine seq_tail (fun σ M' => M' = M ∧ σ = [some (.str w), some (.obj p), some t.d, none]) ?_ (fun N hN => ?_)
  rotate_left
  · walk_at "dl"
    rw [e_o0 hp]
    exact hN _ _ ⟨rfl, rfl⟩
  rintro _ M0 ⟨e0, rfl⟩
  rw [e0]; clear e0 M0
  refine seq_tail (fun σ M' => M' = M ∧ ∃ a, σ = [some (.str w), some (.obj p), some (ts.foldl f t).d, a]) ?_ (fun N hN => ?_)
  · rintro _ M0 ⟨e0, a, rfl⟩
    rw [e0]; clear e0 M0
    walk_at "dl"
    exact Wk.here q
  · refine for_pure (ts.map Tst.d) (fun Kd hk => ?_) (fun i σ M' => M' = M ∧ ∃ a, σ = [some (.str w), some (.obj p), some ((ts.take i).foldl f t).d, a]) ⟨rfl, none, rfl⟩ ?_ ?_
    · unfold dItems
      walk_at "dl"
      refine ⟨_, lsD_o hp, ?_⟩
      rw [show (some (1 : Int)) = some ((1 : Nat) : Int) from rfl, cut_from]
      exact hk
    · rintro i d σ M' N' hi ⟨e0, a, rfl⟩ hN'
      rw [e0]; clear e0 M'
      rw [List.getElem?_map] at hi
      obtain ⟨x, hx, rfl⟩ := Option.map_eq_some_iff.mp hi
      walk_at "dl"
      refine hN' _ _ ⟨rfl, some x.d, ?_⟩
      rw [take_at hx, List.foldl_append, List.foldl_cons, List.foldl_nil, hf]
    · rintro σ M' ⟨e0, a, rfl⟩
      refine hN _ _ ⟨e0, a, ?_⟩
      rw [List.length_map, List.take_length]
def sp_goon (C : Addr) : SpD := fun ds M Q _ => ∃ (c : Addr) (R : List D) (i k : Nat) (toks : List (Str × Str)) (s t : Str) (p : Addr) (xs : List D), ds = [.obj c, .str s, .obj p] ∧ M c = some (.ins C (cf R i k)) ∧ TokDs toks R ∧ toks[i]? = some (s, t) ∧ M p = some (.lst xs) ∧ xs.length < 60 ∧ Q .non (updM M c (.ins C (cf R (i + 1) k)))
theorem ok__go_on (T : Txt K mg) {f : Addr} {fd : FuncData} (F : FunD K "_go_on" "_go_on" (defArgs s_go_on) (defBody s_go_on) (defScope s_go_on) [] [] f fd) (h_Cursor_take : Mth P w K mg base CX0 C_Cursor (2) "take" PCursor_take (sp_take C_Cursor)) : FnOk P w K mg base CX0 (2 + 1) f fd P_go_on (LSp K ((sp_goon C_Cursor))) := by
  refine fnD0 F sc_go_on (fun ds M Q E h => by first | (obtain ⟨rfl, _⟩ := h; rfl) | (obtain ⟨_, rfl, _⟩ := h; rfl) | (obtain ⟨_, _, rfl, _⟩ := h; rfl) | (obtain ⟨_, _, _, rfl, _⟩ := h; rfl) | (obtain ⟨_, _, _, _, rfl, _⟩ := h; rfl) | (obtain ⟨_, _, _, _, _, rfl, _⟩ := h; rfl) | (obtain ⟨_, _, _, _, _, _, rfl, _⟩ := h; rfl) | (obtain ⟨_, _, _, _, _, _, _, rfl, _⟩ := h; rfl) | (obtain ⟨_, _, _, _, _, _, _, _, rfl, _⟩ := h; rfl) | (obtain ⟨_, _, _, _, _, _, _, _, _, rfl, _⟩ := h; rfl) | (obtain ⟨_, _, _, _, _, _, _, _, _, _, rfl, _⟩ := h; rfl) | (obtain ⟨_, _, _, _, _, _, _, _, _, _, _, rfl, _⟩ := h; rfl) | (obtain ⟨_, _, _, _, _, _, _, _, _, _, _, _, rfl, _⟩ := h; rfl) | (obtain ⟨_, _, _, _, _, _, _, _, _, _, _, _, _, rfl, _⟩ := h; rfl) | (obtain ⟨_, _, _, _, _, _, _, _, _, _, _, _, _, _, rfl, _⟩ := h; rfl) | (obtain ⟨_, _, _, _, _, _, _, _, _, _, _, _, _, _, _, rfl, _⟩ := h; rfl) | (obtain ⟨_, _, _, _, _, _, _, _, _, _, _, _, _, _, _, _, rfl, _⟩ := h; rfl) | (obtain ⟨_, _, _, _, _, _, _, _, _, _, _, _, _, _, _, _, _, rfl, _⟩ := h; rfl) | (obtain ⟨_, _, _, _, _, _, _, _, _, _, _, _, _, _, _, _, _, _, rfl, _⟩ := h; rfl) | (obtain ⟨_, _, _, _, _, _, _, _, _, _, _, _, _, _, _, _, _, _, _, rfl, _⟩ := h; rfl)) fun cdv A outer s H E F0 hr => ⟨_, (dss_cons (ds_expr (de_mt h_Cursor_take (hr.mono (by omega)) pass0 finX0 (de_var (pv 0)) (da_cons (de_var (pv 1)) da_nil)))
      (dss_one (ds_if (dt_cmp (od_eq hr.units) (de_callB cd_len rfl T.len (by decide +kernel) (da_cons (de_var (pv 2)) da_nil)) (de_gintE T.LONG rfl) (nomark _)) (dss_one ds_never) dss_nil))), fun ds M Q Ex h => ?_⟩
  obtain ⟨c, R, i, k, toks, s, t, p, xs, rfl, hM, ht, hi, hp, hl, q⟩ := h
  walk_at "st"
  refine seq_tail (fun σ M' => M' = updM M c (.ins C_Cursor (cf R (i + 1) k)) ∧ σ = [some (.obj c), some (.str s), some (.obj p)]) ?_ (fun N hN => by walk_at "dl"; exact do_take hM ht hi (hN _ _ ⟨rfl, rfl⟩))
  rintro _ M0 ⟨e0, rfl⟩
  rw [e0]; clear e0 M0
  have hpc : p ≠ c := fun e => by rw [e, hM] at hp; cases hp
  walk_at "dl"
  rw [e_len_obj (show updM M c (.ins C_Cursor (cf R (i + 1) k)) p = some (.lst xs) by rw [updM_ne hpc]; exact hp)]
  walk_at "dl"
  refine ifB (fun h => ?_) (fun _ => Wk.here q)
  have := of_decide_eq_true h
  omega
theorem l_ors {po pa : Addr} {n : Nat} : (rf po pa n).lookup ("ors" : Str) = some (D.obj po) := rfl
theorem l_ands {po pa : Addr} {n : Nat} : (rf po pa n).lookup ("ands" : Str) = some (D.obj pa) := rfl
theorem l_nots {po pa : Addr} {n : Nat} : (rf po pa n).lookup ("nots" : Str) = some (D.int (n : Nat)) := rfl
def sp_put (CC CR : Addr) : SpD := fun ds M Q _ => ∃ (c r po pa : Addr) (R : List D) (i k n : Nat) (toks : List (Str × Str)) (s u : Str) (O A : List Tst) (t : Tst), ds = [.obj c, .obj r, t.d] ∧ M c = some (.ins CC (cf R i (k + n))) ∧ TokDs toks R ∧ toks[i]? = some (s, u) ∧ FrAt CR M r po pa ⟨O, A, n⟩ ∧ c ≠ r ∧ (s ≠ "and" → O.length < 50) ∧ A.length < 50 ∧ n < 1000 ∧
  ∀ b i' f' pa' M', PutR CC CR c r po pa R i k s O A (negN n t) M b i' f' pa' M' → Q (.bl b) M'
theorem ok__put (T : Txt K mg) {f : Addr} {fd : FuncData} (F : FunD K "_put" "_put" (defArgs s_put) (defBody s_put) (defScope s_put) [] [] f fd) (fr : RowF K C_Rows) (h_Cursor_now : Mth P w K mg base CX0 C_Cursor (1) "now" PCursor_now (sp_now C_Cursor)) (h_Cursor_shut : Mth P w K mg base CX0 C_Cursor (1) "shut" PCursor_shut (sp_shut C_Cursor)) (h_grouped : Callee P w K mg base CX0 (1) "grouped" Pgrouped sp_grouped) (h__go_on : Callee P w K mg base CX0 (3) "_go_on" P_go_on (sp_goon C_Cursor)) : FnOk P w K mg base CX0 (3 + 1) f fd P_put (LSp K ((sp_put C_Cursor C_Rows))) := by
  refine fnD0 F sc_put (fun ds M Q E h => by first | (obtain ⟨rfl, _⟩ := h; rfl) | (obtain ⟨_, rfl, _⟩ := h; rfl) | (obtain ⟨_, _, rfl, _⟩ := h; rfl) | (obtain ⟨_, _, _, rfl, _⟩ := h; rfl) | (obtain ⟨_, _, _, _, rfl, _⟩ := h; rfl) | (obtain ⟨_, _, _, _, _, rfl, _⟩ := h; rfl) | (obtain ⟨_, _, _, _, _, _, rfl, _⟩ := h; rfl) | (obtain ⟨_, _, _, _, _, _, _, rfl, _⟩ := h; rfl) | (obtain ⟨_, _, _, _, _, _, _, _, rfl, _⟩ := h; rfl) | (obtain ⟨_, _, _, _, _, _, _, _, _, rfl, _⟩ := h; rfl) | (obtain ⟨_, _, _, _, _, _, _, _, _, _, rfl, _⟩ := h; rfl) | (obtain ⟨_, _, _, _, _, _, _, _, _, _, _, rfl, _⟩ := h; rfl) | (obtain ⟨_, _, _, _, _, _, _, _, _, _, _, _, rfl, _⟩ := h; rfl) | (obtain ⟨_, _, _, _, _, _, _, _, _, _, _, _, _, rfl, _⟩ := h; rfl) | (obtain ⟨_, _, _, _, _, _, _, _, _, _, _, _, _, _, rfl, _⟩ := h; rfl) | (obtain ⟨_, _, _, _, _, _, _, _, _, _, _, _, _, _, _, rfl, _⟩ := h; rfl) | (obtain ⟨_, _, _, _, _, _, _, _, _, _, _, _, _, _, _, _, rfl, _⟩ := h; rfl) | (obtain ⟨_, _, _, _, _, _, _, _, _, _, _, _, _, _, _, _, _, rfl, _⟩ := h; rfl) | (obtain ⟨_, _, _, _, _, _, _, _, _, _, _, _, _, _, _, _, _, _, rfl, _⟩ := h; rfl) | (obtain ⟨_, _, _, _, _, _, _, _, _, _, _, _, _, _, _, _, _, _, _, rfl, _⟩ := h; rfl)) fun cdv A outer s H E F0 hr => ⟨_, (dss_cons (ds_for PassesOwn.never rfl (di_range1 rfl T.range (da_cons (de_fld (de_var (pv 1)) rfl) da_nil)) (dg_name (pg_name (i := 3) sc_put.nd rfl (Or.inl rfl))) (dss_cons (ds_set (i := 2) sc_put.nd rfl (Or.inl rfl) (de_tup (da_cons de_str (da_cons (de_var (pv 2)) da_nil))))
      (dss_one (ds_expr (de_mt0 h_Cursor_shut (hr.mono (by omega)) pass0 finX0 (de_var (pv 0)))))))
      (dss_cons (ds_fld (de_var (pv 1)) de_int rfl)
      (dss_cons (ds_expr (de_bl1 PySem.F.slot_list_append PySem.F.type_list_append md_append (de_fld (de_var (pv 1)) rfl) (da_cons (de_var (pv 2)) da_nil)))
      (dss_cons (ds_if (dt_cmp (od_eq hr.units) (de_mt0 h_Cursor_now (hr.mono (by omega)) pass0 finX0 (de_var (pv 0))) de_str (nomark _)) (dss_cons (ds_expr (de_fn h__go_on (hr.mono (by omega)) rfl pass0 finX0 (da_cons (de_var (pv 0)) (da_cons de_str (da_cons (de_fld (de_var (pv 1)) rfl) da_nil)))))
      (dss_one (ds_ret de_bl))) dss_nil)
      (dss_cons (ds_expr (de_bl1 PySem.F.slot_list_append PySem.F.type_list_append md_append (de_fld (de_var (pv 1)) rfl) (da_cons (de_fn h_grouped (hr.mono (by omega)) rfl pass0 finX0 (da_cons de_str (da_cons (de_fld (de_var (pv 1)) rfl) da_nil))) da_nil)))
      (dss_cons (ds_fld (de_var (pv 1)) (de_lst (own := true) da_nil) rfl)
      (dss_cons (ds_if (dt_cmp (od_eq hr.units) (de_mt0 h_Cursor_now (hr.mono (by omega)) pass0 finX0 (de_var (pv 0))) de_str (nomark _)) (dss_cons (ds_expr (de_fn h__go_on (hr.mono (by omega)) rfl pass0 finX0 (da_cons (de_var (pv 0)) (da_cons de_str (da_cons (de_fld (de_var (pv 1)) rfl) da_nil)))))
      (dss_one (ds_ret de_bl))) dss_nil)
      (dss_one (ds_ret de_bl))))))))), fun ds M Q Ex h => ?_⟩
  obtain ⟨c, r, po, pa, R, i, k, n, toks, s, u, O, A, t, rfl, hM, ht, hi, fa, hcr, hO, hA, hn, q⟩ := h
  walk_at "st"
  have hs : sizeLine = 16777216 := sizeLine_eq
  have hcpo : c ≠ po := fun e => by rw [e, fa.ors] at hM; cases hM
  have hcpa : c ≠ pa := fun e => by rw [e, fa.ands] at hM; cases hM
  -- the nots
  refine seq_tail (fun σ M' => ∃ a, M' = updM M c (.ins C_Cursor (cf R i k)) ∧ σ = [some (.obj c), some (.obj r), some (negN n t).d, a]) ?_ (fun N hN => ?_)
  rotate_left
  · refine for_pure (upto 0 n) (fun Kd hk => ?_) (fun j σ M' => ∃ (a : Option D) (m : Nat) (x : Tst), m + j = n ∧ negN m x = negN n t ∧ M' = updM M c (.ins C_Cursor (cf R i (k + m))) ∧ σ = [some (.obj c), some (.obj r), some x.d, a]) ⟨none, n, t, rfl, rfl, (updM_self hM).symm, rfl⟩ ?_ ?_
    · unfold dRange1
      walk_at "dl"
      rw [f_get fa.row fr.cls fr.nots l_nots]
      refine ⟨⟨show -(2 ^ 62) ≤ ((n : Nat) : Int) by omega, show ((n : Nat) : Int) < 2 ^ 62 by omega⟩, ?_⟩
      rw [Int.toNat_natCast]
      exact hk
    · rintro j d σ M' N' hj ⟨a, m, x, hm, hx, e0, rfl⟩ hN'
      rw [e0]; clear e0 M'
      obtain ⟨_, hjn⟩ := upto_get hj
      obtain ⟨m, rfl⟩ : ∃ m', m = m' + 1 := ⟨m - 1, by omega⟩
      walk_at "dl"
      refine do_shut (k := k + m) updM_same ?_
      refine hN' _ _ ⟨some d, m, .neg x, by omega, hx, by rw [updM_updM], rfl⟩
    · rintro σ M' ⟨a, m, x, hm, hx, e0, rfl⟩
      rw [upto_len] at hm
      have : m = 0 := by omega
      subst this
      exact hN _ _ ⟨a, e0, by rw [show x = negN n t from hx]⟩
  rintro _ M1 ⟨a, e0, rfl⟩
  have fa1 : FrAt C_Rows M1 r po pa ⟨O, A, n⟩ := by
    rw [e0]
    exact ⟨by rw [updM_ne hcr.symm]; exact fa.row, by rw [updM_ne hcpo.symm]; exact fa.ors, by rw [updM_ne hcpa.symm]; exact fa.ands, fa.ne⟩
  have cu1 : M1 c = some (.ins C_Cursor (cf R i k)) := by rw [e0]; exact updM_same
  have ke1 : ∀ q o, q ≠ c → q ≠ r → q ≠ po → q ≠ pa → M q = some o → M1 q = some o := fun q o h1 h2 h3 h4 hq => by rw [e0, updM_ne h1]; exact hq
  have no1 : ∀ q, M1 q = none → M q = none := fun q hq => by
    rw [e0] at hq
    by_cases e : q = c
    · rw [e, updM_same] at hq; cases hq
    · rw [updM_ne e] at hq; exact hq
  clear e0
  generalize negN n t = t' at *
  refine seq_tail (fun σ M' => FrAt C_Rows M' r po pa ⟨O, A, 0⟩ ∧ M' c = some (.ins C_Cursor (cf R i k)) ∧ (∀ q o, q ≠ c → q ≠ r → q ≠ po → q ≠ pa → M q = some o → M' q = some o) ∧ (∀ q, M' q = none → M q = none) ∧ σ = [some (.obj c), some (.obj r), some t'.d, a]) ?_ (fun N hN => ?_)
  rotate_left
  · walk_at "dl"
    refine f_set fa1.row fr.cls fr.nots (show 3 < 1000 by decide) (hN _ _ ⟨⟨updM_same, by rw [updM_ne fa1.n1.symm]; exact fa1.ors, by rw [updM_ne fa1.n2.symm]; exact fa1.ands, fa1.ne⟩, by rw [updM_ne hcr]; exact cu1, fun q o h1 h2 h3 h4 hq => by rw [updM_ne h2]; exact ke1 q o h1 h2 h3 h4 hq, fun q hq => ?_, rfl⟩)
    by_cases e : q = r
    · rw [e, updM_same] at hq; cases hq
    · rw [updM_ne e] at hq; exact no1 q hq
  rintro _ M2 ⟨fa2, cu2, ke2, no2, rfl⟩
  refine seq_tail (fun σ M' => FrAt C_Rows M' r po pa ⟨O, A ++ [t'], 0⟩ ∧ M' c = some (.ins C_Cursor (cf R i k)) ∧ (∀ q o, q ≠ c → q ≠ r → q ≠ po → q ≠ pa → M q = some o → M' q = some o) ∧ (∀ q, M' q = none → M q = none) ∧ σ = [some (.obj c), some (.obj r), some t'.d, a]) ?_ (fun N hN => ?_)
  rotate_left
  · walk_at "dl"
    rw [f_get fa2.row fr.cls fr.ands l_ands]
    refine ⟨isLst_of fa2.ands, ?_⟩
    rw [e_append fa2.ands]
    refine ⟨by rw [List.length_map]; show A.length < _; omega, hN _ _ ⟨⟨by rw [updM_ne fa2.n2]; exact fa2.row, by rw [updM_ne fa2.ne]; exact fa2.ors, by rw [updM_same, List.map_append] <;> rfl, fa2.ne⟩, by rw [updM_ne hcpa]; exact cu2, fun q o h1 h2 h3 h4 hq => by rw [updM_ne h4]; exact ke2 q o h1 h2 h3 h4 hq, fun q hq => ?_, rfl⟩⟩
    by_cases e : q = pa
    · rw [e, updM_same] at hq; cases hq
    · rw [updM_ne e] at hq; exact no2 q hq
  rintro _ M3 ⟨fa3, cu3, ke3, no3, rfl⟩
  refine seq_tail (fun σ M' => s ≠ "and" ∧ M' = M3 ∧ σ = [some (.obj c), some (.obj r), some t'.d, a]) ?_ (fun N hN => ?_)
  rotate_left
  · walk_at "dl"
    refine do_now cu3 ht hi ?_
    walk_at "dl"
    refine ifB (fun h => ?_) (fun h => hN _ _ ⟨of_decide_eq_false h, rfl, rfl⟩)
    have hs' := of_decide_eq_true h
    subst hs'
    rw [f_get fa3.row fr.cls fr.ands l_ands]
    refine ⟨c, R, i, k, toks, _, u, pa, _, rfl, cu3, ht, hi, fa3.ands, by rw [List.length_map, List.length_append, List.length_singleton]; omega, ?_⟩
    refine Wk.here (q false (i + 1) ⟨O, A ++ [t'], 0⟩ pa _ ⟨.inl ⟨rfl, rfl, rfl, rfl, rfl⟩, updM_same, ⟨by rw [updM_ne hcr.symm]; exact fa3.row, by rw [updM_ne hcpo.symm]; exact fa3.ors, by rw [updM_ne hcpa.symm]; exact fa3.ands, fa3.ne⟩, fun q o h1 h2 h3 h4 hq => by rw [updM_ne h1]; exact ke3 q o h1 h2 h3 h4 hq⟩)
  rintro _ M0 ⟨hand, e0, rfl⟩
  rw [e0]; clear e0 M0
  have hO := hO hand
  refine seq_tail (fun σ M' => FrAt C_Rows M' r po pa ⟨O ++ [gC (A ++ [t'])], A ++ [t'], 0⟩ ∧ M' c = some (.ins C_Cursor (cf R i k)) ∧ (∀ q o, q ≠ c → q ≠ r → q ≠ po → q ≠ pa → M q = some o → M' q = some o) ∧ (∀ q, M' q = none → M q = none) ∧ σ = [some (.obj c), some (.obj r), some t'.d, a]) ?_ (fun N hN => ?_)
  rotate_left
  · obtain ⟨t0, ts, e1, e2⟩ := @gC_cons A t'
    walk_at "dl"
    rw [f_get fa3.row fr.cls fr.ors l_ors]
    refine ⟨isLst_of fa3.ors, ?_⟩
    rw [f_get fa3.row fr.cls fr.ands l_ands]
    have hl : ts.length ≤ 100 := by
      have := congrArg List.length e1
      rw [List.length_append, List.length_singleton, List.length_cons] at this
      omega
    refine ⟨"and", Tst.con, pa, t0, ts, rfl, fun _ _ => rfl, hl, by rw [← e1]; exact fa3.ands, ?_⟩
    try dsimp only
    rw [← e2, e_append fa3.ors]
    refine ⟨by rw [List.length_map]; show O.length < _; omega, hN _ _ ⟨⟨by rw [updM_ne fa3.n1]; exact fa3.row, by rw [updM_same, List.map_append] <;> rfl, by rw [updM_ne fa3.ne.symm]; exact fa3.ands, fa3.ne⟩, by rw [updM_ne hcpo]; exact cu3, fun q o h1 h2 h3 h4 hq => by rw [updM_ne h3]; exact ke3 q o h1 h2 h3 h4 hq, fun q hq => ?_, rfl⟩⟩
    by_cases e : q = po
    · rw [e, updM_same] at hq; cases hq
    · rw [updM_ne e] at hq; exact no3 q hq
  rintro _ M4 ⟨fa4, cu4, ke4, no4, rfl⟩
  refine seq_tail (fun σ M' => ∃ pa', M pa' = none ∧ FrAt C_Rows M' r po pa' ⟨O ++ [gC (A ++ [t'])], [], 0⟩ ∧ M' c = some (.ins C_Cursor (cf R i k)) ∧ (∀ q o, q ≠ c → q ≠ r → q ≠ po → q ≠ pa → M q = some o → M' q = some o) ∧ σ = [some (.obj c), some (.obj r), some t'.d, a]) ?_ (fun N hN => ?_)
  rotate_left
  · walk_at "dl"
    intro pa' hpa'
    have n1 : r ≠ pa' := neM fa4.row hpa'
    have n2 : po ≠ pa' := neM fa4.ors hpa'
    have n3 : c ≠ pa' := neM cu4 hpa'
    refine f_set (fs := rf po pa 0) (show updM M4 pa' (.lst []) r = _ by rw [updM_ne n1]; exact fa4.row) fr.cls fr.ands (show 3 < 1000 by decide) (hN _ _ ⟨pa', no4 _ hpa', ⟨updM_same, by rw [updM_ne fa4.n1.symm, updM_ne n2]; exact fa4.ors, by rw [updM_ne n1.symm]; exact updM_same, n2⟩, by rw [updM_ne hcr, updM_ne n3]; exact cu4, fun q o h1 h2 h3 h4 hq => ?_, rfl⟩)
    have := ke4 q o h1 h2 h3 h4 hq
    rw [updM_ne h2, updM_ne (neM this hpa')]; exact this
  rintro _ M5 ⟨pa', hpa', fa5, cu5, ke5, rfl⟩
  have hcpa' : c ≠ pa' := fun e => by rw [e, fa5.ands] at cu5; cases cu5
  walk_at "dl"
  refine do_now cu5 ht hi ?_
  walk_at "dl"
  refine ifB (fun h => ?_) (fun h => ?_)
  · have hs' := of_decide_eq_true h
    subst hs'
    rw [f_get fa5.row fr.cls fr.ors l_ors]
    refine ⟨c, R, i, k, toks, _, u, po, _, rfl, cu5, ht, hi, fa5.ors, by rw [List.length_map, List.length_append, List.length_singleton]; omega, ?_⟩
    exact Wk.here (q false (i + 1) ⟨O ++ [gC (A ++ [t'])], [], 0⟩ pa' _ ⟨.inr (.inl ⟨hand, rfl, rfl, rfl, rfl, hpa'⟩), updM_same, ⟨by rw [updM_ne hcr.symm]; exact fa5.row, by rw [updM_ne hcpo.symm]; exact fa5.ors, by rw [updM_ne hcpa'.symm]; exact fa5.ands, fa5.ne⟩, fun q o h1 h2 h3 h4 hq => by rw [updM_ne h1]; exact ke5 q o h1 h2 h3 h4 hq⟩)
  · exact Wk.here (q true i ⟨O ++ [gC (A ++ [t'])], [], 0⟩ pa' _ ⟨.inr (.inr ⟨hand, of_decide_eq_false h, rfl, rfl, rfl, hpa'⟩), cu5, fa5, ke5⟩)
def sp_rowsnew (CR : Addr) : SpD := fun ds M Q _ => ∃ r, ds = [.obj r] ∧ M r = some (.ins CR []) ∧ ∀ po pa M', M po = none → M pa = none → FrAt CR M' r po pa ⟨[], [], 0⟩ → (∀ q o, q ≠ r → M q = some o → M' q = some o) → Q .non M'
theorem ok_RowsU_initU (T : Txt K mg) {f : Addr} {fd : FuncData} (F : FunD K "__init__" "Rows.__init__" (defArgs sRowsU_initU) (defBody sRowsU_initU) (defScope sRowsU_initU) [] [] f fd) (fr : RowF K C_Rows) : FnOk P w K mg base CX0 (0 + 1) f fd PRowsU_initU (LSp K ((sp_rowsnew C_Rows))) := by
  refine fnD0 F scRowsU_initU (fun ds M Q E h => by first | (obtain ⟨rfl, _⟩ := h; rfl) | (obtain ⟨_, rfl, _⟩ := h; rfl) | (obtain ⟨_, _, rfl, _⟩ := h; rfl) | (obtain ⟨_, _, _, rfl, _⟩ := h; rfl) | (obtain ⟨_, _, _, _, rfl, _⟩ := h; rfl) | (obtain ⟨_, _, _, _, _, rfl, _⟩ := h; rfl) | (obtain ⟨_, _, _, _, _, _, rfl, _⟩ := h; rfl) | (obtain ⟨_, _, _, _, _, _, _, rfl, _⟩ := h; rfl) | (obtain ⟨_, _, _, _, _, _, _, _, rfl, _⟩ := h; rfl) | (obtain ⟨_, _, _, _, _, _, _, _, _, rfl, _⟩ := h; rfl) | (obtain ⟨_, _, _, _, _, _, _, _, _, _, rfl, _⟩ := h; rfl) | (obtain ⟨_, _, _, _, _, _, _, _, _, _, _, rfl, _⟩ := h; rfl) | (obtain ⟨_, _, _, _, _, _, _, _, _, _, _, _, rfl, _⟩ := h; rfl) | (obtain ⟨_, _, _, _, _, _, _, _, _, _, _, _, _, rfl, _⟩ := h; rfl) | (obtain ⟨_, _, _, _, _, _, _, _, _, _, _, _, _, _, rfl, _⟩ := h; rfl) | (obtain ⟨_, _, _, _, _, _, _, _, _, _, _, _, _, _, _, rfl, _⟩ := h; rfl) | (obtain ⟨_, _, _, _, _, _, _, _, _, _, _, _, _, _, _, _, rfl, _⟩ := h; rfl) | (obtain ⟨_, _, _, _, _, _, _, _, _, _, _, _, _, _, _, _, _, rfl, _⟩ := h; rfl) | (obtain ⟨_, _, _, _, _, _, _, _, _, _, _, _, _, _, _, _, _, _, rfl, _⟩ := h; rfl) | (obtain ⟨_, _, _, _, _, _, _, _, _, _, _, _, _, _, _, _, _, _, _, rfl, _⟩ := h; rfl)) fun cdv A outer s H E F0 hr => ⟨_, (dss_cons (ds_fld (de_var (pv 0)) (de_lst (own := true) da_nil) rfl)
      (dss_cons (ds_fld (de_var (pv 0)) (de_lst (own := true) da_nil) rfl)
      (dss_one (ds_fld (de_var (pv 0)) de_int rfl)))), fun ds M Q Ex h => ?_⟩
  obtain ⟨r, rfl, hM, q⟩ := h
  walk_at "st"
  walk_at "dl"
  intro po hpo
  have n1 : r ≠ po := neM hM hpo
  refine f_set (fs := []) (show updM M po (.lst []) r = _ by rw [updM_ne n1]; exact hM) fr.cls fr.ors (by decide) ?_
  walk_at "dl"
  intro pa hpa
  have n2 : r ≠ pa := neM updM_same hpa
  rw [updM_ne n2.symm] at hpa
  have n3 : po ≠ pa := neM updM_same hpa
  rw [updM_ne n3.symm] at hpa
  refine f_set (fs := putD "ors" (.obj po) []) (show updM _ pa (.lst []) r = _ by rw [updM_ne n2]; exact updM_same) fr.cls fr.ands (show 1 < 1000 by decide) ?_
  walk_at "dl"
  refine f_set updM_same fr.cls fr.nots (show 2 < 1000 by decide) ?_
  rw [updM_updM]
  refine Wk.here (q po pa _ hpo hpa ⟨updM_same, ?_, ?_, n3⟩ fun x o hx ho => ?_)
  · rw [updM_ne n1.symm, updM_ne n3, updM_ne n1.symm]; exact updM_same
  · rw [updM_ne n2.symm]; exact updM_same
  · rw [updM_ne hx, updM_ne (neM ho hpa), updM_ne hx, updM_ne (neM ho hpo)]; exact ho
end
end K01
namespace K01
open PySem PySem.Spec L2 DL Syn Wr Lx Cu Rt
local macro_rules | `(tactic| walk_at "st") => `(tactic| simp only [start_def, List.map_cons, List.map_nil, List.length_cons, List.length_nil, List.cons_append, List.nil_append, Nat.zero_add, Nat.reduceAdd, Nat.reduceSub, List.replicate])
local macro_rules | `(tactic| walk_at "dl") => `(tactic| simp only [dSeq, dNext, dDrop, dRet, dRetF, dRetN, dIfS, dAsg, dAug, dPar, nGm, nTup, nCons, nNil, dVar, dC, dOp, dUn, dCons, dNil, dTup, dLst, dB, dTru, dAnd, dOr, dNot, dAndV, dOrV, dNotV, dIf, dChain, dCB, dCall, dSlE, dNoPart, dPart, dRev, dS0, dS1, dBL, dBL0, dIsi, dBreak, dCont, List.set_cons_zero, List.set_cons_succ, List.getElem?_cons_zero, List.getElem?_cons_succ, ifB_t, ifB_f, e_new_f, e_new_t, e_add_int, e_add_str, e_add_tup, e_add_lst, e_sub, e_mul, e_mul_str, e_mul_lst, e_div, e_mod, e_pow, e_neg, e_eq_int, e_eq_str, e_isN_non, e_isN_obj, e_isN_tup, e_isN_lst, e_lt_int, e_lt_str, e_le_int, e_le_str, e_gt, e_ge, e_in_str, e_t0, e_t1, e_t2, e_t3, e_t4, e_t5, e_l0, e_l1, e_l2, e_l3, e_sl_tup, e_sl_rdl, e_sl_str, e_sl_lst, e_len_str, e_len_lst, e_len_tup, e_int, e_tupC_tup, e_tupC_lst, e_iadd_int, e_iadd_str, e_isub, tru_bl, tru_int, tru_non, tru_lst, tru_tup, ex_some, bne_f, bne_t, e_nSub, cxK, e_fld, e_sfld, e_meth, lsD_lst, sz0, sz1, sz2, sz3, sz4, sz5, sz6, sz7, sz8, true_and])
section
variable {P : Program} {w : World} {K : PySem.W.Frag} {mg : Str → Option Value} {base : Heap}
variable {C_Cursor C_Rows : Addr}
def sp_rtest (C : Addr) : SpD := sp_rd C Tst Tst.d fun t ws rest k => TR t 1 ws ∧ nodes t < 50 ∧ k + cnt ws ≤ 60 ∧ ∃ x r, rest = x :: r ∧ x.1 ≠ "and" ∧ x.1 ≠ "or"
theorem cnt_not {ws : List Str} : cnt (("not" : Str) :: ws) = cnt ws + 1 := by
  unfold cnt
  rw [List.filter_cons, if_pos (by decide +kernel)] <;> rfl
theorem cnt_open {ws : List Str} : cnt (("(" : Str) :: ws) = cnt ws + 1 := by
  unfold cnt
  rw [List.filter_cons, if_pos (by decide +kernel)] <;> rfl
theorem cnt_other {w : Str} {ws : List Str} (h1 : w ≠ "(") (h2 : w ≠ "not") : cnt (w :: ws) = cnt ws := by
  unfold cnt
  rw [List.filter_cons, if_neg (by simp [h1, h2])]
theorem ok_read_test (T : Txt K mg) {f : Addr} {fd : FuncData} (F : FunD K "read_test" "read_test" (defArgs sread_test) (defBody sread_test) (defScope sread_test) [] [] f fd) (fr : RowF K C_Rows) (h_Cursor_now : Mth P w K mg base CX0 C_Cursor (1) "now" PCursor_now (sp_now C_Cursor)) (h_Cursor_take : Mth P w K mg base CX0 C_Cursor (2) "take" PCursor_take (sp_take C_Cursor)) (h_Cursor_enter : Mth P w K mg base CX0 C_Cursor (3) "enter" PCursor_enter (sp_enter C_Cursor)) (h_Cursor_leave : Mth P w K mg base CX0 C_Cursor (3) "leave" PCursor_leave (sp_leave C_Cursor)) (h_RowsU_initU : Mkr P w K mg base CX0 C_Rows (1) "Rows" PRowsU_initU (sp_rowsnew C_Rows)) (h_read_atom : Callee P w K mg base CX0 (3) "read_atom" Pread_atom (sp_ratom C_Cursor)) (h__put : Callee P w K mg base CX0 (4) "_put" P_put (sp_put C_Cursor C_Rows)) (h_grouped : Callee P w K mg base CX0 (1) "grouped" Pgrouped sp_grouped) : FnOk P w K mg base CX0 (4 + 1) f fd Pread_test (LSp K ((sp_rtest C_Cursor))) := by
  refine fnD0 F scread_test (fun ds M Q E h => by first | (obtain ⟨rfl, _⟩ := h; rfl) | (obtain ⟨_, rfl, _⟩ := h; rfl) | (obtain ⟨_, _, rfl, _⟩ := h; rfl) | (obtain ⟨_, _, _, rfl, _⟩ := h; rfl) | (obtain ⟨_, _, _, _, rfl, _⟩ := h; rfl) | (obtain ⟨_, _, _, _, _, rfl, _⟩ := h; rfl) | (obtain ⟨_, _, _, _, _, _, rfl, _⟩ := h; rfl) | (obtain ⟨_, _, _, _, _, _, _, rfl, _⟩ := h; rfl) | (obtain ⟨_, _, _, _, _, _, _, _, rfl, _⟩ := h; rfl) | (obtain ⟨_, _, _, _, _, _, _, _, _, rfl, _⟩ := h; rfl) | (obtain ⟨_, _, _, _, _, _, _, _, _, _, rfl, _⟩ := h; rfl) | (obtain ⟨_, _, _, _, _, _, _, _, _, _, _, rfl, _⟩ := h; rfl) | (obtain ⟨_, _, _, _, _, _, _, _, _, _, _, _, rfl, _⟩ := h; rfl) | (obtain ⟨_, _, _, _, _, _, _, _, _, _, _, _, _, rfl, _⟩ := h; rfl) | (obtain ⟨_, _, _, _, _, _, _, _, _, _, _, _, _, _, rfl, _⟩ := h; rfl) | (obtain ⟨_, _, _, _, _, _, _, _, _, _, _, _, _, _, _, rfl, _⟩ := h; rfl) | (obtain ⟨_, _, _, _, _, _, _, _, _, _, _, _, _, _, _, _, rfl, _⟩ := h; rfl) | (obtain ⟨_, _, _, _, _, _, _, _, _, _, _, _, _, _, _, _, _, rfl, _⟩ := h; rfl) | (obtain ⟨_, _, _, _, _, _, _, _, _, _, _, _, _, _, _, _, _, _, rfl, _⟩ := h; rfl) | (obtain ⟨_, _, _, _, _, _, _, _, _, _, _, _, _, _, _, _, _, _, _, rfl, _⟩ := h; rfl)) fun cdv A outer s H E F0 hr => ⟨_, (dss_cons (ds_set (i := 1) scread_test.nd rfl (Or.inl rfl) (de_lst (own := true) da_nil))
      (dss_cons (ds_set (i := 2) scread_test.nd rfl (Or.inl rfl) (de_new0 h_RowsU_initU (hr.mono (by omega)) rfl pass0 finX0))
      (dss_one (ds_while PassesOwn.never (dt_tru de_bl) (dss_one (ds_if (dt_cmp (od_eq hr.units) (de_mt0 h_Cursor_now (hr.mono (by omega)) pass0 finX0 (de_var (pv 0))) de_str (nomark _)) (dss_cons (ds_expr (de_mt h_Cursor_enter (hr.mono (by omega)) pass0 finX0 (de_var (pv 0)) (da_cons de_str da_nil)))
      (dss_one (ds_fldaug (de_var (pv 2)) de_int in_addG))) (dss_one (ds_if (dt_cmp (od_eq hr.units) (de_mt0 h_Cursor_now (hr.mono (by omega)) pass0 finX0 (de_var (pv 0))) de_str (nomark _)) (dss_cons (ds_expr (de_mt h_Cursor_enter (hr.mono (by omega)) pass0 finX0 (de_var (pv 0)) (da_cons de_str da_nil)))
      (dss_cons (ds_expr (de_bl1 PySem.F.slot_list_append PySem.F.type_list_append md_append (de_var (pv 1)) (da_cons (de_var (pv 2)) da_nil)))
      (dss_one (ds_set (i := 2) scread_test.nd rfl (Or.inl rfl) (de_new0 h_RowsU_initU (hr.mono (by omega)) rfl pass0 finX0))))) (dss_cons (ds_set (i := 3) scread_test.nd rfl (Or.inl rfl) (de_fn h_read_atom (hr.mono (by omega)) rfl pass0 finX0 (da_cons (de_var (pv 0)) da_nil)))
      (dss_cons (ds_expr (de_mt h_Cursor_take (hr.mono (by omega)) pass0 finX0 (de_var (pv 0)) (da_cons de_str da_nil)))
      (dss_cons (ds_set (i := 4) scread_test.nd rfl (Or.inl rfl) (de_fn h__put (hr.mono (by omega)) rfl pass0 finX0 (da_cons (de_var (pv 0)) (da_cons (de_var (pv 2)) (da_cons (de_tup (da_cons de_str (da_cons (de_var (pv 3)) (da_cons (de_fn h_read_atom (hr.mono (by omega)) rfl pass0 finX0 (da_cons (de_var (pv 0)) da_nil)) da_nil)))) da_nil)))))
      (dss_cons (ds_while PassesOwn.never (dt_w (dw_and (dt_tru (de_var (pv 4))) (dw_and1 (dt_tru (de_var (pv 1)))))) (dss_cons (ds_expr (de_mt h_Cursor_leave (hr.mono (by omega)) pass0 finX0 (de_var (pv 0)) (da_cons de_str da_nil)))
      (dss_cons (ds_set (i := 5) scread_test.nd rfl (Or.inl rfl) (de_fn h_grouped (hr.mono (by omega)) rfl pass0 finX0 (da_cons de_str (da_cons (de_fld (de_var (pv 2)) rfl) da_nil))))
      (dss_cons (ds_set (i := 2) scread_test.nd rfl (Or.inl rfl) (de_bl0 PySem.F.slot_list_pop PySem.F.type_list_pop md_pop (de_var (pv 1))))
      (dss_one (ds_set (i := 4) scread_test.nd rfl (Or.inl rfl) (de_fn h__put (hr.mono (by omega)) rfl pass0 finX0 (da_cons (de_var (pv 0)) (da_cons (de_var (pv 2)) (da_cons (de_var (pv 5)) da_nil))))))))))
      (dss_one (ds_if (dt_tru (de_var (pv 4))) (dss_one (ds_ret (de_fn h_grouped (hr.mono (by omega)) rfl pass0 finX0 (da_cons de_str (da_cons (de_fld (de_var (pv 2)) rfl) da_nil))))) dss_nil)))))))))))))), fun ds M Q Ex h => ?_⟩
  obtain ⟨c, R, i0, k, toks, rest, t, ws0, rfl, hM, ht, hd0, ⟨tr, hnd, hcnt, hrest⟩, q⟩ := h
  walk_at "st"
  have hs : sizeLine = 16777216 := sizeLine_eq
  have run0 := run_all hnd tr
  refine seq_tail (fun σ M' => ∃ pl, M pl = none ∧ pl ≠ c ∧ M' = updM M pl (.lst []) ∧ σ = [some (.obj c), some (.obj pl), none, none, none, none]) ?_ (fun N hN => by walk_at "dl"; exact fun p hp => hN _ _ ⟨p, hp, (neM hM hp).symm, rfl, rfl⟩)
  rintro _ M0 ⟨pl, hpl, hplc, e0, rfl⟩
  rw [e0]; clear e0 M0
  refine seq_tail (fun σ M' => ∃ a : A3, Inv C_Cursor C_Rows c pl R M i0 k ⟨[], [], 0⟩ a [] [] M' ∧ σ = [some (.obj c), some (.obj pl), some (.obj a.1), none, none, none]) ?_ (fun N hN => ?_)
  rotate_left
  · unfold dAsg dMake dNil nGm
    intro x hx
    have n1 : c ≠ x := fun e => by rw [← e, updM_ne hplc.symm, hM] at hx; cases hx
    have n2 : pl ≠ x := neM updM_same hx
    rw [updM_ne n2.symm] at hx
    refine ⟨x, rfl, updM_same, fun po pa M' hpo hpa hf hk => ⟨rfl, hN _ _ ⟨(x, po, pa), ?_, rfl⟩⟩⟩
    have xpo : x ≠ po := fun e => by rw [← e, updM_same] at hpo; cases hpo
    have xpa : x ≠ pa := fun e => by rw [← e, updM_same] at hpa; cases hpa
    rw [updM_ne xpo.symm] at hpo
    rw [updM_ne xpa.symm] at hpa
    have lpo : pl ≠ po := neM updM_same hpo
    have lpa : pl ≠ pa := neM updM_same hpa
    rw [updM_ne lpo.symm] at hpo
    rw [updM_ne lpa.symm] at hpa
    have old : ∀ q o, M q = some o → M' q = some o := fun q o hq => hk q o (neM hq hx) (by rw [updM_ne (neM hq hx), updM_ne (neM hq hpl)]; exact hq)
    refine ⟨old _ _ hM, hf, .nil, hk _ _ n2 (by rw [updM_ne n2, updM_same] <;> rfl), ?_, fun q hq => ?_, fun q o _ => old q o⟩
    · rw [fl_cons]
      simp only [List.nodup_cons, List.mem_cons, not_or]
      refine ⟨⟨hplc.symm, n1, neM hM hpo, neM hM hpa, by simp [fl]⟩, ⟨n2, lpo, lpa, by simp [fl]⟩, ⟨xpo, xpa, by simp [fl]⟩, ⟨hf.ne, by simp [fl]⟩, by simp [fl], by simp [fl]⟩
    · rw [fl_cons] at hq
      simp only [List.mem_cons] at hq
      rcases hq with e | e | e | e | e
      · rw [e]; exact hpl
      · rw [e]; exact hx
      · rw [e]; exact hpo
      · rw [e]; exact hpa
      · simp [fl] at e
  rintro _ M1 ⟨a, I, rfl⟩
  refine while_two (fun m σ M' => ∃ (i : Nat) (f : Fr) (a : A3) (s : List Fr) (as : List A3) (ws : List Str) (j1 j2 j3 : Option D), m = ws.length ∧ Inv C_Cursor C_Rows c pl R M i k f a s as M' ∧ toks.drop i = ws.map tokOf ++ rest ∧ Run t f s ws ∧ k + f.nots + deepS s + cnt ws ≤ 60 ∧ i + ws.length = i0 + ws0.length ∧ σ = [some (.obj c), some (.obj pl), some (.obj a.1), j1, j2, j3]) _ ⟨i0, _, a, [], [], ws0, none, none, none, rfl, I, hd0, run0, hcnt, rfl, rfl⟩ ?_
  rintro m σ M' N' ⟨i, f, a, s, as, ws, j1, j2, j3, rfl, I, hd, run, hc, hi, rfl⟩ hN'
  refine ⟨true, fun Kk hk => by walk_at "dl"; exact hk, ifB (fun _ => ?_) (fun h => by cases h)⟩
  cases run with
  | @not O A n _ ws run =>
    obtain ⟨r, po, pa⟩ := a
    have hd' : toks.drop i = tokOf "not" :: (ws.map tokOf ++ rest) := hd
    obtain ⟨hi0, hd1⟩ := at_drop hd'
    rw [tok_self] at hi0
    rw [cnt_not] at hc
    have hcr : c ≠ r := fun e => by have := I.cur; rw [e, I.fr.row] at this; cases this
    have hrow : ∀ {o : MO}, updM M' c o r = some (.ins C_Rows (rf po pa n)) := fun {o} => by rw [updM_ne hcr.symm]; exact I.fr.row
    have hc' : k + n + deepS s + (cnt ws + 1) ≤ 60 := hc
    walk_at "dl"
    refine do_now I.cur ht hi0 ?_
    walk_at "dl"
    refine ifB (fun _ => ?_) (fun h => absurd h (by simp))
    refine do_enter I.cur ht hi0 (show k + n + deepS s < 60 by omega) ?_
    unfold dSFldA dVar
    dsimp only [List.getElem?_cons_succ, List.getElem?_cons_zero]
    refine ⟨r, C_Rows, _, _, rfl, hrow, fr.cls, fr.nots, l_nots, ?_⟩
    unfold dC dIOp
    dsimp only
    refine ⟨_, hrow, show 3 < 1000 by decide, ?_⟩
    refine hN' ws.length _ _ (by simp) ⟨i + 1, ⟨O, A, n + 1⟩, (r, po, pa), s, as, ws, j1, j2, j3, rfl, I.not, hd1, run, ?_, ?_, rfl⟩
    · show k + (n + 1) + deepS s + cnt ws ≤ 60
      omega
    · rw [List.length_cons] at hi; omega
  | @open_ _ _ ws run =>
    have hd' : toks.drop i = tokOf "(" :: (ws.map tokOf ++ rest) := hd
    obtain ⟨hi0, hd1⟩ := at_drop hd'
    rw [tok_self] at hi0
    rw [cnt_open] at hc
    have hplc : c ≠ pl := fun e => by have := I.cur; rw [e, I.lst] at this; cases this
    walk_at "dl"
    refine do_now I.cur ht hi0 ?_
    walk_at "dl"
    refine ifB (fun h => absurd h (by decide +kernel)) (fun _ => ?_)
    refine do_now I.cur ht hi0 ?_
    walk_at "dl"
    refine ifB (fun _ => ?_) (fun h => absurd h (by simp))
    refine do_enter I.cur ht hi0 (by omega) ?_
    have hl2 : ∀ {o : MO}, updM M' c o pl = some (.lst ((as.map fun a => D.obj a.1).reverse)) := fun {o} => by rw [updM_ne hplc.symm]; exact I.lst
    refine ⟨isLst_of hl2, ?_⟩
    rw [e_append hl2]
    have hsl : as.length = s.length := I.stk.len
    have hds : s.length ≤ deepS s := deepS_len s
    refine ⟨by rw [List.length_reverse, List.length_map]; omega, ?_⟩
    unfold dMake dNil
    intro x hx
    refine ⟨x, rfl, updM_same, fun po pa M2 hpo hpa hf hk => ⟨rfl, ?_⟩⟩
    refine hN' ws.length _ _ (by simp) ⟨i + 1, ⟨[], [], 0⟩, (x, po, pa), f :: s, a :: as, ws, j1, j2, j3, rfl, I.open_ rfl hx hpo hpa hf hk, hd1, run, ?_, ?_, rfl⟩
    · show k + 0 + (f.nots + 1 + deepS s) + cnt ws ≤ 60
      omega
    · rw [List.length_cons] at hi; omega
  | @term _ _ x y ws hx hy put =>
    have hd' : toks.drop i = tokOf x.s :: tokOf "==" :: tokOf y.s :: (ws.map tokOf ++ rest) := hd
    obtain ⟨hi0, hd1⟩ := at_drop hd'
    obtain ⟨hi1, hd2⟩ := at_drop hd1
    obtain ⟨hi2, hd3⟩ := at_drop hd2
    obtain ⟨sx, ex, nx1, nx2⟩ := atom_tok hx
    rw [ex] at hi0
    rw [tok_self] at hi1
    have hcw : cnt ws ≤ cnt (x.s :: ("==" : Str) :: y.s :: ws) := by
      unfold cnt
      refine List.Sublist.length_le (List.Sublist.filter _ ?_)
      exact ((List.Sublist.refl ws).cons _).cons _ |>.cons _
    have hlw : (x.s :: ("==" : Str) :: y.s :: ws).length = ws.length + 3 := rfl
    rw [hlw] at hi hN' 
    walk_at "dl"
    refine do_now I.cur ht hi0 ?_
    walk_at "dl"
    refine ifB (fun h => absurd (of_decide_eq_true h) nx1) (fun _ => ?_)
    refine do_now I.cur ht hi0 ?_
    walk_at "dl"
    refine ifB (fun h => absurd (of_decide_eq_true h) nx2) (fun _ => ?_)
    refine ⟨c, R, i, _, toks, _, x, [x.s], rfl, I.cur, ht, hd', ⟨hx, rfl⟩, ?_⟩
    refine do_take updM_same ht hi1 ?_
    rw [updM_updM]
    refine ⟨c, R, i + 1 + 1, _, toks, _, y, [y.s], rfl, updM_same, ht, hd2, ⟨hy, rfl⟩, ?_⟩
    try dsimp only
    rw [updM_updM]
    have I3 := I.next (i' := i + 1 + 1 + 1)
    obtain ⟨r, po, pa⟩ := a
    obtain ⟨s0, u0, hs1, hs2⟩ := head_tok hd3 hrest
    have hcr : c ≠ r := I3.cr
    obtain ⟨O, A, n⟩ := f
    obtain ⟨hA, hO⟩ := put_len put hs2
    have hc' : k + n + deepS s + cnt (x.s :: ("==" : Str) :: y.s :: ws) ≤ 60 := hc
    refine ⟨c, r, po, pa, R, i + 1 + 1 + 1, k + deepS s, n, toks, s0, u0, O, A, .same x y, rfl, ?_, ht, hs1, I3.fr, hcr, hO, hA, by omega, fun b i' f' pa' M2 P => ?_⟩
    · rw [show k + deepS s + n = k + n + deepS s by omega]; exact I3.cur
    have I4 := I3.put P
    obtain ⟨hn0, ws1, aft, hda, hla, hia, hca⟩ := put_aft put hrest hs2 P hd3
    refine while_two (fun m σ M' => ∃ (i : Nat) (f : Fr) (a : A3) (s : List Fr) (as : List A3) (w1 : List Str) (b : Bool) (j3 : Option D), m = w1.length ∧ Inv C_Cursor C_Rows c pl R M i k f a s as M' ∧ toks.drop i = w1.map tokOf ++ rest ∧ Aft t b f s w1 ∧ k + f.nots + deepS s + cnt w1 ≤ 60 ∧ i + w1.length = i0 + ws0.length ∧ w1.length ≤ ws.length ∧ σ = [some (.obj c), some (.obj pl), some (.obj a.1), some x.d, some (.bl b), j3]) _ ⟨i', f', (r, po, pa'), s, as, ws1, b, j3, rfl, I4, hda, aft, by omega, by omega, hla, rfl⟩ ?_
    clear aft I4 P hda hla hia hca hn0 put hs2 I3 I hd hi hd' hd1 hd2 hd3 hcr
    rintro m σ M' N2 ⟨i, f, a, s, as, w1, b, j3, rfl, I, hd, aft, hc, hi, hlw1, rfl⟩ hN2
    refine ⟨b && !((as.map fun a => D.obj a.1).reverse).isEmpty, fun Kk hk => ?_, ?_⟩
    · walk_at "dl"
      cases b with
      | false => exact ifB (fun h => by cases h) (fun _ => hk)
      | true =>
        refine ifB (fun _ => ?_) (fun h => by cases h)
        rw [tru_obj I.lst]
        exact ⟨_, rfl, hk⟩
    · rcases aft with ⟨rfl, run⟩ | ⟨rfl, hn, ⟨O, z, hO, hOl⟩, hcase⟩
      · refine ifB (fun h => by cases h) (fun _ => ?_)
        walk_at "dl"
        exact hN' w1.length _ _ (by omega) ⟨i, f, a, s, as, w1, _, _, _, rfl, I, hd, run, hc, hi, rfl⟩
      · obtain ⟨t0, ts, e1, e2⟩ := @gD_cons O z
        have hts : ts.length ≤ 100 := by
          have := congrArg List.length e1
          rw [List.length_append, List.length_singleton, List.length_cons] at this
          omega
        have hors := I.fr.ors
        rw [hO, e1] at hors
        have grp : ∀ {M : Mp} {Q : DK}, M a.2.1 = some (.lst ((t0 :: ts).map Tst.d)) → Q (gD f.ors).d M → sp_grouped [.str "or", .obj a.2.1] M Q X0 := fun hp q => ⟨"or", Tst.dis, _, t0, ts, rfl, fun _ _ => rfl, hts, hp, by rw [hO, e2] at q; exact q⟩
        rcases hcase with ⟨rfl, rfl, hout⟩ | ⟨g, s', w2, rfl, rfl, put⟩
        · have has : as = [] := List.eq_nil_of_length_eq_zero (by have := I.stk.len; simpa using this)
          subst has
          refine ifB (fun h => by cases h) (fun _ => ?_)
          walk_at "dl"
          rw [f_get I.fr.row fr.cls fr.ors l_ors]
          refine grp hors ?_
          rw [hout]
          refine ⟨updM M c (.ins C_Cursor (cf R (i0 + ws0.length) k)), fun q o ho => ?_, q⟩
          by_cases e : q = c
          · rw [e, updM_same] at ho
            cases ho
            rw [e, I.cur, hn]
            rw [List.length_nil, Nat.add_zero] at hi
            rw [hi] <;> rfl
          · rw [updM_ne e] at ho
            exact I.old q o e ho
        · obtain ⟨a', as, rfl⟩ : ∃ a' as', as = a' :: as' := by
            cases as with
            | nil => have := I.stk.len; simp at this
            | cons a' as' => exact ⟨a', as', rfl⟩
          refine ifB (fun _ => ?_) (fun h => by simp at h)
          obtain ⟨hi0', hd1'⟩ := at_drop (show toks.drop i = tokOf ")" :: (w2.map tokOf ++ rest) from hd)
          rw [tok_self] at hi0'
          have hcl : c ≠ pl := fun e => by have := I.cur; rw [e, I.lst] at this; cases this
          have hca1 : c ≠ a.1 := I.cr
          have hca2 : c ≠ a.2.1 := fun e => by have := I.cur; rw [e, I.fr.ors] at this; cases this
          have Ip := I.pop (i' := i + 1)
          have hrow : ∀ {o : MO}, updM M' c o a.1 = some (.ins C_Rows (rf a.2.1 a.2.2 f.nots)) := fun {o} => by rw [updM_ne hca1.symm]; exact I.fr.row
          have hors' : ∀ {o : MO}, updM M' c o a.2.1 = some (.lst ((t0 :: ts).map Tst.d)) := fun {o} => by rw [updM_ne hca2.symm]; exact hors
          have hlst : ∀ {o : MO}, updM M' c o pl = some (.lst ((as.map fun a => D.obj a.1).reverse ++ [.obj a'.1])) := fun {o} => by
            rw [updM_ne hcl.symm, I.lst, List.map_cons, List.reverse_cons]
          obtain ⟨s1, u1, hs1', hs2'⟩ := head_tok hd1' hrest
          obtain ⟨O2, A2, n2⟩ := g
          obtain ⟨hA2, hO2⟩ := put_len put hs2'
          have hc2 : k + f.nots + (n2 + 1 + deepS s') + cnt ((")" : Str) :: w2) ≤ 60 := hc
          have ct := @cnt_tail ")" w2
          rw [List.length_cons] at hlw1 hi
          walk_at "dl"
          refine do_leave (k := k + n2 + deepS s') (by rw [I.cur, hn]; rw [show k + 0 + deepS (⟨O2, A2, n2⟩ :: s') = k + n2 + deepS s' + 1 by show k + 0 + (n2 + 1 + deepS s') = _; omega]) ht hi0' ?_
          rw [f_get hrow fr.cls fr.ors l_ors]
          refine grp hors' ?_
          try dsimp only
          refine ⟨isLst_of hlst, ?_⟩
          rw [e_pop hlst]
          refine ⟨c, a'.1, a'.2.1, a'.2.2, R, i + 1, k + deepS s', n2, toks, s1, u1, O2, A2, gD f.ors, rfl, ?_, ht, hs1', Ip.fr, Ip.cr, hO2, hA2, by omega, fun b2 i2 f2 pa2 M2 P2 => ?_⟩
          · have := Ip.cur
            rw [show k + deepS s' + n2 = k + n2 + deepS s' by omega]; exact this
          have Iq := Inv.put (r := a'.1) (po := a'.2.1) (pa := a'.2.2) (f := ⟨O2, A2, n2⟩) Ip P2
          obtain ⟨hn3, w3, aft3, hd3', hl3, hi3, hc3⟩ := put_aft put hrest hs2' P2 hd1'
          exact hN2 w3.length _ _ (by rw [List.length_cons]; omega) ⟨i2, f2, (a'.1, a'.2.1, pa2), s', as, w3, b2, _, rfl, Iq, hd3', aft3, by omega, by omega, by omega, rfl⟩
end
end K01
namespace K01
open PySem PySem.Spec L2 DL Syn Wr Lx Cu Rt Rv
local macro_rules | `(tactic| walk_at "st") => `(tactic| simp only [start_def, List.map_cons, List.map_nil, List.length_cons, List.length_nil, List.cons_append, List.nil_append, Nat.zero_add, Nat.reduceAdd, Nat.reduceSub, List.replicate])
local macro_rules | `(tactic| walk_at "dl") => `(tactic| simp only [dSeq, dNext, dDrop, dRet, dRetF, dRetN, dIfS, dAsg, dAug, dPar, nGm, nTup, nCons, nNil, dVar, dC, dOp, dUn, dCons, dNil, dTup, dLst, dB, dTru, dAnd, dOr, dNot, dAndV, dOrV, dNotV, dIf, dChain, dCB, dCall, dSlE, dNoPart, dPart, dRev, dS0, dS1, dBL, dBL0, dIsi, dBreak, dCont, List.set_cons_zero, List.set_cons_succ, List.getElem?_cons_zero, List.getElem?_cons_succ, ifB_t, ifB_f, e_new_f, e_new_t, e_add_int, e_add_str, e_add_tup, e_add_lst, e_sub, e_mul, e_mul_str, e_mul_lst, e_div, e_mod, e_pow, e_neg, e_eq_int, e_eq_str, e_isN_non, e_isN_obj, e_isN_tup, e_isN_lst, e_lt_int, e_lt_str, e_le_int, e_le_str, e_gt, e_ge, e_in_str, e_t0, e_t1, e_t2, e_t3, e_t4, e_t5, e_l0, e_l1, e_l2, e_l3, e_sl_tup, e_sl_rdl, e_sl_str, e_sl_lst, e_len_str, e_len_lst, e_len_tup, e_int, e_tupC_tup, e_tupC_lst, e_iadd_int, e_iadd_str, e_isub, tru_bl, tru_int, tru_non, tru_lst, tru_tup, ex_some, bne_f, bne_t, e_nSub, cxK, e_fld, e_sfld, e_meth, lsD_lst, sz0, sz1, sz2, sz3, sz4, sz5, sz6, sz7, sz8, true_and])
section
variable {P : Program} {w : World} {K : PySem.W.Frag} {mg : Str → Option Value} {base : Heap}
variable {C_Cursor C_Rows : Addr}
def sp_rvalue (C : Addr) : SpD := sp_rd C Val Val.d fun v ws _ k => VT v ws ∧ k + vcnt ws ≤ 60
theorem ok_read_value (T : Txt K mg) {f : Addr} {fd : FuncData} (F : FunD K "read_value" "read_value" (defArgs sread_value) (defBody sread_value) (defScope sread_value) [] [] f fd) (h_Cursor_now : Mth P w K mg base CX0 C_Cursor (1) "now" PCursor_now (sp_now C_Cursor)) (h_Cursor_take : Mth P w K mg base CX0 C_Cursor (2) "take" PCursor_take (sp_take C_Cursor)) (h_Cursor_enter : Mth P w K mg base CX0 C_Cursor (3) "enter" PCursor_enter (sp_enter C_Cursor)) (h_Cursor_shut : Mth P w K mg base CX0 C_Cursor (1) "shut" PCursor_shut (sp_shut C_Cursor)) (h_read_atom : Callee P w K mg base CX0 (3) "read_atom" Pread_atom (sp_ratom C_Cursor)) (h_read_test : Callee P w K mg base CX0 (5) "read_test" Pread_test (sp_rtest C_Cursor)) : FnOk P w K mg base CX0 (5 + 1) f fd Pread_value (LSp K ((sp_rvalue C_Cursor))) := by
  refine fnD0 F scread_value (fun ds M Q E h => by first | (obtain ⟨rfl, _⟩ := h; rfl) | (obtain ⟨_, rfl, _⟩ := h; rfl) | (obtain ⟨_, _, rfl, _⟩ := h; rfl) | (obtain ⟨_, _, _, rfl, _⟩ := h; rfl) | (obtain ⟨_, _, _, _, rfl, _⟩ := h; rfl) | (obtain ⟨_, _, _, _, _, rfl, _⟩ := h; rfl) | (obtain ⟨_, _, _, _, _, _, rfl, _⟩ := h; rfl) | (obtain ⟨_, _, _, _, _, _, _, rfl, _⟩ := h; rfl) | (obtain ⟨_, _, _, _, _, _, _, _, rfl, _⟩ := h; rfl) | (obtain ⟨_, _, _, _, _, _, _, _, _, rfl, _⟩ := h; rfl) | (obtain ⟨_, _, _, _, _, _, _, _, _, _, rfl, _⟩ := h; rfl) | (obtain ⟨_, _, _, _, _, _, _, _, _, _, _, rfl, _⟩ := h; rfl) | (obtain ⟨_, _, _, _, _, _, _, _, _, _, _, _, rfl, _⟩ := h; rfl) | (obtain ⟨_, _, _, _, _, _, _, _, _, _, _, _, _, rfl, _⟩ := h; rfl) | (obtain ⟨_, _, _, _, _, _, _, _, _, _, _, _, _, _, rfl, _⟩ := h; rfl) | (obtain ⟨_, _, _, _, _, _, _, _, _, _, _, _, _, _, _, rfl, _⟩ := h; rfl) | (obtain ⟨_, _, _, _, _, _, _, _, _, _, _, _, _, _, _, _, rfl, _⟩ := h; rfl) | (obtain ⟨_, _, _, _, _, _, _, _, _, _, _, _, _, _, _, _, _, rfl, _⟩ := h; rfl) | (obtain ⟨_, _, _, _, _, _, _, _, _, _, _, _, _, _, _, _, _, _, rfl, _⟩ := h; rfl) | (obtain ⟨_, _, _, _, _, _, _, _, _, _, _, _, _, _, _, _, _, _, _, rfl, _⟩ := h; rfl)) fun cdv A outer s H E F0 hr => ⟨_, (dss_cons (ds_set (i := 1) scread_value.nd rfl (Or.inl rfl) (de_lst (own := true) da_nil))
      (dss_one (ds_while PassesOwn.never (dt_tru de_bl) (dss_cons (ds_if (dt_cmp (od_eq hr.units) (de_mt0 h_Cursor_now (hr.mono (by omega)) pass0 finX0 (de_var (pv 0))) de_str (nomark _)) (dss_cons (ds_expr (de_mt h_Cursor_enter (hr.mono (by omega)) pass0 finX0 (de_var (pv 0)) (da_cons de_str da_nil)))
      (dss_cons (ds_set (i := 2) scread_value.nd rfl (Or.inl rfl) (de_fn h_read_test (hr.mono (by omega)) rfl pass0 finX0 (da_cons (de_var (pv 0)) da_nil)))
      (dss_cons (ds_expr (de_mt h_Cursor_take (hr.mono (by omega)) pass0 finX0 (de_var (pv 0)) (da_cons de_str da_nil)))
      (dss_cons (ds_expr (de_bl1 PySem.F.slot_list_append PySem.F.type_list_append md_append (de_var (pv 1)) (da_cons (de_tup (da_cons (de_var (pv 2)) (da_cons de_non da_nil))) da_nil)))
      (dss_one ds_continue))))) dss_nil)
      (dss_cons (ds_set (i := 3) scread_value.nd rfl (Or.inl rfl) (de_fn h_read_atom (hr.mono (by omega)) rfl pass0 finX0 (da_cons (de_var (pv 0)) da_nil)))
      (dss_cons (ds_while PassesOwn.never (dt_w (dw_and (dt_tru (de_var (pv 1))) (dw_and1 (dt_cmp od_notN (de_ix (de_ix (de_var (pv 1)) (de_un ud_neg de_int) (fun _ _ => rfl)) de_int (fun _ _ => rfl)) de_non (nomark _))))) (dss_cons (ds_asg (de_bl0 PySem.F.slot_list_pop PySem.F.type_list_pop md_pop (de_var (pv 1))) (dg_tup rfl (dgs_cons (dg_name (pg_name (i := 2) scread_value.nd rfl (Or.inl rfl))) (dgs_cons (dg_name (pg_name (i := 4) scread_value.nd rfl (Or.inl rfl))) dgs_nil))))
      (dss_cons (ds_expr (de_mt0 h_Cursor_shut (hr.mono (by omega)) pass0 finX0 (de_var (pv 0))))
      (dss_one (ds_set (i := 3) scread_value.nd rfl (Or.inl rfl) (de_tup (da_cons de_str (da_cons (de_var (pv 2)) (da_cons (de_var (pv 4)) (da_cons (de_var (pv 3)) da_nil))))))))))
      (dss_cons (ds_if (dt_not (dt_tru (de_var (pv 1)))) (dss_one (ds_ret (de_var (pv 3)))) dss_nil)
      (dss_cons (ds_asg (de_bl0 PySem.F.slot_list_pop PySem.F.type_list_pop md_pop (de_var (pv 1))) (dg_tup rfl (dgs_cons (dg_name (pg_name (i := 2) scread_value.nd rfl (Or.inl rfl))) (dgs_cons (dg_name (pg_name (i := 4) scread_value.nd rfl (Or.inl rfl))) dgs_nil))))
      (dss_cons (ds_expr (de_mt h_Cursor_take (hr.mono (by omega)) pass0 finX0 (de_var (pv 0)) (da_cons de_str da_nil)))
      (dss_one (ds_expr (de_bl1 PySem.F.slot_list_append PySem.F.type_list_append md_append (de_var (pv 1)) (da_cons (de_tup (da_cons (de_var (pv 2)) (da_cons (de_var (pv 3)) da_nil))) da_nil))))))))))))), fun ds M Q Ex h => ?_⟩
  obtain ⟨c, R, i0, k, toks, rest, v, ws0, rfl, hM, ht, hd0, ⟨hv, hcnt⟩, q⟩ := h
  walk_at "st"
  have hs : sizeLine = 16777216 := sizeLine_eq
  have run0 := vrun_all hv
  refine seq_tail (fun σ M' => ∃ pl, M pl = none ∧ pl ≠ c ∧ M' = updM M pl (.lst []) ∧ σ = [some (.obj c), some (.obj pl), none, none, none]) ?_ (fun N hN => by walk_at "dl"; exact fun p hp => hN _ _ ⟨p, hp, (neM hM hp).symm, rfl, rfl⟩)
  rintro _ M0 ⟨pl, hpl, hplc, e0, rfl⟩
  rw [e0]; clear e0 M0
  refine while_two (fun m σ M' => ∃ (i : Nat) (s : List Ct) (ws : List Str) (j1 j2 j3 : Option D), m = ws.length ∧ Rd C_Cursor c R M i (k + s.length) M' ∧ M' pl = some (.lst ((s.map ctD).reverse)) ∧ toks.drop i = ws.map tokOf ++ rest ∧ VRun v s ws ∧ k + s.length + vcnt ws ≤ 60 ∧ i + ws.length = i0 + ws0.length ∧ σ = [some (.obj c), some (.obj pl), j1, j2, j3]) _ ⟨i0, [], ws0, none, none, none, rfl, (Rd.start hM).put hpl hplc, updM_same, hd0, run0, hcnt, rfl, rfl⟩ ?_
  rintro m σ M' N' ⟨i, s, ws, j1, j2, j3, rfl, rd, hl, hd, run, hc, hi, rfl⟩ hN'
  refine ⟨true, fun Kk hk => by walk_at "dl"; exact hk, ifB (fun _ => ?_) (fun h => by cases h)⟩
  have pc : ∀ {M : Mp} {o : MO}, updM M c o pl = M pl := fun {M o} => updM_ne hplc
  cases run with
  | @if_ _ t wt ws htr hnd run =>
    have hd' : toks.drop i = tokOf "if" :: (wt.map tokOf ++ (tokOf "then" :: (ws.map tokOf ++ rest))) := by rw [hd]; simp
    obtain ⟨hi0, hd1⟩ := at_drop hd'
    rw [tok_self] at hi0
    have hd2 : toks.drop (i + 1 + wt.length) = tokOf "then" :: (ws.map tokOf ++ rest) := by
      rw [← List.drop_drop, hd1, List.drop_left' (by rw [List.length_map])]
    obtain ⟨hi2, hd3⟩ := at_drop hd2
    rw [tok_self] at hi2
    rw [vcnt_if, vcnt_app] at hc
    have c1 := cnt_vcnt wt
    have c2 := @vcnt_tail "then" ws
    rw [List.length_cons, List.length_append, List.length_cons] at hi
    refine seq_tail (fun _ _ => False) (fun _ _ h => h.elim) (fun N2 hN2 => ?_)
    walk_at "dl"
    refine do_now rd.cur ht hi0 ?_
    walk_at "dl"
    refine ifB (fun _ => ?_) (fun h => absurd h (by simp))
    refine do_enter rd.cur ht hi0 (by omega) ?_
    refine ⟨c, R, i + 1, k + s.length + 1, toks, _, t, wt, rfl, updM_same, ht, hd1, ⟨htr, hnd, by omega, _, _, rfl, by rw [tok_self]; decide +kernel, by rw [tok_self]; decide +kernel⟩, ?_⟩
    rw [updM_updM]
    refine do_take updM_same ht hi2 ?_
    rw [updM_updM]
    refine ⟨isLst_of (by rw [pc]; exact hl), ?_⟩
    rw [e_append (by rw [pc]; exact hl)]
    refine ⟨by rw [List.length_reverse, List.length_map]; omega, hN' ws.length _ _ (by rw [List.length_cons, List.length_append, List.length_cons]; omega) ⟨i + 1 + wt.length + 1, (t, none) :: s, ws, _, _, _, rfl, ?_, ?_, hd3, run, by rw [List.length_cons]; omega, by omega, rfl⟩⟩
    · rw [List.length_cons, ← Nat.add_assoc]
      exact (rd.step).put hpl hplc
    · rw [updM_same, List.map_cons, List.reverse_cons] <;> rfl
  | @atom _ a ws ha put =>
    have hd' : toks.drop i = tokOf a.s :: (ws.map tokOf ++ rest) := hd
    obtain ⟨hi0, hd1⟩ := at_drop hd'
    obtain ⟨sx, ex, nx⟩ := atom_sort ha
    rw [ex] at hi0
    have c2 := @vcnt_tail a.s ws
    rw [List.length_cons] at hi
    refine seq_tail (fun σ M2 => M2 = M' ∧ σ = [some (.obj c), some (.obj pl), j1, j2, j3]) ?_ (fun N2 hN2 => ?_)
    rotate_left
    · walk_at "dl"
      refine do_now rd.cur ht hi0 ?_
      walk_at "dl"
      exact ifB (fun h => absurd (of_decide_eq_true h) nx) (fun _ => hN2 _ _ ⟨rfl, rfl⟩)
    rintro _ M2 ⟨e0, rfl⟩
    rw [e0]; clear e0 M2
    refine seq_tail (fun σ M2 => Rd C_Cursor c R M (i + 1) (k + s.length) M2 ∧ M2 pl = some (.lst ((s.map ctD).reverse)) ∧ σ = [some (.obj c), some (.obj pl), j1, some (Val.at a).d, j3]) ?_ (fun N2 hN2 => ?_)
    rotate_left
    · walk_at "dl"
      exact ⟨c, R, i, _, toks, _, a, [a.s], rfl, rd.cur, ht, hd', ⟨ha, rfl⟩, hN2 _ _ ⟨rd.step, by rw [pc]; exact hl, rfl⟩⟩
    rintro _ M2 ⟨rd2, hl2, rfl⟩
    refine seq_tail (fun σ M3 => ∃ (s : List Ct) (w : Val) (j1 j3 : Option D), Rd C_Cursor c R M (i + 1) (k + s.length) M3 ∧ M3 pl = some (.lst ((s.map ctD).reverse)) ∧ VPut v s w ws ∧ (s = [] ∨ ∃ t s', s = (t, none) :: s') ∧ k + s.length + vcnt ws ≤ 60 ∧ σ = [some (.obj c), some (.obj pl), j1, some w.d, j3]) ?_ (fun N2 hN2 => ?_)
    rotate_left
    · refine while_two (fun m σ M3 => ∃ (s : List Ct) (w : Val) (j1 j3 : Option D), m = s.length ∧ Rd C_Cursor c R M (i + 1) (k + s.length) M3 ∧ M3 pl = some (.lst ((s.map ctD).reverse)) ∧ VPut v s w ws ∧ k + s.length + vcnt ws ≤ 60 ∧ σ = [some (.obj c), some (.obj pl), j1, some w.d, j3]) _ ⟨s, .at a, j1, j3, rfl, rd2, hl2, put, by omega, rfl⟩ ?_
      clear hl2 rd2 put hl rd hc hd hi
      rintro m σ M3 N3 ⟨s, w, j1, j3, rfl, rd, hl, put, hc, rfl⟩ hN3
      rcases s with _ | ⟨⟨t, o⟩, s⟩
      · refine ⟨false, fun Kk hk => ?_, ifB (fun h => by cases h) (fun _ => hN2 _ _ ⟨[], w, j1, j3, rd, hl, put, .inl rfl, hc, rfl⟩)⟩
        walk_at "dl"
        rw [tru_obj hl]
        exact ⟨_, rfl, ifB (fun h => absurd h (by decide)) (fun _ => hk)⟩
      · have hl' := hl
        rw [List.map_cons, List.reverse_cons] at hl'
        have cond : ∀ (Kk : Bool → Mp → Prop) (b : Bool), Kk b M3 → (∀ Q : DK, Q (.bl b) M3 → dIsN true (ctO o) .non M3 Q) → dAnd (dTru (dVar 1)) (dB (dOp (dIsN true) (dOp dIx (dOp dIx (dVar 1) (dUn dNeg (dC (.int 1)))) (dC (.int 1))) (dC .non))) [some (.obj c), some (.obj pl), j1, some w.d, j3] M3 Kk := by
          intro Kk b hk hb
          walk_at "dl"
          rw [tru_obj hl]
          refine ⟨_, rfl, ifB (fun _ => ?_) (fun h => by simp at h)⟩
          rw [e_ix_at (sqD_obj hl') at_end]
          unfold ctD
          rw [e_t1]
          refine hb _ ?_
          exact hk
        cases put with
        | close put =>
          rename_i x
          refine ⟨true, fun Kk hk => cond Kk true hk (fun Q h => by show dIsN true x.d .non M3 Q; rw [e_isN_val]; exact h), ifB (fun _ => ?_) (fun h => by cases h)⟩
          walk_at "dl"
          rw [e_pop hl']
          refine ⟨isLst_of hl', ?_⟩
          rw [show ctD (t, some x) = .tup [t.d, x.d] from rfl]
          refine ⟨rfl, rfl, ?_⟩
          have hcp : c ≠ pl := hplc.symm
          refine do_shut (k := k + s.length) (by rw [updM_ne hcp]; exact rd.cur) ?_
          refine hN3 s.length _ _ (by simp) ⟨s, .ite t _ w, _, _, rfl, ?_, ?_, put, by rw [List.length_cons] at hc; omega, rfl⟩
          · exact (rd.put hpl hplc).step
          · rw [pc, updM_same]
        | else_ run =>
          refine ⟨false, fun Kk hk => cond Kk false hk (fun Q h => h), ifB (fun h => by cases h) (fun _ => hN2 _ _ ⟨_, w, j1, j3, rd, hl, .else_ run, .inr ⟨t, s, rfl⟩, hc, rfl⟩)⟩
    · rintro _ M3 ⟨s, w, j1, j3, rd, hl, put, hcase, hc, rfl⟩
      rcases hcase with rfl | ⟨t, s', rfl⟩
      · cases put
        refine seq_tail (fun _ _ => False) (fun _ _ h => h.elim) (fun N2 hN2 => ?_)
        walk_at "dl"
        rw [tru_obj hl]
        refine ⟨_, rfl, ifB (fun _ => ?_) (fun h => absurd h (by decide))⟩
        rw [List.length_nil] at hi rd
        refine rd.wk ?_
        rw [show i + 1 = i0 + ws0.length by omega]
        exact q
      · rw [List.map_cons, List.reverse_cons] at hl
        cases put with
        | @else_ _ _ _ ws run =>
          have hd1' : toks.drop (i + 1) = tokOf "else" :: (ws.map tokOf ++ rest) := hd1
          obtain ⟨hi1, hd2⟩ := at_drop hd1'
          rw [tok_self] at hi1
          have c3 := @vcnt_tail "else" ws
          rw [List.length_cons] at hi hc
          refine seq_tail (fun σ M4 => M4 = M3 ∧ σ = [some (.obj c), some (.obj pl), j1, some w.d, j3]) ?_ (fun N2 hN2 => ?_)
          rotate_left
          · walk_at "dl"
            rw [tru_obj hl]
            exact ⟨_, rfl, ifB (fun h => by simp at h) (fun _ => hN2 _ _ ⟨rfl, rfl⟩)⟩
          rintro _ M4 ⟨e0, rfl⟩
          rw [e0]; clear e0 M4
          walk_at "dl"
          rw [e_pop hl]
          refine ⟨isLst_of hl, ?_⟩
          rw [show ctD (t, (none : Option Val)) = .tup [t.d, .non] from rfl]
          refine ⟨rfl, rfl, ?_⟩
          have rd5 := rd.put (o := .lst ((s'.map ctD).reverse)) hpl hplc
          refine do_take rd5.cur ht hi1 ?_
          have hl5 : ∀ {o : MO}, updM (updM M3 pl (.lst ((s'.map ctD).reverse))) c o pl = some (.lst ((s'.map ctD).reverse)) := fun {o} => by rw [pc, updM_same]
          refine ⟨isLst_of hl5, ?_⟩
          rw [e_append hl5]
          refine ⟨by rw [List.length_reverse, List.length_map]; omega, hN' ws.length _ _ (by rw [List.length_cons, List.length_cons]; omega) ⟨i + 1 + 1, (t, some w) :: s', ws, _, _, _, rfl, ?_, ?_, hd2, run, by rw [List.length_cons]; omega, by omega, rfl⟩⟩
          · exact (rd5.step).put hpl hplc
          · rw [updM_same, List.map_cons, List.reverse_cons] <;> rfl
end
end K01
namespace K01
open PySem PySem.Spec L2 DL Syn Wr Lx Cu Rt Rv
local macro_rules | `(tactic| walk_at "st") => `(tactic| simp only [start_def, List.map_cons, List.map_nil, List.length_cons, List.length_nil, List.cons_append, List.nil_append, Nat.zero_add, Nat.reduceAdd, Nat.reduceSub, List.replicate])
local macro_rules | `(tactic| walk_at "dl") => `(tactic| simp only [dSeq, dNext, dDrop, dRet, dRetF, dRetN, dIfS, dAsg, dAug, dPar, nGm, nTup, nCons, nNil, dVar, dC, dOp, dUn, dCons, dNil, dTup, dLst, dB, dTru, dAnd, dOr, dNot, dAndV, dOrV, dNotV, dIf, dChain, dCB, dCall, dSlE, dNoPart, dPart, dRev, dS0, dS1, dBL, dBL0, dIsi, dBreak, dCont, List.set_cons_zero, List.set_cons_succ, List.getElem?_cons_zero, List.getElem?_cons_succ, ifB_t, ifB_f, e_new_f, e_new_t, e_add_int, e_add_str, e_add_tup, e_add_lst, e_sub, e_mul, e_mul_str, e_mul_lst, e_div, e_mod, e_pow, e_neg, e_eq_int, e_eq_str, e_isN_non, e_isN_obj, e_isN_tup, e_isN_lst, e_lt_int, e_lt_str, e_le_int, e_le_str, e_gt, e_ge, e_in_str, e_t0, e_t1, e_t2, e_t3, e_t4, e_t5, e_l0, e_l1, e_l2, e_l3, e_sl_tup, e_sl_rdl, e_sl_str, e_sl_lst, e_len_str, e_len_lst, e_len_tup, e_int, e_tupC_tup, e_tupC_lst, e_iadd_int, e_iadd_str, e_isub, tru_bl, tru_int, tru_non, tru_lst, tru_tup, ex_some, bne_f, bne_t, e_nSub, cxK, e_fld, e_sfld, e_meth, lsD_lst, sz0, sz1, sz2, sz3, sz4, sz5, sz6, sz7, sz8, true_and])
section
variable {P : Program} {w : World} {K : PySem.W.Frag} {mg : Str → Option Value} {base : Heap}
variable {C_Cursor C_Rows : Addr}
def sp_rvars (C : Addr) : SpD := sp_rd C (List Vr) (fun vs => .tup (vs.map vrD)) fun vs ws rest k => VarsT vs ws ∧ vs.length ≤ 1000 ∧ k + 47 ≤ 60 ∧ ∃ x r, rest = x :: r ∧ x.1 ≠ "var"
theorem ok_read_vars (T : Txt K mg) {f : Addr} {fd : FuncData} (F : FunD K "read_vars" "read_vars" (defArgs sread_vars) (defBody sread_vars) (defScope sread_vars) [] [] f fd) (h_Cursor_now : Mth P w K mg base CX0 C_Cursor (1) "now" PCursor_now (sp_now C_Cursor)) (h_Cursor_take : Mth P w K mg base CX0 C_Cursor (2) "take" PCursor_take (sp_take C_Cursor)) (h_read_value : Callee P w K mg base CX0 (6) "read_value" Pread_value (sp_rvalue C_Cursor)) : FnOk P w K mg base CX0 (6 + 1) f fd Pread_vars (LSp K ((sp_rvars C_Cursor))) := by
  refine fnD0 F scread_vars (fun ds M Q E h => by first | (obtain ⟨rfl, _⟩ := h; rfl) | (obtain ⟨_, rfl, _⟩ := h; rfl) | (obtain ⟨_, _, rfl, _⟩ := h; rfl) | (obtain ⟨_, _, _, rfl, _⟩ := h; rfl) | (obtain ⟨_, _, _, _, rfl, _⟩ := h; rfl) | (obtain ⟨_, _, _, _, _, rfl, _⟩ := h; rfl) | (obtain ⟨_, _, _, _, _, _, rfl, _⟩ := h; rfl) | (obtain ⟨_, _, _, _, _, _, _, rfl, _⟩ := h; rfl) | (obtain ⟨_, _, _, _, _, _, _, _, rfl, _⟩ := h; rfl) | (obtain ⟨_, _, _, _, _, _, _, _, _, rfl, _⟩ := h; rfl) | (obtain ⟨_, _, _, _, _, _, _, _, _, _, rfl, _⟩ := h; rfl) | (obtain ⟨_, _, _, _, _, _, _, _, _, _, _, rfl, _⟩ := h; rfl) | (obtain ⟨_, _, _, _, _, _, _, _, _, _, _, _, rfl, _⟩ := h; rfl) | (obtain ⟨_, _, _, _, _, _, _, _, _, _, _, _, _, rfl, _⟩ := h; rfl) | (obtain ⟨_, _, _, _, _, _, _, _, _, _, _, _, _, _, rfl, _⟩ := h; rfl) | (obtain ⟨_, _, _, _, _, _, _, _, _, _, _, _, _, _, _, rfl, _⟩ := h; rfl) | (obtain ⟨_, _, _, _, _, _, _, _, _, _, _, _, _, _, _, _, rfl, _⟩ := h; rfl) | (obtain ⟨_, _, _, _, _, _, _, _, _, _, _, _, _, _, _, _, _, rfl, _⟩ := h; rfl) | (obtain ⟨_, _, _, _, _, _, _, _, _, _, _, _, _, _, _, _, _, _, rfl, _⟩ := h; rfl) | (obtain ⟨_, _, _, _, _, _, _, _, _, _, _, _, _, _, _, _, _, _, _, rfl, _⟩ := h; rfl)) fun cdv A outer s H E F0 hr => ⟨_, (dss_cons (ds_set (i := 1) scread_vars.nd rfl (Or.inl rfl) (de_lst (own := true) da_nil))
      (dss_cons (ds_while PassesOwn.never (dt_cmp (od_eq hr.units) (de_mt0 h_Cursor_now (hr.mono (by omega)) pass0 finX0 (de_var (pv 0))) de_str (nomark _)) (dss_cons (ds_expr (de_mt h_Cursor_take (hr.mono (by omega)) pass0 finX0 (de_var (pv 0)) (da_cons de_str da_nil)))
      (dss_cons (ds_set (i := 2) scread_vars.nd rfl (Or.inl rfl) (de_mt h_Cursor_take (hr.mono (by omega)) pass0 finX0 (de_var (pv 0)) (da_cons de_str da_nil)))
      (dss_cons (ds_expr (de_mt h_Cursor_take (hr.mono (by omega)) pass0 finX0 (de_var (pv 0)) (da_cons de_str da_nil)))
      (dss_cons (ds_set (i := 3) scread_vars.nd rfl (Or.inl rfl) (de_mt h_Cursor_take (hr.mono (by omega)) pass0 finX0 (de_var (pv 0)) (da_cons de_str da_nil)))
      (dss_cons (ds_expr (de_mt h_Cursor_take (hr.mono (by omega)) pass0 finX0 (de_var (pv 0)) (da_cons de_str da_nil)))
      (dss_cons (ds_set (i := 4) scread_vars.nd rfl (Or.inl rfl) (de_fn h_read_value (hr.mono (by omega)) rfl pass0 finX0 (da_cons (de_var (pv 0)) da_nil)))
      (dss_cons (ds_expr (de_mt h_Cursor_take (hr.mono (by omega)) pass0 finX0 (de_var (pv 0)) (da_cons de_str da_nil)))
      (dss_one (ds_expr (de_bl1 PySem.F.slot_list_append PySem.F.type_list_append md_append (de_var (pv 1)) (da_cons (de_tup (da_cons (de_var (pv 2)) (da_cons (de_var (pv 3)) (da_cons (de_var (pv 4)) da_nil)))) da_nil))))))))))))
      (dss_one (ds_ret (de_callTy cd_tuple rfl T.tuple (by decide +kernel) (da_cons (de_var (pv 1)) da_nil)))))), fun ds M Q Ex h => ?_⟩
  obtain ⟨c, R, i0, k, toks, rest, vs0, ws0, rfl, hM, ht, hd0, ⟨hv0, hl0, hk, hrest⟩, q⟩ := h
  walk_at "st"
  have hs : sizeLine = 16777216 := sizeLine_eq
  refine seq_tail (fun σ M' => ∃ pl, M pl = none ∧ pl ≠ c ∧ M' = updM M pl (.lst []) ∧ σ = [some (.obj c), some (.obj pl), none, none, none]) ?_ (fun N hN => by walk_at "dl"; exact fun p hp => hN _ _ ⟨p, hp, (neM hM hp).symm, rfl, rfl⟩)
  rintro _ M0 ⟨pl, hpl, hplc, e0, rfl⟩
  rw [e0]; clear e0 M0
  have pc : ∀ {M : Mp} {o : MO}, updM M c o pl = M pl := fun {M o} => updM_ne hplc
  refine seq_tail (fun σ M' => ∃ j1 j2 j3, Rd C_Cursor c R M (i0 + ws0.length) k M' ∧ M' pl = some (.lst (vs0.map vrD)) ∧ σ = [some (.obj c), some (.obj pl), j1, j2, j3]) ?_ (fun N hN => ?_)
  · rintro _ M1 ⟨j1, j2, j3, rd, hl, rfl⟩
    walk_at "dl"
    rw [e_tupC_obj hl]
    exact rd.wk q
  · refine while_two (fun m σ M' => ∃ (i : Nat) (dn todo : List Vr) (ws : List Str) (j1 j2 j3 : Option D), m = todo.length ∧ dn ++ todo = vs0 ∧ VarsT todo ws ∧ Rd C_Cursor c R M i k M' ∧ M' pl = some (.lst (dn.map vrD)) ∧ toks.drop i = ws.map tokOf ++ rest ∧ i + ws.length = i0 + ws0.length ∧ σ = [some (.obj c), some (.obj pl), j1, j2, j3]) _ ⟨i0, [], vs0, ws0, none, none, none, rfl, rfl, hv0, (Rd.start hM).put hpl hplc, updM_same, hd0, rfl, rfl⟩ ?_
    rintro m σ M' N' ⟨i, dn, todo, ws, j1, j2, j3, rfl, hdt, hvt, rd, hl, hd, hi, rfl⟩ hN'
    cases todo with
    | nil =>
      obtain rfl : ws = [] := hvt
      obtain ⟨x, r, rfl, hx⟩ := hrest
      have hi0 := (at_drop (show toks.drop i = (x.1, x.2) :: r from hd)).1
      refine ⟨false, fun Kk hk => ?_, ifB (fun h => by cases h) (fun _ => hN _ _ ⟨j1, j2, j3, ?_, ?_, rfl⟩)⟩
      · walk_at "dl"
        refine do_now rd.cur ht hi0 ?_
        walk_at "dl"
        rw [decide_eq_false hx]
        exact hk
      · rw [← hi]; exact rd
      · rw [← hdt, List.append_nil]; exact hl
    | cons v todo =>
      obtain ⟨wv, w2, h1, h2, h3, h4, h5, rfl⟩ := hvt
      have hd' : toks.drop i = tokOf "var" :: tokOf v.1 :: tokOf ":" :: tokOf v.2.1 :: tokOf "=" :: (wv.map tokOf ++ (tokOf ";" :: (w2.map tokOf ++ rest))) := by rw [hd]; simp
      obtain ⟨i1, d1⟩ := at_drop hd'
      obtain ⟨i2, d2⟩ := at_drop d1
      obtain ⟨i3, d3⟩ := at_drop d2
      obtain ⟨i4, d4⟩ := at_drop d3
      obtain ⟨i5, d5⟩ := at_drop d4
      have d6 : toks.drop (i + 1 + 1 + 1 + 1 + 1 + wv.length) = tokOf ";" :: (w2.map tokOf ++ rest) := by
        rw [← List.drop_drop, d5, List.drop_left' (by rw [List.length_map])]
      obtain ⟨i6, d7⟩ := at_drop d6
      rw [tok_self] at i1 i3 i5 i6
      rw [tok_name h1] at i2
      rw [tok_name h2] at i4
      simp only [List.length_cons, List.length_append] at hi
      refine ⟨true, fun Kk hk => ?_, ifB (fun _ => ?_) (fun h => by cases h)⟩
      · walk_at "dl"
        refine do_now rd.cur ht i1 ?_
        walk_at "dl"
        simp only [decide_true]
        exact hk
      · walk_at "dl"
        refine do_take rd.cur ht i1 ?_
        refine do_take updM_same ht i2 ?_
        rw [updM_updM]
        refine do_take updM_same ht i3 ?_
        rw [updM_updM]
        refine do_take updM_same ht i4 ?_
        rw [updM_updM]
        refine do_take updM_same ht i5 ?_
        rw [updM_updM]
        refine ⟨c, R, _, _, toks, _, v.2.2, wv, rfl, updM_same, ht, d5, ⟨h3, by omega⟩, ?_⟩
        rw [updM_updM]
        refine do_take updM_same ht i6 ?_
        rw [updM_updM]
        refine ⟨isLst_of (by rw [pc]; exact hl), ?_⟩
        rw [e_append (by rw [pc]; exact hl)]
        have hdl : dn.length ≤ vs0.length := by rw [← hdt, List.length_append]; omega
        refine ⟨by rw [List.length_map]; omega, hN' todo.length _ _ (by simp) ⟨_, dn ++ [v], todo, w2, _, _, _, rfl, by rw [← hdt]; simp, h5, (rd.step).put hpl hplc, ?_, d7, by omega, rfl⟩⟩
        rw [updM_same, List.map_append] <;> rfl
end
end K01
namespace K01
open PySem PySem.Spec L2 DL Syn Wr Lx Cu Rt Rv
local macro_rules | `(tactic| walk_at "st") => `(tactic| simp only [start_def, List.map_cons, List.map_nil, List.length_cons, List.length_nil, List.cons_append, List.nil_append, Nat.zero_add, Nat.reduceAdd, Nat.reduceSub, List.replicate])
local macro_rules | `(tactic| walk_at "dl") => `(tactic| simp only [dSeq, dNext, dDrop, dRet, dRetF, dRetN, dIfS, dAsg, dAug, dPar, nGm, nTup, nCons, nNil, dVar, dC, dOp, dUn, dCons, dNil, dTup, dLst, dB, dTru, dAnd, dOr, dNot, dAndV, dOrV, dNotV, dIf, dChain, dCB, dCall, dSlE, dNoPart, dPart, dRev, dS0, dS1, dBL, dBL0, dIsi, dBreak, dCont, List.set_cons_zero, List.set_cons_succ, List.getElem?_cons_zero, List.getElem?_cons_succ, ifB_t, ifB_f, e_new_f, e_new_t, e_add_int, e_add_str, e_add_tup, e_add_lst, e_sub, e_mul, e_mul_str, e_mul_lst, e_div, e_mod, e_pow, e_neg, e_eq_int, e_eq_str, e_isN_non, e_isN_obj, e_isN_tup, e_isN_lst, e_lt_int, e_lt_str, e_le_int, e_le_str, e_gt, e_ge, e_in_str, e_t0, e_t1, e_t2, e_t3, e_t4, e_t5, e_l0, e_l1, e_l2, e_l3, e_sl_tup, e_sl_rdl, e_sl_str, e_sl_lst, e_len_str, e_len_lst, e_len_tup, e_int, e_tupC_tup, e_tupC_lst, e_iadd_int, e_iadd_str, e_isub, tru_bl, tru_int, tru_non, tru_lst, tru_tup, ex_some, bne_f, bne_t, e_nSub, cxK, e_fld, e_sfld, e_meth, lsD_lst, sz0, sz1, sz2, sz3, sz4, sz5, sz6, sz7, sz8, true_and])
section
variable {P : Program} {w : World} {K : PySem.W.Frag} {mg : Str → Option Value} {base : Heap}
variable {C_Cursor C_Rows : Addr}
def sp_rkinds (C : Addr) : SpD := sp_rd C (List (Str × List Str)) (fun ks => .tup (ks.map kindD)) fun ks ws rest _ => KindsT ks ws ∧ ks.length ≤ 1000 ∧ ∃ x r, rest = x :: r ∧ x.1 ≠ "kind"
theorem ok_read_kinds (T : Txt K mg) {f : Addr} {fd : FuncData} (F : FunD K "read_kinds" "read_kinds" (defArgs sread_kinds) (defBody sread_kinds) (defScope sread_kinds) [] [] f fd) (h_Cursor_now : Mth P w K mg base CX0 C_Cursor (1) "now" PCursor_now (sp_now C_Cursor)) (h_Cursor_take : Mth P w K mg base CX0 C_Cursor (2) "take" PCursor_take (sp_take C_Cursor)) : FnOk P w K mg base CX0 (3 + 1) f fd Pread_kinds (LSp K ((sp_rkinds C_Cursor))) := by
  refine fnD0 F scread_kinds (fun ds M Q E h => by first | (obtain ⟨rfl, _⟩ := h; rfl) | (obtain ⟨_, rfl, _⟩ := h; rfl) | (obtain ⟨_, _, rfl, _⟩ := h; rfl) | (obtain ⟨_, _, _, rfl, _⟩ := h; rfl) | (obtain ⟨_, _, _, _, rfl, _⟩ := h; rfl) | (obtain ⟨_, _, _, _, _, rfl, _⟩ := h; rfl) | (obtain ⟨_, _, _, _, _, _, rfl, _⟩ := h; rfl) | (obtain ⟨_, _, _, _, _, _, _, rfl, _⟩ := h; rfl) | (obtain ⟨_, _, _, _, _, _, _, _, rfl, _⟩ := h; rfl) | (obtain ⟨_, _, _, _, _, _, _, _, _, rfl, _⟩ := h; rfl) | (obtain ⟨_, _, _, _, _, _, _, _, _, _, rfl, _⟩ := h; rfl) | (obtain ⟨_, _, _, _, _, _, _, _, _, _, _, rfl, _⟩ := h; rfl) | (obtain ⟨_, _, _, _, _, _, _, _, _, _, _, _, rfl, _⟩ := h; rfl) | (obtain ⟨_, _, _, _, _, _, _, _, _, _, _, _, _, rfl, _⟩ := h; rfl) | (obtain ⟨_, _, _, _, _, _, _, _, _, _, _, _, _, _, rfl, _⟩ := h; rfl) | (obtain ⟨_, _, _, _, _, _, _, _, _, _, _, _, _, _, _, rfl, _⟩ := h; rfl) | (obtain ⟨_, _, _, _, _, _, _, _, _, _, _, _, _, _, _, _, rfl, _⟩ := h; rfl) | (obtain ⟨_, _, _, _, _, _, _, _, _, _, _, _, _, _, _, _, _, rfl, _⟩ := h; rfl) | (obtain ⟨_, _, _, _, _, _, _, _, _, _, _, _, _, _, _, _, _, _, rfl, _⟩ := h; rfl) | (obtain ⟨_, _, _, _, _, _, _, _, _, _, _, _, _, _, _, _, _, _, _, rfl, _⟩ := h; rfl)) fun cdv A outer s H E F0 hr => ⟨_, (dss_cons (ds_set (i := 1) scread_kinds.nd rfl (Or.inl rfl) (de_lst (own := true) da_nil))
      (dss_cons (ds_while PassesOwn.never (dt_cmp (od_eq hr.units) (de_mt0 h_Cursor_now (hr.mono (by omega)) pass0 finX0 (de_var (pv 0))) de_str (nomark _)) (dss_cons (ds_expr (de_mt h_Cursor_take (hr.mono (by omega)) pass0 finX0 (de_var (pv 0)) (da_cons de_str da_nil)))
      (dss_cons (ds_set (i := 2) scread_kinds.nd rfl (Or.inl rfl) (de_mt h_Cursor_take (hr.mono (by omega)) pass0 finX0 (de_var (pv 0)) (da_cons de_str da_nil)))
      (dss_cons (ds_expr (de_mt h_Cursor_take (hr.mono (by omega)) pass0 finX0 (de_var (pv 0)) (da_cons de_str da_nil)))
      (dss_cons (ds_set (i := 3) scread_kinds.nd rfl (Or.inl rfl) (de_lst (own := true) (da_cons (de_mt h_Cursor_take (hr.mono (by omega)) pass0 finX0 (de_var (pv 0)) (da_cons de_str da_nil)) da_nil)))
      (dss_cons (ds_while PassesOwn.never (dt_cmp (od_eq hr.units) (de_mt0 h_Cursor_now (hr.mono (by omega)) pass0 finX0 (de_var (pv 0))) de_str (nomark _)) (dss_cons (ds_expr (de_mt h_Cursor_take (hr.mono (by omega)) pass0 finX0 (de_var (pv 0)) (da_cons de_str da_nil)))
      (dss_one (ds_expr (de_bl1 PySem.F.slot_list_append PySem.F.type_list_append md_append (de_var (pv 3)) (da_cons (de_mt h_Cursor_take (hr.mono (by omega)) pass0 finX0 (de_var (pv 0)) (da_cons de_str da_nil)) da_nil))))))
      (dss_cons (ds_expr (de_mt h_Cursor_take (hr.mono (by omega)) pass0 finX0 (de_var (pv 0)) (da_cons de_str da_nil)))
      (dss_one (ds_expr (de_bl1 PySem.F.slot_list_append PySem.F.type_list_append md_append (de_var (pv 1)) (da_cons (de_tup (da_cons (de_var (pv 2)) (da_cons (de_callTy cd_tuple rfl T.tuple (by decide +kernel) (da_cons (de_var (pv 3)) da_nil)) da_nil))) da_nil)))))))))))
      (dss_one (ds_ret (de_callTy cd_tuple rfl T.tuple (by decide +kernel) (da_cons (de_var (pv 1)) da_nil)))))), fun ds M Q Ex h => ?_⟩
  obtain ⟨c, R, i0, k, toks, rest, ks0, ws0, rfl, hM, ht, hd0, ⟨hv0, hl0, hrest⟩, q⟩ := h
  walk_at "st"
  have hs : sizeLine = 16777216 := sizeLine_eq
  refine seq_tail (fun σ M' => ∃ pl, M pl = none ∧ pl ≠ c ∧ M' = updM M pl (.lst []) ∧ σ = [some (.obj c), some (.obj pl), none, none]) ?_ (fun N hN => by walk_at "dl"; exact fun p hp => hN _ _ ⟨p, hp, (neM hM hp).symm, rfl, rfl⟩)
  rintro _ M0 ⟨pl, hpl, hplc, e0, rfl⟩
  rw [e0]; clear e0 M0
  have pc : ∀ {M : Mp} {o : MO}, updM M c o pl = M pl := fun {M o} => updM_ne hplc
  refine seq_tail (fun σ M' => ∃ j1 j2, Rd C_Cursor c R M (i0 + ws0.length) k M' ∧ M' pl = some (.lst (ks0.map kindD)) ∧ σ = [some (.obj c), some (.obj pl), j1, j2]) ?_ (fun N hN => ?_)
  · rintro _ M1 ⟨j1, j2, rd, hl, rfl⟩
    walk_at "dl"
    rw [e_tupC_obj hl]
    exact rd.wk q
  · refine while_two (fun m σ M' => ∃ (i : Nat) (dn todo : List (Str × List Str)) (ws : List Str) (j1 j2 : Option D), m = todo.length ∧ dn ++ todo = ks0 ∧ KindsT todo ws ∧ Rd C_Cursor c R M i k M' ∧ M' pl = some (.lst (dn.map kindD)) ∧ toks.drop i = ws.map tokOf ++ rest ∧ i + ws.length = i0 + ws0.length ∧ σ = [some (.obj c), some (.obj pl), j1, j2]) _ ⟨i0, [], ks0, ws0, none, none, rfl, rfl, hv0, (Rd.start hM).put hpl hplc, updM_same, hd0, rfl, rfl⟩ ?_
    rintro m σ M' N' ⟨i, dn, todo, ws, j1, j2, rfl, hdt, hvt, rd, hl, hd, hi, rfl⟩ hN'
    cases todo with
    | nil =>
      obtain rfl : ws = [] := hvt
      obtain ⟨x, r, rfl, hx⟩ := hrest
      have hi0 := (at_drop (show toks.drop i = (x.1, x.2) :: r from hd)).1
      refine ⟨false, fun Kk hk => ?_, ifB (fun h => by cases h) (fun _ => hN _ _ ⟨j1, j2, ?_, ?_, rfl⟩)⟩
      · walk_at "dl"
        refine do_now rd.cur ht hi0 ?_
        walk_at "dl"
        rw [decide_eq_false hx]
        exact hk
      · rw [← hi]; exact rd
      · rw [← hdt, List.append_nil]; exact hl
    | cons v todo =>
      obtain ⟨nm, vals⟩ := v
      obtain ⟨w2, h1, h2, h3, h4, h5, rfl⟩ := hvt
      obtain ⟨x, xs, rfl⟩ : ∃ x xs, vals = x :: xs := by
        cases vals with
        | nil => exact absurd (show 1 ≤ 0 from h2) (by decide)
        | cons x xs => exact ⟨x, xs, rfl⟩
      have h1 : NameOk true nm := h1
      have h3 : (x :: xs).length ≤ 5 := h3
      have h4 : ∀ y ∈ x :: xs, NameOk true y := h4
      have hb : bars (x :: xs) = x :: pbar (x :: xs) 1 := rfl
      have hd' : toks.drop i = tokOf "kind" :: tokOf nm :: tokOf "=" :: tokOf x :: ((pbar (x :: xs) 1).map tokOf ++ (tokOf ";" :: (w2.map tokOf ++ rest))) := by rw [hd]; simp [hb]
      obtain ⟨i1, d1⟩ := at_drop hd'
      obtain ⟨i2, d2⟩ := at_drop d1
      obtain ⟨i3, d3⟩ := at_drop d2
      obtain ⟨i4, d4⟩ := at_drop d3
      rw [tok_self] at i1 i3
      rw [tok_name h1] at i2
      rw [tok_name (h4 x (List.mem_cons_self ..))] at i4
      rw [hb] at hi
      simp only [List.length_cons, List.length_append] at hi
      refine ⟨true, fun Kk hk => ?_, ifB (fun _ => ?_) (fun h => by cases h)⟩
      · walk_at "dl"
        refine do_now rd.cur ht i1 ?_
        walk_at "dl"
        simp only [decide_true]
        exact hk
      refine seq_tail (fun σ M2 => Rd C_Cursor c R M (i + 1) k M2 ∧ M2 pl = some (.lst (dn.map kindD)) ∧ σ = [some (.obj c), some (.obj pl), j1, j2]) ?_ (fun N2 hN2 => by walk_at "dl"; exact do_take rd.cur ht i1 (hN2 _ _ ⟨rd.step, by rw [pc]; exact hl, rfl⟩))
      rintro _ M2 ⟨rd2, hl2, rfl⟩
      refine seq_tail (fun σ M3 => Rd C_Cursor c R M (i + 1 + 1) k M3 ∧ M3 pl = some (.lst (dn.map kindD)) ∧ σ = [some (.obj c), some (.obj pl), some (.str nm), j2]) ?_ (fun N2 hN2 => by walk_at "dl"; exact do_take rd2.cur ht i2 (hN2 _ _ ⟨rd2.step, by rw [pc]; exact hl2, rfl⟩))
      rintro _ M3 ⟨rd3, hl3, rfl⟩
      refine seq_tail (fun σ M4 => Rd C_Cursor c R M (i + 1 + 1 + 1) k M4 ∧ M4 pl = some (.lst (dn.map kindD)) ∧ σ = [some (.obj c), some (.obj pl), some (.str nm), j2]) ?_ (fun N2 hN2 => by walk_at "dl"; exact do_take rd3.cur ht i3 (hN2 _ _ ⟨rd3.step, by rw [pc]; exact hl3, rfl⟩))
      rintro _ M4 ⟨rd4, hl4, rfl⟩
      refine seq_tail (fun σ M5 => ∃ pw, M pw = none ∧ pw ≠ c ∧ pw ≠ pl ∧ Rd C_Cursor c R M (i + 1 + 1 + 1 + 1) k M5 ∧ M5 pl = some (.lst (dn.map kindD)) ∧ M5 pw = some (.lst [.str x]) ∧ σ = [some (.obj c), some (.obj pl), some (.str nm), some (.obj pw)]) ?_ (fun N2 hN2 => ?_)
      rotate_left
      · walk_at "dl"
        refine do_take rd4.cur ht i4 ?_
        intro pw hpw
        have rd5 := rd4.step (i' := i + 1 + 1 + 1 + 1) (k' := k)
        have hl5 : updM M4 c (.ins C_Cursor (cf R (i + 1 + 1 + 1 + 1) k)) pl = some (.lst (dn.map kindD)) := by rw [pc]; exact hl4
        obtain ⟨f1, f2⟩ := rd5.fresh hM hpw
        exact hN2 _ _ ⟨pw, f1, f2, (neM hl5 hpw).symm, rd5.new hpw, by rw [updM_ne (neM hl5 hpw)]; exact hl5, updM_same, rfl⟩
      rintro _ M5 ⟨pw, hpw, hpwc, hpwl, rd5, hl5, hw5, rfl⟩
      have wc : ∀ {M : Mp} {o : MO}, updM M c o pw = M pw := fun {M o} => updM_ne hpwc
      refine seq_tail (fun σ M6 => ∃ j, Rd C_Cursor c R M j k M6 ∧ M6 pl = some (.lst (dn.map kindD)) ∧ M6 pw = some (.lst ((x :: xs).map D.str)) ∧ toks.drop j = tokOf ";" :: (w2.map tokOf ++ rest) ∧ j = i + 4 + (pbar (x :: xs) 1).length ∧ σ = [some (.obj c), some (.obj pl), some (.str nm), some (.obj pw)]) ?_ (fun N2 hN2 => ?_)
      rotate_left
      · refine while_two (fun m σ M6 => ∃ n j, m = (x :: xs).length - n ∧ n ≤ (x :: xs).length ∧ toks.drop j = (pbar (x :: xs) n).map tokOf ++ (tokOf ";" :: (w2.map tokOf ++ rest)) ∧ j + (pbar (x :: xs) n).length = i + 4 + (pbar (x :: xs) 1).length ∧ Rd C_Cursor c R M j k M6 ∧ M6 pl = some (.lst (dn.map kindD)) ∧ M6 pw = some (.lst (((x :: xs).take n).map D.str)) ∧ σ = [some (.obj c), some (.obj pl), some (.str nm), some (.obj pw)]) _ ⟨1, i + 1 + 1 + 1 + 1, rfl, by simp, d4, by omega, rd5, hl5, hw5, rfl⟩ ?_
        clear hl5 hw5 rd5 rd4 rd3 rd2 hl2 hl3 hl4
        rintro m σ M6 N3 ⟨n, j, rfl, hn, hdj, hj, rd, hl, hw, rfl⟩ hN3
        by_cases hend : n = (x :: xs).length
        · subst hend
          rw [pbar_end (Nat.le_refl _)] at hdj hj
          obtain ⟨ij, _⟩ := at_drop (show toks.drop j = tokOf ";" :: (w2.map tokOf ++ rest) from hdj)
          rw [tok_self] at ij
          refine ⟨false, fun Kk hk => ?_, ifB (fun h => by cases h) (fun _ => hN2 _ _ ⟨j, rd, hl, ?_, hdj, by simpa using hj, rfl⟩)⟩
          · walk_at "dl"
            refine do_now rd.cur ht ij ?_
            walk_at "dl"
            rw [decide_eq_false (show ¬ (";" : Str) = "|" by decide +kernel)]
            exact hk
          · rw [List.take_length] at hw; exact hw
        · obtain ⟨y, hy⟩ : ∃ y, (x :: xs)[n]? = some y := ⟨(x :: xs)[n], List.getElem?_eq_getElem (by omega)⟩
          rw [pbar_at hy] at hdj hj
          have hdj' : toks.drop j = tokOf "|" :: tokOf y :: ((pbar (x :: xs) (n + 1)).map tokOf ++ (tokOf ";" :: (w2.map tokOf ++ rest))) := hdj
          obtain ⟨ij, dj⟩ := at_drop hdj'
          obtain ⟨ij2, dj2⟩ := at_drop dj
          rw [tok_self] at ij
          rw [tok_name (h4 y (List.mem_of_getElem? hy))] at ij2
          simp only [List.length_cons] at hj
          refine ⟨true, fun Kk hk => ?_, ifB (fun _ => ?_) (fun h => by cases h)⟩
          · walk_at "dl"
            refine do_now rd.cur ht ij ?_
            walk_at "dl"
            simp only [decide_true]
            exact hk
          · walk_at "dl"
            refine do_take rd.cur ht ij ?_
            refine ⟨isLst_of (by rw [wc]; exact hw), ?_⟩
            refine do_take updM_same ht ij2 ?_
            rw [updM_updM]
            try dsimp only
            rw [e_append (by rw [wc]; exact hw)]
            refine ⟨by rw [List.length_map, List.length_take]; omega, hN3 ((x :: xs).length - (n + 1)) _ _ (by omega) ⟨n + 1, j + 1 + 1, rfl, by omega, dj2, by omega, rd.step.put hpw hpwc, ?_, ?_, rfl⟩⟩
            · rw [updM_ne hpwl.symm, pc]; exact hl
            · rw [updM_same, take_at hy, List.map_append] <;> rfl
      clear hl5 hw5 rd5
      rintro _ M6 ⟨j, rd6, hl6, hw6, dj, hj, rfl⟩
      obtain ⟨ij, dj2⟩ := at_drop dj
      rw [tok_self] at ij
      walk_at "dl"
      refine do_take rd6.cur ht ij ?_
      refine ⟨isLst_of (by rw [pc]; exact hl6), ?_⟩
      rw [e_tupC_obj (by rw [wc]; exact hw6)]
      try dsimp only
      rw [e_append (by rw [pc]; exact hl6)]
      have hdl : dn.length ≤ ks0.length := by rw [← hdt, List.length_append]; omega
      refine ⟨by rw [List.length_map]; omega, hN' todo.length _ _ (by simp) ⟨j + 1, dn ++ [(nm, x :: xs)], todo, w2, _, _, rfl, by rw [← hdt]; simp, h5, rd6.step.put hpl hplc, ?_, dj2, by omega, rfl⟩⟩
      rw [updM_same, List.map_append] <;> rfl
end
end K01
namespace K01
open PySem PySem.Spec L2 DL Syn Wr Lx Cu Rt Rv Rp
local macro_rules | `(tactic| walk_at "st") => `(tactic| simp only [start_def, List.map_cons, List.map_nil, List.length_cons, List.length_nil, List.cons_append, List.nil_append, Nat.zero_add, Nat.reduceAdd, Nat.reduceSub, List.replicate])
local macro_rules | `(tactic| walk_at "dl") => `(tactic| simp only [dSeq, dNext, dDrop, dRet, dRetF, dRetN, dIfS, dAsg, dAug, dPar, nGm, nTup, nCons, nNil, dVar, dC, dOp, dUn, dCons, dNil, dTup, dLst, dB, dTru, dAnd, dOr, dNot, dAndV, dOrV, dNotV, dIf, dChain, dCB, dCall, dSlE, dNoPart, dPart, dRev, dS0, dS1, dBL, dBL0, dIsi, dBreak, dCont, List.set_cons_zero, List.set_cons_succ, List.getElem?_cons_zero, List.getElem?_cons_succ, ifB_t, ifB_f, e_new_f, e_new_t, e_add_int, e_add_str, e_add_tup, e_add_lst, e_sub, e_mul, e_mul_str, e_mul_lst, e_div, e_mod, e_pow, e_neg, e_eq_int, e_eq_str, e_isN_non, e_isN_obj, e_isN_tup, e_isN_lst, e_lt_int, e_lt_str, e_le_int, e_le_str, e_gt, e_ge, e_in_str, e_t0, e_t1, e_t2, e_t3, e_t4, e_t5, e_l0, e_l1, e_l2, e_l3, e_sl_tup, e_sl_rdl, e_sl_str, e_sl_lst, e_len_str, e_len_lst, e_len_tup, e_int, e_tupC_tup, e_tupC_lst, e_iadd_int, e_iadd_str, e_isub, tru_bl, tru_int, tru_non, tru_lst, tru_tup, ex_some, bne_f, bne_t, e_nSub, cxK, e_fld, e_sfld, e_meth, lsD_lst, sz0, sz1, sz2, sz3, sz4, sz5, sz6, sz7, sz8, true_and])
section
variable {P : Program} {w : World} {K : PySem.W.Frag} {mg : Str → Option Value} {base : Heap}
variable {C_Cursor C_Rows : Addr}
def sp_rplain (C : Addr) : SpD := sp_rd C Deed Deed.d fun x ws _ k => PlainT x ws ∧ k + 48 ≤ 60
theorem ok_read_plain (T : Txt K mg) {f : Addr} {fd : FuncData} (F : FunD K "read_plain" "read_plain" (defArgs sread_plain) (defBody sread_plain) (defScope sread_plain) [] [] f fd) (h_Cursor_now : Mth P w K mg base CX0 C_Cursor (1) "now" PCursor_now (sp_now C_Cursor)) (h_Cursor_take : Mth P w K mg base CX0 C_Cursor (2) "take" PCursor_take (sp_take C_Cursor)) (h_Cursor_enter : Mth P w K mg base CX0 C_Cursor (3) "enter" PCursor_enter (sp_enter C_Cursor)) (h_Cursor_leave : Mth P w K mg base CX0 C_Cursor (3) "leave" PCursor_leave (sp_leave C_Cursor)) (h_read_value : Callee P w K mg base CX0 (6) "read_value" Pread_value (sp_rvalue C_Cursor)) : FnOk P w K mg base CX0 (6 + 1) f fd Pread_plain (LSp K ((sp_rplain C_Cursor))) := by
  refine fnD0 F scread_plain (fun ds M Q E h => by first | (obtain ⟨rfl, _⟩ := h; rfl) | (obtain ⟨_, rfl, _⟩ := h; rfl) | (obtain ⟨_, _, rfl, _⟩ := h; rfl) | (obtain ⟨_, _, _, rfl, _⟩ := h; rfl) | (obtain ⟨_, _, _, _, rfl, _⟩ := h; rfl) | (obtain ⟨_, _, _, _, _, rfl, _⟩ := h; rfl) | (obtain ⟨_, _, _, _, _, _, rfl, _⟩ := h; rfl) | (obtain ⟨_, _, _, _, _, _, _, rfl, _⟩ := h; rfl) | (obtain ⟨_, _, _, _, _, _, _, _, rfl, _⟩ := h; rfl) | (obtain ⟨_, _, _, _, _, _, _, _, _, rfl, _⟩ := h; rfl) | (obtain ⟨_, _, _, _, _, _, _, _, _, _, rfl, _⟩ := h; rfl) | (obtain ⟨_, _, _, _, _, _, _, _, _, _, _, rfl, _⟩ := h; rfl) | (obtain ⟨_, _, _, _, _, _, _, _, _, _, _, _, rfl, _⟩ := h; rfl) | (obtain ⟨_, _, _, _, _, _, _, _, _, _, _, _, _, rfl, _⟩ := h; rfl) | (obtain ⟨_, _, _, _, _, _, _, _, _, _, _, _, _, _, rfl, _⟩ := h; rfl) | (obtain ⟨_, _, _, _, _, _, _, _, _, _, _, _, _, _, _, rfl, _⟩ := h; rfl) | (obtain ⟨_, _, _, _, _, _, _, _, _, _, _, _, _, _, _, _, rfl, _⟩ := h; rfl) | (obtain ⟨_, _, _, _, _, _, _, _, _, _, _, _, _, _, _, _, _, rfl, _⟩ := h; rfl) | (obtain ⟨_, _, _, _, _, _, _, _, _, _, _, _, _, _, _, _, _, _, rfl, _⟩ := h; rfl) | (obtain ⟨_, _, _, _, _, _, _, _, _, _, _, _, _, _, _, _, _, _, _, rfl, _⟩ := h; rfl)) fun cdv A outer s H E F0 hr => ⟨_, (dss_cons (ds_set (i := 1) scread_plain.nd rfl (Or.inl rfl) (de_mt h_Cursor_take (hr.mono (by omega)) pass0 finX0 (de_var (pv 0)) (da_cons de_str da_nil)))
      (dss_cons (ds_expr (de_mt h_Cursor_take (hr.mono (by omega)) pass0 finX0 (de_var (pv 0)) (da_cons de_str da_nil)))
      (dss_cons (ds_if (dt_cmp (od_ne hr.units) (de_mt0 h_Cursor_now (hr.mono (by omega)) pass0 finX0 (de_var (pv 0))) de_str (nomark _)) (dss_cons (ds_set (i := 2) scread_plain.nd rfl (Or.inl rfl) (de_fn h_read_value (hr.mono (by omega)) rfl pass0 finX0 (da_cons (de_var (pv 0)) da_nil)))
      (dss_cons (ds_expr (de_mt h_Cursor_take (hr.mono (by omega)) pass0 finX0 (de_var (pv 0)) (da_cons de_str da_nil)))
      (dss_one (ds_ret (de_tup (da_cons de_str (da_cons (de_var (pv 1)) (da_cons (de_var (pv 2)) da_nil)))))))) dss_nil)
      (dss_cons (ds_expr (de_mt h_Cursor_take (hr.mono (by omega)) pass0 finX0 (de_var (pv 0)) (da_cons de_str da_nil)))
      (dss_cons (ds_set (i := 3) scread_plain.nd rfl (Or.inl rfl) (de_mt h_Cursor_take (hr.mono (by omega)) pass0 finX0 (de_var (pv 0)) (da_cons de_str da_nil)))
      (dss_cons (ds_expr (de_mt h_Cursor_enter (hr.mono (by omega)) pass0 finX0 (de_var (pv 0)) (da_cons de_str da_nil)))
      (dss_cons (ds_set (i := 4) scread_plain.nd rfl (Or.inl rfl) (de_lst (own := true) da_nil))
      (dss_cons (ds_while PassesOwn.never (dt_cmp (od_ne hr.units) (de_mt0 h_Cursor_now (hr.mono (by omega)) pass0 finX0 (de_var (pv 0))) de_str (nomark _)) (dss_cons (ds_if (dt_tru (de_var (pv 4))) (dss_one (ds_expr (de_mt h_Cursor_take (hr.mono (by omega)) pass0 finX0 (de_var (pv 0)) (da_cons de_str da_nil)))) dss_nil)
      (dss_one (ds_expr (de_bl1 PySem.F.slot_list_append PySem.F.type_list_append md_append (de_var (pv 4)) (da_cons (de_fn h_read_value (hr.mono (by omega)) rfl pass0 finX0 (da_cons (de_var (pv 0)) da_nil)) da_nil))))))
      (dss_cons (ds_expr (de_mt h_Cursor_leave (hr.mono (by omega)) pass0 finX0 (de_var (pv 0)) (da_cons de_str da_nil)))
      (dss_cons (ds_expr (de_mt h_Cursor_take (hr.mono (by omega)) pass0 finX0 (de_var (pv 0)) (da_cons de_str da_nil)))
      (dss_one (ds_ret (de_tup (da_cons de_str (da_cons (de_var (pv 1)) (da_cons (de_var (pv 3)) (da_cons (de_callTy cd_tuple rfl T.tuple (by decide +kernel) (da_cons (de_var (pv 4)) da_nil)) da_nil))))))))))))))))), fun ds M Q Ex h => ?_⟩
  obtain ⟨c, R, i, k, toks, rest, x, ws, rfl, hM, ht, hd, ⟨hx, hk⟩, q⟩ := h
  walk_at "st"
  have hs : sizeLine = 16777216 := sizeLine_eq
  rcases x with ⟨n, v⟩ | ⟨n, f, vs⟩ | ⟨t, xs, ys⟩
  · obtain ⟨wv, h1, h2, h3, rfl⟩ := hx
    have hd' : toks.drop i = tokOf n :: tokOf ":=" :: (wv.map tokOf ++ (tokOf ";" :: rest)) := by rw [hd]; simp
    obtain ⟨i1, d1⟩ := at_drop hd'
    obtain ⟨i2, d2⟩ := at_drop d1
    have d3 : toks.drop (i + 1 + 1 + wv.length) = tokOf ";" :: rest := by
      rw [← List.drop_drop, d2, List.drop_left' (by rw [List.length_map])]
    obtain ⟨i3, _⟩ := at_drop d3
    obtain ⟨w, r, ew, hw, _⟩ := vt_hd h2
    have d2' : toks.drop (i + 1 + 1) = tokOf w :: (r.map tokOf ++ (tokOf ";" :: rest)) := by rw [d2, ew]; rfl
    obtain ⟨i4, _⟩ := at_drop d2'
    rw [tok_name h1] at i1
    rw [tok_self] at i2 i3
    refine seq_tail (fun σ M' => Rd C_Cursor c R M (i + 1) k M' ∧ σ = [some (.obj c), some (.str n), none, none, none]) ?_ (fun N hN => by walk_at "dl"; exact do_take hM ht i1 (hN _ _ ⟨(Rd.start hM).step, rfl⟩))
    rintro _ M1 ⟨rd, rfl⟩
    refine seq_tail (fun σ M' => Rd C_Cursor c R M (i + 1 + 1) k M' ∧ σ = [some (.obj c), some (.str n), none, none, none]) ?_ (fun N hN => by walk_at "dl"; exact do_take rd.cur ht i2 (hN _ _ ⟨rd.step, rfl⟩))
    rintro _ M2 ⟨rd2, rfl⟩
    refine seq_tail (fun _ _ => False) (fun _ _ h => h.elim) (fun N hN => ?_)
    walk_at "dl"
    refine do_now (s := (tokOf w).1) (t := (tokOf w).2) rd2.cur ht i4 ?_
    walk_at "dl"
    refine ifB (fun _ => ?_) (fun h => ?_)
    · refine ⟨c, R, _, _, toks, _, v, wv, rfl, rd2.cur, ht, d2, ⟨h2, by omega⟩, ?_⟩
      refine do_take updM_same ht i3 ?_
      rw [updM_updM]
      refine (rd2.step (i' := i + 1 + 1 + wv.length + 1) (k' := k)).wk ?_
      have e : (n :: (":=" : Str) :: (wv ++ [(";" : Str)])).length = 1 + 1 + wv.length + 1 := by simp; omega
      rw [e] at q
      rw [show i + 1 + 1 + wv.length + 1 = i + (1 + 1 + wv.length + 1) by omega]
      rw [Deed.d] at q
      exact q
    · rw [decide_eq_false hw] at h
      cases h
  · obtain ⟨vw, rfl, h1, h2, hl, hv, rfl⟩ := hx
    have hd' : toks.drop i = tokOf n :: tokOf ":=" :: tokOf "do" :: tokOf f :: tokOf "(" :: ((pend (·.2) vw 0).map tokOf ++ (tokOf ")" :: tokOf ";" :: rest)) := by rw [hd]; unfold pend; simp
    obtain ⟨i1, d1⟩ := at_drop hd'
    obtain ⟨i2, d2⟩ := at_drop d1
    obtain ⟨i3, d3⟩ := at_drop d2
    obtain ⟨i4, d4⟩ := at_drop d3
    obtain ⟨i5, d5⟩ := at_drop d4
    rw [tok_name h1] at i1
    rw [tok_name h2] at i4
    rw [tok_self] at i2 i3 i5
    have wl : (n :: (":=" : Str) :: ("do" : Str) :: f :: ("(" : Str) :: (commas (vw.map (·.2)) ++ [(")" : Str), (";" : Str)])).length = 5 + (pend (·.2) vw 0).length + 2 := by
      show _ = 5 + (commas (vw.map (·.2))).length + 2
      simp; omega
    rw [wl, Deed.d] at q
    clear wl
    refine seq_tail (fun σ M' => Rd C_Cursor c R M (i + 1) k M' ∧ σ = [some (.obj c), some (.str n), none, none, none]) ?_ (fun N hN => by walk_at "dl"; exact do_take hM ht i1 (hN _ _ ⟨(Rd.start hM).step, rfl⟩))
    rintro _ M1 ⟨rd, rfl⟩
    refine seq_tail (fun σ M' => Rd C_Cursor c R M (i + 1 + 1) k M' ∧ σ = [some (.obj c), some (.str n), none, none, none]) ?_ (fun N hN => by walk_at "dl"; exact do_take rd.cur ht i2 (hN _ _ ⟨rd.step, rfl⟩))
    rintro _ M2 ⟨rd2, rfl⟩
    refine seq_tail (fun σ M' => M' = M2 ∧ σ = [some (.obj c), some (.str n), none, none, none]) ?_ (fun N hN => ?_)
    rotate_left
    · walk_at "dl"
      refine do_now rd2.cur ht i3 ?_
      walk_at "dl"
      exact ifB (fun h => absurd h (by decide +kernel)) (fun _ => hN _ _ ⟨rfl, rfl⟩)
    rintro _ M0 ⟨e0, rfl⟩
    rw [e0]; clear e0 M0
    refine seq_tail (fun σ M' => Rd C_Cursor c R M (i + 1 + 1 + 1) k M' ∧ σ = [some (.obj c), some (.str n), none, none, none]) ?_ (fun N hN => by walk_at "dl"; exact do_take rd2.cur ht i3 (hN _ _ ⟨rd2.step, rfl⟩))
    rintro _ M3 ⟨rd3, rfl⟩
    refine seq_tail (fun σ M' => Rd C_Cursor c R M (i + 1 + 1 + 1 + 1) k M' ∧ σ = [some (.obj c), some (.str n), none, some (.str f), none]) ?_ (fun N hN => by walk_at "dl"; exact do_take rd3.cur ht i4 (hN _ _ ⟨rd3.step, rfl⟩))
    rintro _ M4 ⟨rd4, rfl⟩
    refine seq_tail (fun σ M' => Rd C_Cursor c R M (i + 1 + 1 + 1 + 1 + 1) (k + 1) M' ∧ σ = [some (.obj c), some (.str n), none, some (.str f), none]) ?_ (fun N hN => by walk_at "dl"; exact do_enter rd4.cur ht i5 (by omega) (hN _ _ ⟨rd4.step, rfl⟩))
    rintro _ M5 ⟨rd5, rfl⟩
    refine seq_tail (fun σ M' => ∃ p, M p = none ∧ p ≠ c ∧ M' p = some (.lst []) ∧ Rd C_Cursor c R M (i + 1 + 1 + 1 + 1 + 1) (k + 1) M' ∧ σ = [some (.obj c), some (.str n), none, some (.str f), some (.obj p)]) ?_ (fun N hN => ?_)
    rotate_left
    · walk_at "dl"
      intro p hp
      obtain ⟨f1, f2⟩ := rd5.fresh hM hp
      exact hN _ _ ⟨p, f1, f2, updM_same, rd5.new hp, rfl⟩
    rintro _ M6 ⟨p, hp, hpc, hpl, rd6, rfl⟩
    have pc : ∀ {M : Mp} {o : MO}, updM M c o p = M p := fun {M o} => updM_ne hpc
    refine seq_tail (fun σ M' => ∃ j, toks.drop j = tokOf ")" :: tokOf ";" :: rest ∧ j = i + 5 + (pend (·.2) vw 0).length ∧ M' p = some (.lst (vw.map fun y => Val.d y.1)) ∧ Rd C_Cursor c R M j (k + 1) M' ∧ σ = [some (.obj c), some (.str n), none, some (.str f), some (.obj p)]) ?_ (fun N hN => ?_)
    · rintro _ M7 ⟨j, dj, hj, hpl, rd7, rfl⟩
      obtain ⟨ij, dj2⟩ := at_drop dj
      obtain ⟨ij2, _⟩ := at_drop dj2
      rw [tok_self] at ij ij2
      walk_at "dl"
      refine do_leave rd7.cur ht ij ?_
      refine do_take updM_same ht ij2 ?_
      rw [updM_updM]
      rw [e_tupC_obj (by rw [pc]; exact hpl)]
      refine (rd7.step (i' := j + 1 + 1) (k' := k)).wk ?_
      rw [List.map_map] at q
      rw [hj, show i + 5 + (pend (fun x : Val × List Str => x.2) vw 0).length + 1 + 1 = i + (5 + (pend (fun x : Val × List Str => x.2) vw 0).length + 2) by omega]
      exact q
    · refine while_two (fun m σ M' => ∃ (j n0 : Nat), m = vw.length - n0 ∧ n0 ≤ vw.length ∧ toks.drop j = (pend (·.2) vw n0).map tokOf ++ (tokOf ")" :: tokOf ";" :: rest) ∧ j + (pend (·.2) vw n0).length = i + 5 + (pend (·.2) vw 0).length ∧ M' p = some (.lst ((vw.take n0).map fun y => Val.d y.1)) ∧ Rd C_Cursor c R M j (k + 1) M' ∧ σ = [some (.obj c), some (.str n), none, some (.str f), some (.obj p)]) vw.length ⟨i + 1 + 1 + 1 + 1 + 1, 0, by omega, Nat.zero_le _, d5, by omega, hpl, rd6, rfl⟩ ?_
      clear rd rd2 rd3 rd4 rd5 rd6 hpl
      rintro m σ M' N' ⟨j, n0, rfl, hn, hdj, hj, hpl, rd, rfl⟩ hN'
      by_cases hend : n0 = vw.length
      · subst hend
        rw [pend_end (Nat.le_refl _)] at hdj hj
        obtain ⟨ij, _⟩ := at_drop (show toks.drop j = tokOf ")" :: tokOf ";" :: rest from hdj)
        rw [tok_self] at ij
        refine ⟨false, fun Kk hk => ?_, ifB (fun h => by cases h) (fun _ => hN _ _ ⟨j, hdj, by simpa using hj, ?_, rd, rfl⟩)⟩
        · walk_at "dl"
          refine do_now rd.cur ht ij ?_
          walk_at "dl"
          exact hk
        · rw [List.take_length] at hpl; exact hpl
      · obtain ⟨y, hy⟩ : ∃ y, vw[n0]? = some y := ⟨vw[n0], List.getElem?_eq_getElem (by omega)⟩
        obtain ⟨hv1, hv2⟩ := hv y (List.mem_of_getElem? hy)
        rw [pend_at hy] at hdj hj
        obtain ⟨w, r, ew, _, hw⟩ := vt_hd hv1
        have go : ∀ (j2 : Nat) (M2 : Mp), toks.drop j2 = y.2.map tokOf ++ ((pend (·.2) vw (n0 + 1)).map tokOf ++ (tokOf ")" :: tokOf ";" :: rest)) → j2 + y.2.length + (pend (·.2) vw (n0 + 1)).length = i + 5 + (pend (·.2) vw 0).length → M2 p = some (.lst ((vw.take n0).map fun y => Val.d y.1)) → Rd C_Cursor c R M j2 (k + 1) M2 →
            dDrop (dBL dAppend (dVar 4) (dCons (dCall (sp_rvalue C_Cursor) X0 (dCons (dVar 0) dNil)) dNil)) { nx := N', rt := Wk Q, bk := N, ct := N' } [some (.obj c), some (.str n), none, some (.str f), some (.obj p)] M2 := by
          intro j2 M2 e1 e2 e3 rd2
          have e4 : toks.drop (j2 + y.2.length) = (pend (·.2) vw (n0 + 1)).map tokOf ++ (tokOf ")" :: tokOf ";" :: rest) := by
            rw [← List.drop_drop, e1, List.drop_left' (by rw [List.length_map])]
          walk_at "dl"
          refine ⟨isLst_of e3, ?_⟩
          refine ⟨c, R, j2, _, toks, _, y.1, y.2, rfl, rd2.cur, ht, e1, ⟨hv1, by omega⟩, ?_⟩
          try dsimp only
          rw [e_append (by rw [pc]; exact e3)]
          refine ⟨by rw [List.length_map, List.length_take]; omega, hN' (vw.length - (n0 + 1)) _ _ (by omega) ⟨j2 + y.2.length, n0 + 1, rfl, by omega, e4, by omega, ?_, rd2.step.put hp hpc, rfl⟩⟩
          rw [updM_same, take_at hy, List.map_append] <;> rfl
        by_cases h0 : n0 = 0
        · rw [if_pos h0, List.nil_append] at hdj hj
          have e1 : toks.drop j = y.2.map tokOf ++ ((pend (·.2) vw (n0 + 1)).map tokOf ++ (tokOf ")" :: tokOf ";" :: rest)) := by rw [hdj]; simp
          rw [List.length_append] at hj
          have e5 : toks.drop j = tokOf w :: (r.map tokOf ++ ((pend (·.2) vw (n0 + 1)).map tokOf ++ (tokOf ")" :: tokOf ";" :: rest))) := by rw [e1, ew]; rfl
          obtain ⟨ij, _⟩ := at_drop e5
          refine ⟨true, fun Kk hk => ?_, ifB (fun _ => ?_) (fun h => by cases h)⟩
          · walk_at "dl"
            refine do_now (s := (tokOf w).1) (t := (tokOf w).2) rd.cur ht ij ?_
            walk_at "dl"
            rw [decide_eq_false hw]
            exact hk
          · refine seq_tail (fun σ M2 => M2 = M' ∧ σ = [some (.obj c), some (.str n), none, some (.str f), some (.obj p)]) ?_ (fun N2 hN2 => ?_)
            · rintro _ M2 ⟨e0, rfl⟩
              rw [e0]; clear e0 M2
              exact go j M' e1 (by omega) hpl rd
            · walk_at "dl"
              rw [tru_obj hpl]
              refine ⟨_, rfl, ifB (fun h => ?_) (fun _ => hN2 _ _ ⟨rfl, rfl⟩)⟩
              rw [h0, List.take_zero] at h
              exact absurd h (by decide)
        · rw [if_neg h0] at hdj hj
          have e1 : toks.drop j = tokOf "," :: (y.2.map tokOf ++ ((pend (·.2) vw (n0 + 1)).map tokOf ++ (tokOf ")" :: tokOf ";" :: rest))) := by rw [hdj]; simp
          rw [List.length_append, List.length_append, List.length_singleton] at hj
          obtain ⟨ij, dj⟩ := at_drop e1
          rw [tok_self] at ij
          refine ⟨true, fun Kk hk => ?_, ifB (fun _ => ?_) (fun h => by cases h)⟩
          · walk_at "dl"
            refine do_now rd.cur ht ij ?_
            walk_at "dl"
            rw [decide_eq_false (show ¬ ("," : Str) = ")" by decide +kernel)]
            exact hk
          · refine seq_tail (fun σ M2 => M2 p = some (.lst ((vw.take n0).map fun y => Val.d y.1)) ∧ Rd C_Cursor c R M (j + 1) (k + 1) M2 ∧ σ = [some (.obj c), some (.str n), none, some (.str f), some (.obj p)]) ?_ (fun N2 hN2 => ?_)
            · rintro _ M2 ⟨e3, rd2, rfl⟩
              exact go (j + 1) M2 dj (by omega) e3 rd2
            · walk_at "dl"
              rw [tru_obj hpl]
              refine ⟨_, rfl, ifB (fun _ => ?_) (fun h => ?_)⟩
              · refine do_take rd.cur ht ij ?_
                exact hN2 _ _ ⟨by rw [pc]; exact hpl, rd.step, rfl⟩
              · exfalso
                have hne : ((vw.take n0).map fun y => Val.d y.1) ≠ [] := by
                  cases vw with
                  | nil => cases hy
                  | cons y ys => cases n0 with
                    | zero => exact absurd rfl h0
                    | succ n => simp
                cases e : (vw.take n0).map fun y => Val.d y.1 with
                | nil => exact hne e
                | cons y ys => rw [e] at h; cases h
  · exact hx.elim
end
end K01
namespace K01
open PySem PySem.Spec L2 DL Syn Wr Lx Cu Rt Rv Rp
local macro_rules | `(tactic| walk_at "st") => `(tactic| simp only [start_def, List.map_cons, List.map_nil, List.length_cons, List.length_nil, List.cons_append, List.nil_append, Nat.zero_add, Nat.reduceAdd, Nat.reduceSub, List.replicate])
local macro_rules | `(tactic| walk_at "dl") => `(tactic| simp only [dSeq, dNext, dDrop, dRet, dRetF, dRetN, dIfS, dAsg, dAug, dPar, nGm, nTup, nCons, nNil, dVar, dC, dOp, dUn, dCons, dNil, dTup, dLst, dB, dTru, dAnd, dOr, dNot, dAndV, dOrV, dNotV, dIf, dChain, dCB, dCall, dSlE, dNoPart, dPart, dRev, dS0, dS1, dBL, dBL0, dIsi, dBreak, dCont, List.set_cons_zero, List.set_cons_succ, List.getElem?_cons_zero, List.getElem?_cons_succ, ifB_t, ifB_f, e_new_f, e_new_t, e_add_int, e_add_str, e_add_tup, e_add_lst, e_sub, e_mul, e_mul_str, e_mul_lst, e_div, e_mod, e_pow, e_neg, e_eq_int, e_eq_str, e_isN_non, e_isN_obj, e_isN_tup, e_isN_lst, e_lt_int, e_lt_str, e_le_int, e_le_str, e_gt, e_ge, e_in_str, e_t0, e_t1, e_t2, e_t3, e_t4, e_t5, e_l0, e_l1, e_l2, e_l3, e_sl_tup, e_sl_rdl, e_sl_str, e_sl_lst, e_len_str, e_len_lst, e_len_tup, e_int, e_tupC_tup, e_tupC_lst, e_iadd_int, e_iadd_str, e_isub, tru_bl, tru_int, tru_non, tru_lst, tru_tup, ex_some, bne_f, bne_t, e_nSub, cxK, e_fld, e_sfld, e_meth, lsD_lst, sz0, sz1, sz2, sz3, sz4, sz5, sz6, sz7, sz8, true_and])
section
variable {P : Program} {w : World} {K : PySem.W.Frag} {mg : Str → Option Value} {base : Heap}
variable {C_Cursor C_Rows : Addr}
def sp_rdeeds (C : Addr) : SpD := sp_rd C (List Deed) (fun xs => .tup (deedsD xs)) fun xs ws rest k => DsT 2 xs ws ∧ xs.length ≤ 50 ∧ k + 52 ≤ 60 ∧ ∃ x r, rest = x :: r ∧ x.1 ≠ "name" ∧ x.1 ≠ "if" ∧ x.1 ≠ "else"
theorem ok_read_deeds (T : Txt K mg) {f : Addr} {fd : FuncData} (F : FunD K "read_deeds" "read_deeds" (defArgs sread_deeds) (defBody sread_deeds) (defScope sread_deeds) [] [] f fd) (h_Cursor_now : Mth P w K mg base CX0 C_Cursor (1) "now" PCursor_now (sp_now C_Cursor)) (h_Cursor_take : Mth P w K mg base CX0 C_Cursor (2) "take" PCursor_take (sp_take C_Cursor)) (h_Cursor_enter : Mth P w K mg base CX0 C_Cursor (3) "enter" PCursor_enter (sp_enter C_Cursor)) (h_Cursor_leave : Mth P w K mg base CX0 C_Cursor (3) "leave" PCursor_leave (sp_leave C_Cursor)) (h_read_plain : Callee P w K mg base CX0 (7) "read_plain" Pread_plain (sp_rplain C_Cursor)) (h_read_test : Callee P w K mg base CX0 (5) "read_test" Pread_test (sp_rtest C_Cursor)) : FnOk P w K mg base CX0 (7 + 1) f fd Pread_deeds (LSp K ((sp_rdeeds C_Cursor))) := by
  refine fnD0 F scread_deeds (fun ds M Q E h => by first | (obtain ⟨rfl, _⟩ := h; rfl) | (obtain ⟨_, rfl, _⟩ := h; rfl) | (obtain ⟨_, _, rfl, _⟩ := h; rfl) | (obtain ⟨_, _, _, rfl, _⟩ := h; rfl) | (obtain ⟨_, _, _, _, rfl, _⟩ := h; rfl) | (obtain ⟨_, _, _, _, _, rfl, _⟩ := h; rfl) | (obtain ⟨_, _, _, _, _, _, rfl, _⟩ := h; rfl) | (obtain ⟨_, _, _, _, _, _, _, rfl, _⟩ := h; rfl) | (obtain ⟨_, _, _, _, _, _, _, _, rfl, _⟩ := h; rfl) | (obtain ⟨_, _, _, _, _, _, _, _, _, rfl, _⟩ := h; rfl) | (obtain ⟨_, _, _, _, _, _, _, _, _, _, rfl, _⟩ := h; rfl) | (obtain ⟨_, _, _, _, _, _, _, _, _, _, _, rfl, _⟩ := h; rfl) | (obtain ⟨_, _, _, _, _, _, _, _, _, _, _, _, rfl, _⟩ := h; rfl) | (obtain ⟨_, _, _, _, _, _, _, _, _, _, _, _, _, rfl, _⟩ := h; rfl) | (obtain ⟨_, _, _, _, _, _, _, _, _, _, _, _, _, _, rfl, _⟩ := h; rfl) | (obtain ⟨_, _, _, _, _, _, _, _, _, _, _, _, _, _, _, rfl, _⟩ := h; rfl) | (obtain ⟨_, _, _, _, _, _, _, _, _, _, _, _, _, _, _, _, rfl, _⟩ := h; rfl) | (obtain ⟨_, _, _, _, _, _, _, _, _, _, _, _, _, _, _, _, _, rfl, _⟩ := h; rfl) | (obtain ⟨_, _, _, _, _, _, _, _, _, _, _, _, _, _, _, _, _, _, rfl, _⟩ := h; rfl) | (obtain ⟨_, _, _, _, _, _, _, _, _, _, _, _, _, _, _, _, _, _, _, rfl, _⟩ := h; rfl)) fun cdv A outer s H E F0 hr => ⟨_, (dss_cons (ds_set (i := 1) scread_deeds.nd rfl (Or.inl rfl) (de_lst (own := true) da_nil))
      (dss_cons (ds_set (i := 2) scread_deeds.nd rfl (Or.inl rfl) (de_lst (own := true) da_nil))
      (dss_one (ds_while PassesOwn.never (dt_tru de_bl) (dss_cons (ds_set (i := 3) scread_deeds.nd rfl (Or.inl rfl) (de_mt0 h_Cursor_now (hr.mono (by omega)) pass0 finX0 (de_var (pv 0))))
      (dss_one (ds_if (dt_cmp (od_eq hr.units) (de_var (pv 3)) de_str (nomark _)) (dss_one (ds_expr (de_bl1 PySem.F.slot_list_append PySem.F.type_list_append md_append (de_var (pv 2)) (da_cons (de_fn h_read_plain (hr.mono (by omega)) rfl pass0 finX0 (da_cons (de_var (pv 0)) da_nil)) da_nil)))) (dss_one (ds_if (dt_cmp (od_eq hr.units) (de_var (pv 3)) de_str (nomark _)) (dss_cons (ds_expr (de_mt h_Cursor_take (hr.mono (by omega)) pass0 finX0 (de_var (pv 0)) (da_cons de_str da_nil)))
      (dss_cons (ds_set (i := 4) scread_deeds.nd rfl (Or.inl rfl) (de_fn h_read_test (hr.mono (by omega)) rfl pass0 finX0 (da_cons (de_var (pv 0)) da_nil)))
      (dss_cons (ds_expr (de_mt h_Cursor_enter (hr.mono (by omega)) pass0 finX0 (de_var (pv 0)) (da_cons de_str da_nil)))
      (dss_cons (ds_expr (de_bl1 PySem.F.slot_list_append PySem.F.type_list_append md_append (de_var (pv 1)) (da_cons (de_tup (da_cons (de_var (pv 2)) (da_cons (de_var (pv 4)) (da_cons de_non da_nil)))) da_nil)))
      (dss_one (ds_set (i := 2) scread_deeds.nd rfl (Or.inl rfl) (de_lst (own := true) da_nil))))))) (dss_one (ds_if (dt_not (dt_tru (de_var (pv 1)))) (dss_one (ds_ret (de_callTy cd_tuple rfl T.tuple (by decide +kernel) (da_cons (de_var (pv 2)) da_nil)))) (dss_cons (ds_expr (de_mt h_Cursor_leave (hr.mono (by omega)) pass0 finX0 (de_var (pv 0)) (da_cons de_str da_nil)))
      (dss_cons (ds_asg (de_bl0 PySem.F.slot_list_pop PySem.F.type_list_pop md_pop (de_var (pv 1))) (dg_tup rfl (dgs_cons (dg_name (pg_name (i := 5) scread_deeds.nd rfl (Or.inl rfl))) (dgs_cons (dg_name (pg_name (i := 4) scread_deeds.nd rfl (Or.inl rfl))) (dgs_cons (dg_name (pg_name (i := 6) scread_deeds.nd rfl (Or.inl rfl))) dgs_nil)))))
      (dss_one (ds_if (dt_w (dw_and (dt_cmp od_isN (de_var (pv 6)) de_non (nomark _)) (dw_and1 (dt_cmp (od_eq hr.units) (de_mt0 h_Cursor_now (hr.mono (by omega)) pass0 finX0 (de_var (pv 0))) de_str (nomark _))))) (dss_cons (ds_expr (de_mt h_Cursor_take (hr.mono (by omega)) pass0 finX0 (de_var (pv 0)) (da_cons de_str da_nil)))
      (dss_cons (ds_expr (de_mt h_Cursor_enter (hr.mono (by omega)) pass0 finX0 (de_var (pv 0)) (da_cons de_str da_nil)))
      (dss_cons (ds_expr (de_bl1 PySem.F.slot_list_append PySem.F.type_list_append md_append (de_var (pv 1)) (da_cons (de_tup (da_cons (de_var (pv 5)) (da_cons (de_var (pv 4)) (da_cons (de_callTy cd_tuple rfl T.tuple (by decide +kernel) (da_cons (de_var (pv 2)) da_nil)) da_nil)))) da_nil)))
      (dss_one (ds_set (i := 2) scread_deeds.nd rfl (Or.inl rfl) (de_lst (own := true) da_nil)))))) (dss_cons (ds_set (i := 7) scread_deeds.nd rfl (Or.inl rfl) (de_if (dt_cmp od_isN (de_var (pv 6)) de_non (nomark _)) (de_tup (da_cons (de_callTy cd_tuple rfl T.tuple (by decide +kernel) (da_cons (de_var (pv 2)) da_nil)) (da_cons (de_tup da_nil) da_nil))) (de_tup (da_cons (de_var (pv 6)) (da_cons (de_callTy cd_tuple rfl T.tuple (by decide +kernel) (da_cons (de_var (pv 2)) da_nil)) da_nil)))))
      (dss_cons (ds_expr (de_bl1 PySem.F.slot_list_append PySem.F.type_list_append md_append (de_var (pv 5)) (da_cons (de_tup (da_cons de_str (da_cons (de_var (pv 4)) (da_cons (de_ix (de_var (pv 7)) de_int (fun _ _ => rfl)) (da_cons (de_ix (de_var (pv 7)) de_int (fun _ _ => rfl)) da_nil))))) da_nil)))
      (dss_one (ds_set (i := 2) scread_deeds.nd rfl (Or.inl rfl) (de_var (pv 5))))))))))))))))))))), fun ds M Q Ex h => ?_⟩
  obtain ⟨c, R, i0, k, toks, rest, xs0, ws0, rfl, hM, ht, hd0, ⟨hv0, hl0, hk, hrest⟩, q⟩ := h
  walk_at "st"
  have hs : sizeLine = 16777216 := sizeLine_eq
  have run0 := drun_all hv0 hl0
  have hrest2 : ∃ x r, rest = x :: r ∧ x.1 ≠ "else" := by
    obtain ⟨x, r, e, _, _, h⟩ := hrest
    exact ⟨x, r, e, h⟩
  refine seq_tail (fun σ M' => ∃ pl, M pl = none ∧ M' = updM M pl (.lst []) ∧ σ = [some (.obj c), some (.obj pl), none, none, none, none, none, none]) ?_ (fun N hN => by walk_at "dl"; exact fun p hp => hN _ _ ⟨p, hp, rfl, rfl⟩)
  rintro _ M0 ⟨pl, hpl, e0, rfl⟩
  rw [e0]; clear e0 M0
  refine seq_tail (fun σ M' => ∃ a, SI C_Cursor c pl R M i0 k a [] [] M' ∧ σ = [some (.obj c), some (.obj pl), some (.obj a), none, none, none, none, none]) ?_ (fun N hN => by walk_at "dl"; exact fun p hp => hN _ _ ⟨p, .start hM hpl hp, rfl⟩)
  rintro _ M1 ⟨a, I, rfl⟩
  refine while_two (fun m σ M' => ∃ (i : Nat) (a : Addr) (xs : List Deed) (sa : List (Addr × Fd)) (ws : List Str) (j3 j4 j5 j6 j7 : Option D), m = ws.length ∧ SI C_Cursor c pl R M i (k + sa.length) a (deedsD xs) (sa.map fdD) M' ∧ toks.drop i = ws.map tokOf ++ rest ∧ DRun xs0 xs (sa.map (·.2)) ws ∧ sa.length ≤ 2 ∧ i + ws.length = i0 + ws0.length ∧ σ = [some (.obj c), some (.obj pl), some (.obj a), j3, j4, j5, j6, j7]) _ ⟨i0, a, [], [], ws0, none, none, none, none, none, rfl, by rw [deedsD]; exact I, hd0, run0, Nat.zero_le _, rfl, rfl⟩ ?_
  clear I
  rintro m σ M' N' ⟨i, a, xs, sa, ws, j3, j4, j5, j6, j7, rfl, I, hd, run, hsa, hi, rfl⟩ hN'
  refine ⟨true, fun Kk hk => by walk_at "dl"; exact hk, ifB (fun _ => ?_) (fun h => by cases h)⟩
  obtain ⟨s, hse⟩ : ∃ s, s = sa.map (·.2) := ⟨_, rfl⟩
  rw [← hse] at run
  cases run with
  | fin =>
    have : sa = [] := by
      cases sa with
      | nil => rfl
      | cons _ _ => cases hse
    subst this
    obtain ⟨x, r, rfl, n1, n2, _⟩ := hrest
    have hi0 := (at_drop (show toks.drop i = (x.1, x.2) :: r from hd)).1
    walk_at "dl"
    refine do_now I.rd.cur ht hi0 ?_
    walk_at "dl"
    refine ifB (fun h => absurd (of_decide_eq_true h) n1) (fun _ => ?_)
    refine ifB (fun h => absurd (of_decide_eq_true h) n2) (fun _ => ?_)
    rw [tru_obj I.lst]
    refine ⟨_, rfl, ifB (fun _ => ?_) (fun h => absurd h (by decide))⟩
    rw [e_tupC_obj I.cur]
    refine I.rd.wk ?_
    rw [List.length_nil] at hi
    rw [show i = i0 + ws0.length by omega]
    exact q
  | @plain _ x _ wx ws hxl hx run =>
    obtain ⟨n, r, ewx, en⟩ := plain_hd hx
    have hd' : toks.drop i = wx.map tokOf ++ (ws.map tokOf ++ rest) := by rw [hd]; simp
    have hi0 := (at_drop (show toks.drop i = (("name" : Str), n) :: (r.map tokOf ++ (ws.map tokOf ++ rest)) by rw [hd', ewx, List.map_cons, en]; rfl)).1
    have d1 : toks.drop (i + wx.length) = ws.map tokOf ++ rest := by
      rw [← List.drop_drop, hd', List.drop_left' (by rw [List.length_map])]
    have hw1 : 1 ≤ wx.length := by rw [ewx]; simp
    rw [List.length_append] at hi
    rw [hse] at run
    walk_at "dl"
    refine do_now I.rd.cur ht hi0 ?_
    walk_at "dl"
    refine ifB (fun _ => ?_) (fun h => absurd h (by decide))
    refine ⟨isLst_of I.cur, c, R, i, _, toks, _, x, wx, rfl, I.rd.cur, ht, hd', ⟨hx, by omega⟩, ?_⟩
    have I2 := I.step (i' := i + wx.length) (k' := k + sa.length)
    try dsimp only
    rw [e_append I2.cur]
    refine ⟨by rw [deedsD_len]; omega, hN' ws.length _ _ (by rw [List.length_append]; omega) ⟨i + wx.length, a, xs ++ [x], sa, ws, _, _, _, _, _, rfl, ?_, d1, run, hsa, by omega, rfl⟩⟩
    rw [deedsD_snoc]
    exact I2.app
  | @if_ _ _ t wt ws h1 h2 h3 h4 run =>
    have hd' : toks.drop i = tokOf "if" :: (wt.map tokOf ++ (tokOf "{" :: (ws.map tokOf ++ rest))) := by rw [hd]; simp
    obtain ⟨hi0, hd1⟩ := at_drop hd'
    rw [tok_self] at hi0
    have hd2 : toks.drop (i + 1 + wt.length) = tokOf "{" :: (ws.map tokOf ++ rest) := by
      rw [← List.drop_drop, hd1, List.drop_left' (by rw [List.length_map])]
    obtain ⟨hi2, hd3⟩ := at_drop hd2
    rw [tok_self] at hi2
    rw [List.length_cons, List.length_append, List.length_cons] at hi
    rw [hse, List.length_map] at h4
    rw [hse] at run
    walk_at "dl"
    refine do_now I.rd.cur ht hi0 ?_
    walk_at "dl"
    refine ifB (fun h => absurd h (by decide +kernel)) (fun _ => ?_)
    refine ifB (fun _ => ?_) (fun h => absurd h (by decide))
    refine do_take I.rd.cur ht hi0 ?_
    refine ⟨c, R, i + 1, k + sa.length, toks, _, t, wt, rfl, updM_same, ht, hd1, ⟨h1, h2, by omega, _, _, rfl, by rw [tok_self]; dsimp only; decide +kernel, by rw [tok_self]; dsimp only; decide +kernel⟩, ?_⟩
    rw [updM_updM]
    refine do_enter updM_same ht hi2 (by omega) ?_
    rw [updM_updM]
    have I2 := I.step (i' := i + 1 + wt.length + 1) (k' := k + sa.length + 1)
    refine ⟨isLst_of I2.lst, ?_⟩
    try dsimp only
    rw [e_append I2.lst]
    refine ⟨by simp only [List.length_reverse, List.length_map]; omega, fun b hb => ?_⟩
    refine hN' ws.length _ _ (by rw [List.length_cons, List.length_append, List.length_cons]; omega) ⟨_, b, [], (a, xs, t, none) :: sa, ws, _, _, _, _, _, rfl, ?_, hd3, run, by rw [List.length_cons]; omega, by omega, rfl⟩
    rw [deedsD, List.length_cons]
    exact I2.push rfl hb
  | @else_ _ o s t ws run =>
    obtain ⟨b, sa, rfl, rfl⟩ : ∃ b sa', sa = (b, o, t, none) :: sa' ∧ s = sa'.map (·.2) := by
      cases sa with
      | nil => cases hse
      | cons e sa' =>
        obtain ⟨b, f⟩ := e
        cases hse
        exact ⟨b, sa', rfl, rfl⟩
    have hd' : toks.drop i = tokOf "}" :: tokOf "else" :: tokOf "{" :: (ws.map tokOf ++ rest) := hd
    obtain ⟨i1, d1⟩ := at_drop hd'
    obtain ⟨i2, d2⟩ := at_drop d1
    obtain ⟨i3, d3⟩ := at_drop d2
    rw [tok_self] at i1 i2 i3
    simp only [List.length_cons] at hi hsa I
    have hl := I.lst
    rw [List.map_cons, List.map_cons, List.reverse_cons] at hl
    obtain ⟨wa, wc, wp⟩ := I.was
    have I2 := I.step (i' := i + 1) (k' := k + sa.length)
    have I3 := I2.pop
    have I4 := I3.step (i' := i + 1 + 1 + 1) (k' := k + sa.length + 1)
    walk_at "dl"
    refine do_now I.rd.cur ht i1 ?_
    walk_at "dl"
    refine ifB (fun h => absurd h (by decide +kernel)) (fun _ => ?_)
    refine ifB (fun h => absurd h (by decide +kernel)) (fun _ => ?_)
    rw [tru_obj I.lst]
    refine ⟨_, rfl, ifB (fun h => by simp at h) (fun _ => ?_)⟩
    refine do_leave (k := k + sa.length) I.rd.cur ht i1 ?_
    have hl2 := hl
    rw [← I.pc (M2 := M') (o := .ins C_Cursor (cf R (i + 1) (k + sa.length)))] at hl2
    refine ⟨isLst_of hl2, ?_⟩
    try dsimp only
    rw [e_pop hl2]
    rw [show (fdD (b, o, t, none)).2.2 = .tup [.obj b, t.d, .non] from rfl]
    refine ⟨rfl, rfl, ?_⟩
    walk_at "dl"
    refine do_now I3.rd.cur ht i2 ?_
    walk_at "dl"
    refine ifB (fun _ => ?_) (fun h => absurd h (by decide))
    refine do_take I3.rd.cur ht i2 ?_
    refine do_enter updM_same ht i3 (by omega) ?_
    rw [updM_updM]
    refine ⟨isLst_of I4.lst, ?_⟩
    rw [e_tupC_obj (ds := deedsD xs) (by rw [updM_ne wc, updM_ne wp, updM_ne wc]; exact wa)]
    rw [e_append I4.lst]
    refine ⟨by simp only [List.length_reverse, List.length_map]; omega, fun b2 hb => ?_⟩
    refine hN' ws.length _ _ (by simp only [List.length_cons]; omega) ⟨_, b2, [], (b, o, t, some xs) :: sa, ws, _, _, _, _, _, rfl, ?_, d3, run, by rw [List.length_cons]; omega, by omega, rfl⟩
    rw [deedsD, List.length_cons]
    exact I4.push rfl hb
  | @close1 _ o s t ws hol run =>
    obtain ⟨b, sa, rfl, rfl⟩ : ∃ b sa', sa = (b, o, t, none) :: sa' ∧ s = sa'.map (·.2) := by
      cases sa with
      | nil => cases hse
      | cons e sa' =>
        obtain ⟨b, f⟩ := e
        cases hse
        exact ⟨b, sa', rfl, rfl⟩
    obtain ⟨u, r, eu, nu⟩ := run.hd hrest2
    have hd' : toks.drop i = tokOf "}" :: (ws.map tokOf ++ rest) := hd
    obtain ⟨i1, d1⟩ := at_drop hd'
    have d1' := d1
    rw [eu] at d1'
    obtain ⟨i2, _⟩ := at_drop (show toks.drop (i + 1) = (u.1, u.2) :: r from d1')
    rw [tok_self] at i1
    simp only [List.length_cons] at hi hsa I
    have hl := I.lst
    rw [List.map_cons, List.map_cons, List.reverse_cons] at hl
    obtain ⟨wa, wc, wp⟩ := I.was
    have I2 := I.step (i' := i + 1) (k' := k + sa.length)
    have I3 := I2.pop
    walk_at "dl"
    refine do_now I.rd.cur ht i1 ?_
    walk_at "dl"
    refine ifB (fun h => absurd h (by decide +kernel)) (fun _ => ?_)
    refine ifB (fun h => absurd h (by decide +kernel)) (fun _ => ?_)
    rw [tru_obj I.lst]
    refine ⟨_, rfl, ifB (fun h => by simp at h) (fun _ => ?_)⟩
    refine do_leave (k := k + sa.length) I.rd.cur ht i1 ?_
    have hl2 := hl
    rw [← I.pc (M2 := M') (o := .ins C_Cursor (cf R (i + 1) (k + sa.length)))] at hl2
    refine ⟨isLst_of hl2, ?_⟩
    try dsimp only
    rw [e_pop hl2]
    rw [show (fdD (b, o, t, none)).2.2 = .tup [.obj b, t.d, .non] from rfl]
    refine ⟨rfl, rfl, ?_⟩
    walk_at "dl"
    refine do_now I3.rd.cur ht i2 ?_
    walk_at "dl"
    refine ifB (fun h => absurd (of_decide_eq_true h) nu) (fun _ => ?_)
    rw [e_tupC_obj (ds := deedsD xs) (by rw [updM_ne wp, updM_ne wc]; exact wa)]
    refine ⟨isLst_of I3.cur, ?_⟩
    rw [e_append I3.cur]
    refine ⟨by simp only [deedsD_len, fdD]; omega, ?_⟩
    refine hN' ws.length _ _ (by simp only [List.length_cons]; omega) ⟨_, b, o ++ [.ite t xs []], sa, ws, _, _, _, _, _, rfl, ?_, d1, run, by omega, by omega, rfl⟩
    rw [deedsD_snoc, Deed.d]
    exact I3.app
  | @close2 _ o f s t ws hol run =>
    obtain ⟨b, sa, rfl, rfl⟩ : ∃ b sa', sa = (b, o, t, some f) :: sa' ∧ s = sa'.map (·.2) := by
      cases sa with
      | nil => cases hse
      | cons e sa' =>
        obtain ⟨b, g⟩ := e
        cases hse
        exact ⟨b, sa', rfl, rfl⟩
    have hd' : toks.drop i = tokOf "}" :: (ws.map tokOf ++ rest) := hd
    obtain ⟨i1, d1⟩ := at_drop hd'
    rw [tok_self] at i1
    simp only [List.length_cons] at hi hsa I
    have hl := I.lst
    rw [List.map_cons, List.map_cons, List.reverse_cons] at hl
    obtain ⟨wa, wc, wp⟩ := I.was
    have I2 := I.step (i' := i + 1) (k' := k + sa.length)
    have I3 := I2.pop
    walk_at "dl"
    refine do_now I.rd.cur ht i1 ?_
    walk_at "dl"
    refine ifB (fun h => absurd h (by decide +kernel)) (fun _ => ?_)
    refine ifB (fun h => absurd h (by decide +kernel)) (fun _ => ?_)
    rw [tru_obj I.lst]
    refine ⟨_, rfl, ifB (fun h => by simp at h) (fun _ => ?_)⟩
    refine do_leave (k := k + sa.length) I.rd.cur ht i1 ?_
    have hl2 := hl
    rw [← I.pc (M2 := M') (o := .ins C_Cursor (cf R (i + 1) (k + sa.length)))] at hl2
    refine ⟨isLst_of hl2, ?_⟩
    try dsimp only
    rw [e_pop hl2]
    rw [show (fdD (b, o, t, some f)).2.2 = .tup [.obj b, t.d, .tup (deedsD f)] from rfl]
    refine ⟨rfl, rfl, ?_⟩
    walk_at "dl"
    rw [e_tupC_obj (ds := deedsD xs) (by rw [updM_ne wp, updM_ne wc]; exact wa)]
    refine ⟨isLst_of I3.cur, ?_⟩
    rw [e_append I3.cur]
    refine ⟨by simp only [deedsD_len, fdD]; omega, ?_⟩
    refine hN' ws.length _ _ (by simp only [List.length_cons]; omega) ⟨_, b, o ++ [.ite t f xs], sa, ws, _, _, _, _, _, rfl, ?_, d1, run, by omega, by omega, rfl⟩
    rw [deedsD_snoc, Deed.d]
    exact I3.app
end
end K01
namespace K01
open PySem PySem.Spec L2 DL Syn Wr Lx Cu Rt Rv Rp
local macro_rules | `(tactic| walk_at "st") => `(tactic| simp only [start_def, List.map_cons, List.map_nil, List.length_cons, List.length_nil, List.cons_append, List.nil_append, Nat.zero_add, Nat.reduceAdd, Nat.reduceSub, List.replicate])
local macro_rules | `(tactic| walk_at "dl") => `(tactic| simp only [dSeq, dNext, dDrop, dRet, dRetF, dRetN, dIfS, dAsg, dAug, dPar, nGm, nTup, nCons, nNil, dVar, dC, dOp, dUn, dCons, dNil, dTup, dLst, dB, dTru, dAnd, dOr, dNot, dAndV, dOrV, dNotV, dIf, dChain, dCB, dCall, dSlE, dNoPart, dPart, dRev, dS0, dS1, dBL, dBL0, dIsi, dBreak, dCont, List.set_cons_zero, List.set_cons_succ, List.getElem?_cons_zero, List.getElem?_cons_succ, ifB_t, ifB_f, e_new_f, e_new_t, e_add_int, e_add_str, e_add_tup, e_add_lst, e_sub, e_mul, e_mul_str, e_mul_lst, e_div, e_mod, e_pow, e_neg, e_eq_int, e_eq_str, e_isN_non, e_isN_obj, e_isN_tup, e_isN_lst, e_lt_int, e_lt_str, e_le_int, e_le_str, e_gt, e_ge, e_in_str, e_t0, e_t1, e_t2, e_t3, e_t4, e_t5, e_l0, e_l1, e_l2, e_l3, e_sl_tup, e_sl_rdl, e_sl_str, e_sl_lst, e_len_str, e_len_lst, e_len_tup, e_int, e_tupC_tup, e_tupC_lst, e_iadd_int, e_iadd_str, e_isub, tru_bl, tru_int, tru_non, tru_lst, tru_tup, ex_some, bne_f, bne_t, e_nSub, cxK, e_fld, e_sfld, e_meth, lsD_lst, sz0, sz1, sz2, sz3, sz4, sz5, sz6, sz7, sz8, true_and])
section
variable {P : Program} {w : World} {K : PySem.W.Frag} {mg : Str → Option Value} {base : Heap}
variable {C_Cursor C_Rows : Addr}
theorem drop_add {toks rest : List (Str × Str)} {ws : List Str} {i : Nat} (h : toks.drop i = ws.map tokOf ++ rest) : toks.drop (i + ws.length) = rest := by
  rw [← List.drop_drop, h, List.drop_left' (by rw [List.length_map])]
def sp_ract (C : Addr) : SpD := sp_rd C Part Part.d fun x ws _ k => ActT x ws ∧ k + 53 ≤ 60
theorem ok_read_act (T : Txt K mg) {f : Addr} {fd : FuncData} (F : FunD K "read_act" "read_act" (defArgs sread_act) (defBody sread_act) (defScope sread_act) [] [] f fd) (h_Cursor_take : Mth P w K mg base CX0 C_Cursor (2) "take" PCursor_take (sp_take C_Cursor)) (h_Cursor_enter : Mth P w K mg base CX0 C_Cursor (3) "enter" PCursor_enter (sp_enter C_Cursor)) (h_Cursor_leave : Mth P w K mg base CX0 C_Cursor (3) "leave" PCursor_leave (sp_leave C_Cursor)) (h_read_givens : Callee P w K mg base CX0 (4) "read_givens" Pread_givens (sp_rgivens C_Cursor)) (h_read_deeds : Callee P w K mg base CX0 (8) "read_deeds" Pread_deeds (sp_rdeeds C_Cursor)) (h_read_value : Callee P w K mg base CX0 (6) "read_value" Pread_value (sp_rvalue C_Cursor)) : FnOk P w K mg base CX0 (8 + 1) f fd Pread_act (LSp K ((sp_ract C_Cursor))) := by
  refine fnD0 F scread_act (fun ds M Q E h => by first | (obtain ⟨rfl, _⟩ := h; rfl) | (obtain ⟨_, rfl, _⟩ := h; rfl) | (obtain ⟨_, _, rfl, _⟩ := h; rfl) | (obtain ⟨_, _, _, rfl, _⟩ := h; rfl) | (obtain ⟨_, _, _, _, rfl, _⟩ := h; rfl) | (obtain ⟨_, _, _, _, _, rfl, _⟩ := h; rfl) | (obtain ⟨_, _, _, _, _, _, rfl, _⟩ := h; rfl) | (obtain ⟨_, _, _, _, _, _, _, rfl, _⟩ := h; rfl) | (obtain ⟨_, _, _, _, _, _, _, _, rfl, _⟩ := h; rfl) | (obtain ⟨_, _, _, _, _, _, _, _, _, rfl, _⟩ := h; rfl) | (obtain ⟨_, _, _, _, _, _, _, _, _, _, rfl, _⟩ := h; rfl) | (obtain ⟨_, _, _, _, _, _, _, _, _, _, _, rfl, _⟩ := h; rfl) | (obtain ⟨_, _, _, _, _, _, _, _, _, _, _, _, rfl, _⟩ := h; rfl) | (obtain ⟨_, _, _, _, _, _, _, _, _, _, _, _, _, rfl, _⟩ := h; rfl) | (obtain ⟨_, _, _, _, _, _, _, _, _, _, _, _, _, _, rfl, _⟩ := h; rfl) | (obtain ⟨_, _, _, _, _, _, _, _, _, _, _, _, _, _, _, rfl, _⟩ := h; rfl) | (obtain ⟨_, _, _, _, _, _, _, _, _, _, _, _, _, _, _, _, rfl, _⟩ := h; rfl) | (obtain ⟨_, _, _, _, _, _, _, _, _, _, _, _, _, _, _, _, _, rfl, _⟩ := h; rfl) | (obtain ⟨_, _, _, _, _, _, _, _, _, _, _, _, _, _, _, _, _, _, rfl, _⟩ := h; rfl) | (obtain ⟨_, _, _, _, _, _, _, _, _, _, _, _, _, _, _, _, _, _, _, rfl, _⟩ := h; rfl)) fun cdv A outer s H E F0 hr => ⟨_, (dss_cons (ds_expr (de_mt h_Cursor_take (hr.mono (by omega)) pass0 finX0 (de_var (pv 0)) (da_cons de_str da_nil)))
      (dss_cons (ds_set (i := 1) scread_act.nd rfl (Or.inl rfl) (de_mt h_Cursor_take (hr.mono (by omega)) pass0 finX0 (de_var (pv 0)) (da_cons de_str da_nil)))
      (dss_cons (ds_set (i := 2) scread_act.nd rfl (Or.inl rfl) (de_fn h_read_givens (hr.mono (by omega)) rfl pass0 finX0 (da_cons (de_var (pv 0)) da_nil)))
      (dss_cons (ds_expr (de_mt h_Cursor_take (hr.mono (by omega)) pass0 finX0 (de_var (pv 0)) (da_cons de_str da_nil)))
      (dss_cons (ds_set (i := 3) scread_act.nd rfl (Or.inl rfl) (de_mt h_Cursor_take (hr.mono (by omega)) pass0 finX0 (de_var (pv 0)) (da_cons de_str da_nil)))
      (dss_cons (ds_expr (de_mt h_Cursor_enter (hr.mono (by omega)) pass0 finX0 (de_var (pv 0)) (da_cons de_str da_nil)))
      (dss_cons (ds_set (i := 4) scread_act.nd rfl (Or.inl rfl) (de_fn h_read_deeds (hr.mono (by omega)) rfl pass0 finX0 (da_cons (de_var (pv 0)) da_nil)))
      (dss_cons (ds_expr (de_mt h_Cursor_take (hr.mono (by omega)) pass0 finX0 (de_var (pv 0)) (da_cons de_str da_nil)))
      (dss_cons (ds_set (i := 5) scread_act.nd rfl (Or.inl rfl) (de_fn h_read_value (hr.mono (by omega)) rfl pass0 finX0 (da_cons (de_var (pv 0)) da_nil)))
      (dss_cons (ds_expr (de_mt h_Cursor_take (hr.mono (by omega)) pass0 finX0 (de_var (pv 0)) (da_cons de_str da_nil)))
      (dss_cons (ds_expr (de_mt h_Cursor_leave (hr.mono (by omega)) pass0 finX0 (de_var (pv 0)) (da_cons de_str da_nil)))
      (dss_one (ds_ret (de_tup (da_cons de_str (da_cons (de_var (pv 1)) (da_cons (de_var (pv 2)) (da_cons (de_var (pv 3)) (da_cons (de_var (pv 4)) (da_cons (de_var (pv 5)) da_nil)))))))))))))))))))), fun ds M Q Ex h => ?_⟩
  obtain ⟨c, R, i, k, toks, rest, x, ws, rfl, hM, ht, hd, ⟨hx, hk⟩, q⟩ := h
  walk_at "st"
  have hs : sizeLine = 16777216 := sizeLine_eq
  rcases x with ⟨n, gs, vs, ps⟩ | ⟨n, gs, kd, ds, v⟩
  · exact hx.elim
  obtain ⟨wd, wv, h1, h2, h3, h4, h5, h6, h7, h8, rfl⟩ := hx
  have hd' : toks.drop i = tokOf "act" :: tokOf n :: ((givW gs).map tokOf ++ (tokOf ":" :: tokOf kd :: tokOf "{" :: (wd.map tokOf ++ (tokOf "answer" :: (wv.map tokOf ++ (tokOf ";" :: tokOf "}" :: rest)))))) := by rw [hd]; simp
  obtain ⟨i1, d1⟩ := at_drop hd'
  obtain ⟨i2, d2⟩ := at_drop d1
  have d3 := drop_add d2
  obtain ⟨i3, d4⟩ := at_drop d3
  obtain ⟨i4, d5⟩ := at_drop d4
  obtain ⟨i5, d6⟩ := at_drop d5
  have d7 := drop_add d6
  obtain ⟨i6, d8⟩ := at_drop d7
  have d9 := drop_add d8
  obtain ⟨i7, d10⟩ := at_drop d9
  obtain ⟨i8, _⟩ := at_drop d10
  rw [tok_name h1] at i2
  rw [tok_name h4] at i4
  rw [tok_self] at i1 i3 i5 i6 i7 i8
  walk_at "dl"
  refine do_take hM ht i1 ?_
  refine do_take updM_same ht i2 ?_
  rw [updM_updM]
  refine ⟨c, R, _, _, toks, _, gs, givW gs, rfl, updM_same, ht, d2, ⟨h2, h3, rfl, by omega⟩, ?_⟩
  rw [updM_updM]
  refine do_take updM_same ht i3 ?_
  rw [updM_updM]
  refine do_take updM_same ht i4 ?_
  rw [updM_updM]
  refine do_enter updM_same ht i5 (by omega) ?_
  rw [updM_updM]
  refine ⟨c, R, _, _, toks, _, ds, wd, rfl, updM_same, ht, d6, ⟨h5, h6, by omega, _, _, rfl, by rw [tok_self]; dsimp only; decide +kernel, by rw [tok_self]; dsimp only; decide +kernel, by rw [tok_self]; dsimp only; decide +kernel⟩, ?_⟩
  rw [updM_updM]
  refine do_take updM_same ht i6 ?_
  rw [updM_updM]
  refine ⟨c, R, _, _, toks, _, v, wv, rfl, updM_same, ht, d8, ⟨h7, by omega⟩, ?_⟩
  rw [updM_updM]
  refine do_take updM_same ht i7 ?_
  rw [updM_updM]
  refine do_leave updM_same ht i8 ?_
  rw [updM_updM]
  refine Wk.here ?_
  rw [Part.d] at q
  have e : (("act" : Str) :: n :: (givW gs ++ (":" : Str) :: kd :: ("{" : Str) :: (wd ++ ("answer" : Str) :: (wv ++ [(";" : Str), ("}" : Str)])))).length = 1 + 1 + (givW gs).length + 1 + 1 + 1 + wd.length + 1 + wv.length + 1 + 1 := by simp; omega
  rw [e] at q
  rw [show i + 1 + 1 + (givW gs).length + 1 + 1 + 1 + wd.length + 1 + wv.length + 1 + 1 = i + (1 + 1 + (givW gs).length + 1 + 1 + 1 + wd.length + 1 + wv.length + 1 + 1) by omega]
  exact q
def sp_rparts (C : Addr) : SpD := sp_rd C (List Part) (fun xs => .tup (partsD xs)) fun xs ws rest k => PsT 3 xs ws ∧ xs.length ≤ 50 ∧ k + 56 ≤ 60 ∧ ∃ u r, rest = (("end" : Str), u) :: r
theorem ok_read_parts (T : Txt K mg) {f : Addr} {fd : FuncData} (F : FunD K "read_parts" "read_parts" (defArgs sread_parts) (defBody sread_parts) (defScope sread_parts) [] [] f fd) (h_Cursor_now : Mth P w K mg base CX0 C_Cursor (1) "now" PCursor_now (sp_now C_Cursor)) (h_Cursor_take : Mth P w K mg base CX0 C_Cursor (2) "take" PCursor_take (sp_take C_Cursor)) (h_Cursor_enter : Mth P w K mg base CX0 C_Cursor (3) "enter" PCursor_enter (sp_enter C_Cursor)) (h_Cursor_leave : Mth P w K mg base CX0 C_Cursor (3) "leave" PCursor_leave (sp_leave C_Cursor)) (h_read_givens : Callee P w K mg base CX0 (4) "read_givens" Pread_givens (sp_rgivens C_Cursor)) (h_read_vars : Callee P w K mg base CX0 (7) "read_vars" Pread_vars (sp_rvars C_Cursor)) (h_read_act : Callee P w K mg base CX0 (9) "read_act" Pread_act (sp_ract C_Cursor)) : FnOk P w K mg base CX0 (9 + 1) f fd Pread_parts (LSp K ((sp_rparts C_Cursor))) := by
  refine fnD0 F scread_parts (fun ds M Q E h => by first | (obtain ⟨rfl, _⟩ := h; rfl) | (obtain ⟨_, rfl, _⟩ := h; rfl) | (obtain ⟨_, _, rfl, _⟩ := h; rfl) | (obtain ⟨_, _, _, rfl, _⟩ := h; rfl) | (obtain ⟨_, _, _, _, rfl, _⟩ := h; rfl) | (obtain ⟨_, _, _, _, _, rfl, _⟩ := h; rfl) | (obtain ⟨_, _, _, _, _, _, rfl, _⟩ := h; rfl) | (obtain ⟨_, _, _, _, _, _, _, rfl, _⟩ := h; rfl) | (obtain ⟨_, _, _, _, _, _, _, _, rfl, _⟩ := h; rfl) | (obtain ⟨_, _, _, _, _, _, _, _, _, rfl, _⟩ := h; rfl) | (obtain ⟨_, _, _, _, _, _, _, _, _, _, rfl, _⟩ := h; rfl) | (obtain ⟨_, _, _, _, _, _, _, _, _, _, _, rfl, _⟩ := h; rfl) | (obtain ⟨_, _, _, _, _, _, _, _, _, _, _, _, rfl, _⟩ := h; rfl) | (obtain ⟨_, _, _, _, _, _, _, _, _, _, _, _, _, rfl, _⟩ := h; rfl) | (obtain ⟨_, _, _, _, _, _, _, _, _, _, _, _, _, _, rfl, _⟩ := h; rfl) | (obtain ⟨_, _, _, _, _, _, _, _, _, _, _, _, _, _, _, rfl, _⟩ := h; rfl) | (obtain ⟨_, _, _, _, _, _, _, _, _, _, _, _, _, _, _, _, rfl, _⟩ := h; rfl) | (obtain ⟨_, _, _, _, _, _, _, _, _, _, _, _, _, _, _, _, _, rfl, _⟩ := h; rfl) | (obtain ⟨_, _, _, _, _, _, _, _, _, _, _, _, _, _, _, _, _, _, rfl, _⟩ := h; rfl) | (obtain ⟨_, _, _, _, _, _, _, _, _, _, _, _, _, _, _, _, _, _, _, rfl, _⟩ := h; rfl)) fun cdv A outer s H E F0 hr => ⟨_, (dss_cons (ds_set (i := 1) scread_parts.nd rfl (Or.inl rfl) (de_lst (own := true) da_nil))
      (dss_cons (ds_set (i := 2) scread_parts.nd rfl (Or.inl rfl) (de_lst (own := true) da_nil))
      (dss_one (ds_while PassesOwn.never (dt_tru de_bl) (dss_cons (ds_set (i := 3) scread_parts.nd rfl (Or.inl rfl) (de_mt0 h_Cursor_now (hr.mono (by omega)) pass0 finX0 (de_var (pv 0))))
      (dss_one (ds_if (dt_cmp (od_eq hr.units) (de_var (pv 3)) de_str (nomark _)) (dss_cons (ds_expr (de_mt h_Cursor_take (hr.mono (by omega)) pass0 finX0 (de_var (pv 0)) (da_cons de_str da_nil)))
      (dss_cons (ds_set (i := 4) scread_parts.nd rfl (Or.inl rfl) (de_mt h_Cursor_take (hr.mono (by omega)) pass0 finX0 (de_var (pv 0)) (da_cons de_str da_nil)))
      (dss_cons (ds_set (i := 5) scread_parts.nd rfl (Or.inl rfl) (de_fn h_read_givens (hr.mono (by omega)) rfl pass0 finX0 (da_cons (de_var (pv 0)) da_nil)))
      (dss_cons (ds_expr (de_mt h_Cursor_enter (hr.mono (by omega)) pass0 finX0 (de_var (pv 0)) (da_cons de_str da_nil)))
      (dss_cons (ds_expr (de_bl1 PySem.F.slot_list_append PySem.F.type_list_append md_append (de_var (pv 1)) (da_cons (de_tup (da_cons (de_var (pv 4)) (da_cons (de_var (pv 5)) (da_cons (de_fn h_read_vars (hr.mono (by omega)) rfl pass0 finX0 (da_cons (de_var (pv 0)) da_nil)) (da_cons (de_var (pv 2)) da_nil))))) da_nil)))
      (dss_one (ds_set (i := 2) scread_parts.nd rfl (Or.inl rfl) (de_lst (own := true) da_nil)))))))) (dss_one (ds_if (dt_cmp (od_eq hr.units) (de_var (pv 3)) de_str (nomark _)) (dss_one (ds_expr (de_bl1 PySem.F.slot_list_append PySem.F.type_list_append md_append (de_var (pv 2)) (da_cons (de_fn h_read_act (hr.mono (by omega)) rfl pass0 finX0 (da_cons (de_var (pv 0)) da_nil)) da_nil)))) (dss_one (ds_if (dt_w (dw_and (dt_cmp (od_eq hr.units) (de_var (pv 3)) de_str (nomark _)) (dw_and1 (dt_tru (de_var (pv 1)))))) (dss_cons (ds_expr (de_mt h_Cursor_leave (hr.mono (by omega)) pass0 finX0 (de_var (pv 0)) (da_cons de_str da_nil)))
      (dss_cons (ds_asg (de_bl0 PySem.F.slot_list_pop PySem.F.type_list_pop md_pop (de_var (pv 1))) (dg_tup rfl (dgs_cons (dg_name (pg_name (i := 4) scread_parts.nd rfl (Or.inl rfl))) (dgs_cons (dg_name (pg_name (i := 5) scread_parts.nd rfl (Or.inl rfl))) (dgs_cons (dg_name (pg_name (i := 6) scread_parts.nd rfl (Or.inl rfl))) (dgs_cons (dg_name (pg_name (i := 7) scread_parts.nd rfl (Or.inl rfl))) dgs_nil))))))
      (dss_cons (ds_expr (de_bl1 PySem.F.slot_list_append PySem.F.type_list_append md_append (de_var (pv 7)) (da_cons (de_tup (da_cons de_str (da_cons (de_var (pv 4)) (da_cons (de_var (pv 5)) (da_cons (de_var (pv 6)) (da_cons (de_callTy cd_tuple rfl T.tuple (by decide +kernel) (da_cons (de_var (pv 2)) da_nil)) da_nil)))))) da_nil)))
      (dss_one (ds_set (i := 2) scread_parts.nd rfl (Or.inl rfl) (de_var (pv 7))))))) (dss_one (ds_if (dt_w (dw_and (dt_cmp (od_eq hr.units) (de_var (pv 3)) de_str (nomark _)) (dw_and1 (dt_not (dt_tru (de_var (pv 1))))))) (dss_one (ds_ret (de_callTy cd_tuple rfl T.tuple (by decide +kernel) (da_cons (de_var (pv 2)) da_nil)))) (dss_one ds_never)))))))))))))), fun ds M Q Ex h => ?_⟩
  obtain ⟨c, R, i0, k, toks, rest, xs0, ws0, rfl, hM, ht, hd0, ⟨hv0, hl0, hk, hrest⟩, q⟩ := h
  walk_at "st"
  have hs : sizeLine = 16777216 := sizeLine_eq
  have run0 := prun_all hv0 hl0
  have hrest2 : ∃ x r, rest = x :: r ∧ x.1 ≠ "var" := by
    obtain ⟨u, r, rfl⟩ := hrest
    exact ⟨_, r, rfl, by dsimp only; decide +kernel⟩
  refine seq_tail (fun σ M' => ∃ pl, M pl = none ∧ M' = updM M pl (.lst []) ∧ σ = [some (.obj c), some (.obj pl), none, none, none, none, none, none]) ?_ (fun N hN => by walk_at "dl"; exact fun p hp => hN _ _ ⟨p, hp, rfl, rfl⟩)
  rintro _ M0 ⟨pl, hpl, e0, rfl⟩
  rw [e0]; clear e0 M0
  refine seq_tail (fun σ M' => ∃ a, SI C_Cursor c pl R M i0 k a [] [] M' ∧ σ = [some (.obj c), some (.obj pl), some (.obj a), none, none, none, none, none]) ?_ (fun N hN => by walk_at "dl"; exact fun p hp => hN _ _ ⟨p, .start hM hpl hp, rfl⟩)
  rintro _ M1 ⟨a, I, rfl⟩
  refine while_two (fun m σ M' => ∃ (i : Nat) (a : Addr) (xs : List Part) (sa : List (Addr × Fp)) (ws : List Str) (j3 j4 j5 j6 j7 : Option D), m = ws.length ∧ SI C_Cursor c pl R M i (k + sa.length) a (partsD xs) (sa.map fpD) M' ∧ toks.drop i = ws.map tokOf ++ rest ∧ PRun xs0 xs (sa.map (·.2)) ws ∧ sa.length ≤ 3 ∧ i + ws.length = i0 + ws0.length ∧ σ = [some (.obj c), some (.obj pl), some (.obj a), j3, j4, j5, j6, j7]) _ ⟨i0, a, [], [], ws0, none, none, none, none, none, rfl, by rw [partsD]; exact I, hd0, run0, Nat.zero_le _, rfl, rfl⟩ ?_
  clear I
  rintro m σ M' N' ⟨i, a, xs, sa, ws, j3, j4, j5, j6, j7, rfl, I, hd, run, hsa, hi, rfl⟩ hN'
  refine ⟨true, fun Kk hk => by walk_at "dl"; exact hk, ifB (fun _ => ?_) (fun h => by cases h)⟩
  obtain ⟨s, hse⟩ : ∃ s, s = sa.map (·.2) := ⟨_, rfl⟩
  rw [← hse] at run
  cases run with
  | fin =>
    have : sa = [] := by
      cases sa with
      | nil => rfl
      | cons _ _ => cases hse
    subst this
    obtain ⟨u, r, rfl⟩ := hrest
    have hi0 := (at_drop (show toks.drop i = (("end" : Str), u) :: r from hd)).1
    walk_at "dl"
    refine do_now I.rd.cur ht hi0 ?_
    walk_at "dl"
    refine ifB (fun h => absurd h (by decide +kernel)) (fun _ => ?_)
    refine ifB (fun h => absurd h (by decide +kernel)) (fun _ => ?_)
    refine ifB (fun h => absurd h (by decide +kernel)) (fun _ => ?_)
    refine ifB (fun _ => ?_) (fun h => absurd h (by decide))
    rw [tru_obj I.lst]
    refine ⟨_, rfl, ifB (fun _ => ?_) (fun h => absurd h (by decide))⟩
    rw [e_tupC_obj I.cur]
    refine I.rd.wk ?_
    rw [List.length_nil] at hi
    rw [show i = i0 + ws0.length by omega]
    exact q
  | @act _ x _ wx ws hxl hx run =>
    obtain ⟨r, ewx⟩ := act_hd hx
    have hd' : toks.drop i = wx.map tokOf ++ (ws.map tokOf ++ rest) := by rw [hd]; simp
    have hi0 := (at_drop (show toks.drop i = (("act" : Str), ("act" : Str)) :: (r.map tokOf ++ (ws.map tokOf ++ rest)) by rw [hd', ewx, List.map_cons, tok_self]; rfl)).1
    have d1 := drop_add hd'
    have hw1 : 1 ≤ wx.length := by rw [ewx]; simp
    rw [List.length_append] at hi
    rw [hse] at run
    walk_at "dl"
    refine do_now I.rd.cur ht hi0 ?_
    walk_at "dl"
    refine ifB (fun h => absurd h (by decide +kernel)) (fun _ => ?_)
    refine ifB (fun _ => ?_) (fun h => absurd h (by decide))
    refine ⟨isLst_of I.cur, c, R, i, _, toks, _, x, wx, rfl, I.rd.cur, ht, hd', ⟨hx, by omega⟩, ?_⟩
    have I2 := I.step (i' := i + wx.length) (k' := k + sa.length)
    try dsimp only
    rw [e_append I2.cur]
    refine ⟨by rw [partsD_len]; omega, hN' ws.length _ _ (by rw [List.length_append]; omega) ⟨i + wx.length, a, xs ++ [x], sa, ws, _, _, _, _, _, rfl, ?_, d1, run, hsa, by omega, rfl⟩⟩
    rw [partsD_snoc]
    exact I2.app
  | @make _ _ n gs vs wv ws h1 h2 h3 h4 h5 h6 run =>
    have hd' : toks.drop i = tokOf "make" :: tokOf n :: ((givW gs).map tokOf ++ (tokOf "{" :: (wv.map tokOf ++ (ws.map tokOf ++ rest)))) := by rw [hd]; simp
    obtain ⟨i1, d1⟩ := at_drop hd'
    obtain ⟨i2, d2⟩ := at_drop d1
    have d3 := drop_add d2
    obtain ⟨i3, d4⟩ := at_drop d3
    have d5 := drop_add d4
    rw [tok_name h1] at i2
    rw [tok_self] at i1 i3
    have hv := run.hd hrest2
    simp only [List.length_cons, List.length_append] at hi
    rw [hse, List.length_map] at h6
    rw [hse] at run
    walk_at "dl"
    refine do_now I.rd.cur ht i1 ?_
    walk_at "dl"
    refine ifB (fun _ => ?_) (fun h => absurd h (by decide))
    refine do_take I.rd.cur ht i1 ?_
    refine do_take updM_same ht i2 ?_
    rw [updM_updM]
    refine ⟨c, R, _, _, toks, _, gs, givW gs, rfl, updM_same, ht, d2, ⟨h2, h3, rfl, by omega⟩, ?_⟩
    rw [updM_updM]
    refine do_enter updM_same ht i3 (by omega) ?_
    rw [updM_updM]
    refine ⟨isLst_of (by rw [I.pc]; exact I.lst), ?_⟩
    refine ⟨c, R, _, _, toks, _, vs, wv, rfl, updM_same, ht, d4, ⟨h4, h5, by omega, hv⟩, ?_⟩
    rw [updM_updM]
    have I2 := I.step (i' := i + 1 + 1 + (givW gs).length + 1 + wv.length) (k' := k + sa.length + 1)
    try dsimp only
    rw [e_append I2.lst]
    refine ⟨by simp only [List.length_reverse, List.length_map]; omega, fun b hb => ?_⟩
    refine hN' ws.length _ _ (by simp only [List.length_cons, List.length_append]; omega) ⟨_, b, [], (a, xs, n, gs, vs) :: sa, ws, _, _, _, _, _, rfl, ?_, d5, run, by rw [List.length_cons]; omega, by omega, rfl⟩
    rw [partsD, List.length_cons]
    exact I2.push rfl hb
  | @close _ o s n gs vs ws hol run =>
    obtain ⟨b, sa, rfl, rfl⟩ : ∃ b sa', sa = (b, o, n, gs, vs) :: sa' ∧ s = sa'.map (·.2) := by
      cases sa with
      | nil => cases hse
      | cons e sa' =>
        obtain ⟨b, g⟩ := e
        cases hse
        exact ⟨b, sa', rfl, rfl⟩
    have hd' : toks.drop i = tokOf "}" :: (ws.map tokOf ++ rest) := hd
    obtain ⟨i1, d1⟩ := at_drop hd'
    rw [tok_self] at i1
    simp only [List.length_cons] at hi hsa I
    have hl := I.lst
    rw [List.map_cons, List.map_cons, List.reverse_cons] at hl
    obtain ⟨wa, wc, wp⟩ := I.was
    have I2 := I.step (i' := i + 1) (k' := k + sa.length)
    have I3 := I2.pop
    walk_at "dl"
    refine do_now I.rd.cur ht i1 ?_
    walk_at "dl"
    refine ifB (fun h => absurd h (by decide +kernel)) (fun _ => ?_)
    refine ifB (fun h => absurd h (by decide +kernel)) (fun _ => ?_)
    refine ifB (fun _ => ?_) (fun h => absurd h (by decide))
    rw [tru_obj I.lst]
    refine ⟨_, rfl, ifB (fun _ => ?_) (fun h => by simp at h)⟩
    refine do_leave (k := k + sa.length) I.rd.cur ht i1 ?_
    have hl2 := hl
    rw [← I.pc (M2 := M') (o := .ins C_Cursor (cf R (i + 1) (k + sa.length)))] at hl2
    refine ⟨isLst_of hl2, ?_⟩
    try dsimp only
    rw [e_pop hl2]
    rw [show (fpD (b, o, n, gs, vs)).2.2 = .tup [.str n, .tup (gs.map givD), .tup (vs.map vrD), .obj b] from rfl]
    refine ⟨rfl, rfl, ?_⟩
    refine ⟨isLst_of I3.cur, ?_⟩
    rw [e_tupC_obj (ds := partsD xs) (by rw [updM_ne wp, updM_ne wc]; exact wa)]
    rw [e_append I3.cur]
    refine ⟨by simp only [partsD_len, fpD]; omega, ?_⟩
    refine hN' ws.length _ _ (by simp only [List.length_cons]; omega) ⟨_, b, o ++ [.make n gs vs xs], sa, ws, _, _, _, _, _, rfl, ?_, d1, run, by omega, by omega, rfl⟩
    rw [partsD_snoc, Part.d]
    exact I3.app
end
end K01
namespace K01
open PySem PySem.Spec L2 DL Syn Wr Lx Cu Rt Rv Rp
local macro_rules | `(tactic| walk_at "st") => `(tactic| simp only [start_def, List.map_cons, List.map_nil, List.length_cons, List.length_nil, List.cons_append, List.nil_append, Nat.zero_add, Nat.reduceAdd, Nat.reduceSub, List.replicate])
local macro_rules | `(tactic| walk_at "dl") => `(tactic| simp only [dSeq, dNext, dDrop, dRet, dRetF, dRetN, dIfS, dAsg, dAug, dPar, nGm, nTup, nCons, nNil, dVar, dC, dOp, dUn, dCons, dNil, dTup, dLst, dB, dTru, dAnd, dOr, dNot, dAndV, dOrV, dNotV, dIf, dChain, dCB, dCall, dSlE, dNoPart, dPart, dRev, dS0, dS1, dBL, dBL0, dIsi, dBreak, dCont, List.set_cons_zero, List.set_cons_succ, List.getElem?_cons_zero, List.getElem?_cons_succ, ifB_t, ifB_f, e_new_f, e_new_t, e_add_int, e_add_str, e_add_tup, e_add_lst, e_sub, e_mul, e_mul_str, e_mul_lst, e_div, e_mod, e_pow, e_neg, e_eq_int, e_eq_str, e_isN_non, e_isN_obj, e_isN_tup, e_isN_lst, e_lt_int, e_lt_str, e_le_int, e_le_str, e_gt, e_ge, e_in_str, e_t0, e_t1, e_t2, e_t3, e_t4, e_t5, e_l0, e_l1, e_l2, e_l3, e_sl_tup, e_sl_rdl, e_sl_str, e_sl_lst, e_len_str, e_len_lst, e_len_tup, e_int, e_tupC_tup, e_tupC_lst, e_iadd_int, e_iadd_str, e_isub, tru_bl, tru_int, tru_non, tru_lst, tru_tup, ex_some, bne_f, bne_t, e_nSub, cxK, e_fld, e_sfld, e_meth, lsD_lst, sz0, sz1, sz2, sz3, sz4, sz5, sz6, sz7, sz8, true_and])
section
variable {P : Program} {w : World} {K : PySem.W.Frag} {mg : Str → Option Value} {base : Heap}
variable {C_Cursor C_Rows : Addr}
def sp_read : SpD := fun ds M Q _ => ∃ (z : Str) (p : Prg) (ws : List Str), ds = [.str z] ∧ z.length ≤ 16000000 ∧ Lex z.cps.toList (ws.map tokOf) ∧ PrgT p ws ∧ p.kinds.length ≤ 1000 ∧ p.vars.length ≤ 1000 ∧ p.parts.length ≤ 50 ∧ Q p.d M
theorem ok_read (T : Txt K mg) {f : Addr} {fd : FuncData} (F : FunD K "read" "read" (defArgs sread) (defBody sread) (defScope sread) [] [] f fd) (h_CursorU_initU : Mkr P w K mg base CX0 C_Cursor (1) "Cursor" PCursorU_initU (sp_curnew C_Cursor)) (h_tokens : Callee P w K mg base CX0 (4) "tokens" Ptokens sp_tokens) (h_read_kinds : Callee P w K mg base CX0 (4) "read_kinds" Pread_kinds (sp_rkinds C_Cursor)) (h_read_vars : Callee P w K mg base CX0 (7) "read_vars" Pread_vars (sp_rvars C_Cursor)) (h_read_parts : Callee P w K mg base CX0 (10) "read_parts" Pread_parts (sp_rparts C_Cursor)) : FnOk P w K mg base CX0 (10 + 1) f fd Pread (LSp K (sp_read)) := by
  refine fnD0 F scread (fun ds M Q E h => by first | (obtain ⟨rfl, _⟩ := h; rfl) | (obtain ⟨_, rfl, _⟩ := h; rfl) | (obtain ⟨_, _, rfl, _⟩ := h; rfl) | (obtain ⟨_, _, _, rfl, _⟩ := h; rfl) | (obtain ⟨_, _, _, _, rfl, _⟩ := h; rfl) | (obtain ⟨_, _, _, _, _, rfl, _⟩ := h; rfl) | (obtain ⟨_, _, _, _, _, _, rfl, _⟩ := h; rfl) | (obtain ⟨_, _, _, _, _, _, _, rfl, _⟩ := h; rfl) | (obtain ⟨_, _, _, _, _, _, _, _, rfl, _⟩ := h; rfl) | (obtain ⟨_, _, _, _, _, _, _, _, _, rfl, _⟩ := h; rfl) | (obtain ⟨_, _, _, _, _, _, _, _, _, _, rfl, _⟩ := h; rfl) | (obtain ⟨_, _, _, _, _, _, _, _, _, _, _, rfl, _⟩ := h; rfl) | (obtain ⟨_, _, _, _, _, _, _, _, _, _, _, _, rfl, _⟩ := h; rfl) | (obtain ⟨_, _, _, _, _, _, _, _, _, _, _, _, _, rfl, _⟩ := h; rfl) | (obtain ⟨_, _, _, _, _, _, _, _, _, _, _, _, _, _, rfl, _⟩ := h; rfl) | (obtain ⟨_, _, _, _, _, _, _, _, _, _, _, _, _, _, _, rfl, _⟩ := h; rfl) | (obtain ⟨_, _, _, _, _, _, _, _, _, _, _, _, _, _, _, _, rfl, _⟩ := h; rfl) | (obtain ⟨_, _, _, _, _, _, _, _, _, _, _, _, _, _, _, _, _, rfl, _⟩ := h; rfl) | (obtain ⟨_, _, _, _, _, _, _, _, _, _, _, _, _, _, _, _, _, _, rfl, _⟩ := h; rfl) | (obtain ⟨_, _, _, _, _, _, _, _, _, _, _, _, _, _, _, _, _, _, _, rfl, _⟩ := h; rfl)) fun cdv A outer s H E F0 hr => ⟨_, (dss_cons (ds_set (i := 1) scread.nd rfl (Or.inl rfl) (de_new h_CursorU_initU (hr.mono (by omega)) rfl pass0 finX0 (da_cons (de_fn h_tokens (hr.mono (by omega)) rfl pass0 finX0 (da_cons (de_var (pv 0)) da_nil)) da_nil)))
      (dss_cons (ds_set (i := 2) scread.nd rfl (Or.inl rfl) (de_fn h_read_kinds (hr.mono (by omega)) rfl pass0 finX0 (da_cons (de_var (pv 1)) da_nil)))
      (dss_cons (ds_set (i := 3) scread.nd rfl (Or.inl rfl) (de_fn h_read_vars (hr.mono (by omega)) rfl pass0 finX0 (da_cons (de_var (pv 1)) da_nil)))
      (dss_one (ds_ret (de_tup (da_cons de_str (da_cons (de_var (pv 2)) (da_cons (de_var (pv 3)) (da_cons (de_fn h_read_parts (hr.mono (by omega)) rfl pass0 finX0 (da_cons (de_var (pv 1)) da_nil)) da_nil)))))))))), fun ds M Q Ex h => ?_⟩
  obtain ⟨z, p, ws, rfl, hz, hlx, ⟨wk, wv, wp, hk, hv, hp, rfl⟩, n1, n2, n3, q⟩ := h
  walk_at "st"
  have hs : sizeLine = 16777216 := sizeLine_eq
  have ep : p.d = .tup [.str "program", .tup (p.kinds.map kindD), .tup (p.vars.map vrD), .tup (partsD p.parts)] := rfl
  rw [ep] at q
  have r1 : ∃ u r, wp.map tokOf ++ [(("end" : Str), ("" : Str))] = u :: r ∧ u.1 ≠ "var" ∧ u.1 ≠ "kind" := (prun_all hp n3).hd2 ⟨_, _, rfl, by dsimp only; decide +kernel⟩
  have r2 : ∃ u r, wv.map tokOf ++ (wp.map tokOf ++ [(("end" : Str), ("" : Str))]) = u :: r ∧ u.1 ≠ "kind" := vars_hd hv (by
    obtain ⟨u, r, e, _, h⟩ := r1
    exact ⟨u, r, e, h⟩)
  walk_at "dl"
  refine ⟨z, _, rfl, hz, hlx, fun R ht => ?_⟩
  intro c hc
  refine ⟨c, R, rfl, updM_same, rfl, ?_⟩
  rw [updM_updM]
  have d0 : ((wk ++ (wv ++ wp)).map tokOf ++ [(("end" : Str), ("" : Str))]).drop 0 = wk.map tokOf ++ (wv.map tokOf ++ (wp.map tokOf ++ [(("end" : Str), ("" : Str))])) := by simp
  refine ⟨c, R, 0, 0, _, _, p.kinds, wk, rfl, updM_same, ht, d0, ⟨hk, n1, r2⟩, ?_⟩
  rw [updM_updM]
  have d1 := drop_add d0
  refine ⟨c, R, _, 0, _, _, p.vars, wv, rfl, updM_same, ht, d1, ⟨hv, n2, by decide, ?_⟩, ?_⟩
  · obtain ⟨u, r, e, h, _⟩ := r1
    exact ⟨u, r, e, h⟩
  rw [updM_updM]
  have d2 := drop_add d1
  refine ⟨c, R, _, 0, _, _, p.parts, wp, rfl, updM_same, ht, d2, ⟨hp, n3, by decide, _, _, rfl⟩, ?_⟩
  rw [updM_updM]
  exact Wk.drop hc q
end
end K01
namespace K01
open PySem PySem.Spec L2 DL Syn Wr Lx Cu Rt Rv Rp Bd
local macro_rules | `(tactic| walk_at "st") => `(tactic| simp only [start_def, List.map_cons, List.map_nil, List.length_cons, List.length_nil, List.cons_append, List.nil_append, Nat.zero_add, Nat.reduceAdd, Nat.reduceSub, List.replicate])
local macro_rules | `(tactic| walk_at "dl") => `(tactic| simp only [dSeq, dNext, dDrop, dRet, dRetF, dRetN, dIfS, dAsg, dAug, dPar, nGm, nTup, nCons, nNil, dVar, dC, dOp, dUn, dCons, dNil, dTup, dLst, dB, dTru, dAnd, dOr, dNot, dAndV, dOrV, dNotV, dIf, dChain, dCB, dCall, dSlE, dNoPart, dPart, dRev, dS0, dS1, dBL, dBL0, dIsi, dBreak, dCont, List.set_cons_zero, List.set_cons_succ, List.getElem?_cons_zero, List.getElem?_cons_succ, ifB_t, ifB_f, e_new_f, e_new_t, e_add_int, e_add_str, e_add_tup, e_add_lst, e_sub, e_mul, e_mul_str, e_mul_lst, e_div, e_mod, e_pow, e_neg, e_eq_int, e_eq_str, e_isN_non, e_isN_obj, e_isN_tup, e_isN_lst, e_lt_int, e_lt_str, e_le_int, e_le_str, e_gt, e_ge, e_in_str, e_t0, e_t1, e_t2, e_t3, e_t4, e_t5, e_l0, e_l1, e_l2, e_l3, e_sl_tup, e_sl_rdl, e_sl_str, e_sl_lst, e_len_str, e_len_lst, e_len_tup, e_int, e_tupC_tup, e_tupC_lst, e_iadd_int, e_iadd_str, e_isub, tru_bl, tru_int, tru_non, tru_lst, tru_tup, ex_some, bne_f, bne_t, e_nSub, cxK, e_fld, e_sfld, e_meth, lsD_lst, sz0, sz1, sz2, sz3, sz4, sz5, sz6, sz7, sz8, true_and])
section
variable {P : Program} {w : World} {K : PySem.W.Frag} {mg : Str → Option Value} {base : Heap} {n : Nat}
/-- never called -/
def sp_no : SpD := fun _ _ _ _ => False
def sp_commas : SpD := fun ds M Q _ => ∃ xs : List (List Str), ds = [.lst (xs.map fun x => .lst (dStrs x))] ∧ xs.length ≤ 3 ∧ (∀ x ∈ xs, 1 ≤ x.length ∧ x.length ≤ 1000) ∧ Q (.lst (dStrs (commas xs))) M
theorem ok__law_commas (T : Txt K mg) {f : Addr} {fd : FuncData} (F : FunD K "_law_commas" "_law_commas" (defArgs s_law_commas) (defBody s_law_commas) (defScope s_law_commas) [] [] f fd) : FnOk P w K mg base CX0 (0 + 1) f fd P_law_commas (LSp K (sp_commas)) := by
  refine fnD0 F sc_law_commas (fun ds M Q E h => by first | (obtain ⟨rfl, _⟩ := h; rfl) | (obtain ⟨_, rfl, _⟩ := h; rfl) | (obtain ⟨_, _, rfl, _⟩ := h; rfl) | (obtain ⟨_, _, _, rfl, _⟩ := h; rfl) | (obtain ⟨_, _, _, _, rfl, _⟩ := h; rfl) | (obtain ⟨_, _, _, _, _, rfl, _⟩ := h; rfl) | (obtain ⟨_, _, _, _, _, _, rfl, _⟩ := h; rfl) | (obtain ⟨_, _, _, _, _, _, _, rfl, _⟩ := h; rfl) | (obtain ⟨_, _, _, _, _, _, _, _, rfl, _⟩ := h; rfl) | (obtain ⟨_, _, _, _, _, _, _, _, _, rfl, _⟩ := h; rfl) | (obtain ⟨_, _, _, _, _, _, _, _, _, _, rfl, _⟩ := h; rfl) | (obtain ⟨_, _, _, _, _, _, _, _, _, _, _, rfl, _⟩ := h; rfl) | (obtain ⟨_, _, _, _, _, _, _, _, _, _, _, _, rfl, _⟩ := h; rfl) | (obtain ⟨_, _, _, _, _, _, _, _, _, _, _, _, _, rfl, _⟩ := h; rfl) | (obtain ⟨_, _, _, _, _, _, _, _, _, _, _, _, _, _, rfl, _⟩ := h; rfl) | (obtain ⟨_, _, _, _, _, _, _, _, _, _, _, _, _, _, _, rfl, _⟩ := h; rfl) | (obtain ⟨_, _, _, _, _, _, _, _, _, _, _, _, _, _, _, _, rfl, _⟩ := h; rfl) | (obtain ⟨_, _, _, _, _, _, _, _, _, _, _, _, _, _, _, _, _, rfl, _⟩ := h; rfl) | (obtain ⟨_, _, _, _, _, _, _, _, _, _, _, _, _, _, _, _, _, _, rfl, _⟩ := h; rfl) | (obtain ⟨_, _, _, _, _, _, _, _, _, _, _, _, _, _, _, _, _, _, _, rfl, _⟩ := h; rfl)) fun cdv A outer s H E F0 hr => ⟨_, (dss_cons (ds_set (i := 1) sc_law_commas.nd rfl (Or.inl rfl) (de_lst (own := false) da_nil))
      (dss_cons (ds_for PassesOwn.never rfl (di_items (de_var (pv 0))) (dg_name (pg_name (i := 2) sc_law_commas.nd rfl (Or.inl rfl))) (dss_one (ds_set (i := 1) sc_law_commas.nd rfl (Or.inl rfl) (de_op (od_add (own := false)) (de_op (od_add (own := false)) (de_var (pv 1)) (de_if (dt_cmp (od_gt) (de_callB cd_len rfl T.len (by decide +kernel) (da_cons (de_var (pv 1)) da_nil)) de_int (nomark _)) (de_lst (own := false) (da_cons de_str da_nil)) (de_lst (own := false) da_nil))) (de_var (pv 2))))))
      (dss_one (ds_ret (de_var (pv 1)))))), fun ds M Q Ex h => ?_⟩
  obtain ⟨xs, rfl, hl, hx, q⟩ := h
  walk_at "st"
  have hs : sizeLine = 16777216 := sizeLine_eq
  refine seq_tail (fun σ M' => M' = M ∧ σ = [some (.lst (xs.map fun x => .lst (dStrs x))), some (.lst (dStrs [])), none]) ?_ (fun N hN => by walk_at "dl"; exact hN _ _ ⟨rfl, rfl⟩)
  rintro _ M0 ⟨e0, rfl⟩
  rw [e0]; clear e0 M0
  refine seq_tail (fun σ M' => ∃ c, M' = M ∧ σ = [some (.lst (xs.map fun x => .lst (dStrs x))), some (.lst (dStrs (commas xs))), c]) ?_ (fun N hN => ?_)
  · rintro _ M0 ⟨c, e0, rfl⟩
    rw [e0]; clear e0 M0
    walk_at "dl"
    exact Wk.here q
  · refine for_pure (xs.map fun x => .lst (dStrs x)) (fun Kd hk => by unfold dItems; walk_at "dl"; exact hk) (fun i σ M' => ∃ c, M' = M ∧ σ = [some (.lst (xs.map fun x => .lst (dStrs x))), some (.lst (dStrs (commas (xs.take i)))), c]) ⟨none, rfl, by rw [List.take_zero]; rfl⟩ ?_ ?_
    · rintro i d σ M' N' hi ⟨c, e0, rfl⟩ hN'
      rw [e0]; clear e0 M'
      rw [List.getElem?_map] at hi
      obtain ⟨x, hix, rfl⟩ := Option.map_eq_some_iff.mp hi
      have hcl := commas_len (n := 1000) (xs.take i) (fun y hy => (hx y (List.mem_of_mem_take hy)).2)
      have hcl2 : (xs.take i).length ≤ 3 := Nat.le_trans (by rw [List.length_take]; exact Nat.min_le_right _ _) hl
      have hx2 := (hx x (List.mem_of_getElem? hix)).2
      have hii : i < xs.length := (List.getElem?_eq_some_iff.mp hix).1
      have eat := commas_at hix
      walk_at "dl"
      rw [dStrs_len]
      refine ifB (fun h0 => ?_) (fun h0 => ?_)
      · have hi0 : ¬ i = 0 := by
          intro h; subst h
          have := of_decide_eq_true h0
          rw [List.take_zero] at this
          exact absurd this (by decide)
        refine ⟨by rw [List.length_singleton]; omega, by rw [List.length_append, dStrs_len, dStrs_len]; simp only [List.length_cons, List.length_nil]; omega, hN' _ _ ⟨some (.lst (dStrs x)), rfl, ?_⟩⟩
        rw [eat, if_neg hi0, dStrs_app, dStrs_app] <;> rfl
      · have hi0 : i = 0 := by
          have h1 := of_decide_eq_false h0
          cases i with
          | zero => rfl
          | succ i =>
            exfalso
            apply h1
            cases xs with
            | nil => exact absurd hii (by simp)
            | cons y ys =>
              have := (hx y (List.mem_cons_self ..)).1
              rw [List.take_succ_cons]
              unfold commas
              rw [List.length_append]
              omega
        refine ⟨by rw [List.length_nil]; omega, by rw [List.length_append, dStrs_len, dStrs_len]; simp only [List.length_nil]; omega, hN' _ _ ⟨some (.lst (dStrs x)), rfl, ?_⟩⟩
        rw [eat, if_pos hi0, dStrs_app, dStrs_app] <;> rfl
    · rintro σ M' ⟨c, e0, rfl⟩
      refine hN _ _ ⟨c, e0, ?_⟩
      rw [List.length_map, List.take_length]
def sp_trowd (n : Nat) : SpD := fun ds M Q _ => ∃ (a : Addr) (t : Tst) (d least : Nat), ds = [.obj a, t.d, .int least] ∧ t.ok d ∧ d < n ∧ d ≤ 3 ∧ DrawAt M a ∧ ∀ ws M', TR t least ws → DrN a M M' → Q (.lst (dStrs ws)) M'
theorem rep_dStrs {k : Nat} {ws : List Str} : (List.replicate k [D.str "("]).flatten ++ dStrs ws ++ (List.replicate k [D.str ")"]).flatten = dStrs (rep k ws) := by
  have h : ∀ (x : Str), (List.replicate k [D.str x]).flatten = dStrs (List.replicate k x) := fun x => by
    induction k with
    | zero => rfl
    | succ k ih => rw [List.replicate_succ, List.flatten_cons, ih, List.replicate_succ] <;> rfl
  rw [h, h]
  unfold rep
  rw [dStrs_app, dStrs_app, List.append_assoc]
theorem ok__law_test_row (T : Txt K mg) {f : Addr} {fd : FuncData} (F : FunD K "_law_test_row" "_law_test_row" (defArgs s_law_test_row) (defBody s_law_test_row) (defScope s_law_test_row) [] [] f fd) (h__law_next : Callee P w K mg base CX0 (1) "_law_next" P_law_next sp_next) (h__law_test_row : Callee P w K mg base CX0 (1+n) "_law_test_row" P_law_test_row (sp_trowd n)) : FnOk P w K mg base CX0 (1+n + 1) f fd P_law_test_row (LSp K ((sp_trowd (n+1)))) := by
  refine fnD0 F sc_law_test_row (fun ds M Q E h => by first | (obtain ⟨rfl, _⟩ := h; rfl) | (obtain ⟨_, rfl, _⟩ := h; rfl) | (obtain ⟨_, _, rfl, _⟩ := h; rfl) | (obtain ⟨_, _, _, rfl, _⟩ := h; rfl) | (obtain ⟨_, _, _, _, rfl, _⟩ := h; rfl) | (obtain ⟨_, _, _, _, _, rfl, _⟩ := h; rfl) | (obtain ⟨_, _, _, _, _, _, rfl, _⟩ := h; rfl) | (obtain ⟨_, _, _, _, _, _, _, rfl, _⟩ := h; rfl) | (obtain ⟨_, _, _, _, _, _, _, _, rfl, _⟩ := h; rfl) | (obtain ⟨_, _, _, _, _, _, _, _, _, rfl, _⟩ := h; rfl) | (obtain ⟨_, _, _, _, _, _, _, _, _, _, rfl, _⟩ := h; rfl) | (obtain ⟨_, _, _, _, _, _, _, _, _, _, _, rfl, _⟩ := h; rfl) | (obtain ⟨_, _, _, _, _, _, _, _, _, _, _, _, rfl, _⟩ := h; rfl) | (obtain ⟨_, _, _, _, _, _, _, _, _, _, _, _, _, rfl, _⟩ := h; rfl) | (obtain ⟨_, _, _, _, _, _, _, _, _, _, _, _, _, _, rfl, _⟩ := h; rfl) | (obtain ⟨_, _, _, _, _, _, _, _, _, _, _, _, _, _, _, rfl, _⟩ := h; rfl) | (obtain ⟨_, _, _, _, _, _, _, _, _, _, _, _, _, _, _, _, rfl, _⟩ := h; rfl) | (obtain ⟨_, _, _, _, _, _, _, _, _, _, _, _, _, _, _, _, _, rfl, _⟩ := h; rfl) | (obtain ⟨_, _, _, _, _, _, _, _, _, _, _, _, _, _, _, _, _, _, rfl, _⟩ := h; rfl) | (obtain ⟨_, _, _, _, _, _, _, _, _, _, _, _, _, _, _, _, _, _, _, rfl, _⟩ := h; rfl)) fun cdv A outer s H E F0 hr => ⟨_, (dss_cons (ds_set (i := 3) sc_law_test_row.nd rfl (Or.inl rfl) de_int)
      (dss_cons (ds_if (dt_cmp (od_eq hr.units) (de_ix (de_var (pv 1)) de_int (fun _ _ => rfl)) de_str (nomark _)) (dss_cons (ds_set (i := 3) sc_law_test_row.nd rfl (Or.inl rfl) de_int)
      (dss_one (ds_set (i := 4) sc_law_test_row.nd rfl (Or.inl rfl) (de_op (od_add (own := false)) (de_op (od_add (own := false)) (de_fn h__law_test_row (hr.mono (by omega)) rfl pass0 finX0 (da_cons (de_var (pv 0)) (da_cons (de_ix (de_var (pv 1)) de_int (fun _ _ => rfl)) (da_cons de_int da_nil)))) (de_lst (own := false) (da_cons de_str da_nil))) (de_fn h__law_test_row (hr.mono (by omega)) rfl pass0 finX0 (da_cons (de_var (pv 0)) (da_cons (de_ix (de_var (pv 1)) de_int (fun _ _ => rfl)) (da_cons de_int da_nil)))))))) (dss_one (ds_if (dt_cmp (od_eq hr.units) (de_ix (de_var (pv 1)) de_int (fun _ _ => rfl)) de_str (nomark _)) (dss_cons (ds_set (i := 3) sc_law_test_row.nd rfl (Or.inl rfl) de_int)
      (dss_one (ds_set (i := 4) sc_law_test_row.nd rfl (Or.inl rfl) (de_op (od_add (own := false)) (de_op (od_add (own := false)) (de_fn h__law_test_row (hr.mono (by omega)) rfl pass0 finX0 (da_cons (de_var (pv 0)) (da_cons (de_ix (de_var (pv 1)) de_int (fun _ _ => rfl)) (da_cons de_int da_nil)))) (de_lst (own := false) (da_cons de_str da_nil))) (de_fn h__law_test_row (hr.mono (by omega)) rfl pass0 finX0 (da_cons (de_var (pv 0)) (da_cons (de_ix (de_var (pv 1)) de_int (fun _ _ => rfl)) (da_cons de_int da_nil)))))))) (dss_one (ds_if (dt_cmp (od_eq hr.units) (de_ix (de_var (pv 1)) de_int (fun _ _ => rfl)) de_str (nomark _)) (dss_one (ds_set (i := 4) sc_law_test_row.nd rfl (Or.inl rfl) (de_op (od_add (own := false)) (de_lst (own := false) (da_cons de_str da_nil)) (de_fn h__law_test_row (hr.mono (by omega)) rfl pass0 finX0 (da_cons (de_var (pv 0)) (da_cons (de_ix (de_var (pv 1)) de_int (fun _ _ => rfl)) (da_cons de_int da_nil))))))) (dss_one (ds_set (i := 4) sc_law_test_row.nd rfl (Or.inl rfl) (de_lst (own := false) (da_cons (de_ix (de_ix (de_var (pv 1)) de_int (fun _ _ => rfl)) de_int (fun _ _ => rfl)) (da_cons de_str (da_cons (de_ix (de_ix (de_var (pv 1)) de_int (fun _ _ => rfl)) de_int (fun _ _ => rfl)) da_nil)))))))))))
      (dss_cons (ds_set (i := 5) sc_law_test_row.nd rfl (Or.inl rfl) (de_if (dt_cmp (od_lt) (de_var (pv 3)) (de_var (pv 2)) (nomark _)) de_int de_int))
      (dss_cons (ds_if (dt_w (dw_and (dt_cmp od_notN (de_var (pv 0)) de_non (nomark _)) (dw_and1 (dt_cmp (od_eq hr.units) (de_fn h__law_next (hr.mono (by omega)) rfl pass0 finX0 (da_cons (de_var (pv 0)) (da_cons de_int da_nil))) de_int (nomark _))))) (dss_one (ds_set (i := 5) sc_law_test_row.nd rfl (Or.inl rfl) (de_op (od_add (own := false)) (de_op (od_add (own := false)) (de_var (pv 5)) de_int) (de_fn h__law_next (hr.mono (by omega)) rfl pass0 finX0 (da_cons (de_var (pv 0)) (da_cons de_int da_nil)))))) dss_nil)
      (dss_one (ds_ret (de_op (od_add (own := false)) (de_op (od_add (own := false)) (de_op (od_mul (own := false)) (de_lst (own := false) (da_cons de_str da_nil)) (de_var (pv 5))) (de_var (pv 4))) (de_op (od_mul (own := false)) (de_lst (own := false) (da_cons de_str da_nil)) (de_var (pv 5)))))))))), fun ds M Q Ex h => ?_⟩
  obtain ⟨a, t, d, least, rfl, ok, hd, hd3, hD, q⟩ := h
  walk_at "st"
  have hs : sizeLine = 16777216 := sizeLine_eq
  refine seq_tail (fun σ M' => M' = M ∧ σ = [some (.obj a), some t.d, some (.int least), some (.int 3), none, none]) ?_ (fun N hN => by walk_at "dl"; exact hN _ _ ⟨rfl, rfl⟩)
  rintro _ M0 ⟨e0, rfl⟩
  rw [e0]; clear e0 M0
  refine seq_tail (fun σ M' => ∃ ws, TB t ws ∧ DrN a M M' ∧ σ = [some (.obj a), some t.d, some (.int least), some (.int (rank t : Nat)), some (.lst (dStrs ws)), none]) ?_ (fun N hN => ?_)
  · rintro _ M0 ⟨ws, tb, n0, rfl⟩
    have hb := tb_bd ok hd3 tb
    refine seq_tail (fun σ M' => M' = M0 ∧ ∃ k : Nat, k = (if rank t < least then 1 else 0) ∧ σ = [some (.obj a), some t.d, some (.int least), some (.int (rank t : Nat)), some (.lst (dStrs ws)), some (.int k)]) ?_ (fun N hN => ?_)
    · rintro _ M1 ⟨e0, k, hk, rfl⟩
      rw [e0]; clear e0 M1
      refine seq_tail (fun σ M' => DrN a M M' ∧ ∃ k2 : Nat, k ≤ k2 ∧ k2 ≤ 3 ∧ σ = [some (.obj a), some t.d, some (.int least), some (.int (rank t : Nat)), some (.lst (dStrs ws)), some (.int k2)]) ?_ (fun N hN => ?_)
      · rintro _ M1 ⟨n1, k2, hk1, hk2, rfl⟩
        walk_at "dl"
        have ek : ((k2 : Nat) : Int).toNat = k2 := Int.toNat_natCast k2
        rw [ek]
        have rl : ∀ x : D, (List.replicate k2 [x]).flatten.length = k2 := fun x => by
          rw [List.length_flatten]; simp
        simp only [rl, List.length_append, dStrs_len, List.length_cons, List.length_nil]
        refine ⟨by omega, by omega, by omega, by omega, by omega, by omega, by omega, by omega, Wk.here ?_⟩
        rw [rep_dStrs]
        refine q _ _ (tb_tr tb hk2 fun hr => ?_) n1
        rw [if_pos hr] at hk
        omega
      · have hk1 : k ≤ 1 := by rw [hk]; split <;> omega
        walk_at "dl"
        refine ⟨a, 5, rfl, by decide, by decide, n0.at, fun z M2 h0 h1 n1 => ?_⟩
        have n1 := n0.trans n1
        walk_at "dl"
        refine ifB (fun _ => ?_) (fun _ => hN _ _ ⟨n1, k, Nat.le_refl _, by omega, rfl⟩)
        refine ⟨a, 2, rfl, by decide, by decide, n1.at, fun y M3 h2 h3 n3 => ?_⟩
        obtain ⟨y, rfl, hy⟩ := next_small (m := 2) h2 h3
        exact hN _ _ ⟨n1.trans n3, k + 1 + y, by omega, by omega, rfl⟩
    · walk_at "dl"
      refine ifB (fun hr => hN _ _ ⟨rfl, 1, ?_, rfl⟩) (fun hr => hN _ _ ⟨rfl, 0, ?_, rfl⟩)
      · rw [if_pos (by have := of_decide_eq_true hr; omega)]
      · rw [if_neg (by have := of_decide_eq_false hr; omega)]
  · cases t with
    | same x y =>
      have ok2 : x.ok ∧ y.ok := by cases d <;> exact ok
      rw [show (Tst.same x y).d = .tup [.str "same", x.d, y.d] from rfl] at hN ⊢
      walk_at "dl"
      refine ifB (fun h => absurd h (by decide +kernel)) (fun _ => ?_)
      refine ifB (fun h => absurd h (by decide +kernel)) (fun _ => ?_)
      refine ifB (fun h => absurd h (by decide +kernel)) (fun _ => ?_)
      rw [e_atom1, e_atom1]
      exact hN _ _ ⟨[x.s, "==", y.s], ⟨ok2.1, ok2.2, rfl⟩, .refl hD, rfl⟩
    | neg u =>
      obtain ⟨e, rfl⟩ : ∃ e, d = e + 1 := by
        cases d with
        | zero => exact ok.elim
        | succ e => exact ⟨e, rfl⟩
      rw [show (Tst.neg u).d = .tup [.str "not", u.d] from rfl] at hN ⊢
      walk_at "dl"
      refine ifB (fun h => absurd h (by decide +kernel)) (fun _ => ?_)
      refine ifB (fun h => absurd h (by decide +kernel)) (fun _ => ?_)
      refine ifB (fun _ => ?_) (fun h => absurd h (by decide +kernel))
      refine ⟨a, u, e, 3, rfl, ok, by omega, by omega, hD, fun w M2 hw n2 => ?_⟩
      have b1 := Nat.le_trans (tr_bd u e 3 w ok hw).1.1 (LT_le (by omega))
      walk_at "dl"
      exact ⟨by rw [dStrs_len, List.length_singleton]; omega, hN _ _ ⟨"not" :: w, ⟨w, hw, rfl⟩, n2, rfl⟩⟩
    | con l r =>
      obtain ⟨e, rfl⟩ : ∃ e, d = e + 1 := by
        cases d with
        | zero => exact ok.elim
        | succ e => exact ⟨e, rfl⟩
      rw [show (Tst.con l r).d = .tup [.str "and", l.d, r.d] from rfl] at hN ⊢
      walk_at "dl"
      refine ifB (fun h => absurd h (by decide +kernel)) (fun _ => ?_)
      refine ifB (fun _ => ?_) (fun h => absurd h (by decide +kernel))
      refine ⟨a, l, e, 2, rfl, ok.1, by omega, by omega, hD, fun wl M2 hl n2 => ?_⟩
      have b1 := Nat.le_trans (tr_bd l e 2 wl ok.1 hl).1.1 (LT_le (by omega))
      walk_at "dl"
      refine ⟨by rw [dStrs_len, List.length_singleton]; omega, a, r, e, 3, rfl, ok.2, by omega, by omega, n2.at, fun wr M3 hr n3 => ?_⟩
      have b2 := Nat.le_trans (tr_bd r e 3 wr ok.2 hr).1.1 (LT_le (by omega))
      walk_at "dl"
      refine ⟨by rw [List.length_append, dStrs_len, dStrs_len, List.length_singleton]; omega, hN _ _ ⟨wl ++ ("and" : Str) :: wr, ⟨wl, wr, hl, hr, rfl⟩, n2.trans n3, ?_⟩⟩
      have : dStrs wl ++ [D.str "and"] ++ dStrs wr = dStrs (wl ++ ("and" : Str) :: wr) := by simp
      rw [this] <;> rfl
    | dis l r =>
      obtain ⟨e, rfl⟩ : ∃ e, d = e + 1 := by
        cases d with
        | zero => exact ok.elim
        | succ e => exact ⟨e, rfl⟩
      rw [show (Tst.dis l r).d = .tup [.str "or", l.d, r.d] from rfl] at hN ⊢
      walk_at "dl"
      refine ifB (fun _ => ?_) (fun h => absurd h (by decide +kernel))
      refine ⟨a, l, e, 1, rfl, ok.1, by omega, by omega, hD, fun wl M2 hl n2 => ?_⟩
      have b1 := Nat.le_trans (tr_bd l e 1 wl ok.1 hl).1.1 (LT_le (by omega))
      walk_at "dl"
      refine ⟨by rw [dStrs_len, List.length_singleton]; omega, a, r, e, 2, rfl, ok.2, by omega, by omega, n2.at, fun wr M3 hr n3 => ?_⟩
      have b2 := Nat.le_trans (tr_bd r e 2 wr ok.2 hr).1.1 (LT_le (by omega))
      walk_at "dl"
      refine ⟨by rw [List.length_append, dStrs_len, dStrs_len, List.length_singleton]; omega, hN _ _ ⟨wl ++ ("or" : Str) :: wr, ⟨wl, wr, hl, hr, rfl⟩, n2.trans n3, ?_⟩⟩
      have : dStrs wl ++ [D.str "or"] ++ dStrs wr = dStrs (wl ++ ("or" : Str) :: wr) := by simp
      rw [this] <;> rfl
def sp_vrowd (n : Nat) : SpD := fun ds M Q _ => ∃ (a : Addr) (v : Val) (d : Nat), ds = [.obj a, v.d] ∧ v.ok d ∧ d < n ∧ d ≤ 2 ∧ DrawAt M a ∧ ∀ ws M', VT v ws → DrN a M M' → Q (.lst (dStrs ws)) M'
theorem ok__law_value_row (T : Txt K mg) {f : Addr} {fd : FuncData} (F : FunD K "_law_value_row" "_law_value_row" (defArgs s_law_value_row) (defBody s_law_value_row) (defScope s_law_value_row) [] [] f fd) (h__law_test_row : Callee P w K mg base CX0 (5) "_law_test_row" P_law_test_row (sp_trowd 4)) (h__law_value_row : Callee P w K mg base CX0 (5+n) "_law_value_row" P_law_value_row (sp_vrowd n)) : FnOk P w K mg base CX0 (5+n + 1) f fd P_law_value_row (LSp K ((sp_vrowd (n+1)))) := by
  refine fnD0 F sc_law_value_row (fun ds M Q E h => by first | (obtain ⟨rfl, _⟩ := h; rfl) | (obtain ⟨_, rfl, _⟩ := h; rfl) | (obtain ⟨_, _, rfl, _⟩ := h; rfl) | (obtain ⟨_, _, _, rfl, _⟩ := h; rfl) | (obtain ⟨_, _, _, _, rfl, _⟩ := h; rfl) | (obtain ⟨_, _, _, _, _, rfl, _⟩ := h; rfl) | (obtain ⟨_, _, _, _, _, _, rfl, _⟩ := h; rfl) | (obtain ⟨_, _, _, _, _, _, _, rfl, _⟩ := h; rfl) | (obtain ⟨_, _, _, _, _, _, _, _, rfl, _⟩ := h; rfl) | (obtain ⟨_, _, _, _, _, _, _, _, _, rfl, _⟩ := h; rfl) | (obtain ⟨_, _, _, _, _, _, _, _, _, _, rfl, _⟩ := h; rfl) | (obtain ⟨_, _, _, _, _, _, _, _, _, _, _, rfl, _⟩ := h; rfl) | (obtain ⟨_, _, _, _, _, _, _, _, _, _, _, _, rfl, _⟩ := h; rfl) | (obtain ⟨_, _, _, _, _, _, _, _, _, _, _, _, _, rfl, _⟩ := h; rfl) | (obtain ⟨_, _, _, _, _, _, _, _, _, _, _, _, _, _, rfl, _⟩ := h; rfl) | (obtain ⟨_, _, _, _, _, _, _, _, _, _, _, _, _, _, _, rfl, _⟩ := h; rfl) | (obtain ⟨_, _, _, _, _, _, _, _, _, _, _, _, _, _, _, _, rfl, _⟩ := h; rfl) | (obtain ⟨_, _, _, _, _, _, _, _, _, _, _, _, _, _, _, _, _, rfl, _⟩ := h; rfl) | (obtain ⟨_, _, _, _, _, _, _, _, _, _, _, _, _, _, _, _, _, _, rfl, _⟩ := h; rfl) | (obtain ⟨_, _, _, _, _, _, _, _, _, _, _, _, _, _, _, _, _, _, _, rfl, _⟩ := h; rfl)) fun cdv A outer s H E F0 hr => ⟨_, (dss_cons (ds_if (dt_cmp (od_ne hr.units) (de_ix (de_var (pv 1)) de_int (fun _ _ => rfl)) de_str (nomark _)) (dss_one (ds_ret (de_lst (own := false) (da_cons (de_ix (de_var (pv 1)) de_int (fun _ _ => rfl)) da_nil)))) dss_nil)
      (dss_cons (ds_set (i := 2) sc_law_value_row.nd rfl (Or.inl rfl) (de_op (od_add (own := false)) (de_op (od_add (own := false)) (de_op (od_add (own := false)) (de_lst (own := false) (da_cons de_str da_nil)) (de_fn h__law_test_row (hr.mono (by omega)) rfl pass0 finX0 (da_cons (de_var (pv 0)) (da_cons (de_ix (de_var (pv 1)) de_int (fun _ _ => rfl)) (da_cons de_int da_nil))))) (de_lst (own := false) (da_cons de_str da_nil))) (de_fn h__law_value_row (hr.mono (by omega)) rfl pass0 finX0 (da_cons (de_var (pv 0)) (da_cons (de_ix (de_var (pv 1)) de_int (fun _ _ => rfl)) da_nil)))))
      (dss_one (ds_ret (de_op (od_add (own := false)) (de_op (od_add (own := false)) (de_var (pv 2)) (de_lst (own := false) (da_cons de_str da_nil))) (de_fn h__law_value_row (hr.mono (by omega)) rfl pass0 finX0 (da_cons (de_var (pv 0)) (da_cons (de_ix (de_var (pv 1)) de_int (fun _ _ => rfl)) da_nil)))))))), fun ds M Q Ex h => ?_⟩
  obtain ⟨a, v, d, rfl, ok, hd, hd2, hD, q⟩ := h
  walk_at "st"
  have hs : sizeLine = 16777216 := sizeLine_eq
  rcases v with x | ⟨t, x, y⟩
  · refine seq_tail (fun _ _ => False) (fun _ _ h => h.elim) (fun N hN => ?_)
    have ha : x.ok := by cases d <;> exact ok
    rcases x with s | s
    · rw [show (Val.at (.nm s)).d = .tup [.str "name", .str s] from rfl]
      walk_at "dl"
      exact ifB (fun _ => Wk.here (q [s] _ ⟨ha, rfl⟩ (.refl hD))) (fun h => absurd h (by decide +kernel))
    · rw [show (Val.at (.vl s)).d = .tup [.str "value", .str s] from rfl]
      walk_at "dl"
      exact ifB (fun _ => Wk.here (q [s] _ ⟨ha, rfl⟩ (.refl hD))) (fun h => absurd h (by decide +kernel))
  · obtain ⟨e, rfl⟩ : ∃ e, d = e + 1 := by
      cases d with
      | zero => exact ok.elim
      | succ e => exact ⟨e, rfl⟩
    rw [show (Val.ite t x y).d = .tup [.str "if", t.d, x.d, y.d] from rfl]
    refine seq_tail (fun σ M' => M' = M ∧ σ = [some (.obj a), some (.tup [.str "if", t.d, x.d, y.d]), none]) ?_ (fun N hN => by walk_at "dl"; exact ifB (fun h => absurd h (by decide +kernel)) (fun _ => hN _ _ ⟨rfl, rfl⟩))
    rintro _ M0 ⟨e0, rfl⟩
    rw [e0]; clear e0 M0
    walk_at "dl"
    refine ⟨a, t, e + 1, 1, rfl, ok.1, by omega, by omega, hD, fun wt M2 ht n2 => ?_⟩
    have b1 := Nat.le_trans (tr_bd t (e + 1) 1 wt ok.1 ht).1.1 (LT_le (by omega))
    walk_at "dl"
    simp only [List.length_append, dStrs_len, List.length_cons, List.length_nil]
    refine ⟨by omega, by omega, a, x, e, rfl, ok.2.1, by omega, by omega, n2.at, fun wx M3 hx n3 => ?_⟩
    have n3 := n2.trans n3
    have b2 := Nat.le_trans (vt_bd x e wx ok.2.1 hx).1.1 (LV_le (by omega))
    walk_at "dl"
    simp only [List.length_append, dStrs_len, List.length_cons, List.length_nil]
    refine ⟨by omega, by omega, a, y, e, rfl, ok.2.2, by omega, by omega, n3.at, fun wy M4 hy n4 => ?_⟩
    have n4 := n3.trans n4
    have b3 := Nat.le_trans (vt_bd y e wy ok.2.2 hy).1.1 (LV_le (by omega))
    walk_at "dl"
    simp only [List.length_append, dStrs_len, List.length_cons, List.length_nil]
    refine ⟨by omega, Wk.here ?_⟩
    have e2 : [D.str "if"] ++ dStrs wt ++ [D.str "then"] ++ dStrs wx ++ [D.str "else"] ++ dStrs wy = dStrs (("if" : Str) :: (wt ++ ("then" : Str) :: (wx ++ ("else" : Str) :: wy))) := by simp
    simp only [List.append_assoc] at e2 ⊢
    rw [e2]
    exact q _ _ ⟨wt, wx, wy, ht, nd_50 ok.1 (by omega), hx, hy, rfl⟩ n4
end
end K01
namespace K01
open PySem PySem.Spec L2 DL Syn Wr Lx Cu Rt Rv Rp Bd
local macro_rules | `(tactic| walk_at "st") => `(tactic| simp only [start_def, List.map_cons, List.map_nil, List.length_cons, List.length_nil, List.cons_append, List.nil_append, Nat.zero_add, Nat.reduceAdd, Nat.reduceSub, List.replicate])
local macro_rules | `(tactic| walk_at "dl") => `(tactic| simp only [dSeq, dNext, dDrop, dRet, dRetF, dRetN, dIfS, dAsg, dAug, dPar, nGm, nTup, nCons, nNil, dVar, dC, dOp, dUn, dCons, dNil, dTup, dLst, dB, dTru, dAnd, dOr, dNot, dAndV, dOrV, dNotV, dIf, dChain, dCB, dCall, dSlE, dNoPart, dPart, dRev, dS0, dS1, dBL, dBL0, dIsi, dBreak, dCont, List.set_cons_zero, List.set_cons_succ, List.getElem?_cons_zero, List.getElem?_cons_succ, ifB_t, ifB_f, e_new_f, e_new_t, e_add_int, e_add_str, e_add_tup, e_add_lst, e_sub, e_mul, e_mul_str, e_mul_lst, e_div, e_mod, e_pow, e_neg, e_eq_int, e_eq_str, e_isN_non, e_isN_obj, e_isN_tup, e_isN_lst, e_lt_int, e_lt_str, e_le_int, e_le_str, e_gt, e_ge, e_in_str, e_t0, e_t1, e_t2, e_t3, e_t4, e_t5, e_l0, e_l1, e_l2, e_l3, e_sl_tup, e_sl_rdl, e_sl_str, e_sl_lst, e_len_str, e_len_lst, e_len_tup, e_int, e_tupC_tup, e_tupC_lst, e_iadd_int, e_iadd_str, e_isub, tru_bl, tru_int, tru_non, tru_lst, tru_tup, ex_some, bne_f, bne_t, e_nSub, cxK, e_fld, e_sfld, e_meth, lsD_lst, sz0, sz1, sz2, sz3, sz4, sz5, sz6, sz7, sz8, true_and])
section
variable {P : Program} {w : World} {K : PySem.W.Frag} {mg : Str → Option Value} {base : Heap} {n : Nat}
/-- what value rows come to, one by one -/
theorem lc_vals {a : Addr} {vs : List Val} {M : Mp} {own : Bool} {k : Nat} {wi : DTI} {te : DTE} {σ : DS} {Q : DK} (hl : vs.length ≤ 1000) (hD : DrawAt M a)
    (hwi : ∀ Kd : List D → (Mp → Prop) → Mp → Prop, Kd (vs.map Val.d) (fun _ => True) M → wi σ M Kd)
    (h : ∀ v ∈ vs, ∀ M1 (Q : DK), DrawAt M1 a → (∀ ws M2, VT v ws → DrN a M1 M2 → Q (.lst (dStrs ws)) M2) → te (σ.set k (some v.d)) M1 Q)
    (q : ∀ (vw : List (Val × List Str)) M', vs = vw.map (·.1) → (∀ p ∈ vw, VT p.1 p.2) → DrN a M M' → dNew own (vw.map fun p => .lst (dStrs p.2)) M' Q) : dLc own k wi te σ M Q := by
  have hs : sizeLine = 16777216 := sizeLine_eq
  refine lc_gen (fun ds M1 => ds = vs.map Val.d ∧ M1 = M) (fun Kd hk => hwi Kd (hk _ _ ⟨rfl, rfl⟩)) (fun ds i acc M1 => ds = vs.map Val.d ∧ ∃ vw : List (Val × List Str), vw.map (·.1) = vs.take i ∧ acc = vw.map (fun p => .lst (dStrs p.2)) ∧ (∀ p ∈ vw, VT p.1 p.2) ∧ DrN a M M1) ?_ ?_ ?_ ?_
  · rintro ds M1 ⟨rfl, _⟩
    rw [List.length_map]; omega
  · rintro ds M1 ⟨rfl, rfl⟩
    exact ⟨rfl, [], rfl, rfl, fun _ h => (List.not_mem_nil h).elim, .refl hD⟩
  · rintro ds i d acc M1 p Q' hd ⟨rfl, vw, e1, rfl, e3, n1⟩ hp hl2 hq
    rw [List.getElem?_map] at hd
    obtain ⟨v, hv, rfl⟩ := Option.map_eq_some_iff.mp hd
    refine h v (List.mem_of_getElem? hv) _ Q' (n1.at.upd hp) fun ws M2 hw n2 => ?_
    obtain ⟨M3, rfl, n3⟩ := n2.off (n1.at.ne hp)
    refine hq _ M3 (n3.none n1.at hp) ⟨rfl, vw ++ [(v, ws)], ?_, by rw [List.map_append] <;> rfl, fun p hp => ?_, n1.trans n3⟩
    · rw [List.map_append, e1, take_at hv] <;> rfl
    · rcases List.mem_append.mp hp with hp | hp
      · exact e3 p hp
      · rw [List.mem_singleton.mp hp]; exact hw
  · rintro ds acc M' hl2 ⟨rfl, vw, e1, rfl, e3, n1⟩
    rw [List.length_map, List.take_length] at e1
    exact q vw M' e1.symm e3 n1
def sp_ddrow (n : Nat) : SpD := fun ds M Q _ => ∃ (a : Addr) (xs : List Deed) (d : Nat), ds = [.obj a, .tup (deedsD xs)] ∧ (∀ x ∈ xs, x.ok d) ∧ xs.length ≤ 3 ∧ d < n ∧ d ≤ 2 ∧ DrawAt M a ∧ ∀ ws M', DsT d xs ws → Wts (LD d * xs.length) ws → DrN a M M' → Q (.lst (dStrs ws)) M'
theorem ok__law_deed_row (T : Txt K mg) {f : Addr} {fd : FuncData} (F : FunD K "_law_deed_row" "_law_deed_row" (defArgs s_law_deed_row) (defBody s_law_deed_row) (defScope s_law_deed_row) [] [] f fd) (h__law_next : Callee P w K mg base CX0 (1) "_law_next" P_law_next sp_next) (h__law_test_row : Callee P w K mg base CX0 (5) "_law_test_row" P_law_test_row (sp_trowd 4)) (h__law_value_row : Callee P w K mg base CX0 (8) "_law_value_row" P_law_value_row (sp_vrowd 3)) (h__law_commas : Callee P w K mg base CX0 (1) "_law_commas" P_law_commas sp_commas) (h__law_deed_row : Callee P w K mg base CX0 (8+n) "_law_deed_row" P_law_deed_row (sp_ddrow n)) : FnOk P w K mg base CX0 (8+n + 1) f fd P_law_deed_row (LSp K ((sp_ddrow (n+1)))) := by
  refine fnD0 F sc_law_deed_row (fun ds M Q E h => by first | (obtain ⟨rfl, _⟩ := h; rfl) | (obtain ⟨_, rfl, _⟩ := h; rfl) | (obtain ⟨_, _, rfl, _⟩ := h; rfl) | (obtain ⟨_, _, _, rfl, _⟩ := h; rfl) | (obtain ⟨_, _, _, _, rfl, _⟩ := h; rfl) | (obtain ⟨_, _, _, _, _, rfl, _⟩ := h; rfl) | (obtain ⟨_, _, _, _, _, _, rfl, _⟩ := h; rfl) | (obtain ⟨_, _, _, _, _, _, _, rfl, _⟩ := h; rfl) | (obtain ⟨_, _, _, _, _, _, _, _, rfl, _⟩ := h; rfl) | (obtain ⟨_, _, _, _, _, _, _, _, _, rfl, _⟩ := h; rfl) | (obtain ⟨_, _, _, _, _, _, _, _, _, _, rfl, _⟩ := h; rfl) | (obtain ⟨_, _, _, _, _, _, _, _, _, _, _, rfl, _⟩ := h; rfl) | (obtain ⟨_, _, _, _, _, _, _, _, _, _, _, _, rfl, _⟩ := h; rfl) | (obtain ⟨_, _, _, _, _, _, _, _, _, _, _, _, _, rfl, _⟩ := h; rfl) | (obtain ⟨_, _, _, _, _, _, _, _, _, _, _, _, _, _, rfl, _⟩ := h; rfl) | (obtain ⟨_, _, _, _, _, _, _, _, _, _, _, _, _, _, _, rfl, _⟩ := h; rfl) | (obtain ⟨_, _, _, _, _, _, _, _, _, _, _, _, _, _, _, _, rfl, _⟩ := h; rfl) | (obtain ⟨_, _, _, _, _, _, _, _, _, _, _, _, _, _, _, _, _, rfl, _⟩ := h; rfl) | (obtain ⟨_, _, _, _, _, _, _, _, _, _, _, _, _, _, _, _, _, _, rfl, _⟩ := h; rfl) | (obtain ⟨_, _, _, _, _, _, _, _, _, _, _, _, _, _, _, _, _, _, _, rfl, _⟩ := h; rfl)) fun cdv A outer s H E F0 hr => ⟨_, (dss_cons (ds_set (i := 2) sc_law_deed_row.nd rfl (Or.inl rfl) (de_lst (own := false) da_nil))
      (dss_cons (ds_for PassesOwn.never rfl (di_items (de_var (pv 1))) (dg_name (pg_name (i := 3) sc_law_deed_row.nd rfl (Or.inl rfl))) (dss_one (ds_if (dt_cmp (od_eq hr.units) (de_ix (de_var (pv 3)) de_int (fun _ _ => rfl)) de_str (nomark _)) (dss_cons (ds_set (i := 2) sc_law_deed_row.nd rfl (Or.inl rfl) (de_op (od_add (own := false)) (de_op (od_add (own := false)) (de_op (od_add (own := false)) (de_op (od_add (own := false)) (de_op (od_add (own := false)) (de_var (pv 2)) (de_lst (own := false) (da_cons de_str da_nil))) (de_fn h__law_test_row (hr.mono (by omega)) rfl pass0 finX0 (da_cons (de_var (pv 0)) (da_cons (de_ix (de_var (pv 3)) de_int (fun _ _ => rfl)) (da_cons de_int da_nil))))) (de_lst (own := false) (da_cons de_str da_nil))) (de_fn h__law_deed_row (hr.mono (by omega)) rfl pass0 finX0 (da_cons (de_var (pv 0)) (da_cons (de_ix (de_var (pv 3)) de_int (fun _ _ => rfl)) da_nil)))) (de_lst (own := false) (da_cons de_str da_nil))))
      (dss_one (ds_if (dt_w (dw_or (dt_cmp (od_gt) (de_callB cd_len rfl T.len (by decide +kernel) (da_cons (de_ix (de_var (pv 3)) de_int (fun _ _ => rfl)) da_nil)) de_int (nomark _)) (dw_or1 (dt_w (dw_and (dt_cmp od_notN (de_var (pv 0)) de_non (nomark _)) (dw_and1 (dt_cmp (od_eq hr.units) (de_fn h__law_next (hr.mono (by omega)) rfl pass0 finX0 (da_cons (de_var (pv 0)) (da_cons de_int da_nil))) de_int (nomark _)))))))) (dss_one (ds_set (i := 2) sc_law_deed_row.nd rfl (Or.inl rfl) (de_op (od_add (own := false)) (de_op (od_add (own := false)) (de_op (od_add (own := false)) (de_var (pv 2)) (de_lst (own := false) (da_cons de_str (da_cons de_str da_nil)))) (de_fn h__law_deed_row (hr.mono (by omega)) rfl pass0 finX0 (da_cons (de_var (pv 0)) (da_cons (de_ix (de_var (pv 3)) de_int (fun _ _ => rfl)) da_nil)))) (de_lst (own := false) (da_cons de_str da_nil))))) dss_nil))) (dss_one (ds_if (dt_cmp (od_eq hr.units) (de_ix (de_var (pv 3)) de_int (fun _ _ => rfl)) de_str (nomark _)) (dss_cons (ds_set (i := 2) sc_law_deed_row.nd rfl (Or.inl rfl) (de_op (od_add (own := false)) (de_var (pv 2)) (de_lst (own := false) (da_cons (de_ix (de_var (pv 3)) de_int (fun _ _ => rfl)) (da_cons de_str (da_cons de_str (da_cons (de_ix (de_var (pv 3)) de_int (fun _ _ => rfl)) (da_cons de_str da_nil))))))))
      (dss_one (ds_set (i := 2) sc_law_deed_row.nd rfl (Or.inl rfl) (de_op (od_add (own := false)) (de_op (od_add (own := false)) (de_var (pv 2)) (de_fn h__law_commas (hr.mono (by omega)) rfl pass0 finX0 (da_cons (de_lc (own := false) (x := "value") (j := 4) rfl sc_law_deed_row.nd (di_items (de_ix (de_var (pv 3)) de_int (fun _ _ => rfl))) (blkOk_by (N := N_law_deed_row) (sc := defScope s_law_deed_row) (by decide +kernel)) (fun _ _ _ _ _ => pg_name (i := 4) sc_law_deed_row.nd rfl (by first | exact Or.inl rfl | exact Or.inr rfl)) (fun _ _ _ _ _ => (de_fn h__law_value_row (hr.mono (by omega)) rfl pass0 finX0 (da_cons (de_var (pv 0)) (da_cons (de_var (pv 4)) da_nil))))) da_nil))) (de_lst (own := false) (da_cons de_str (da_cons de_str da_nil))))))) (dss_one (ds_set (i := 2) sc_law_deed_row.nd rfl (Or.inl rfl) (de_op (od_add (own := false)) (de_op (od_add (own := false)) (de_op (od_add (own := false)) (de_var (pv 2)) (de_lst (own := false) (da_cons (de_ix (de_var (pv 3)) de_int (fun _ _ => rfl)) (da_cons de_str da_nil)))) (de_fn h__law_value_row (hr.mono (by omega)) rfl pass0 finX0 (da_cons (de_var (pv 0)) (da_cons (de_ix (de_var (pv 3)) de_int (fun _ _ => rfl)) da_nil)))) (de_lst (own := false) (da_cons de_str da_nil))))))))))
      (dss_one (ds_ret (de_var (pv 2)))))), fun ds M Q Ex h => ?_⟩
  obtain ⟨a, xs, d, rfl, ok, hl3, hd, hd2, hD, q⟩ := h
  walk_at "st"
  have hs : sizeLine = 16777216 := sizeLine_eq
  have hLD := LD_le hd2
  have hLD0 := LD_lo d
  refine seq_tail (fun σ M' => M' = M ∧ σ = [some (.obj a), some (.tup (deedsD xs)), some (.lst (dStrs [])), none, none]) ?_ (fun N hN => by walk_at "dl"; exact hN _ _ ⟨rfl, rfl⟩)
  rintro _ M0 ⟨e0, rfl⟩
  rw [e0]; clear e0 M0
  refine seq_tail (fun σ M' => ∃ ws b c, DsT d xs ws ∧ Wts (LD d * xs.length) ws ∧ DrN a M M' ∧ σ = [some (.obj a), some (.tup (deedsD xs)), some (.lst (dStrs ws)), b, c]) ?_ (fun N hN => ?_)
  · rintro _ M1 ⟨ws, b, c, h1, h2, n1, rfl⟩
    walk_at "dl"
    exact Wk.here (q ws _ h1 h2 n1)
  · refine for_pure (deedsD xs) (fun Kd hk => by unfold dItems; walk_at "dl"; exact hk) (fun i σ M' => ∃ ws b c, DsT d (xs.take i) ws ∧ Wts (LD d * i) ws ∧ DrN a M M' ∧ σ = [some (.obj a), some (.tup (deedsD xs)), some (.lst (dStrs ws)), b, c]) ⟨[], none, none, by rw [List.take_zero]; unfold DsT; rfl, Wts.nil.mono (Nat.zero_le _), .refl hD, rfl⟩ ?_ ?_
    · rintro i dd σ M' N' hi ⟨ws, b, c, h1, h2, n1, rfl⟩ hN'
      rw [deedsD_map, List.getElem?_map] at hi
      obtain ⟨x, hx, rfl⟩ := Option.map_eq_some_iff.mp hi
      have okx := ok x (List.mem_of_getElem? hx)
      have hii : i < xs.length := (List.getElem?_eq_some_iff.mp hx).1
      have hwl : ws.length ≤ 1820 * 3 := Nat.le_trans h2.1 (Nat.mul_le_mul hLD (by omega))
      -- a deed is told
      have fin : ∀ (wx : List Str) (M2 : Mp) (l : List D) (b c : Option D), DdT d x wx → Wts (LD d) wx → DrN a M M2 → l = dStrs (ws ++ wx) → N' [some (.obj a), some (.tup (deedsD xs)), some (.lst l), b, c] M2 := fun wx M2 l b c hd hw n2 e => by
        subst e
        refine hN' _ _ ⟨ws ++ wx, b, c, ?_, ?_, n2, rfl⟩
        · rw [take_at hx]; exact dst_snoc hd h1
        · rw [Nat.mul_succ]; exact h2.app hw
      clear hN' q hN
      rcases x with ⟨n1', v⟩ | ⟨n1', g, vs⟩ | ⟨t, us, vs⟩
      · have ok2 : NameOk false n1' ∧ v.ok 2 := by cases d <;> (unfold Deed.ok at okx; exact okx)
        rw [show (Deed.set n1' v).d = .tup [.str "set", .str n1', v.d] by rw [Deed.d]]
        walk_at "dl"
        refine ifB (fun h => absurd h (by decide +kernel)) (fun _ => ?_)
        refine ifB (fun h => absurd h (by decide +kernel)) (fun _ => ?_)
        simp only [List.length_append, dStrs_len, List.length_cons, List.length_nil]
        refine ⟨by omega, a, v, 2, rfl, ok2.2, by decide, by decide, n1.at, fun wv M2 hv n2 => ?_⟩
        obtain ⟨v1, v2⟩ := vt_bd v 2 wv ok2.2 hv
        have v3 : LV 2 ≤ 130 := LV_le (by decide)
        have v4 := v1.1
        have v5 : CV 2 ≤ 47 := CV_le (by decide)
        walk_at "dl"
        simp only [List.length_append, dStrs_len, List.length_cons, List.length_nil]
        refine ⟨by omega, by omega, fin (n1' :: (":=" : Str) :: (wv ++ [(";" : Str)])) _ _ _ _ (ddt_plain ⟨wv, ok2.1, hv, by omega, rfl⟩) ((Wts.nm ok2.1 (.fix (v1.app (.fix .nil)))).mono (by omega)) (n1.trans n2) (by simp)⟩
      · have ok2 : NameOk false n1' ∧ NameOk false g ∧ vs.length ≤ 3 ∧ ∀ v ∈ vs, Val.ok 1 v := by cases d <;> (unfold Deed.ok at okx; exact okx)
        obtain ⟨k1, k2, k3, k4⟩ := ok2
        rw [show (Deed.doo n1' g vs).d = .tup [.str "do", .str n1', .str g, .tup (vs.map Val.d)] by rw [Deed.d]]
        walk_at "dl"
        refine ifB (fun h => absurd h (by decide +kernel)) (fun _ => ?_)
        refine ifB (fun _ => ?_) (fun h => absurd h (by decide +kernel))
        simp only [List.length_append, dStrs_len, List.length_cons, List.length_nil]
        refine ⟨by omega, ?_⟩
        refine lc_vals (a := a) (vs := vs) (by omega) n1.at (fun Kd hk => by unfold dItems; walk_at "dl"; exact hk) (fun v hv M2 Q2 hD2 hq => ?_) (fun vw M2 evw hvw n2 => ?_)
        · walk_at "dl"
          exact ⟨a, v, 1, rfl, k4 v hv, by decide, by decide, hD2, hq⟩
        · have hvl : vw.length ≤ 3 := by rw [evw, List.length_map] at k3; exact k3
          have vb : ∀ p ∈ vw, Wts 30 p.2 ∧ vcnt p.2 ≤ 47 ∧ 1 ≤ p.2.length := fun p hp => by
            have okp : Val.ok 1 p.1 := k4 p.1 (by rw [evw]; exact List.mem_map_of_mem hp)
            obtain ⟨v1, v2⟩ := vt_bd p.1 1 p.2 okp (hvw p hp)
            obtain ⟨w0, r0, e0, _⟩ := vt_hd (hvw p hp)
            exact ⟨v1.mono (LV_le1 (by decide)), Nat.le_trans v2 (CV_le (by decide)), by rw [e0]; simp⟩
          have cb : Wts (31 * (vw.map (·.2)).length) (commas (vw.map (·.2))) := wts_commas _ fun x hx => by
            obtain ⟨p, hp, rfl⟩ := List.mem_map.mp hx
            exact (vb p hp).1
          rw [List.length_map] at cb
          have cbl := cb.1
          walk_at "dl"
          refine ⟨vw.map (·.2), by rw [List.map_map]; rfl, by rw [List.length_map]; exact hvl, fun x hx => ?_, ?_⟩
          · obtain ⟨p, hp, rfl⟩ := List.mem_map.mp hx
            have := (vb p hp).1.1
            exact ⟨(vb p hp).2.2, by omega⟩
          · walk_at "dl"
            simp only [List.length_append, dStrs_len, List.length_cons, List.length_nil]
            refine ⟨by omega, by omega, fin (n1' :: (":=" : Str) :: ("do" : Str) :: g :: ("(" : Str) :: (commas (vw.map (·.2)) ++ [(")" : Str), (";" : Str)])) _ _ _ _ (ddt_plain ⟨vw, evw, k1, k2, hvl, fun p hp => ⟨hvw p hp, (vb p hp).2.1⟩, rfl⟩) ((Wts.nm k1 (.fix (.fix (.nm k2 (.fix (cb.app (.fix (.fix .nil)))))))).mono (by omega)) (n1.trans n2) (by simp)⟩
      · obtain ⟨e, rfl⟩ : ∃ e, d = e + 1 := by
          cases d with
          | zero => unfold Deed.ok at okx; exact okx.elim
          | succ e => exact ⟨e, rfl⟩
        unfold Deed.ok at okx
        obtain ⟨k1, k2, k3, k4, k5⟩ := okx
        have hLe := LD_s e
        rw [show (Deed.ite t us vs).d = .tup [.str "if", t.d, .tup (deedsD us), .tup (deedsD vs)] by rw [Deed.d]]
        walk_at "dl"
        refine ifB (fun _ => ?_) (fun h => absurd h (by decide +kernel))
        simp only [List.length_append, dStrs_len, List.length_cons, List.length_nil]
        refine ⟨by omega, a, t, 2, 1, rfl, k1, by decide, by decide, n1.at, fun wt M2 ht n2 => ?_⟩
        have n2 := n1.trans n2
        obtain ⟨t1, t2⟩ := tr_bd t 2 1 wt k1 ht
        have t3 : LT 2 ≤ 130 := LT_le (by decide)
        have t4 : CT 2 ≤ 47 := CT_le (by decide)
        have t5 := t1.1
        have t6 := cnt_vcnt wt
        walk_at "dl"
        simp only [List.length_append, dStrs_len, List.length_cons, List.length_nil]
        refine ⟨by omega, by omega, a, us, e, rfl, k3, by omega, by omega, by omega, n2.at, fun wu M3 hu1 hu2 n3 => ?_⟩
        have n3 := n2.trans n3
        have u2 : LD e * us.length ≤ LD e * 2 := Nat.mul_le_mul (Nat.le_refl _) k2
        have u3 := hu2.1
        walk_at "dl"
        simp only [List.length_append, dStrs_len, List.length_cons, List.length_nil]
        refine ⟨by omega, by omega, ?_⟩
        -- with an else
        have els : ∀ M4, DrN a M M4 → sp_ddrow n [.obj a, .tup (deedsD vs)] M4 (fun y M5 => dAdd false (.lst (dStrs ws ++ [D.str "if"] ++ dStrs wt ++ [D.str "{"] ++ dStrs wu ++ [D.str "}"] ++ [D.str "else", D.str "{"])) y M5 fun y M5 => dAdd false y (.lst [D.str "}"]) M5 fun y M5 => N' [some (.obj a), some (.tup (deedsD xs)), some y, some (.tup [.str "if", t.d, .tup (deedsD us), .tup (deedsD vs)]), c] M5) X0 := fun M4 n4 => by
          refine ⟨a, vs, e, rfl, k5, by omega, by omega, by omega, n4.at, fun wv M5 hv1 hv2 n5 => ?_⟩
          have v2 : LD e * vs.length ≤ LD e * 1 := Nat.mul_le_mul (Nat.le_refl _) k4
          have v3 := hv2.1
          dsimp only
          rw [e_add_lst, e_new_f, e_add_lst, e_new_f]
          simp only [List.length_append, dStrs_len, List.length_cons, List.length_nil]
          refine ⟨by omega, by omega, fin (("if" : Str) :: (wt ++ ("{" : Str) :: (wu ++ ("}" : Str) :: ("else" : Str) :: ("{" : Str) :: (wv ++ [("}" : Str)])))) _ _ _ _ ?_ ((Wts.fix (t1.app (.fix (hu2.app (.fix (.fix (.fix (hv2.app (.fix .nil))))))))).mono (by omega)) (n4.trans n5) (by simp)⟩
          unfold DdT
          exact ⟨wt, wu, wv, ht, nd_50 k1 (by decide), by omega, by omega, by omega, hu1, hv1, .inr rfl⟩
        refine ifB (fun _ => ⟨by omega, els M3 n3⟩) (fun hz => ifB (fun _ => ⟨a, 3, rfl, by decide, by decide, n3.at, fun z M4 h0 h1 n4 => ?_⟩) (fun h => by cases h))
        have n4 := n3.trans n4
        have evs : vs = [] := by
          have := of_decide_eq_false hz
          rw [deedsD_len] at this
          exact List.eq_nil_of_length_eq_zero (by omega)
        subst evs
        walk_at "dl"
        refine ifB (fun _ => ⟨by omega, els M4 n4⟩) (fun _ => ?_)
        refine fin (("if" : Str) :: (wt ++ ("{" : Str) :: (wu ++ [("}" : Str)]))) _ _ _ _ ?_ ((Wts.fix (t1.app (.fix (hu2.app (.fix .nil))))).mono (by omega)) n4 (by simp)
        unfold DdT
        exact ⟨wt, wu, [], ht, nd_50 k1 (by decide), by omega, by omega, by simp, hu1, by unfold DsT; rfl, .inl ⟨rfl, rfl⟩⟩
    · rintro σ M' ⟨ws, b, c, h1, h2, n1, rfl⟩
      rw [deedsD_len, List.take_length] at h1
      rw [deedsD_len] at h2
      exact hN _ _ ⟨ws, b, c, h1, h2, n1, rfl⟩
end
end K01
namespace K01
open PySem PySem.Spec L2 DL Syn Wr Lx Cu Rt Rv Rp Bd
local macro_rules | `(tactic| walk_at "st") => `(tactic| simp only [start_def, List.map_cons, List.map_nil, List.length_cons, List.length_nil, List.cons_append, List.nil_append, Nat.zero_add, Nat.reduceAdd, Nat.reduceSub, List.replicate])
local macro_rules | `(tactic| walk_at "dl") => `(tactic| simp only [dSeq, dNext, dDrop, dRet, dRetF, dRetN, dIfS, dAsg, dAug, dPar, nGm, nTup, nCons, nNil, dVar, dC, dOp, dUn, dCons, dNil, dTup, dLst, dB, dTru, dAnd, dOr, dNot, dAndV, dOrV, dNotV, dIf, dChain, dCB, dCall, dSlE, dNoPart, dPart, dRev, dS0, dS1, dBL, dBL0, dIsi, dBreak, dCont, List.set_cons_zero, List.set_cons_succ, List.getElem?_cons_zero, List.getElem?_cons_succ, ifB_t, ifB_f, e_new_f, e_new_t, e_add_int, e_add_str, e_add_tup, e_add_lst, e_sub, e_mul, e_mul_str, e_mul_lst, e_div, e_mod, e_pow, e_neg, e_eq_int, e_eq_str, e_isN_non, e_isN_obj, e_isN_tup, e_isN_lst, e_lt_int, e_lt_str, e_le_int, e_le_str, e_gt, e_ge, e_in_str, e_t0, e_t1, e_t2, e_t3, e_t4, e_t5, e_l0, e_l1, e_l2, e_l3, e_sl_tup, e_sl_rdl, e_sl_str, e_sl_lst, e_len_str, e_len_lst, e_len_tup, e_int, e_tupC_tup, e_tupC_lst, e_iadd_int, e_iadd_str, e_isub, tru_bl, tru_int, tru_non, tru_lst, tru_tup, ex_some, bne_f, bne_t, e_nSub, cxK, e_fld, e_sfld, e_meth, lsD_lst, sz0, sz1, sz2, sz3, sz4, sz5, sz6, sz7, sz8, true_and])
section
variable {P : Program} {w : World} {K : PySem.W.Frag} {mg : Str → Option Value} {base : Heap} {n : Nat}
def sp_varrowd : SpD := fun ds M Q _ => ∃ (a : Addr) (vs : List Vr), ds = [.obj a, .tup (vs.map vrD)] ∧ (∀ v ∈ vs, VrOk v) ∧ vs.length ≤ 3 ∧ DrawAt M a ∧ ∀ ws M', VarsT vs ws → Wts (140 * vs.length) ws → DrN a M M' → Q (.lst (dStrs ws)) M'
theorem ok__law_var_row (T : Txt K mg) {f : Addr} {fd : FuncData} (F : FunD K "_law_var_row" "_law_var_row" (defArgs s_law_var_row) (defBody s_law_var_row) (defScope s_law_var_row) [] [] f fd) (h__law_value_row : Callee P w K mg base CX0 (8) "_law_value_row" P_law_value_row (sp_vrowd 3)) : FnOk P w K mg base CX0 (8 + 1) f fd P_law_var_row (LSp K (sp_varrowd)) := by
  refine fnD0 F sc_law_var_row (fun ds M Q E h => by first | (obtain ⟨rfl, _⟩ := h; rfl) | (obtain ⟨_, rfl, _⟩ := h; rfl) | (obtain ⟨_, _, rfl, _⟩ := h; rfl) | (obtain ⟨_, _, _, rfl, _⟩ := h; rfl) | (obtain ⟨_, _, _, _, rfl, _⟩ := h; rfl) | (obtain ⟨_, _, _, _, _, rfl, _⟩ := h; rfl) | (obtain ⟨_, _, _, _, _, _, rfl, _⟩ := h; rfl) | (obtain ⟨_, _, _, _, _, _, _, rfl, _⟩ := h; rfl) | (obtain ⟨_, _, _, _, _, _, _, _, rfl, _⟩ := h; rfl) | (obtain ⟨_, _, _, _, _, _, _, _, _, rfl, _⟩ := h; rfl) | (obtain ⟨_, _, _, _, _, _, _, _, _, _, rfl, _⟩ := h; rfl) | (obtain ⟨_, _, _, _, _, _, _, _, _, _, _, rfl, _⟩ := h; rfl) | (obtain ⟨_, _, _, _, _, _, _, _, _, _, _, _, rfl, _⟩ := h; rfl) | (obtain ⟨_, _, _, _, _, _, _, _, _, _, _, _, _, rfl, _⟩ := h; rfl) | (obtain ⟨_, _, _, _, _, _, _, _, _, _, _, _, _, _, rfl, _⟩ := h; rfl) | (obtain ⟨_, _, _, _, _, _, _, _, _, _, _, _, _, _, _, rfl, _⟩ := h; rfl) | (obtain ⟨_, _, _, _, _, _, _, _, _, _, _, _, _, _, _, _, rfl, _⟩ := h; rfl) | (obtain ⟨_, _, _, _, _, _, _, _, _, _, _, _, _, _, _, _, _, rfl, _⟩ := h; rfl) | (obtain ⟨_, _, _, _, _, _, _, _, _, _, _, _, _, _, _, _, _, _, rfl, _⟩ := h; rfl) | (obtain ⟨_, _, _, _, _, _, _, _, _, _, _, _, _, _, _, _, _, _, _, rfl, _⟩ := h; rfl)) fun cdv A outer s H E F0 hr => ⟨_, (dss_cons (ds_set (i := 2) sc_law_var_row.nd rfl (Or.inl rfl) (de_lst (own := false) da_nil))
      (dss_cons (ds_for PassesOwn.never rfl (di_items (de_var (pv 1))) (dg_name (pg_name (i := 3) sc_law_var_row.nd rfl (Or.inl rfl))) (dss_one (ds_set (i := 2) sc_law_var_row.nd rfl (Or.inl rfl) (de_op (od_add (own := false)) (de_op (od_add (own := false)) (de_op (od_add (own := false)) (de_var (pv 2)) (de_lst (own := false) (da_cons de_str (da_cons (de_ix (de_var (pv 3)) de_int (fun _ _ => rfl)) (da_cons de_str (da_cons (de_ix (de_var (pv 3)) de_int (fun _ _ => rfl)) (da_cons de_str da_nil))))))) (de_fn h__law_value_row (hr.mono (by omega)) rfl pass0 finX0 (da_cons (de_var (pv 0)) (da_cons (de_ix (de_var (pv 3)) de_int (fun _ _ => rfl)) da_nil)))) (de_lst (own := false) (da_cons de_str da_nil))))))
      (dss_one (ds_ret (de_var (pv 2)))))), fun ds M Q Ex h => ?_⟩
  obtain ⟨a, vs, rfl, ok, hl3, hD, q⟩ := h
  walk_at "st"
  have hs : sizeLine = 16777216 := sizeLine_eq
  refine seq_tail (fun σ M' => M' = M ∧ σ = [some (.obj a), some (.tup (vs.map vrD)), some (.lst (dStrs [])), none]) ?_ (fun N hN => by walk_at "dl"; exact hN _ _ ⟨rfl, rfl⟩)
  rintro _ M0 ⟨e0, rfl⟩
  rw [e0]; clear e0 M0
  refine seq_tail (fun σ M' => ∃ ws b, VarsT vs ws ∧ Wts (140 * vs.length) ws ∧ DrN a M M' ∧ σ = [some (.obj a), some (.tup (vs.map vrD)), some (.lst (dStrs ws)), b]) ?_ (fun N hN => ?_)
  · rintro _ M1 ⟨ws, b, h1, h2, n1, rfl⟩
    walk_at "dl"
    exact Wk.here (q ws _ h1 h2 n1)
  · refine for_pure (vs.map vrD) (fun Kd hk => by unfold dItems; walk_at "dl"; exact hk) (fun i σ M' => ∃ ws b, VarsT (vs.take i) ws ∧ Wts (140 * i) ws ∧ DrN a M M' ∧ σ = [some (.obj a), some (.tup (vs.map vrD)), some (.lst (dStrs ws)), b]) ⟨[], none, by rw [List.take_zero]; rfl, Wts.nil.mono (Nat.zero_le _), .refl hD, rfl⟩ ?_ ?_
    · rintro i dd σ M' N' hi ⟨ws, b, h1, h2, n1, rfl⟩ hN'
      rw [List.getElem?_map] at hi
      obtain ⟨v, hv, rfl⟩ := Option.map_eq_some_iff.mp hi
      obtain ⟨k1, k2, k3⟩ := ok v (List.mem_of_getElem? hv)
      have hii : i < vs.length := (List.getElem?_eq_some_iff.mp hv).1
      have hwl : ws.length ≤ 140 * 3 := Nat.le_trans h2.1 (Nat.mul_le_mul (Nat.le_refl _) (by omega))
      rw [show vrD v = .tup [.str v.1, .str v.2.1, v.2.2.d] from rfl]
      walk_at "dl"
      simp only [List.length_append, dStrs_len, List.length_cons, List.length_nil]
      refine ⟨by omega, a, v.2.2, 2, rfl, k3, by decide, by decide, n1.at, fun wv M2 hwv n2 => ?_⟩
      obtain ⟨v1, v2⟩ := vt_bd v.2.2 2 wv k3 hwv
      have v3 : LV 2 ≤ 130 := LV_le (by decide)
      have v4 := v1.1
      have v5 : CV 2 ≤ 47 := CV_le (by decide)
      walk_at "dl"
      simp only [List.length_append, dStrs_len, List.length_cons, List.length_nil]
      have e : dStrs ws ++ [D.str "var", D.str v.1, D.str ":", D.str v.2.1, D.str "="] ++ dStrs wv ++ [D.str ";"] = dStrs (ws ++ (("var" : Str) :: v.1 :: (":" : Str) :: v.2.1 :: ("=" : Str) :: (wv ++ [(";" : Str)]))) := by simp
      rw [e]
      refine ⟨by omega, by omega, hN' _ _ ⟨_, _, ?_, ?_, n1.trans n2, rfl⟩⟩
      · rw [take_at hv]; exact vars_snoc k1 k2 hwv (by omega) h1
      · rw [Nat.mul_succ]
        exact h2.app ((Wts.fix (.nm k1 (.fix (.nm k2 (.fix (v1.app (.fix .nil))))))).mono (by omega))
    · rintro σ M' ⟨ws, b, h1, h2, n1, rfl⟩
      rw [List.length_map, List.take_length] at h1
      rw [List.length_map] at h2
      exact hN _ _ ⟨ws, b, h1, h2, n1, rfl⟩
def sp_partrowd (n : Nat) : SpD := fun ds M Q _ => ∃ (a : Addr) (xs : List Part) (d : Nat), ds = [.obj a, .tup (partsD xs)] ∧ (∀ x ∈ xs, x.ok d) ∧ xs.length ≤ 3 ∧ d < n ∧ d ≤ 3 ∧ DrawAt M a ∧ ∀ ws M', PsT d xs ws → Wts (LP d * xs.length) ws → DrN a M M' → Q (.lst (dStrs ws)) M'
theorem ptt_act {d : Nat} {x : Part} {w : List Str} (h : ActT x w) : PtT d x w := by
  rcases x with ⟨n, gs, vs, ps⟩ | ⟨n, gs, kd, ds, v⟩
  · exact h.elim
  · cases d <;> (unfold PtT; exact h)
theorem ok__law_part_row (T : Txt K mg) {f : Addr} {fd : FuncData} (F : FunD K "_law_part_row" "_law_part_row" (defArgs s_law_part_row) (defBody s_law_part_row) (defScope s_law_part_row) [] [] f fd) (h__law_commas : Callee P w K mg base CX0 (1) "_law_commas" P_law_commas sp_commas) (h__law_var_row : Callee P w K mg base CX0 (9) "_law_var_row" P_law_var_row sp_varrowd) (h__law_part_row : Callee P w K mg base CX0 (11+n) "_law_part_row" P_law_part_row (sp_partrowd n)) (h__law_deed_row : Callee P w K mg base CX0 (11) "_law_deed_row" P_law_deed_row (sp_ddrow 3)) (h__law_value_row : Callee P w K mg base CX0 (8) "_law_value_row" P_law_value_row (sp_vrowd 3)) : FnOk P w K mg base CX0 (11+n + 1) f fd P_law_part_row (LSp K ((sp_partrowd (n+1)))) := by
  refine fnD0 F sc_law_part_row (fun ds M Q E h => by first | (obtain ⟨rfl, _⟩ := h; rfl) | (obtain ⟨_, rfl, _⟩ := h; rfl) | (obtain ⟨_, _, rfl, _⟩ := h; rfl) | (obtain ⟨_, _, _, rfl, _⟩ := h; rfl) | (obtain ⟨_, _, _, _, rfl, _⟩ := h; rfl) | (obtain ⟨_, _, _, _, _, rfl, _⟩ := h; rfl) | (obtain ⟨_, _, _, _, _, _, rfl, _⟩ := h; rfl) | (obtain ⟨_, _, _, _, _, _, _, rfl, _⟩ := h; rfl) | (obtain ⟨_, _, _, _, _, _, _, _, rfl, _⟩ := h; rfl) | (obtain ⟨_, _, _, _, _, _, _, _, _, rfl, _⟩ := h; rfl) | (obtain ⟨_, _, _, _, _, _, _, _, _, _, rfl, _⟩ := h; rfl) | (obtain ⟨_, _, _, _, _, _, _, _, _, _, _, rfl, _⟩ := h; rfl) | (obtain ⟨_, _, _, _, _, _, _, _, _, _, _, _, rfl, _⟩ := h; rfl) | (obtain ⟨_, _, _, _, _, _, _, _, _, _, _, _, _, rfl, _⟩ := h; rfl) | (obtain ⟨_, _, _, _, _, _, _, _, _, _, _, _, _, _, rfl, _⟩ := h; rfl) | (obtain ⟨_, _, _, _, _, _, _, _, _, _, _, _, _, _, _, rfl, _⟩ := h; rfl) | (obtain ⟨_, _, _, _, _, _, _, _, _, _, _, _, _, _, _, _, rfl, _⟩ := h; rfl) | (obtain ⟨_, _, _, _, _, _, _, _, _, _, _, _, _, _, _, _, _, rfl, _⟩ := h; rfl) | (obtain ⟨_, _, _, _, _, _, _, _, _, _, _, _, _, _, _, _, _, _, rfl, _⟩ := h; rfl) | (obtain ⟨_, _, _, _, _, _, _, _, _, _, _, _, _, _, _, _, _, _, _, rfl, _⟩ := h; rfl)) fun cdv A outer s H E F0 hr => ⟨_, (dss_cons (ds_set (i := 2) sc_law_part_row.nd rfl (Or.inl rfl) (de_lst (own := false) da_nil))
      (dss_cons (ds_for PassesOwn.never rfl (di_items (de_var (pv 1))) (dg_name (pg_name (i := 3) sc_law_part_row.nd rfl (Or.inl rfl))) (dss_cons (ds_set (i := 2) sc_law_part_row.nd rfl (Or.inl rfl) (de_op (od_add (own := false)) (de_op (od_add (own := false)) (de_op (od_add (own := false)) (de_var (pv 2)) (de_lst (own := false) (da_cons (de_ix (de_var (pv 3)) de_int (fun _ _ => rfl)) (da_cons (de_ix (de_var (pv 3)) de_int (fun _ _ => rfl)) (da_cons de_str da_nil))))) (de_fn h__law_commas (hr.mono (by omega)) rfl pass0 finX0 (da_cons (de_lc (own := false) (x := "one") (j := 4) rfl sc_law_part_row.nd (di_items (de_ix (de_var (pv 3)) de_int (fun _ _ => rfl))) (blkOk_by (N := N_law_part_row) (sc := defScope s_law_part_row) (by decide +kernel)) (fun _ _ _ _ _ => pg_name (i := 4) sc_law_part_row.nd rfl (by first | exact Or.inl rfl | exact Or.inr rfl)) (fun _ _ _ _ _ => (de_lst (own := false) (da_cons (de_ix (de_var (pv 4)) de_int (fun _ _ => rfl)) (da_cons de_str (da_cons (de_ix (de_var (pv 4)) de_int (fun _ _ => rfl)) da_nil)))))) da_nil))) (de_lst (own := false) (da_cons de_str da_nil))))
      (dss_one (ds_if (dt_cmp (od_eq hr.units) (de_ix (de_var (pv 3)) de_int (fun _ _ => rfl)) de_str (nomark _)) (dss_one (ds_set (i := 2) sc_law_part_row.nd rfl (Or.inl rfl) (de_op (od_add (own := false)) (de_op (od_add (own := false)) (de_op (od_add (own := false)) (de_op (od_add (own := false)) (de_var (pv 2)) (de_lst (own := false) (da_cons de_str da_nil))) (de_fn h__law_var_row (hr.mono (by omega)) rfl pass0 finX0 (da_cons (de_var (pv 0)) (da_cons (de_ix (de_var (pv 3)) de_int (fun _ _ => rfl)) da_nil)))) (de_fn h__law_part_row (hr.mono (by omega)) rfl pass0 finX0 (da_cons (de_var (pv 0)) (da_cons (de_ix (de_var (pv 3)) de_int (fun _ _ => rfl)) da_nil)))) (de_lst (own := false) (da_cons de_str da_nil))))) (dss_cons (ds_set (i := 2) sc_law_part_row.nd rfl (Or.inl rfl) (de_op (od_add (own := false)) (de_op (od_add (own := false)) (de_var (pv 2)) (de_lst (own := false) (da_cons de_str (da_cons (de_ix (de_var (pv 3)) de_int (fun _ _ => rfl)) (da_cons de_str da_nil))))) (de_fn h__law_deed_row (hr.mono (by omega)) rfl pass0 finX0 (da_cons (de_var (pv 0)) (da_cons (de_ix (de_var (pv 3)) de_int (fun _ _ => rfl)) da_nil)))))
      (dss_one (ds_set (i := 2) sc_law_part_row.nd rfl (Or.inl rfl) (de_op (od_add (own := false)) (de_op (od_add (own := false)) (de_op (od_add (own := false)) (de_var (pv 2)) (de_lst (own := false) (da_cons de_str da_nil))) (de_fn h__law_value_row (hr.mono (by omega)) rfl pass0 finX0 (da_cons (de_var (pv 0)) (da_cons (de_ix (de_var (pv 3)) de_int (fun _ _ => rfl)) da_nil)))) (de_lst (own := false) (da_cons de_str (da_cons de_str da_nil)))))))))))
      (dss_one (ds_ret (de_var (pv 2)))))), fun ds M Q Ex h => ?_⟩
  obtain ⟨a, xs, d, rfl, ok, hl3, hd, hd2, hD, q⟩ := h
  walk_at "st"
  have hs : sizeLine = 16777216 := sizeLine_eq
  have hLP := LP_le hd2
  have hLP0 := LP_lo d
  refine seq_tail (fun σ M' => M' = M ∧ σ = [some (.obj a), some (.tup (partsD xs)), some (.lst (dStrs [])), none, none]) ?_ (fun N hN => by walk_at "dl"; exact hN _ _ ⟨rfl, rfl⟩)
  rintro _ M0 ⟨e0, rfl⟩
  rw [e0]; clear e0 M0
  refine seq_tail (fun σ M' => ∃ ws b c, PsT d xs ws ∧ Wts (LP d * xs.length) ws ∧ DrN a M M' ∧ σ = [some (.obj a), some (.tup (partsD xs)), some (.lst (dStrs ws)), b, c]) ?_ (fun N hN => ?_)
  · rintro _ M1 ⟨ws, b, c, h1, h2, n1, rfl⟩
    walk_at "dl"
    exact Wk.here (q ws _ h1 h2 n1)
  · refine for_pure (partsD xs) (fun Kd hk => by unfold dItems; walk_at "dl"; exact hk) (fun i σ M' => ∃ ws b c, PsT d (xs.take i) ws ∧ Wts (LP d * i) ws ∧ DrN a M M' ∧ σ = [some (.obj a), some (.tup (partsD xs)), some (.lst (dStrs ws)), b, c]) ⟨[], none, none, by rw [List.take_zero]; unfold PsT; rfl, Wts.nil.mono (Nat.zero_le _), .refl hD, rfl⟩ ?_ ?_
    · rintro i dd σ M' N' hi ⟨ws, b, c, h1, h2, n1, rfl⟩ hN'
      rw [partsD_map, List.getElem?_map] at hi
      obtain ⟨x, hx, rfl⟩ := Option.map_eq_some_iff.mp hi
      have okx := ok x (List.mem_of_getElem? hx)
      have hii : i < xs.length := (List.getElem?_eq_some_iff.mp hx).1
      have hwl : ws.length ≤ 50000 * 3 := Nat.le_trans h2.1 (Nat.mul_le_mul hLP (by omega))
      have fin : ∀ (wx : List Str) (M2 : Mp) (l : List D) (b c : Option D), PtT d x wx → Wts (LP d) wx → DrN a M M2 → l = dStrs (ws ++ wx) → N' [some (.obj a), some (.tup (partsD xs)), some (.lst l), b, c] M2 := fun wx M2 l b c hd hw n2 e => by
        subst e
        refine hN' _ _ ⟨ws ++ wx, b, c, ?_, ?_, n2, rfl⟩
        · rw [take_at hx]; exact pst_snoc hd h1
        · rw [Nat.mul_succ]; exact h2.app hw
      clear hN' q hN
      -- the head, alike for both
      have head : ∀ (w0 nm : Str) (gs : List Giv) (X : D) (r : List D), X = .tup (.str w0 :: .str nm :: .tup (gs.map givD) :: r) → GivOk gs → ∀ (c : Option D) (N2 : DS → Mp → Prop), (∀ c, N2 [some (.obj a), some (.tup (partsD xs)), some (.lst (dStrs (ws ++ w0 :: nm :: givW gs))), some X, c] M') →
          dLc false 4 (dItems (dOp dIx (dVar 3) (dC (.int 2)))) (dLst false (dCons (dOp dIx (dVar 4) (dC (.int 0))) (dCons (dC (.str ":")) (dCons (dOp dIx (dVar 4) (dC (.int 1))) dNil)))) [some (.obj a), some (.tup (partsD xs)), some (.lst (dStrs ws)), some X, c] M' (fun y M2 => sp_commas [y] M2 (fun y M3 => dAdd false (.lst (dStrs ws ++ [.str w0, .str nm, .str "("])) y M3 fun y M4 => dAdd false y (.lst [.str ")"]) M4 fun y M5 => N2 [some (.obj a), some (.tup (partsD xs)), some y, some X, c] M5) X0) := by
        intro w0 nm gs X r eX hg c N2 hN2
        subst eX
        have g3 := hg.1
        have gb := (wts_giv hg).1
        refine lc_row gs givD (fun g => .lst (dStrs [g.1, ":", g.2])) (fun Kd hk => by unfold dItems; walk_at "dl"; exact hk) (by omega) (fun i x M2 Q2 hx _ q2 => ?_) ?_
        · rw [show givD x = .tup [.str x.1, .str x.2] from rfl]
          walk_at "dl"
          exact q2
        · rw [e_new_f]
          refine ⟨gs.map fun g => [g.1, (":" : Str), g.2], by rw [List.map_map]; rfl, by rw [List.length_map]; exact g3, fun x hx => ?_, ?_⟩
          · obtain ⟨g, _, rfl⟩ := List.mem_map.mp hx
            exact ⟨by show 1 ≤ 3; decide, by show 3 ≤ 1000; decide⟩
          · dsimp only
            rw [e_add_lst, e_new_f, e_add_lst, e_new_f]
            have cl : (commas (gs.map fun g => [g.1, (":" : Str), g.2])).length ≤ 14 := by
              have : (givW gs).length = (commas (gs.map fun g => [g.1, (":" : Str), g.2])).length + 2 := by unfold givW; simp
              omega
            simp only [List.length_append, dStrs_len, List.length_cons, List.length_nil]
            refine ⟨by omega, by omega, ?_⟩
            have := hN2 c
            have e : dStrs ws ++ [D.str w0, D.str nm, D.str "("] ++ dStrs (commas (gs.map fun g => [g.1, (":" : Str), g.2])) ++ [D.str ")"] = dStrs (ws ++ w0 :: nm :: givW gs) := by unfold givW; simp
            rw [e]; exact this
      refine seq_tail (fun σ M2 => ∃ (w0 nm : Str) (gs : List Giv) (c : Option D), ((∃ vs ps, x = .make nm gs vs ps ∧ w0 = "make") ∨ ∃ kd dd v, x = .act nm gs kd dd v ∧ w0 = "act") ∧ M2 = M' ∧ σ = [some (.obj a), some (.tup (partsD xs)), some (.lst (dStrs (ws ++ w0 :: nm :: givW gs))), some x.d, c]) ?_ (fun N2 hN2 => ?_)
      rotate_left
      · rcases x with ⟨nm, gs, vs, ps⟩ | ⟨nm, gs, kd, dd, v⟩
        · have okg : GivOk gs := by
            cases d with
            | zero => unfold Part.ok at okx; exact okx.elim
            | succ e => unfold Part.ok at okx; exact okx.2.1
          rw [show (Part.make nm gs vs ps).d = .tup [.str "make", .str nm, .tup (gs.map givD), .tup (vs.map vrD), .tup (partsD ps)] by rw [Part.d]] at hN2 ⊢
          walk_at "dl"
          simp only [List.length_append, dStrs_len, List.length_cons, List.length_nil]
          refine ⟨by omega, ?_⟩
          exact head "make" nm gs _ _ rfl okg _ _ fun c => hN2 _ _ ⟨"make", nm, gs, c, .inl ⟨vs, ps, rfl, rfl⟩, rfl, rfl⟩
        · have okg : GivOk gs := by
            cases d <;> (unfold Part.ok at okx; exact okx.2.1)
          rw [show (Part.act nm gs kd dd v).d = .tup [.str "act", .str nm, .tup (gs.map givD), .str kd, .tup (deedsD dd), v.d] by rw [Part.d]] at hN2 ⊢
          walk_at "dl"
          simp only [List.length_append, dStrs_len, List.length_cons, List.length_nil]
          refine ⟨by omega, ?_⟩
          exact head "act" nm gs _ _ rfl okg _ _ fun c => hN2 _ _ ⟨"act", nm, gs, c, .inr ⟨kd, dd, v, rfl, rfl⟩, rfl, rfl⟩
      clear head
      rintro _ M2 ⟨w0, nm, gs, c, hcase, e0, rfl⟩
      rw [e0]; clear e0 M2
      rcases hcase with ⟨vs, ps, rfl, rfl⟩ | ⟨kd, dd, v, rfl, rfl⟩
      · obtain ⟨e, rfl⟩ : ∃ e, d = e + 1 := by
          cases d with
          | zero => unfold Part.ok at okx; exact okx.elim
          | succ e => exact ⟨e, rfl⟩
        unfold Part.ok at okx
        obtain ⟨k1, k2, k3, k4, k5, k6⟩ := okx
        have hLe := LP_s e
        have gb := wts_giv k2
        have gb1 := gb.1
        rw [show (Part.make nm gs vs ps).d = .tup [.str "make", .str nm, .tup (gs.map givD), .tup (vs.map vrD), .tup (partsD ps)] by rw [Part.d]]
        walk_at "dl"
        refine ifB (fun _ => ?_) (fun h => absurd h (by decide +kernel))
        simp only [List.length_append, dStrs_len, List.length_cons, List.length_nil]
        refine ⟨by omega, a, vs, rfl, k4, by omega, n1.at, fun wv M2 hv1 hv2 n2 => ?_⟩
        have n2 := n1.trans n2
        have v2 : 140 * vs.length ≤ 140 * 2 := Nat.mul_le_mul (Nat.le_refl _) k3
        have v3 := hv2.1
        walk_at "dl"
        simp only [List.length_append, dStrs_len, List.length_cons, List.length_nil]
        refine ⟨by omega, a, ps, e, rfl, k6, by omega, by omega, by omega, n2.at, fun wp M3 hp1 hp2 n3 => ?_⟩
        have p2 : LP e * ps.length ≤ LP e * 2 := Nat.mul_le_mul (Nat.le_refl _) k5
        have p3 := hp2.1
        walk_at "dl"
        simp only [List.length_append, dStrs_len, List.length_cons, List.length_nil]
        refine ⟨by omega, by omega, fin (("make" : Str) :: nm :: (givW gs ++ ("{" : Str) :: (wv ++ (wp ++ [("}" : Str)])))) _ _ _ _ ?_ ((Wts.fix (.nm k1 (gb.app (.fix (hv2.app (hp2.app (.fix .nil))))))).mono (by omega)) (n2.trans n3) (by simp)⟩
        unfold PtT
        exact ⟨wv, wp, k1, k2.2, k2.1, hv1, by omega, by omega, hp1, rfl⟩
      · have okx : NameOk false nm ∧ GivOk gs ∧ NameOk true kd ∧ dd.length ≤ 3 ∧ (∀ x ∈ dd, Deed.ok 2 x) ∧ v.ok 2 := by cases d <;> (unfold Part.ok at okx; exact okx)
        obtain ⟨k1, k2, k3, k4, k5, k6⟩ := okx
        have gb := wts_giv k2
        have gb1 := gb.1
        rw [show (Part.act nm gs kd dd v).d = .tup [.str "act", .str nm, .tup (gs.map givD), .str kd, .tup (deedsD dd), v.d] by rw [Part.d]]
        walk_at "dl"
        refine ifB (fun h => absurd h (by decide +kernel)) (fun _ => ?_)
        simp only [List.length_append, dStrs_len, List.length_cons, List.length_nil]
        refine ⟨by omega, a, dd, 2, rfl, k5, k4, by decide, by decide, n1.at, fun wd M2 hd1 hd2 n2 => ?_⟩
        have n2 := n1.trans n2
        have v2 : LD 2 * dd.length ≤ 1820 * 3 := Nat.mul_le_mul (LD_le (by decide)) k4
        have v3 := hd2.1
        walk_at "dl"
        simp only [List.length_append, dStrs_len, List.length_cons, List.length_nil]
        refine ⟨by omega, by omega, a, v, 2, rfl, k6, by decide, by decide, n2.at, fun wv M3 hv n3 => ?_⟩
        obtain ⟨u1, u2⟩ := vt_bd v 2 wv k6 hv
        have u3 : LV 2 ≤ 130 := LV_le (by decide)
        have u4 := u1.1
        have u5 : CV 2 ≤ 47 := CV_le (by decide)
        walk_at "dl"
        simp only [List.length_append, dStrs_len, List.length_cons, List.length_nil]
        refine ⟨by omega, by omega, fin (("act" : Str) :: nm :: (givW gs ++ (":" : Str) :: kd :: ("{" : Str) :: (wd ++ ("answer" : Str) :: (wv ++ [(";" : Str), ("}" : Str)])))) _ _ _ _ ?_ ((Wts.fix (.nm k1 (gb.app (.fix (.nm k3 (.fix (hd2.app (.fix (u1.app (.fix (.fix .nil))))))))))).mono (by omega)) (n2.trans n3) (by simp)⟩
        exact ptt_act ⟨wd, wv, k1, k2.2, k2.1, k3, hd1, by omega, hv, by omega, rfl⟩
    · rintro σ M' ⟨ws, b, c, h1, h2, n1, rfl⟩
      rw [partsD_len, List.take_length] at h1
      rw [partsD_len] at h2
      exact hN _ _ ⟨ws, b, c, h1, h2, n1, rfl⟩
end
end K01
namespace K01
open PySem PySem.Spec L2 DL Syn Wr Lx Cu Rt Rv Rp Bd
local macro_rules | `(tactic| walk_at "st") => `(tactic| simp only [start_def, List.map_cons, List.map_nil, List.length_cons, List.length_nil, List.cons_append, List.nil_append, Nat.zero_add, Nat.reduceAdd, Nat.reduceSub, List.replicate])
local macro_rules | `(tactic| walk_at "dl") => `(tactic| simp only [dSeq, dNext, dDrop, dRet, dRetF, dRetN, dIfS, dAsg, dAug, dPar, nGm, nTup, nCons, nNil, dVar, dC, dOp, dUn, dCons, dNil, dTup, dLst, dB, dTru, dAnd, dOr, dNot, dAndV, dOrV, dNotV, dIf, dChain, dCB, dCall, dSlE, dNoPart, dPart, dRev, dS0, dS1, dBL, dBL0, dIsi, dBreak, dCont, List.set_cons_zero, List.set_cons_succ, List.getElem?_cons_zero, List.getElem?_cons_succ, ifB_t, ifB_f, e_new_f, e_new_t, e_add_int, e_add_str, e_add_tup, e_add_lst, e_sub, e_mul, e_mul_str, e_mul_lst, e_div, e_mod, e_pow, e_neg, e_eq_int, e_eq_str, e_isN_non, e_isN_obj, e_isN_tup, e_isN_lst, e_lt_int, e_lt_str, e_le_int, e_le_str, e_gt, e_ge, e_in_str, e_t0, e_t1, e_t2, e_t3, e_t4, e_t5, e_l0, e_l1, e_l2, e_l3, e_sl_tup, e_sl_rdl, e_sl_str, e_sl_lst, e_len_str, e_len_lst, e_len_tup, e_int, e_tupC_tup, e_tupC_lst, e_iadd_int, e_iadd_str, e_isub, tru_bl, tru_int, tru_non, tru_lst, tru_tup, ex_some, bne_f, bne_t, e_nSub, cxK, e_fld, e_sfld, e_meth, lsD_lst, sz0, sz1, sz2, sz3, sz4, sz5, sz6, sz7, sz8, true_and])
section
variable {P : Program} {w : World} {K : PySem.W.Frag} {mg : Str → Option Value} {base : Heap} {n : Nat}
def sp_ltoks : SpD := fun ds M Q _ => ∃ (a : Addr) (p : Prg), ds = [.obj a, p.d] ∧ p.ok ∧ DrawAt M a ∧ ∀ ws M', PrgT p ws → Wts 200000 ws → DrN a M M' → Q (.lst (dStrs ws)) M'
theorem ok__law_tokens (T : Txt K mg) {f : Addr} {fd : FuncData} (F : FunD K "_law_tokens" "_law_tokens" (defArgs s_law_tokens) (defBody s_law_tokens) (defScope s_law_tokens) [] [] f fd) (h__law_var_row : Callee P w K mg base CX0 (9) "_law_var_row" P_law_var_row sp_varrowd) (h__law_part_row : Callee P w K mg base CX0 (15) "_law_part_row" P_law_part_row (sp_partrowd 4)) : FnOk P w K mg base CX0 (16 + 1) f fd P_law_tokens (LSp K (sp_ltoks)) := by
  refine fnD0 F sc_law_tokens (fun ds M Q E h => by first | (obtain ⟨rfl, _⟩ := h; rfl) | (obtain ⟨_, rfl, _⟩ := h; rfl) | (obtain ⟨_, _, rfl, _⟩ := h; rfl) | (obtain ⟨_, _, _, rfl, _⟩ := h; rfl) | (obtain ⟨_, _, _, _, rfl, _⟩ := h; rfl) | (obtain ⟨_, _, _, _, _, rfl, _⟩ := h; rfl) | (obtain ⟨_, _, _, _, _, _, rfl, _⟩ := h; rfl) | (obtain ⟨_, _, _, _, _, _, _, rfl, _⟩ := h; rfl) | (obtain ⟨_, _, _, _, _, _, _, _, rfl, _⟩ := h; rfl) | (obtain ⟨_, _, _, _, _, _, _, _, _, rfl, _⟩ := h; rfl) | (obtain ⟨_, _, _, _, _, _, _, _, _, _, rfl, _⟩ := h; rfl) | (obtain ⟨_, _, _, _, _, _, _, _, _, _, _, rfl, _⟩ := h; rfl) | (obtain ⟨_, _, _, _, _, _, _, _, _, _, _, _, rfl, _⟩ := h; rfl) | (obtain ⟨_, _, _, _, _, _, _, _, _, _, _, _, _, rfl, _⟩ := h; rfl) | (obtain ⟨_, _, _, _, _, _, _, _, _, _, _, _, _, _, rfl, _⟩ := h; rfl) | (obtain ⟨_, _, _, _, _, _, _, _, _, _, _, _, _, _, _, rfl, _⟩ := h; rfl) | (obtain ⟨_, _, _, _, _, _, _, _, _, _, _, _, _, _, _, _, rfl, _⟩ := h; rfl) | (obtain ⟨_, _, _, _, _, _, _, _, _, _, _, _, _, _, _, _, _, rfl, _⟩ := h; rfl) | (obtain ⟨_, _, _, _, _, _, _, _, _, _, _, _, _, _, _, _, _, _, rfl, _⟩ := h; rfl) | (obtain ⟨_, _, _, _, _, _, _, _, _, _, _, _, _, _, _, _, _, _, _, rfl, _⟩ := h; rfl)) fun cdv A outer s H E F0 hr => ⟨_, (dss_cons (ds_set (i := 2) sc_law_tokens.nd rfl (Or.inl rfl) (de_lst (own := true) da_nil))
      (dss_cons (ds_for PassesOwn.never rfl (di_items (de_ix (de_var (pv 1)) de_int (fun _ _ => rfl))) (dg_name (pg_name (i := 3) sc_law_tokens.nd rfl (Or.inl rfl))) (dss_cons (ds_set (i := 2) sc_law_tokens.nd rfl (Or.inl rfl) (de_op (od_add (own := true)) (de_var (pv 2)) (de_lst (own := false) (da_cons de_str (da_cons (de_ix (de_var (pv 3)) de_int (fun _ _ => rfl)) (da_cons de_str (da_cons (de_ix (de_ix (de_var (pv 3)) de_int (fun _ _ => rfl)) de_int (fun _ _ => rfl)) da_nil)))))))
      (dss_cons (ds_for PassesOwn.never rfl (di_items (de_sl (own := false) (de_ix (de_var (pv 3)) de_int (fun _ _ => rfl)) (do_some de_int) do_none)) (dg_name (pg_name (i := 4) sc_law_tokens.nd rfl (Or.inl rfl))) (dss_one (ds_set (i := 2) sc_law_tokens.nd rfl (Or.inl rfl) (de_op (od_add (own := true)) (de_var (pv 2)) (de_lst (own := false) (da_cons de_str (da_cons (de_var (pv 4)) da_nil)))))))
      (dss_one (ds_expr (de_bl1 PySem.F.slot_list_append PySem.F.type_list_append md_append (de_var (pv 2)) (da_cons de_str da_nil)))))))
      (dss_one (ds_ret (de_op (od_add (own := false)) (de_op (od_add (own := false)) (de_var (pv 2)) (de_fn h__law_var_row (hr.mono (by omega)) rfl pass0 finX0 (da_cons (de_var (pv 0)) (da_cons (de_ix (de_var (pv 1)) de_int (fun _ _ => rfl)) da_nil)))) (de_fn h__law_part_row (hr.mono (by omega)) rfl pass0 finX0 (da_cons (de_var (pv 0)) (da_cons (de_ix (de_var (pv 1)) de_int (fun _ _ => rfl)) da_nil)))))))), fun ds M Q Ex h => ?_⟩
  obtain ⟨a, p, rfl, ok, hD, q⟩ := h
  walk_at "st"
  have hs : sizeLine = 16777216 := sizeLine_eq
  rw [show p.d = .tup [.str "program", .tup (p.kinds.map kindD), .tup (p.vars.map vrD), .tup (partsD p.parts)] from rfl]
  have k1 := ok.kn
  have k2 := ok.vn
  have k3 := ok.pn
  refine seq_tail (fun σ M' => ∃ r b c, Li M [] r M' ∧ σ = [some (.obj a), some (.tup [.str "program", .tup (p.kinds.map kindD), .tup (p.vars.map vrD), .tup (partsD p.parts)]), r, b, c]) ?_ (fun N hN => by walk_at "dl"; exact fun p hp => hN _ _ ⟨_, none, none, Li.start hp, rfl⟩)
  rintro _ M0 ⟨r, b, c, li, rfl⟩
  refine seq_tail (fun σ M' => ∃ r b c wk, Li M wk r M' ∧ KindsT p.kinds wk ∧ Wts (14 * p.kinds.length) wk ∧ σ = [some (.obj a), some (.tup [.str "program", .tup (p.kinds.map kindD), .tup (p.vars.map vrD), .tup (partsD p.parts)]), r, b, c]) ?_ (fun N hN => ?_)
  · rintro _ M1 ⟨r, b, c, wk, li, h1, h2, rfl⟩
    obtain ⟨pr, rfl, hpr, ow⟩ := li
    have hD1 : DrawAt M1 a := by
      obtain ⟨o, ho, hO⟩ := hD
      exact ⟨o, ow.rest _ _ ho, hO⟩
    have hkl := h2.1
    have neA : a ≠ pr := hD.ne hpr
    walk_at "dl"
    refine ⟨a, p.vars, rfl, ok.vs, k2, hD1, fun wv M2 hv1 hv2 n2 => ?_⟩
    try dsimp only
    have hp2 : M2 pr = some (.lst (dStrs wk)) := n2.keep neA ow.one
    rw [e_add_obj hp2, e_new_f]
    have v3 := hv2.1
    simp only [List.length_append, dStrs_len, List.length_cons, List.length_nil]
    refine ⟨by omega, a, p.parts, 3, rfl, ok.ps, k3, by decide, by decide, n2.at, fun wp M3 hp1 hp2 n3 => ?_⟩
    have v4 := hp2.1
    have v5 : LP 3 ≤ 50000 := LP_le (by decide)
    have v6 : LP 3 * p.parts.length ≤ 50000 * 3 := Nat.mul_le_mul v5 k3
    try dsimp only
    rw [e_add_lst, e_new_f]
    simp only [List.length_append, dStrs_len, List.length_cons, List.length_nil]
    refine ⟨by omega, ?_⟩
    have e : dStrs wk ++ dStrs wv ++ dStrs wp = dStrs (wk ++ (wv ++ wp)) := by simp
    rw [e]
    obtain ⟨o3, e3, hO3⟩ := n2.trans n3
    refine ⟨updM M a (.lst o3), fun x o hx => ?_, q _ _ ⟨wk, wv, wp, h1, hv1, hp1, rfl⟩ ((h2.app (hv2.app hp2)).mono (by omega)) ⟨o3, rfl, hO3⟩⟩
    rw [e3]
    by_cases e : x = a
    · rw [e, updM_same] at hx ⊢; exact hx
    · rw [updM_ne e] at hx ⊢; exact ow.rest x o hx
  · refine for_pure (p.kinds.map kindD) (fun Kd hk => by unfold dItems; walk_at "dl"; exact hk) (fun i σ M' => ∃ r b c wk, Li M wk r M' ∧ KindsT (p.kinds.take i) wk ∧ Wts (14 * i) wk ∧ σ = [some (.obj a), some (.tup [.str "program", .tup (p.kinds.map kindD), .tup (p.vars.map vrD), .tup (partsD p.parts)]), r, b, c]) ⟨r, b, c, [], li, by rw [List.take_zero]; rfl, Wts.nil.mono (Nat.zero_le _), rfl⟩ ?_ ?_
    · clear li
      rintro i dd σ M' N' hi ⟨r, b, c, wk, li, h1, h2, rfl⟩ hN'
      rw [List.getElem?_map] at hi
      obtain ⟨⟨nm, vals⟩, hx, rfl⟩ := Option.map_eq_some_iff.mp hi
      obtain ⟨o1, o2, o3, o4⟩ := ok.ks _ (List.mem_of_getElem? hx)
      have hii : i < p.kinds.length := (List.getElem?_eq_some_iff.mp hx).1
      obtain ⟨v0, vr, rfl⟩ : ∃ x xs, vals = x :: xs := by
        cases vals with
        | nil => exact absurd (show 1 ≤ 0 from o2) (by decide)
        | cons x xs => exact ⟨x, xs, rfl⟩
      have o3 : vr.length + 1 ≤ 5 := o3
      have hwl := h2.1
      rw [show kindD (nm, v0 :: vr) = .tup [.str nm, .tup ((v0 :: vr).map D.str)] from rfl, List.map_cons]
      refine seq_tail (fun σ M2 => ∃ r c, Li M (wk ++ (("kind" : Str) :: nm :: ("=" : Str) :: [v0])) r M2 ∧ σ = [some (.obj a), some (.tup [.str "program", .tup (p.kinds.map kindD), .tup (p.vars.map vrD), .tup (partsD p.parts)]), r, some (.tup [.str nm, .tup (.str v0 :: vr.map D.str)]), c]) ?_ (fun N2 hN2 => ?_)
      rotate_left
      · obtain ⟨pr, rfl, hpr, ow⟩ := li
        walk_at "dl"
        rw [e_add_obj ow.one, e_new_t]
        simp only [List.length_append, dStrs_len, List.length_cons, List.length_nil]
        exact ⟨by omega, fun p' hp' => hN2 _ _ ⟨_, c, Li.more ⟨pr, rfl, hpr, ow⟩ hp' (by simp), rfl⟩⟩
      rintro _ M2 ⟨r2, c2, li2, rfl⟩
      refine seq_tail (fun σ M2 => ∃ r c, Li M (wk ++ (("kind" : Str) :: nm :: ("=" : Str) :: bars (v0 :: vr))) r M2 ∧ σ = [some (.obj a), some (.tup [.str "program", .tup (p.kinds.map kindD), .tup (p.vars.map vrD), .tup (partsD p.parts)]), r, some (.tup [.str nm, .tup (.str v0 :: vr.map D.str)]), c]) ?_ (fun N2 hN2 => ?_)
      rotate_left
      · refine for_pure (vr.map D.str) (fun Kd hk => ?_) (fun j σ M3 => ∃ r c, Li M (wk ++ (("kind" : Str) :: nm :: ("=" : Str) :: bars (v0 :: vr.take j))) r M3 ∧ σ = [some (.obj a), some (.tup [.str "program", .tup (p.kinds.map kindD), .tup (p.vars.map vrD), .tup (partsD p.parts)]), r, some (.tup [.str nm, .tup (.str v0 :: vr.map D.str)]), c]) ⟨r2, c2, by rw [List.take_zero]; exact li2, rfl⟩ ?_ ?_
        · unfold dItems
          walk_at "dl"
          rw [show (some (1 : Int)) = some ((1 : Nat) : Int) from rfl, cut_from]
          exact hk
        · rintro j dj σ M3 N3 hj ⟨r3, c3, li3, rfl⟩ hN3
          rw [List.getElem?_map] at hj
          obtain ⟨y, hy, rfl⟩ := Option.map_eq_some_iff.mp hj
          obtain ⟨pr, rfl, hpr, ow⟩ := li3
          have hjj : j < vr.length := (List.getElem?_eq_some_iff.mp hy).1
          have eb : bars (v0 :: vr.take (j + 1)) = bars (v0 :: vr.take j) ++ [("|" : Str), y] := by
            rw [take_at hy, ← List.cons_append, bars_snoc, if_neg (by simp)]; simp
          have bl : (bars (v0 :: vr.take j)).length ≤ 20 := by
            have h3 : ∀ x ∈ v0 :: vr.take j, NameOk true x := fun x hx => by
              rcases List.mem_cons.mp hx with rfl | hx
              · exact o4 _ (List.mem_cons_self ..)
              · exact o4 _ (List.mem_cons_of_mem _ (List.mem_of_mem_take hx))
            have := (wts_bars h3).1
            rw [List.length_cons, List.length_take] at this
            omega
          walk_at "dl"
          rw [e_add_obj ow.one, e_new_t]
          simp only [List.length_append, dStrs_len, List.length_cons, List.length_nil]
          exact ⟨by omega, fun p' hp' => hN3 _ _ ⟨_, _, Li.more ⟨pr, rfl, hpr, ow⟩ hp' (by rw [eb]; simp), rfl⟩⟩
        · rintro σ M3 ⟨r3, c3, li3, rfl⟩
          rw [List.length_map, List.take_length] at li3
          exact hN2 _ _ ⟨r3, c3, li3, rfl⟩
      rintro _ M3 ⟨r3, c3, li3, rfl⟩
      obtain ⟨pr, rfl, hpr, ow⟩ := li3
      have wb := wts_bars o4
      have wb1 := wb.1
      have wb2 : (v0 :: vr).length = vr.length + 1 := rfl
      have wb3 : (bars (v0 :: vr)).length ≤ 2 * (vr.length + 1) := wb1
      walk_at "dl"
      rw [e_append ow.one]
      refine ⟨isLst_of ow.one, ?_⟩
      simp only [List.length_append, dStrs_len, List.length_cons, List.length_nil]
      refine ⟨by omega, hN' _ _ ⟨_, _, _, wk ++ (("kind" : Str) :: nm :: ("=" : Str) :: (bars (v0 :: vr) ++ [(";" : Str)])), Li.put ⟨pr, rfl, hpr, ow⟩ (by simp), ?_, ?_, rfl⟩⟩
      · rw [take_at hx]; exact kinds_snoc (k := (nm, v0 :: vr)) o1 o2 (by exact o3) o4 h1
      · rw [Nat.mul_succ]
        exact h2.app ((Wts.fix (.nm o1 (.fix (wb.app (.fix .nil))))).mono (by simp only [List.length_cons]; omega))
    · rintro σ M' ⟨r, b, c, wk, li, h1, h2, rfl⟩
      rw [List.length_map, List.take_length] at h1
      rw [List.length_map] at h2
      exact hN _ _ ⟨r, b, c, wk, li, h1, h2, rfl⟩
end
end K01
namespace K01
open PySem PySem.Spec L2 DL Syn Wr Lx Cu Rt Rv Rp Bd La
local macro_rules | `(tactic| walk_at "st") => `(tactic| simp only [start_def, List.map_cons, List.map_nil, List.length_cons, List.length_nil, List.cons_append, List.nil_append, Nat.zero_add, Nat.reduceAdd, Nat.reduceSub, List.replicate])
local macro_rules | `(tactic| walk_at "dl") => `(tactic| simp only [dSeq, dNext, dDrop, dRet, dRetF, dRetN, dIfS, dAsg, dAug, dPar, nGm, nTup, nCons, nNil, dVar, dC, dOp, dUn, dCons, dNil, dTup, dLst, dB, dTru, dAnd, dOr, dNot, dAndV, dOrV, dNotV, dIf, dChain, dCB, dCall, dSlE, dNoPart, dPart, dRev, dS0, dS1, dBL, dBL0, dIsi, dBreak, dCont, List.set_cons_zero, List.set_cons_succ, List.getElem?_cons_zero, List.getElem?_cons_succ, ifB_t, ifB_f, e_new_f, e_new_t, e_add_int, e_add_str, e_add_tup, e_add_lst, e_sub, e_mul, e_mul_str, e_mul_lst, e_div, e_mod, e_pow, e_neg, e_eq_int, e_eq_str, e_isN_non, e_isN_obj, e_isN_tup, e_isN_lst, e_lt_int, e_lt_str, e_le_int, e_le_str, e_gt, e_ge, e_in_str, e_t0, e_t1, e_t2, e_t3, e_t4, e_t5, e_l0, e_l1, e_l2, e_l3, e_sl_tup, e_sl_rdl, e_sl_str, e_sl_lst, e_len_str, e_len_lst, e_len_tup, e_int, e_tupC_tup, e_tupC_lst, e_iadd_int, e_iadd_str, e_isub, tru_bl, tru_int, tru_non, tru_lst, tru_tup, ex_some, bne_f, bne_t, e_nSub, cxK, e_fld, e_sfld, e_meth, lsD_lst, sz0, sz1, sz2, sz3, sz4, sz5, sz6, sz7, sz8, true_and])
section
variable {P : Program} {w : World} {K : PySem.W.Frag} {mg : Str → Option Value} {base : Heap} {n : Nat}
def sp_fuse : SpD := fun ds M Q _ => ∃ (left right : Str), ds = [.str left, .str right] ∧ left.length ≤ 100 ∧ right.length ≤ 100 ∧ ∀ b, (b = false → left = "" ∨ right = "" ∨ ∀ r, NF left (right.cps.toList ++ r)) → Q (.bl b) M
theorem nil_str {w : Str} (h : w ≠ "") : ∃ c l, w.cps.toList = c :: l := by
  cases e : w.cps.toList with
  | nil => exact absurd (La.str_ext (show w.cps.toList = ("" : Str).cps.toList by rw [e]; decide +kernel)) h
  | cons c l => exact ⟨c, l, rfl⟩
theorem ok__law_fuse (T : Txt K mg) {f : Addr} {fd : FuncData} (F : FunD K "_law_fuse" "_law_fuse" (defArgs s_law_fuse) (defBody s_law_fuse) (defScope s_law_fuse) [] [] f fd) : FnOk P w K mg base CX0 (0 + 1) f fd P_law_fuse (LSp K (sp_fuse)) := by
  refine fnD0 F sc_law_fuse (fun ds M Q E h => by first | (obtain ⟨rfl, _⟩ := h; rfl) | (obtain ⟨_, rfl, _⟩ := h; rfl) | (obtain ⟨_, _, rfl, _⟩ := h; rfl) | (obtain ⟨_, _, _, rfl, _⟩ := h; rfl) | (obtain ⟨_, _, _, _, rfl, _⟩ := h; rfl) | (obtain ⟨_, _, _, _, _, rfl, _⟩ := h; rfl) | (obtain ⟨_, _, _, _, _, _, rfl, _⟩ := h; rfl) | (obtain ⟨_, _, _, _, _, _, _, rfl, _⟩ := h; rfl) | (obtain ⟨_, _, _, _, _, _, _, _, rfl, _⟩ := h; rfl) | (obtain ⟨_, _, _, _, _, _, _, _, _, rfl, _⟩ := h; rfl) | (obtain ⟨_, _, _, _, _, _, _, _, _, _, rfl, _⟩ := h; rfl) | (obtain ⟨_, _, _, _, _, _, _, _, _, _, _, rfl, _⟩ := h; rfl) | (obtain ⟨_, _, _, _, _, _, _, _, _, _, _, _, rfl, _⟩ := h; rfl) | (obtain ⟨_, _, _, _, _, _, _, _, _, _, _, _, _, rfl, _⟩ := h; rfl) | (obtain ⟨_, _, _, _, _, _, _, _, _, _, _, _, _, _, rfl, _⟩ := h; rfl) | (obtain ⟨_, _, _, _, _, _, _, _, _, _, _, _, _, _, _, rfl, _⟩ := h; rfl) | (obtain ⟨_, _, _, _, _, _, _, _, _, _, _, _, _, _, _, _, rfl, _⟩ := h; rfl) | (obtain ⟨_, _, _, _, _, _, _, _, _, _, _, _, _, _, _, _, _, rfl, _⟩ := h; rfl) | (obtain ⟨_, _, _, _, _, _, _, _, _, _, _, _, _, _, _, _, _, _, rfl, _⟩ := h; rfl) | (obtain ⟨_, _, _, _, _, _, _, _, _, _, _, _, _, _, _, _, _, _, _, rfl, _⟩ := h; rfl)) fun cdv A outer s H E F0 hr => ⟨_, (dss_cons (ds_if (dt_w (dw_or (dt_cmp (od_eq hr.units) (de_var (pv 0)) de_str (nomark _)) (dw_or1 (dt_cmp (od_eq hr.units) (de_var (pv 1)) de_str (nomark _))))) (dss_one (ds_ret de_bl)) dss_nil)
      (dss_cons (ds_if (dt_w (dw_and (dt_w (dw_or (dt_tru (de_s0 PySem.F.slot_str_isalnum PySem.F.type_str_isalnum xs_isalnum (de_ix (de_var (pv 0)) (de_un ud_neg de_int) (fun _ _ => rfl)))) (dw_or1 (dt_cmp (od_eq hr.units) (de_ix (de_var (pv 0)) (de_un ud_neg de_int) (fun _ _ => rfl)) de_str (nomark _))))) (dw_and1 (dt_w (dw_or (dt_tru (de_s0 PySem.F.slot_str_isalnum PySem.F.type_str_isalnum xs_isalnum (de_ix (de_var (pv 1)) de_int (fun _ _ => rfl)))) (dw_or1 (dt_cmp (od_eq hr.units) (de_ix (de_var (pv 1)) de_int (fun _ _ => rfl)) de_str (nomark _)))))))) (dss_one (ds_ret de_bl)) dss_nil)
      (dss_one (ds_ret (de_and (de_cmp (od_in) (de_var (pv 0)) (de_tup (da_cons de_str (da_cons de_str da_nil))) rfl) (de_one (de_cmp (od_eq hr.units) (de_ix (de_var (pv 1)) de_int (fun _ _ => rfl)) de_str (nomark _)))))))), fun ds M Q Ex h => ?_⟩
  obtain ⟨left, right, rfl, hl, hr', q⟩ := h
  walk_at "st"
  have hs : sizeLine = 16777216 := sizeLine_eq
  refine seq_tail (fun σ M' => M' = M ∧ left ≠ "" ∧ right ≠ "" ∧ σ = [some (.str left), some (.str right)]) ?_ (fun N hN => ?_)
  rotate_left
  · walk_at "dl"
    refine ifB (fun h => ?_) (fun h => ?_)
    · exact Wk.here (q false fun _ => .inl (of_decide_eq_true h))
    · refine ifB (fun h2 => ?_) (fun h2 => hN _ _ ⟨rfl, of_decide_eq_false h, of_decide_eq_false h2, rfl⟩)
      exact Wk.here (q false fun _ => .inr (.inl (of_decide_eq_true h2)))
  rintro _ M0 ⟨e0, nl, nr, rfl⟩
  rw [e0]; clear e0 M0
  obtain ⟨c0, l0, e0⟩ := nil_str nl
  obtain ⟨d, l1, e1⟩ := nil_str nr
  obtain ⟨c, hc⟩ : ∃ c, left.cps.toList.getLast? = some c := by
    cases e : left.cps.toList.getLast? with
    | some c => exact ⟨c, rfl⟩
    | none => rw [List.getLast?_eq_none_iff, e0] at e; cases e
  have ixl : ∀ M (Q : DK), Q (.str ⟨#[c]⟩) M → dIx (.str left) (.int (-1)) M Q := fun M Q q => ⟨by omega, c, at_last hc, q⟩
  have ixr : ∀ M (Q : DK), Q (.str ⟨#[d]⟩) M → dIx (.str right) (.int 0) M Q := fun M Q q => e_ix_str (n := 0) (by omega) (by rw [e1]; rfl) q
  have eu : ∀ x : Nat, decide ((⟨#[x]⟩ : Str) = "_") = (x == 95) := fun x => by
    have e : ("_" : Str) = ⟨#[95]⟩ := by decide +kernel
    rw [e, one_eq, Bool.eq_iff_iff, decide_eq_true_iff, beq_iff_eq]
  have ee : ∀ x : Nat, decide ((⟨#[x]⟩ : Str) = "=") = decide (x = 61) := fun x => by
    have e : ("=" : Str) = ⟨#[61]⟩ := by decide +kernel
    rw [e, one_eq]
  refine seq_tail (fun σ M' => M' = M ∧ (rowC c = true → rowC d = true → False) ∧ σ = [some (.str left), some (.str right)]) ?_ (fun N hN => ?_)
  · rintro _ M0 ⟨e2, hcd, rfl⟩
    rw [e2]; clear e2 M0
    have fin : ∀ b, (b = false → (left = ":" ∨ left = "=") → d ≠ 61) → Wk Q (.bl b) M := fun b h => Wk.here (q b fun hb => .inr (.inr fun r => by
      rw [e1]
      exact ⟨fun x hx h1 h2 => by rw [hc] at hx; cases hx; exact hcd h1 h2, h hb⟩))
    walk_at "dl"
    refine e_in (xs := [":", "="]) (.inl rfl) ?_
    walk_at "dl"
    refine ifB (fun h => ?_) (fun h => ?_)
    · refine ixr _ _ ?_
      rw [e_eq_str, ee]
      exact fin _ fun hb _ => of_decide_eq_false (by simpa using hb)
    · have hm := of_decide_eq_false h
      refine fin _ fun _ h2 => absurd ?_ hm
      rcases h2 with h2 | h2
      · rw [h2]; simp
      · rw [h2]; simp
  · have yes : Wk Q (.bl true) M := Wk.here (q true fun h => by cases h)
    have no : (rowC c = true → rowC d = true → False) → N [some (.str left), some (.str right)] M := fun h => hN _ _ ⟨rfl, h, rfl⟩
    have al : ∀ x : Nat, Txt.isalnum ⟨#[x]⟩ = false → (x == 95) = false → rowC x = true → False := fun x h1 h2 h3 => by
      have := row_alnum x (row_lt h3) h3
      rw [h1, h2] at this; cases this
    walk_at "dl"
    refine ixl _ _ ?_
    refine ⟨_, rfl, ?_⟩
    refine ifB (fun _ => ?_) (fun h3 => ?_)
    · refine ixr _ _ ?_
      refine ⟨_, rfl, ?_⟩
      refine ifB (fun _ => yes) (fun h1 => ?_)
      refine ixr _ _ ?_
      rw [e_eq_str, bne_f, eu]
      exact ifB (fun _ => yes) (fun h2 => no fun _ hd => al d h1 h2 hd)
    · refine ixl _ _ ?_
      rw [e_eq_str, bne_f, eu]
      refine ifB (fun _ => ?_) (fun h4 => no fun hcr _ => al c h3 h4 hcr)
      refine ixr _ _ ?_
      refine ⟨_, rfl, ?_⟩
      refine ifB (fun _ => yes) (fun h1 => ?_)
      refine ixr _ _ ?_
      rw [e_eq_str, bne_f, eu]
      exact ifB (fun _ => yes) (fun h2 => no fun _ hd => al d h1 h2 hd)

def sp_gap : SpD := fun ds M Q _ => ∃ (a : Addr) (left right : Str), ds = [.obj a, .str left, .str right] ∧ left.length ≤ 100 ∧ right.length ≤ 100 ∧ DrawAt M a ∧ ∀ g M', GapR left right g → DrN a M M' → Q (.str g) M'
theorem ones_sum (cs : List Nat) : ((cs.map fun c => (⟨#[c]⟩ : Str)).map (·.length)).sum = cs.length := by
  induction cs with
  | nil => rfl
  | cons c cs ih =>
    rw [List.map_cons, List.map_cons, List.sum_cons, ih, List.length_cons]
    show 1 + cs.length = _
    omega
theorem gapR_of {left right g : Str} (h : Gap g.cps.toList) (hn : g.cps.toList ≠ []) : GapR left right g := ⟨h, fun e => absurd e hn⟩
theorem ok__law_gap (T : Txt K mg) {f : Addr} {fd : FuncData} (F : FunD K "_law_gap" "_law_gap" (defArgs s_law_gap) (defBody s_law_gap) (defScope s_law_gap) [] [] f fd) (h__law_next : Callee P w K mg base CX0 (1) "_law_next" P_law_next sp_next) (h__law_fuse : Callee P w K mg base CX0 (1) "_law_fuse" P_law_fuse sp_fuse) (h__law_pick : Callee P w K mg base CX0 (2) "_law_pick" P_law_pick sp_pick) : FnOk P w K mg base CX0 (3 + 1) f fd P_law_gap (LSp K (sp_gap)) := by
  refine fnD0 F sc_law_gap (fun ds M Q E h => by first | (obtain ⟨rfl, _⟩ := h; rfl) | (obtain ⟨_, rfl, _⟩ := h; rfl) | (obtain ⟨_, _, rfl, _⟩ := h; rfl) | (obtain ⟨_, _, _, rfl, _⟩ := h; rfl) | (obtain ⟨_, _, _, _, rfl, _⟩ := h; rfl) | (obtain ⟨_, _, _, _, _, rfl, _⟩ := h; rfl) | (obtain ⟨_, _, _, _, _, _, rfl, _⟩ := h; rfl) | (obtain ⟨_, _, _, _, _, _, _, rfl, _⟩ := h; rfl) | (obtain ⟨_, _, _, _, _, _, _, _, rfl, _⟩ := h; rfl) | (obtain ⟨_, _, _, _, _, _, _, _, _, rfl, _⟩ := h; rfl) | (obtain ⟨_, _, _, _, _, _, _, _, _, _, rfl, _⟩ := h; rfl) | (obtain ⟨_, _, _, _, _, _, _, _, _, _, _, rfl, _⟩ := h; rfl) | (obtain ⟨_, _, _, _, _, _, _, _, _, _, _, _, rfl, _⟩ := h; rfl) | (obtain ⟨_, _, _, _, _, _, _, _, _, _, _, _, _, rfl, _⟩ := h; rfl) | (obtain ⟨_, _, _, _, _, _, _, _, _, _, _, _, _, _, rfl, _⟩ := h; rfl) | (obtain ⟨_, _, _, _, _, _, _, _, _, _, _, _, _, _, _, rfl, _⟩ := h; rfl) | (obtain ⟨_, _, _, _, _, _, _, _, _, _, _, _, _, _, _, _, rfl, _⟩ := h; rfl) | (obtain ⟨_, _, _, _, _, _, _, _, _, _, _, _, _, _, _, _, _, rfl, _⟩ := h; rfl) | (obtain ⟨_, _, _, _, _, _, _, _, _, _, _, _, _, _, _, _, _, _, rfl, _⟩ := h; rfl) | (obtain ⟨_, _, _, _, _, _, _, _, _, _, _, _, _, _, _, _, _, _, _, rfl, _⟩ := h; rfl)) fun cdv A outer s H E F0 hr => ⟨_, (dss_cons (ds_set (i := 3) sc_law_gap.nd rfl (Or.inl rfl) (de_fn h__law_next (hr.mono (by omega)) rfl pass0 finX0 (da_cons (de_var (pv 0)) (da_cons de_int da_nil))))
      (dss_cons (ds_if (dt_cmp (od_lt) (de_var (pv 3)) de_int (nomark _)) (dss_one (ds_ret (de_if (dt_tru (de_fn h__law_fuse (hr.mono (by omega)) rfl pass0 finX0 (da_cons (de_var (pv 1)) (da_cons (de_var (pv 2)) da_nil)))) de_str de_str))) dss_nil)
      (dss_cons (ds_if (dt_cmp (od_lt) (de_var (pv 3)) de_int (nomark _)) (dss_one (ds_ret de_str)) dss_nil)
      (dss_cons (ds_if (dt_cmp (od_eq hr.units) (de_var (pv 3)) de_int (nomark _)) (dss_one (ds_ret (de_sl (own := false) de_str do_none (do_some (de_op (od_add (own := false)) de_int (de_fn h__law_next (hr.mono (by omega)) rfl pass0 finX0 (da_cons (de_var (pv 0)) (da_cons de_int da_nil)))))))) dss_nil)
      (dss_cons (ds_if (dt_cmp (od_eq hr.units) (de_var (pv 3)) de_int (nomark _)) (dss_one (ds_ret (de_op (od_add (own := false)) de_str (de_sl (own := false) de_str do_none (do_some (de_fn h__law_next (hr.mono (by omega)) rfl pass0 finX0 (da_cons (de_var (pv 0)) (da_cons de_int da_nil)))))))) dss_nil)
      (dss_cons (ds_if (dt_cmp (od_eq hr.units) (de_var (pv 3)) de_int (nomark _)) (dss_one (ds_ret de_str)) dss_nil)
      (dss_cons (ds_set (i := 4) sc_law_gap.nd rfl (Or.inl rfl) de_str)
      (dss_cons (ds_set (i := 5) sc_law_gap.nd rfl (Or.inr rfl) (de_op (od_add (own := false)) (de_op (od_add (own := false)) de_str (de_var (pv 4))) (de_s0 PySem.F.slot_str_upper PySem.F.type_str_upper xs_upper (de_var (pv 4)))))
      (dss_cons (ds_setLc (own := false) (x := "k") (j := 7) rfl sc_law_gap.nd (i := 6) rfl rfl (sw_true rfl rfl rfl (by decide +kernel)) (di_range1 rfl T.range (da_cons (de_fn h__law_next (hr.mono (by omega)) rfl pass0 finX0 (da_cons (de_var (pv 0)) (da_cons de_int da_nil))) da_nil)) (blkOk_by (N := N_law_gap) (sc := defScope s_law_gap) (by decide +kernel)) (fun _ _ _ _ _ => pg_name (i := 7) sc_law_gap.nd rfl (by first | exact Or.inl rfl | exact Or.inr rfl)) (fun _ _ _ _ _ => (de_fn h__law_pick (hr.mono (by omega)) rfl pass0 finX0 (da_cons (de_var (pv 0)) (da_cons (de_var (pv 5)) da_nil)))))
      (dss_one (ds_ret (de_op (od_add (own := false)) (de_op (od_add (own := false)) (de_op (od_add (own := false)) (de_sl (own := false) de_str do_none (do_some (de_fn h__law_next (hr.mono (by omega)) rfl pass0 finX0 (da_cons (de_var (pv 0)) (da_cons de_int da_nil))))) de_str) (de_s1 PySem.F.slot_str_join PySem.F.type_str_join xs_join de_str (de_var (pv 6)))) de_str)))))))))))), fun ds M Q Ex h => ?_⟩
  obtain ⟨a, left, right, rfl, hl, hr', hD, q⟩ := h
  walk_at "st"
  have hs : sizeLine = 16777216 := sizeLine_eq
  refine seq_tail (fun σ M' => DrN a M M' ∧ ∃ w : Nat, σ = [some (.obj a), some (.str left), some (.str right), some (.int w), none, none, none, none]) ?_ (fun N hN => ?_)
  rotate_left
  · walk_at "dl"
    refine ⟨a, 9, rfl, by decide, by decide, hD, fun n M1 h0 h1 hn => ?_⟩
    obtain ⟨n, rfl, _⟩ := next_small (m := 9) h0 h1
    exact hN _ _ ⟨hn, n, rfl⟩
  rintro _ M1 ⟨n1, w, rfl⟩
  have e32 : (" " : Str) = ⟨#[32]⟩ := by decide +kernel
  refine seq_tail (fun σ M' => M' = M1 ∧ σ = [some (.obj a), some (.str left), some (.str right), some (.int w), none, none, none, none]) ?_ (fun N hN => ?_)
  rotate_left
  · walk_at "dl"
    refine ifB (fun _ => ?_) (fun _ => hN _ _ ⟨rfl, rfl⟩)
    refine ⟨left, right, rfl, hl, hr', fun b hb => ?_⟩
    refine ⟨b, rfl, ifB (fun _ => ?_) (fun h => ?_)⟩
    · exact Wk.here (q _ _ (gapR_of (by rw [e32]; exact .blanks 1 (by decide)) (by rw [e32]; simp)) n1)
    · refine Wk.here (q _ _ ⟨by rw [show ("" : Str).cps.toList = [] by decide +kernel]; exact .blanks 0 (by decide), fun _ => ?_⟩ n1)
      rcases hb h with e | e | e
      · rw [e]; exact .inr fun r => nf_none
      · exact .inl e
      · exact .inr e
  rintro _ M2 ⟨e0, rfl⟩
  rw [e0]; clear e0 M2
  refine seq_tail (fun σ M' => M' = M1 ∧ σ = [some (.obj a), some (.str left), some (.str right), some (.int w), none, none, none, none]) ?_ (fun N hN => ?_)
  rotate_left
  · walk_at "dl"
    refine ifB (fun _ => ?_) (fun _ => hN _ _ ⟨rfl, rfl⟩)
    exact Wk.here (q _ _ (gapR_of (by rw [e32]; exact .blanks 1 (by decide)) (by rw [e32]; simp)) n1)
  rintro _ M2 ⟨e0, rfl⟩
  rw [e0]; clear e0 M2
  have cutS : ∀ (m k : Nat) (z : Str), z.cps.toList = List.replicate m 32 → k ≤ m → cutL z.cps.toList none (some (k : Int)) = List.replicate k 32 := fun m k z hz hk => by
    rw [hz, cut_to, List.take_replicate, Nat.min_eq_left hk]
  refine seq_tail (fun σ M' => M' = M1 ∧ σ = [some (.obj a), some (.str left), some (.str right), some (.int w), none, none, none, none]) ?_ (fun N hN => ?_)
  rotate_left
  · walk_at "dl"
    refine ifB (fun _ => ?_) (fun _ => hN _ _ ⟨rfl, rfl⟩)
    refine ⟨a, 4, rfl, by decide, by decide, n1.at, fun n M2 h0 h1 n2 => ?_⟩
    obtain ⟨n, rfl, hn⟩ := next_small (m := 4) h0 h1
    rw [e_add_int, show (1 : Int) + (n : Int) = ((1 + n : Nat) : Int) by omega]
    refine ⟨(show ("     " : Str).length ≤ sizeLine by decide +kernel), Wk.here (q _ _ (gapR_of ?_ ?_) (n1.trans n2))⟩
    · rw [cutS 5 (1 + n) _ (by decide +kernel) (by omega)]
      exact .blanks (1 + n) (by omega)
    · rw [cutS 5 (1 + n) _ (by decide +kernel) (by omega), Nat.add_comm]
      simp
  rintro _ M2 ⟨e0, rfl⟩
  rw [e0]; clear e0 M2
  refine seq_tail (fun σ M' => M' = M1 ∧ σ = [some (.obj a), some (.str left), some (.str right), some (.int w), none, none, none, none]) ?_ (fun N hN => ?_)
  rotate_left
  · walk_at "dl"
    refine ifB (fun _ => ?_) (fun _ => hN _ _ ⟨rfl, rfl⟩)
    refine ⟨a, 7, rfl, by decide, by decide, n1.at, fun n M2 h0 h1 n2 => ?_⟩
    obtain ⟨n, rfl, hn⟩ := next_small (m := 7) h0 h1
    refine ⟨(show ("       " : Str).length ≤ sizeLine by decide +kernel), ?_⟩
    have e1 := cutS 7 n "       " (by decide +kernel) (by omega)
    have ec : (("\n" : Str) ++ (⟨(cutL ("       " : Str).cps.toList none (some (n : Int))).toArray⟩ : Str)).cps.toList = 10 :: List.replicate n 32 := by
      rw [tl_app, e1, show ("\n" : Str).cps.toList = [10] by decide +kernel] <;> rfl
    have eln : (⟨(cutL ("       " : Str).cps.toList none (some (n : Int))).toArray⟩ : Str).length = n := by
      rw [e1]; show (List.replicate n 32).toArray.size = n; simp
    try dsimp only
    rw [eln]
    refine ⟨by have : ("\n" : Str).length = 1 := by decide +kernel
               omega, Wk.here (q _ _ (gapR_of ?_ ?_) (n1.trans n2))⟩
    · rw [ec]; exact .line n (by omega)
    · rw [ec]; simp
  rintro _ M2 ⟨e0, rfl⟩
  rw [e0]; clear e0 M2
  refine seq_tail (fun σ M' => M' = M1 ∧ σ = [some (.obj a), some (.str left), some (.str right), some (.int w), none, none, none, none]) ?_ (fun N hN => ?_)
  rotate_left
  · walk_at "dl"
    refine ifB (fun _ => ?_) (fun _ => hN _ _ ⟨rfl, rfl⟩)
    have e : (" \n\n " : Str).cps.toList = [32, 10, 10, 32] := by decide +kernel
    exact Wk.here (q _ _ (gapR_of (by rw [e]; exact .lines) (by rw [e]; simp)) n1)
  rintro _ M2 ⟨e0, rfl⟩
  rw [e0]; clear e0 M2
  refine seq_tail (fun σ M' => M' = M1 ∧ σ = [some (.obj a), some (.str left), some (.str right), some (.int w), some (.str LOW), none, none, none]) ?_ (fun N hN => by walk_at "dl"; exact hN _ _ ⟨rfl, rfl⟩)
  rintro _ M2 ⟨e0, rfl⟩
  rw [e0]; clear e0 M2
  refine seq_tail (fun σ M' => M' = M1 ∧ ∃ sg : Str, (∀ c ∈ sg.cps.toList, textC c = true) ∧ 0 < sg.length ∧ sg.length ≤ sizeLine ∧ σ = [some (.obj a), some (.str left), some (.str right), some (.int w), some (.str LOW), some (.str sg), none, none]) ?_ (fun N hN => ?_)
  rotate_left
  · walk_at "dl"
    refine ⟨by decide +kernel, by decide +kernel, ?_⟩
    rw [up_low]
    walk_at "dl"
    refine ⟨by decide +kernel, hN _ _ ⟨rfl, _, ?_, ?_, ?_, rfl⟩⟩ <;> decide +kernel
  rintro _ M2 ⟨e0, sg, sgT, sg0, sg1, rfl⟩
  rw [e0]; clear e0 M2
  refine seq_tail (fun σ M' => DrN a M M' ∧ ∃ (cs : List Nat) (x : Option D), cs.length ≤ 6 ∧ (∀ c ∈ cs, textC c = true) ∧ σ = [some (.obj a), some (.str left), some (.str right), some (.int w), some (.str LOW), some (.str sg), some (.lst (cs.map fun c => .str ⟨#[c]⟩)), x]) ?_ (fun N hN => ?_)
  · rintro _ M2 ⟨n2, cs, x, hcl, hct, rfl⟩
    walk_at "dl"
    refine ⟨a, 2, rfl, by decide, by decide, n2.at, fun n M3 h0 h1 n3 => ?_⟩
    obtain ⟨n, rfl, hn⟩ := next_small (m := 2) h0 h1
    have n3 := n2.trans n3
    have e1 := cutS 1 n " " (by decide +kernel) (by omega)
    have eln : (⟨(cutL (" " : Str).cps.toList none (some (n : Int))).toArray⟩ : Str).length = n := by
      rw [e1]; show (List.replicate n 32).toArray.size = n; simp
    have l1 : ("#" : Str).length = 1 := by decide +kernel
    have l2 : ("\n" : Str).length = 1 := by decide +kernel
    have l3 : ("" : Str).length = 0 := by decide +kernel
    have ejs := join_ones cs
    have jl : (Txt.join "" (cs.map fun c => (⟨#[c]⟩ : Str))).length ≤ 6 := by
      rw [TL.len_tl]; show (Txt.join "" (cs.map fun c => (⟨#[c]⟩ : Str))).cps.toList.length ≤ 6
      rw [ejs]; exact hcl
    have ec : ((⟨(cutL (" " : Str).cps.toList none (some (n : Int))).toArray⟩ : Str) ++ "#" ++ Txt.join "" (cs.map fun c => (⟨#[c]⟩ : Str)) ++ "\n").cps.toList = List.replicate n 32 ++ 35 :: (cs ++ [10]) := by
      rw [tl_app, tl_app, tl_app, ejs, e1, show ("\n" : Str).cps.toList = [10] by decide +kernel, show ("#" : Str).cps.toList = [35] by decide +kernel]
      simp
    refine ⟨by decide +kernel, by rw [eln, l1]; omega, cs.map fun c => (⟨#[c]⟩ : Str), ?_, ?_, ?_⟩
    · have := DL.strsD_map (cs.map fun c => (⟨#[c]⟩ : Str))
      rw [List.map_map] at this
      exact this
    · have := ones_sum cs
      rw [this, l3]; omega
    · try dsimp only
      have l4 : ((⟨(cutL (" " : Str).cps.toList none (some (n : Int))).toArray⟩ : Str) ++ "#").length = n + 1 := by rw [len_app, eln, l1]
      rw [e_add_str, e_add_str, l4, len_app, l4, l2]
      refine ⟨by omega, by omega, Wk.here (q _ _ (gapR_of ?_ ?_) n3)⟩
      · rw [ec]; exact .remark n cs (by omega) hcl hct
      · rw [ec]; simp
  · unfold dAsg
    refine lc_draw (a := a) (fun m => m ≤ 6) (fun y => ∃ c : Nat, y = .str ⟨#[c]⟩ ∧ textC c = true) (fun m hm => Nat.le_trans hm (by decide)) (fun Kd hk => ?_) ?_ ?_
    · unfold dRange1
      walk_at "dl"
      refine ⟨a, 7, rfl, by decide, by decide, n1.at, fun z M3 h0 h1 n3 => ?_⟩
      obtain ⟨z, rfl, hz⟩ := next_small (m := 7) h0 h1
      exact ⟨⟨by omega, by omega⟩, hk _ _ (by omega) n3⟩
    · intro d' M3 Q' hD' hq
      walk_at "dl"
      exact ⟨a, _, rfl, hD', .inl ⟨_, rfl, sg0, sg1, fun c M4 hc n4 => hq _ _ ⟨c, rfl, sgT c hc⟩ n4⟩⟩
    · intro acc M3 hP hm n3
      obtain ⟨cs, rfl, hcs⟩ := row_of hP
      rw [List.length_map] at hm
      rw [e_new_f]
      unfold nGm
      exact hN _ _ ⟨n1.trans n3, cs, _, hm, hcs, rfl⟩
end
end K01
namespace K01
open PySem PySem.Spec L2 DL Syn Wr Lx Cu Rt Rv Rp Bd La
local macro_rules | `(tactic| walk_at "st") => `(tactic| simp only [start_def, List.map_cons, List.map_nil, List.length_cons, List.length_nil, List.cons_append, List.nil_append, Nat.zero_add, Nat.reduceAdd, Nat.reduceSub, List.replicate])
local macro_rules | `(tactic| walk_at "dl") => `(tactic| simp only [dSeq, dNext, dDrop, dRet, dRetF, dRetN, dIfS, dAsg, dAug, dPar, nGm, nTup, nCons, nNil, dVar, dC, dOp, dUn, dCons, dNil, dTup, dLst, dB, dTru, dAnd, dOr, dNot, dAndV, dOrV, dNotV, dIf, dChain, dCB, dCall, dSlE, dNoPart, dPart, dRev, dS0, dS1, dBL, dBL0, dIsi, dBreak, dCont, List.set_cons_zero, List.set_cons_succ, List.getElem?_cons_zero, List.getElem?_cons_succ, ifB_t, ifB_f, e_new_f, e_new_t, e_add_int, e_add_str, e_add_tup, e_add_lst, e_sub, e_mul, e_mul_str, e_mul_lst, e_div, e_mod, e_pow, e_neg, e_eq_int, e_eq_str, e_isN_non, e_isN_obj, e_isN_tup, e_isN_lst, e_lt_int, e_lt_str, e_le_int, e_le_str, e_gt, e_ge, e_in_str, e_t0, e_t1, e_t2, e_t3, e_t4, e_t5, e_l0, e_l1, e_l2, e_l3, e_sl_tup, e_sl_rdl, e_sl_str, e_sl_lst, e_len_str, e_len_lst, e_len_tup, e_int, e_tupC_tup, e_tupC_lst, e_iadd_int, e_iadd_str, e_isub, tru_bl, tru_int, tru_non, tru_lst, tru_tup, ex_some, bne_f, bne_t, e_nSub, cxK, e_fld, e_sfld, e_meth, lsD_lst, sz0, sz1, sz2, sz3, sz4, sz5, sz6, sz7, sz8, true_and])
section
variable {P : Program} {w : World} {K : PySem.W.Frag} {mg : Str → Option Value} {base : Heap} {n : Nat}
def sp_lbehind : SpD := fun ds M Q _ => ∃ (x y : Int) (z : Str), ds = [.tup [.int x, .int y], .str z] ∧ z.length ≤ 1000 ∧ ∀ x' y' : Int, Q (.tup [.int x', .int y']) M
theorem ok__law_behind (T : Txt K mg) {f : Addr} {fd : FuncData} (F : FunD K "_law_behind" "_law_behind" (defArgs s_law_behind) (defBody s_law_behind) (defScope s_law_behind) [] [] f fd) : FnOk P w K mg base CX0 (0 + 1) f fd P_law_behind (LSp K (sp_lbehind)) := by
  refine fnD0 F sc_law_behind (fun ds M Q E h => by first | (obtain ⟨rfl, _⟩ := h; rfl) | (obtain ⟨_, rfl, _⟩ := h; rfl) | (obtain ⟨_, _, rfl, _⟩ := h; rfl) | (obtain ⟨_, _, _, rfl, _⟩ := h; rfl) | (obtain ⟨_, _, _, _, rfl, _⟩ := h; rfl) | (obtain ⟨_, _, _, _, _, rfl, _⟩ := h; rfl) | (obtain ⟨_, _, _, _, _, _, rfl, _⟩ := h; rfl) | (obtain ⟨_, _, _, _, _, _, _, rfl, _⟩ := h; rfl) | (obtain ⟨_, _, _, _, _, _, _, _, rfl, _⟩ := h; rfl) | (obtain ⟨_, _, _, _, _, _, _, _, _, rfl, _⟩ := h; rfl) | (obtain ⟨_, _, _, _, _, _, _, _, _, _, rfl, _⟩ := h; rfl) | (obtain ⟨_, _, _, _, _, _, _, _, _, _, _, rfl, _⟩ := h; rfl) | (obtain ⟨_, _, _, _, _, _, _, _, _, _, _, _, rfl, _⟩ := h; rfl) | (obtain ⟨_, _, _, _, _, _, _, _, _, _, _, _, _, rfl, _⟩ := h; rfl) | (obtain ⟨_, _, _, _, _, _, _, _, _, _, _, _, _, _, rfl, _⟩ := h; rfl) | (obtain ⟨_, _, _, _, _, _, _, _, _, _, _, _, _, _, _, rfl, _⟩ := h; rfl) | (obtain ⟨_, _, _, _, _, _, _, _, _, _, _, _, _, _, _, _, rfl, _⟩ := h; rfl) | (obtain ⟨_, _, _, _, _, _, _, _, _, _, _, _, _, _, _, _, _, rfl, _⟩ := h; rfl) | (obtain ⟨_, _, _, _, _, _, _, _, _, _, _, _, _, _, _, _, _, _, rfl, _⟩ := h; rfl) | (obtain ⟨_, _, _, _, _, _, _, _, _, _, _, _, _, _, _, _, _, _, _, rfl, _⟩ := h; rfl)) fun cdv A outer s H E F0 hr => ⟨_, (dss_cons (ds_if (dt_cmp (od_in) de_str (de_var (pv 1)) rfl) (dss_one (ds_ret (de_tup (da_cons (de_op (od_add (own := false)) (de_ix (de_var (pv 0)) de_int (fun _ _ => rfl)) (de_s1 PySem.F.slot_str_count PySem.F.type_str_count xs_count (de_var (pv 1)) de_str)) (da_cons (de_op (od_sub) (de_callB cd_len rfl T.len (by decide +kernel) (da_cons (de_var (pv 1)) da_nil)) (de_s1 PySem.F.slot_str_rfind PySem.F.type_str_rfind xs_rfind (de_var (pv 1)) de_str)) da_nil))))) dss_nil)
      (dss_one (ds_ret (de_tup (da_cons (de_ix (de_var (pv 0)) de_int (fun _ _ => rfl)) (da_cons (de_op (od_add (own := false)) (de_ix (de_var (pv 0)) de_int (fun _ _ => rfl)) (de_callB cd_len rfl T.len (by decide +kernel) (da_cons (de_var (pv 1)) da_nil))) da_nil)))))), fun ds M Q Ex h => ?_⟩
  obtain ⟨x, y, z, rfl, hz, q⟩ := h
  walk_at "st"
  have hs : sizeLine = 16777216 := sizeLine_eq
  walk_at "dl"
  refine ifB (fun _ => ?_) (fun _ => ?_)
  · exact ⟨by omega, Wk.here (q _ _)⟩
  · exact ⟨by omega, Wk.here (q _ _)⟩
def sp_laid : SpD := fun ds M Q _ => ∃ (a : Addr) (ws : List Str), ds = [.obj a, .lst (dStrs ws)] ∧ Wts 200000 ws ∧ DrawAt M a ∧ ∀ z x M', Lex z.cps.toList (ws.map tokOf) → z.length ≤ 16000000 → DrN a M M' → Q (.lst [.str z, x]) M'
theorem ok__law_laid (T : Txt K mg) {f : Addr} {fd : FuncData} (F : FunD K "_law_laid" "_law_laid" (defArgs s_law_laid) (defBody s_law_laid) (defScope s_law_laid) [] [] f fd) (h__law_next : Callee P w K mg base CX0 (1) "_law_next" P_law_next sp_next) (h__law_gap : Callee P w K mg base CX0 (4) "_law_gap" P_law_gap sp_gap) (h__law_behind : Callee P w K mg base CX0 (1) "_law_behind" P_law_behind sp_lbehind) : FnOk P w K mg base CX0 (4 + 1) f fd P_law_laid (LSp K (sp_laid)) := by
  refine fnD0 F sc_law_laid (fun ds M Q E h => by first | (obtain ⟨rfl, _⟩ := h; rfl) | (obtain ⟨_, rfl, _⟩ := h; rfl) | (obtain ⟨_, _, rfl, _⟩ := h; rfl) | (obtain ⟨_, _, _, rfl, _⟩ := h; rfl) | (obtain ⟨_, _, _, _, rfl, _⟩ := h; rfl) | (obtain ⟨_, _, _, _, _, rfl, _⟩ := h; rfl) | (obtain ⟨_, _, _, _, _, _, rfl, _⟩ := h; rfl) | (obtain ⟨_, _, _, _, _, _, _, rfl, _⟩ := h; rfl) | (obtain ⟨_, _, _, _, _, _, _, _, rfl, _⟩ := h; rfl) | (obtain ⟨_, _, _, _, _, _, _, _, _, rfl, _⟩ := h; rfl) | (obtain ⟨_, _, _, _, _, _, _, _, _, _, rfl, _⟩ := h; rfl) | (obtain ⟨_, _, _, _, _, _, _, _, _, _, _, rfl, _⟩ := h; rfl) | (obtain ⟨_, _, _, _, _, _, _, _, _, _, _, _, rfl, _⟩ := h; rfl) | (obtain ⟨_, _, _, _, _, _, _, _, _, _, _, _, _, rfl, _⟩ := h; rfl) | (obtain ⟨_, _, _, _, _, _, _, _, _, _, _, _, _, _, rfl, _⟩ := h; rfl) | (obtain ⟨_, _, _, _, _, _, _, _, _, _, _, _, _, _, _, rfl, _⟩ := h; rfl) | (obtain ⟨_, _, _, _, _, _, _, _, _, _, _, _, _, _, _, _, rfl, _⟩ := h; rfl) | (obtain ⟨_, _, _, _, _, _, _, _, _, _, _, _, _, _, _, _, _, rfl, _⟩ := h; rfl) | (obtain ⟨_, _, _, _, _, _, _, _, _, _, _, _, _, _, _, _, _, _, rfl, _⟩ := h; rfl) | (obtain ⟨_, _, _, _, _, _, _, _, _, _, _, _, _, _, _, _, _, _, _, rfl, _⟩ := h; rfl)) fun cdv A outer s H E F0 hr => ⟨_, (dss_cons (ds_set (i := 2) sc_law_laid.nd rfl (Or.inl rfl) de_str)
      (dss_cons (ds_set (i := 3) sc_law_laid.nd rfl (Or.inl rfl) (de_lst (own := true) da_nil))
      (dss_cons (ds_set (i := 4) sc_law_laid.nd rfl (Or.inl rfl) (de_tup (da_cons de_int (da_cons de_int da_nil))))
      (dss_cons (ds_set (i := 5) sc_law_laid.nd rfl (Or.inl rfl) de_str)
      (dss_cons (ds_for PassesOwn.never rfl (di_items (de_op (od_add (own := false)) (de_var (pv 1)) (de_lst (own := false) (da_cons de_str da_nil)))) (dg_name (pg_name (i := 6) sc_law_laid.nd rfl (Or.inl rfl))) (dss_cons (ds_set (i := 7) sc_law_laid.nd rfl (Or.inl rfl) (de_fn h__law_gap (hr.mono (by omega)) rfl pass0 finX0 (da_cons (de_var (pv 0)) (da_cons (de_var (pv 5)) (da_cons (de_var (pv 6)) da_nil)))))
      (dss_cons (ds_if (dt_w (dw_and (dt_cmp (od_eq hr.units) (de_var (pv 6)) de_str (nomark _)) (dw_and (dt_tru (de_s1 PySem.F.slot_str_endswith PySem.F.type_str_endswith xs_endswith (de_var (pv 7)) de_str)) (dw_and1 (dt_cmp (od_eq hr.units) (de_fn h__law_next (hr.mono (by omega)) rfl pass0 finX0 (da_cons (de_var (pv 0)) (da_cons de_int da_nil))) de_int (nomark _)))))) (dss_one (ds_set (i := 7) sc_law_laid.nd rfl (Or.inl rfl) (de_sl (own := false) (de_var (pv 7)) do_none (do_some (de_un ud_neg de_int))))) dss_nil)
      (dss_cons (ds_set (i := 4) sc_law_laid.nd rfl (Or.inl rfl) (de_fn h__law_behind (hr.mono (by omega)) rfl pass0 finX0 (da_cons (de_var (pv 4)) (da_cons (de_var (pv 7)) da_nil))))
      (dss_cons (ds_expr (de_bl1 PySem.F.slot_list_append PySem.F.type_list_append md_append (de_var (pv 3)) (da_cons (de_var (pv 4)) da_nil)))
      (dss_cons (ds_set (i := 4) sc_law_laid.nd rfl (Or.inl rfl) (de_fn h__law_behind (hr.mono (by omega)) rfl pass0 finX0 (da_cons (de_var (pv 4)) (da_cons (de_var (pv 6)) da_nil))))
      (dss_cons (ds_set (i := 2) sc_law_laid.nd rfl (Or.inl rfl) (de_op (od_add (own := false)) (de_op (od_add (own := false)) (de_var (pv 2)) (de_var (pv 7))) (de_var (pv 6))))
      (dss_one (ds_set (i := 5) sc_law_laid.nd rfl (Or.inl rfl) (de_var (pv 6)))))))))))
      (dss_one (ds_ret (de_lst (own := false) (da_cons (de_var (pv 2)) (da_cons (de_var (pv 3)) da_nil)))))))))), fun ds M Q Ex h => ?_⟩
  obtain ⟨a, ws, rfl, hw, hD, q⟩ := h
  walk_at "st"
  have hs : sizeLine = 16777216 := sizeLine_eq
  have hwl := hw.1
  refine seq_tail (fun σ M' => M' = M ∧ σ = [some (.obj a), some (.lst (dStrs ws)), some (.str ""), none, none, none, none, none]) ?_ (fun N hN => by walk_at "dl"; exact hN _ _ ⟨rfl, rfl⟩)
  rintro _ M0 ⟨e0, rfl⟩
  rw [e0]; clear e0 M0
  refine seq_tail (fun σ M' => ∃ p, M p = none ∧ M' = updM M p (.lst []) ∧ σ = [some (.obj a), some (.lst (dStrs ws)), some (.str ""), some (.obj p), none, none, none, none]) ?_ (fun N hN => by walk_at "dl"; exact fun p hp => hN _ _ ⟨p, hp, rfl, rfl⟩)
  rintro _ M0 ⟨p, hp, e0, rfl⟩
  rw [e0]; clear e0 M0
  have ne := hD.ne hp
  refine seq_tail (fun σ M' => M' = updM M p (.lst []) ∧ σ = [some (.obj a), some (.lst (dStrs ws)), some (.str ""), some (.obj p), some (.tup [.int 1, .int 1]), none, none, none]) ?_ (fun N hN => by walk_at "dl"; exact hN _ _ ⟨rfl, rfl⟩)
  rintro _ M0 ⟨e0, rfl⟩
  rw [e0]; clear e0 M0
  refine seq_tail (fun σ M' => M' = updM M p (.lst []) ∧ σ = [some (.obj a), some (.lst (dStrs ws)), some (.str ""), some (.obj p), some (.tup [.int 1, .int 1]), some (.str ""), none, none]) ?_ (fun N hN => by walk_at "dl"; exact hN _ _ ⟨rfl, rfl⟩)
  rintro _ M0 ⟨e0, rfl⟩
  rw [e0]; clear e0 M0
  refine seq_tail (fun σ M' => ∃ z M2 acc j4 j5 j6 j7, Lex z.cps.toList (ws.map tokOf) ∧ z.length ≤ 16000000 ∧ DrN a M M2 ∧ M2 p = none ∧ M' = updM M2 p (.lst acc) ∧ σ = [some (.obj a), some (.lst (dStrs ws)), some (.str z), some (.obj p), j4, j5, j6, j7]) ?_ (fun N hN => ?_)
  · rintro _ M1 ⟨z, M2, acc, j4, j5, j6, j7, h1, h2, n2, hp2, e0, rfl⟩
    rw [e0]; clear e0 M1
    walk_at "dl"
    exact Wk.drop hp2 (q z _ _ h1 h2 n2)
  · refine for_pure (dStrs ws ++ [.str ""]) (fun Kd hk => ?_) (fun i σ M' => ∃ (z left : Str) (M2 : Mp) (acc : List D) (x y : Int) (j6 j7 : Option D), (i ≤ ws.length → TextP z ((ws.take i).map tokOf) left) ∧ (i = ws.length + 1 → Lex z.cps.toList (ws.map tokOf)) ∧ z.length ≤ 21 * i ∧ left.length ≤ 12 ∧ acc.length = i ∧ DrN a M M2 ∧ M2 p = none ∧ M' = updM M2 p (.lst acc) ∧ σ = [some (.obj a), some (.lst (dStrs ws)), some (.str z), some (.obj p), some (.tup [.int x, .int y]), some (.str left), j6, j7]) ?_ ?_ ?_
    · unfold dItems
      walk_at "dl"
      exact ⟨by rw [dStrs_len, List.length_singleton]; omega, hk⟩
    · refine ⟨"", "", M, [], 1, 1, none, none, fun _ => by rw [List.take_zero]; exact textP_nil, fun h => ?_, by decide +kernel, by decide +kernel, rfl, .refl hD, hp, rfl, rfl⟩
      omega
    · rintro i d σ M' N' hi ⟨z, left, M2, acc, x, y, j6, j7, h1, h2, hz, hll, hacc, n2, hp2, e0, rfl⟩ hN'
      rw [e0]; clear e0 M'
      have hil : i < (dStrs ws ++ [D.str ""]).length := (List.getElem?_eq_some_iff.mp hi).1
      rw [List.length_append, dStrs_len, List.length_singleton] at hil
      -- the token
      obtain ⟨w, rfl, hcase⟩ : ∃ w : Str, d = .str w ∧ ((i < ws.length ∧ ws[i]? = some w ∧ Wt w) ∨ (i = ws.length ∧ w = "")) := by
        by_cases h : i < ws.length
        · rw [List.getElem?_append_left (by rw [dStrs_len]; exact h), List.getElem?_map] at hi
          obtain ⟨w, hw2, rfl⟩ := Option.map_eq_some_iff.mp hi
          exact ⟨w, rfl, .inl ⟨h, hw2, hw.2 w (List.mem_of_getElem? hw2)⟩⟩
        · have : i = ws.length := by omega
          subst this
          rw [List.getElem?_append_right (by rw [dStrs_len]; exact Nat.le_refl _), dStrs_len, Nat.sub_self] at hi
          cases hi
          exact ⟨"", rfl, .inr ⟨rfl, rfl⟩⟩
      have hwle : w.length ≤ 12 := by
        rcases hcase with ⟨_, _, h⟩ | ⟨_, rfl⟩
        · exact (wt_len h).2
        · decide +kernel
      have hD2 := n2.at
      refine seq_tail (fun σ M3 => ∃ M4 g, GapR left w g ∧ DrN a M M4 ∧ M4 p = none ∧ M3 = updM M4 p (.lst acc) ∧ σ = [some (.obj a), some (.lst (dStrs ws)), some (.str z), some (.obj p), some (.tup [.int x, .int y]), some (.str left), some (.str w), some (.str g)]) ?_ (fun N2 hN2 => ?_)
      rotate_left
      · walk_at "dl"
        refine ⟨a, left, w, rfl, by omega, by omega, hD2.upd hp2, fun g M4 hg n4 => ?_⟩
        obtain ⟨M5, rfl, n5⟩ := n4.off ne
        exact hN2 _ _ ⟨M5, g, hg, n2.trans n5, n5.none hD2 hp2, rfl, rfl⟩
      rintro _ M3 ⟨M4, g, hg, n4, hp4, e0, rfl⟩
      rw [e0]; clear e0 M3
      refine seq_tail (fun σ M3 => ∃ M5 g, g.length ≤ 9 ∧ ((i < ws.length ∧ GapR left w g) ∨ (i = ws.length ∧ Lex g.cps.toList [] ∧ (g.cps.toList = [] ∨ ∃ c l, g.cps.toList = c :: l ∧ (c = 32 ∨ c = 10 ∨ c = 35)))) ∧ DrN a M M5 ∧ M5 p = none ∧ M3 = updM M5 p (.lst acc) ∧ σ = [some (.obj a), some (.lst (dStrs ws)), some (.str z), some (.obj p), some (.tup [.int x, .int y]), some (.str left), some (.str w), some (.str g)]) ?_ (fun N2 hN2 => ?_)
      rotate_left
      · have gl : g.length ≤ 9 := by rw [TL.len_tl]; exact hg.1.len
        have stay : ∀ M5, DrN a M M5 → M5 p = none → N2 [some (.obj a), some (.lst (dStrs ws)), some (.str z), some (.obj p), some (.tup [.int x, .int y]), some (.str left), some (.str w), some (.str g)] (updM M5 p (.lst acc)) := fun M5 n5 hp5 => by
          refine hN2 _ _ ⟨M5, g, gl, ?_, n5, hp5, rfl, rfl⟩
          rcases hcase with ⟨h, _, _⟩ | ⟨h, _⟩
          · exact .inl ⟨h, hg⟩
          · exact .inr ⟨h, hg.1.stop, hg.1.hd⟩
        walk_at "dl"
        refine ifB (fun hw0 => ?_) (fun _ => stay _ n4 hp4)
        refine ⟨_, rfl, ifB (fun _ => ?_) (fun _ => stay _ n4 hp4)⟩
        refine ⟨a, 2, rfl, by decide, by decide, n4.at.upd hp4, fun n M5 h0 h1 n5 => ?_⟩
        obtain ⟨M6, rfl, n6⟩ := n5.off ne
        have n6' := n4.trans n6
        have hp6 := n6.none n4.at hp4
        walk_at "dl"
        refine ifB (fun _ => ?_) (fun _ => stay _ n6' hp6)
        refine ⟨by omega, hN2 _ _ ⟨M6, ⟨(cutL g.cps.toList none (some (-1))).toArray⟩, ?_, .inr ⟨?_, ?_, ?_⟩, n6', hp6, rfl, rfl⟩⟩
        · rw [TL.len_tl]
          show (cutL g.cps.toList none (some (-1))).length ≤ 9
          rw [cut_neg1, List.length_dropLast]
          have := hg.1.len
          omega
        · rcases hcase with ⟨_, _, h⟩ | ⟨h, _⟩
          · have e := of_decide_eq_true hw0
            rw [e] at h
            exact absurd (wt_len h).1 (by decide +kernel)
          · exact h
        · show Lex (cutL g.cps.toList none (some (-1))) []
          rw [cut_neg1]; exact hg.1.cut
        · show (cutL g.cps.toList none (some (-1))) = [] ∨ ∃ c l, (cutL g.cps.toList none (some (-1))) = c :: l ∧ _
          rw [cut_neg1]; exact hg.1.cut_hd
      clear hN hg hp4 n4 g M4
      rintro _ M3 ⟨M5, g, gl, hg, n5, hp5, e0, rfl⟩
      rw [e0]; clear e0 M3
      walk_at "dl"
      refine ⟨x, y, g, rfl, by omega, fun x2 y2 => ?_⟩
      refine ⟨isLst_of updM_same, ?_⟩
      rw [e_append updM_same, updM_updM]
      refine ⟨by omega, x2, y2, w, rfl, by omega, fun x3 y3 => ?_⟩
      have l1 : (z ++ g).length = z.length + g.length := len_app ..
      have l2 : (z ++ g ++ w).length = z.length + g.length + w.length := by rw [len_app, len_app]
      refine ⟨by omega, by omega, hN' _ _ ⟨z ++ g ++ w, w, M5, _, x3, y3, _, _, ?_, ?_, by rw [l2]; omega, hwle, by rw [List.length_append, hacc] <;> rfl, n5, hp5, rfl, rfl⟩⟩
      · intro hi2
        rcases hcase with ⟨h, hwi, hwt⟩ | ⟨h, _⟩
        · rcases hg with ⟨_, hg⟩ | ⟨h3, _⟩
          · rw [take_at hwi, List.map_append]
            exact textP_next (h1 (by omega)) hwt hg
          · omega
        · omega
      · intro hi2
        have hie : i = ws.length := by omega
        rcases hcase with ⟨h, _, _⟩ | ⟨_, rfl⟩
        · omega
        · rcases hg with ⟨h3, _⟩ | ⟨_, hg⟩
          · omega
          · have := h1 (by omega)
            rw [hie, List.take_length] at this
            exact textP_end this hg
    · rintro σ M' ⟨z, left, M2, acc, x, y, j6, j7, h1, h2, hz, hll, hacc, n2, hp2, e0, rfl⟩
      rw [List.length_append, dStrs_len, List.length_singleton] at h2 hz
      exact hN _ _ ⟨z, M2, acc, _, _, _, _, h2 rfl, by omega, n2, hp2, e0, rfl⟩
end
end K01
namespace K01
open PySem PySem.Spec L2 DL Syn Wr Lx Cu Rt Rv Rp Bd La
local macro_rules | `(tactic| walk_at "st") => `(tactic| simp only [start_def, List.map_cons, List.map_nil, List.length_cons, List.length_nil, List.cons_append, List.nil_append, Nat.zero_add, Nat.reduceAdd, Nat.reduceSub, List.replicate])
local macro_rules | `(tactic| walk_at "dl") => `(tactic| simp only [dSeq, dNext, dDrop, dRet, dRetF, dRetN, dIfS, dAsg, dAug, dPar, nGm, nTup, nCons, nNil, dVar, dC, dOp, dUn, dCons, dNil, dTup, dLst, dB, dTru, dAnd, dOr, dNot, dAndV, dOrV, dNotV, dIf, dChain, dCB, dCall, dSlE, dNoPart, dPart, dRev, dS0, dS1, dBL, dBL0, dIsi, dBreak, dCont, List.set_cons_zero, List.set_cons_succ, List.getElem?_cons_zero, List.getElem?_cons_succ, ifB_t, ifB_f, e_new_f, e_new_t, e_add_int, e_add_str, e_add_tup, e_add_lst, e_sub, e_mul, e_mul_str, e_mul_lst, e_div, e_mod, e_pow, e_neg, e_eq_int, e_eq_str, e_isN_non, e_isN_obj, e_isN_tup, e_isN_lst, e_lt_int, e_lt_str, e_le_int, e_le_str, e_gt, e_ge, e_in_str, e_t0, e_t1, e_t2, e_t3, e_t4, e_t5, e_l0, e_l1, e_l2, e_l3, e_sl_tup, e_sl_rdl, e_sl_str, e_sl_lst, e_len_str, e_len_lst, e_len_tup, e_int, e_tupC_tup, e_tupC_lst, e_iadd_int, e_iadd_str, e_isub, tru_bl, tru_int, tru_non, tru_lst, tru_tup, ex_some, bne_f, bne_t, e_nSub, cxK, e_fld, e_sfld, e_meth, lsD_lst, sz0, sz1, sz2, sz3, sz4, sz5, sz6, sz7, sz8, true_and])
section
variable {P : Program} {w : World} {K : PySem.W.Frag} {mg : Str → Option Value} {base : Heap} {n : Nat}
theorem part_mono : ∀ (d e : Nat) (x : Part), x.ok d → d ≤ e → x.ok e
  | d, e, .act n gs k ds v, h, _ => by
    have h2 : NameOk false n ∧ GivOk gs ∧ NameOk true k ∧ ds.length ≤ 3 ∧ (∀ x ∈ ds, Deed.ok 2 x) ∧ v.ok 2 := by cases d <;> (unfold Part.ok at h; exact h)
    cases e <;> (unfold Part.ok; exact h2)
  | 0, e, .make n gs vs ps, h, _ => by unfold Part.ok at h; exact h.elim
  | d + 1, 0, .make n gs vs ps, h, hl => by omega
  | d + 1, e + 1, .make n gs vs ps, h, hl => by
    unfold Part.ok at h ⊢
    obtain ⟨h1, h2, h3, h4, h5, h6⟩ := h
    exact ⟨h1, h2, h3, h4, h5, fun p hp => part_mono d e p (h6 p hp) (by omega)⟩
theorem e_eq_prg {p : Prg} {n : Bool} {M : Mp} {Q : DK} (h : p.ok) (q : Q (.bl (n != true)) M) : dEq n p.d p.d M Q := by
  obtain ⟨h1, h2⟩ := tm_prg h
  exact e_eq_self h1 h2 q
theorem ok_two {vs : List Vr} {ps : List Part} (h1 : vs.length ≤ 2) (h2 : ∀ v ∈ vs, VrOk v) (h3 : ps.length ≤ 2) (h4 : ∀ x ∈ ps, x.ok 1) : Prg.ok ⟨[], vs, ps⟩ :=
  ⟨by show 0 ≤ 3; decide, fun _ h => (List.not_mem_nil h).elim, by show vs.length ≤ 3; omega, h2, by show ps.length ≤ 3; omega, fun q hq => part_mono 1 3 q (h4 q hq) (by decide)⟩
theorem ok_nil : Prg.ok ⟨[], [], []⟩ := ⟨by decide, fun _ h => (List.not_mem_nil h).elim, by decide, fun _ h => (List.not_mem_nil h).elim, by decide, fun _ h => (List.not_mem_nil h).elim⟩
/-- a text of a program -/
def TxtOf (p : Prg) (z : Str) : Prop := ∃ ws, Lex z.cps.toList (ws.map tokOf) ∧ z.length ≤ 16000000 ∧ PrgT p ws
theorem do_read {p : Prg} {z : Str} {M : Mp} {Q : DK} {E : DX} (ok : p.ok) (h : TxtOf p z) (q : Q p.d M) : sp_read [.str z] M Q E := by
  obtain ⟨ws, h1, h2, h3⟩ := h
  have a := ok.kn
  have b := ok.vn
  have c := ok.pn
  exact ⟨z, p, ws, rfl, h2, h1, h3, by omega, by omega, by omega, q⟩
theorem do_laid {p : Prg} {a : Addr} {M : Mp} {Q : DK} {E E' : DX} (ok : p.ok) (hD : DrawAt M a) (q : ∀ z x M', TxtOf p z → DrN a M M' → Q (.lst [.str z, x]) M') : sp_ltoks [.obj a, p.d] M (fun y M1 => sp_laid [.obj a, y] M1 Q E) E' :=
  ⟨a, p, rfl, ok, hD, fun ws M1 h1 h2 n1 => ⟨a, ws, rfl, h2, n1.at, fun z x M2 h3 h4 n2 => q z x M2 ⟨ws, h3, h4, h1⟩ (n1.trans n2)⟩⟩
def sp_law : SpD := fun ds M Q _ => ∃ ns : List Int, ds = [.rdl ns] ∧ ns.length ≤ 63 ∧ ∀ M', Q (.bl true) M'
theorem ok_law (T : Txt K mg) {f : Addr} {fd : FuncData} (F : FunD K "law" "law" (defArgs slaw) (defBody slaw) (defScope slaw) [] [] f fd) (h__law_draw : Callee P w K mg base CX0 (1) "_law_draw" P_law_draw sp_draw) (h__law_program : Callee P w K mg base CX0 (19) "_law_program" P_law_program sp_program) (h__law_vars : Callee P w K mg base CX0 (12) "_law_vars" P_law_vars sp_vars) (h__law_parts : Callee P w K mg base CX0 (18) "_law_parts" P_law_parts (sp_parts 4)) (h__law_tokens : Callee P w K mg base CX0 (17) "_law_tokens" P_law_tokens sp_ltoks) (h__law_laid : Callee P w K mg base CX0 (5) "_law_laid" P_law_laid sp_laid) (h_read : Callee P w K mg base CX0 (11) "read" Pread sp_read) : FnOk P w K mg base CX0 (20 + 1) f fd Plaw (LSp K (sp_law)) := by
  refine fnD0 F sclaw (fun ds M Q E h => by first | (obtain ⟨rfl, _⟩ := h; rfl) | (obtain ⟨_, rfl, _⟩ := h; rfl) | (obtain ⟨_, _, rfl, _⟩ := h; rfl) | (obtain ⟨_, _, _, rfl, _⟩ := h; rfl) | (obtain ⟨_, _, _, _, rfl, _⟩ := h; rfl) | (obtain ⟨_, _, _, _, _, rfl, _⟩ := h; rfl) | (obtain ⟨_, _, _, _, _, _, rfl, _⟩ := h; rfl) | (obtain ⟨_, _, _, _, _, _, _, rfl, _⟩ := h; rfl) | (obtain ⟨_, _, _, _, _, _, _, _, rfl, _⟩ := h; rfl) | (obtain ⟨_, _, _, _, _, _, _, _, _, rfl, _⟩ := h; rfl) | (obtain ⟨_, _, _, _, _, _, _, _, _, _, rfl, _⟩ := h; rfl) | (obtain ⟨_, _, _, _, _, _, _, _, _, _, _, rfl, _⟩ := h; rfl) | (obtain ⟨_, _, _, _, _, _, _, _, _, _, _, _, rfl, _⟩ := h; rfl) | (obtain ⟨_, _, _, _, _, _, _, _, _, _, _, _, _, rfl, _⟩ := h; rfl) | (obtain ⟨_, _, _, _, _, _, _, _, _, _, _, _, _, _, rfl, _⟩ := h; rfl) | (obtain ⟨_, _, _, _, _, _, _, _, _, _, _, _, _, _, _, rfl, _⟩ := h; rfl) | (obtain ⟨_, _, _, _, _, _, _, _, _, _, _, _, _, _, _, _, rfl, _⟩ := h; rfl) | (obtain ⟨_, _, _, _, _, _, _, _, _, _, _, _, _, _, _, _, _, rfl, _⟩ := h; rfl) | (obtain ⟨_, _, _, _, _, _, _, _, _, _, _, _, _, _, _, _, _, _, rfl, _⟩ := h; rfl) | (obtain ⟨_, _, _, _, _, _, _, _, _, _, _, _, _, _, _, _, _, _, _, rfl, _⟩ := h; rfl)) fun cdv A outer s H E F0 hr => ⟨_, (dss_cons (ds_set (i := 1) sclaw.nd rfl (Or.inl rfl) (de_fn h__law_draw (hr.mono (by omega)) rfl pass0 finX0 (da_cons (de_var (pv 0)) da_nil)))
      (dss_cons (ds_set (i := 2) sclaw.nd rfl (Or.inl rfl) (de_fn h__law_program (hr.mono (by omega)) rfl pass0 finX0 (da_cons (de_var (pv 1)) da_nil)))
      (dss_cons (ds_set (i := 3) sclaw.nd rfl (Or.inl rfl) (de_ix (de_fn h__law_laid (hr.mono (by omega)) rfl pass0 finX0 (da_cons (de_var (pv 1)) (da_cons (de_fn h__law_tokens (hr.mono (by omega)) rfl pass0 finX0 (da_cons (de_var (pv 1)) (da_cons (de_var (pv 2)) da_nil))) da_nil))) de_int (fun _ _ => rfl)))
      (dss_cons (ds_set (i := 4) sclaw.nd rfl (Or.inl rfl) (de_ix (de_fn h__law_laid (hr.mono (by omega)) rfl pass0 finX0 (da_cons (de_var (pv 1)) (da_cons (de_fn h__law_tokens (hr.mono (by omega)) rfl pass0 finX0 (da_cons (de_var (pv 1)) (da_cons (de_var (pv 2)) da_nil))) da_nil))) de_int (fun _ _ => rfl)))
      (dss_cons (ds_set (i := 5) sclaw.nd rfl (Or.inl rfl) (de_tup (da_cons de_str (da_cons (de_tup da_nil) (da_cons (de_fn h__law_vars (hr.mono (by omega)) rfl pass0 finX0 (da_cons (de_var (pv 1)) (da_cons de_int da_nil))) (da_cons (de_fn h__law_parts (hr.mono (by omega)) rfl pass0 finX0 (da_cons (de_var (pv 1)) (da_cons de_int (da_cons de_int da_nil)))) da_nil))))))
      (dss_cons (ds_set (i := 6) sclaw.nd rfl (Or.inl rfl) (de_ix (de_fn h__law_laid (hr.mono (by omega)) rfl pass0 finX0 (da_cons (de_var (pv 1)) (da_cons (de_fn h__law_tokens (hr.mono (by omega)) rfl pass0 finX0 (da_cons (de_var (pv 1)) (da_cons (de_var (pv 5)) da_nil))) da_nil))) de_int (fun _ _ => rfl)))
      (dss_cons (ds_if (dt_w (dw_or (dt_cmp (od_ne hr.units) (de_fn h_read (hr.mono (by omega)) rfl pass0 finX0 (da_cons (de_var (pv 3)) da_nil)) (de_var (pv 2)) (nomark _)) (dw_or (dt_cmp (od_ne hr.units) (de_fn h_read (hr.mono (by omega)) rfl pass0 finX0 (da_cons (de_var (pv 6)) da_nil)) (de_var (pv 5)) (nomark _)) (dw_or1 (dt_cmp (od_ne hr.units) (de_fnK h_read (hr.mono (by omega)) rfl pass0 finX0 (dk_cons (de_var (pv 4)) dk_nil)) (de_var (pv 2)) (nomark _)))))) (dss_one (ds_ret de_bl)) dss_nil)
      (dss_one (ds_ret (de_and (de_cmp (od_eq hr.units) (de_fn h_read (hr.mono (by omega)) rfl pass0 finX0 (da_cons de_str da_nil)) (de_tup (da_cons de_str (da_cons (de_tup da_nil) (da_cons (de_tup da_nil) (da_cons (de_tup da_nil) da_nil))))) (nomark _)) (de_one (de_cmp (od_eq hr.units) (de_fn h_read (hr.mono (by omega)) rfl pass0 finX0 (da_cons (de_var (pv 3)) da_nil)) (de_var (pv 2)) (nomark _))))))))))))), fun ds M Q Ex h => ?_⟩
  obtain ⟨ns, rfl, hn, q⟩ := h
  walk_at "st"
  refine seq_tail (fun σ M' => ∃ a, DrawAt M' a ∧ σ = [some (.rdl ns), some (.obj a), none, none, none, none, none]) ?_ (fun N hN => ?_)
  rotate_left
  · walk_at "dl"
    exact ⟨ns, rfl, hn, fun a o ha hO => hN _ _ ⟨a, ⟨o, updM_same, hO⟩, rfl⟩⟩
  rintro _ M1 ⟨a, hD, rfl⟩
  refine seq_tail (fun σ M' => DrawAt M' a ∧ ∃ p : Prg, p.ok ∧ σ = [some (.rdl ns), some (.obj a), some p.d, none, none, none, none]) ?_ (fun N hN => ?_)
  rotate_left
  · walk_at "dl"
    exact ⟨a, rfl, hD, fun p M2 hp n2 => hN _ _ ⟨n2.at, p, hp, rfl⟩⟩
  rintro _ M2 ⟨hD2, p, hp, rfl⟩
  refine seq_tail (fun σ M' => DrawAt M' a ∧ ∃ z1, TxtOf p z1 ∧ σ = [some (.rdl ns), some (.obj a), some p.d, some (.str z1), none, none, none]) ?_ (fun N hN => ?_)
  rotate_left
  · walk_at "dl"
    refine do_laid hp hD2 fun z x M3 hz n3 => ?_
    rw [e_l0]
    exact hN _ _ ⟨n3.at, z, hz, rfl⟩
  rintro _ M3 ⟨hD3, z1, hz1, rfl⟩
  refine seq_tail (fun σ M' => DrawAt M' a ∧ ∃ z2, TxtOf p z2 ∧ σ = [some (.rdl ns), some (.obj a), some p.d, some (.str z1), some (.str z2), none, none]) ?_ (fun N hN => ?_)
  rotate_left
  · walk_at "dl"
    refine do_laid hp hD3 fun z x M3 hz n3 => ?_
    rw [e_l0]
    exact hN _ _ ⟨n3.at, z, hz, rfl⟩
  rintro _ M4 ⟨hD4, z2, hz2, rfl⟩
  refine seq_tail (fun σ M' => DrawAt M' a ∧ ∃ o : Prg, o.ok ∧ σ = [some (.rdl ns), some (.obj a), some p.d, some (.str z1), some (.str z2), some o.d, none]) ?_ (fun N hN => ?_)
  rotate_left
  · walk_at "dl"
    refine ⟨a, 2, rfl, by decide, hD4, fun vs M5 h1 h2 n5 => ?_⟩
    refine ⟨a, 1, 2, rfl, by decide, by decide, n5.at, fun ps M6 h3 h4 n6 => ?_⟩
    exact hN _ _ ⟨n6.at, ⟨[], vs, ps⟩, ok_two h1 h2 h3 h4, rfl⟩
  rintro _ M5 ⟨hD5, o, ho, rfl⟩
  refine seq_tail (fun σ M' => ∃ z3, TxtOf o z3 ∧ σ = [some (.rdl ns), some (.obj a), some p.d, some (.str z1), some (.str z2), some o.d, some (.str z3)]) ?_ (fun N hN => ?_)
  rotate_left
  · walk_at "dl"
    refine do_laid ho hD5 fun z x M3 hz n3 => ?_
    rw [e_l0]
    exact hN _ _ ⟨z, hz, rfl⟩
  rintro _ M6 ⟨z3, hz3, rfl⟩
  refine seq_tail (fun σ M' => σ = [some (.rdl ns), some (.obj a), some p.d, some (.str z1), some (.str z2), some o.d, some (.str z3)]) ?_ (fun N hN => ?_)
  rotate_left
  · walk_at "dl"
    refine do_read hp hz1 ?_
    refine e_eq_prg hp ?_
    refine ifB (fun h => absurd h (by decide)) (fun _ => ?_)
    refine do_read ho hz3 ?_
    refine e_eq_prg ho ?_
    refine ifB (fun h => absurd h (by decide)) (fun _ => ?_)
    refine do_read hp hz2 ?_
    refine e_eq_prg hp ?_
    exact ifB (fun h => absurd h (by decide)) (fun _ => hN _ _ rfl)
  rintro _ M7 rfl
  walk_at "dl"
  refine do_read (p := ⟨[], [], []⟩) ok_nil ⟨[], ?_, by decide +kernel, [], [], [], rfl, rfl, by unfold PsT; rfl, rfl⟩ ?_
  · rw [show ("" : Str).cps.toList = [] by decide +kernel]
    exact .nil
  rw [show (⟨[], [], []⟩ : Prg).d = .tup [.str "program", .tup [], .tup [], .tup []] by unfold Prg.d partsD; rfl]
  refine e_eq_self (by decide +kernel) (by decide +kernel) ?_
  refine ifB (fun _ => ?_) (fun h => absurd h (by decide))
  refine do_read hp hz1 ?_
  refine e_eq_prg hp ?_
  exact Wk.here (q _)
end
end K01
namespace K01
open PySem PySem.Spec PyProof.Rows L2 DL Syn Wr Lx Cu Rt Rv Rp Bd La
abbrev dD (i : Nat) (x : Str) : He.DefD := ⟨(x, none), x, x, defArgs (topS i), defBody (topS i), defScope (topS i), [], []⟩
abbrev dM (i j : Nat) (c m : Str) : He.DefD := ⟨(c, some m), m, c ++ "." ++ m, defArgs (inClass (topS i) j), defBody (inClass (topS i) j), defScope (inClass (topS i) j), [], []⟩
def fn : List He.DefD := [dD 34 "_law_draw", dD 35 "_law_next", dD 36 "_law_pick", dD 37 "_law_words", dD 38 "_law_spelled", dD 43 "_law_atom", dD 45 "_law_test", dD 44 "_law_value", dD 47 "_law_givens", dD 48 "_law_vars", dD 46 "_law_deeds", dD 49 "_law_parts", dD 50 "_law_program", dD 7 "is_small", dD 8 "is_great", dD 9 "in_row", dD 10 "in_text", dD 12 "behind_remark", dD 13 "token_at", dD 11 "tokens", dM 17 0 "Cursor" "__init__", dM 17 1 "Cursor" "now", dM 17 3 "Cursor" "take", dM 17 4 "Cursor" "enter", dM 17 5 "Cursor" "leave", dM 17 6 "Cursor" "shut", dD 25 "read_atom", dD 20 "read_givens", dD 28 "grouped", dD 31 "_go_on", dD 30 "_put", dM 27 0 "Rows" "__init__", dD 29 "read_test", dD 26 "read_value", dD 19 "read_vars", dD 18 "read_kinds", dD 24 "read_plain", dD 23 "read_deeds", dD 22 "read_act", dD 21 "read_parts", dD 32 "read", dD 51 "_law_commas", dD 52 "_law_test_row", dD 53 "_law_value_row", dD 54 "_law_deed_row", dD 55 "_law_var_row", dD 56 "_law_part_row", dD 57 "_law_tokens", dD 39 "_law_fuse", dD 40 "_law_gap", dD 41 "_law_behind", dD 42 "_law_laid", dD 58 "law"]
def fa : List He.Fa := [.glo "_law_draw", .glo "_law_next", .glo "_law_pick", .glo "_law_words", .glo "_law_spelled", .glo "_law_atom", .glo "_law_test", .glo "_law_value", .glo "_law_givens", .glo "_law_vars", .glo "_law_deeds", .glo "_law_parts", .glo "_law_program", .glo "is_small", .glo "is_great", .glo "in_row", .glo "in_text", .glo "behind_remark", .glo "token_at", .glo "tokens", .glo "read_atom", .glo "read_givens", .glo "grouped", .glo "_go_on", .glo "_put", .glo "read_test", .glo "read_value", .glo "read_vars", .glo "read_kinds", .glo "read_plain", .glo "read_deeds", .glo "read_act", .glo "read_parts", .glo "read", .glo "_law_commas", .glo "_law_test_row", .glo "_law_value_row", .glo "_law_deed_row", .glo "_law_var_row", .glo "_law_part_row", .glo "_law_tokens", .glo "_law_fuse", .glo "_law_gap", .glo "_law_behind", .glo "_law_laid", .glo "law", .free "len", .glo "PAIRS", .str "SIGNS" "=|;:,(){}", .glo "WORDS", .int "DEEP" 60, .free "tuple", .free "range", .int "LONG" 60, .free "int", .glo "Cursor", .cls "Cursor", .noat "Cursor" "rows", .noat "Cursor" "at", .noat "Cursor" "deep", .glo "Rows", .cls "Rows", .noat "Rows" "ors", .noat "Rows" "ands", .noat "Rows" "nots", .mkr "Cursor", .meth "Cursor" "now", .meth "Cursor" "take", .meth "Cursor" "enter", .meth "Cursor" "leave", .meth "Cursor" "shut", .mkr "Rows"]
def ex (K : PySem.W.Frag) : Bool := He.tupB K "PAIRS" (([":=", "=="] : List Str).map He.Dv.str) && He.tupB K "WORDS" ((["kind", "var", "make", "act", "if", "then", "else", "do", "answer", "and", "or", "not"] : List Str).map He.Dv.str)
abbrev R : PySem.W.OpenRow := PySem.W.OpenLaw.row PySem.Challenge.rw_outlived_k01_whole_any_layout
abbrev hk : PySem.W.Hook := hookP 4 fa fn ex
def ob (s : PySem.W.SharedT) : AlP := obsP 4 fa fn ex (HandSHeadRun.getT s)
theorem ob_eq (s : PySem.W.SharedT) : ob s = hk.obs s.abs := obsP_eq (HandSHeadRun.getT_eq s)
abbrev LOOSE : List Str := [("OutlivedError" : Str), ("BadText" : Str), ("WORDS" : Str), ("PAIRS" : Str), ("SIGNS" : Str), ("is_small" : Str), ("is_great" : Str), ("in_row" : Str), ("in_text" : Str), ("tokens" : Str), ("behind_remark" : Str), ("token_at" : Str), ("DEEP" : Str), ("LONG" : Str), ("Cursor" : Str), ("read_kinds" : Str), ("read_vars" : Str), ("read_givens" : Str), ("read_parts" : Str), ("read_act" : Str), ("read_deeds" : Str), ("read_plain" : Str), ("read_atom" : Str), ("read_value" : Str), ("Rows" : Str), ("grouped" : Str), ("read_test" : Str), ("_put" : Str), ("_go_on" : Str), ("read" : Str), ("_law_draw" : Str), ("_law_next" : Str), ("_law_pick" : Str), ("_law_words" : Str), ("_law_spelled" : Str), ("_law_fuse" : Str), ("_law_gap" : Str), ("_law_behind" : Str), ("_law_laid" : Str), ("_law_atom" : Str), ("_law_value" : Str), ("_law_test" : Str), ("_law_deeds" : Str), ("_law_givens" : Str), ("_law_vars" : Str), ("_law_parts" : Str), ("_law_program" : Str), ("_law_commas" : Str), ("_law_test_row" : Str), ("_law_value_row" : Str), ("_law_deed_row" : Str), ("_law_var_row" : Str), ("_law_part_row" : Str), ("_law_tokens" : Str)]
theorem run (w : World) : HandSHeadRun.RunEq R (PySem.W.view R.prog [58]) hk ob 4000 LOOSE w := by
  intro os
  kernel_rfl
theorem facts {P : Program} {w : World} {K : PySem.W.Frag} {h : Heap} {mg : Str → Option Value} {f : Addr} (X : K.In h) (G : h.Ns mainGlobals mg) (hfa : mg ("law" : Str) = some (.ref f)) (c : He.SaysD fa fn K) (ce : ex K = true) :
    ∃ fd : FuncData, (∀ (s : Shared) (v : Value), BindsTo s fd ⟨[v], []⟩ [("script", v)]) ∧ ∀ base : Heap, K.In base → base.Ns mainGlobals mg → FnOk P w K mg base CX0 (20 + 1) f fd ["script"] (LSp K sp_law) := by
  obtain ⟨fd__law_draw, F__law_draw⟩ := c.def_ 0 (d := dD 34 "_law_draw") rfl
  obtain ⟨fd__law_next, F__law_next⟩ := c.def_ 1 (d := dD 35 "_law_next") rfl
  obtain ⟨fd__law_pick, F__law_pick⟩ := c.def_ 2 (d := dD 36 "_law_pick") rfl
  obtain ⟨fd__law_words, F__law_words⟩ := c.def_ 3 (d := dD 37 "_law_words") rfl
  obtain ⟨fd__law_spelled, F__law_spelled⟩ := c.def_ 4 (d := dD 38 "_law_spelled") rfl
  obtain ⟨fd__law_atom, F__law_atom⟩ := c.def_ 5 (d := dD 43 "_law_atom") rfl
  obtain ⟨fd__law_test, F__law_test⟩ := c.def_ 6 (d := dD 45 "_law_test") rfl
  obtain ⟨fd__law_value, F__law_value⟩ := c.def_ 7 (d := dD 44 "_law_value") rfl
  obtain ⟨fd__law_givens, F__law_givens⟩ := c.def_ 8 (d := dD 47 "_law_givens") rfl
  obtain ⟨fd__law_vars, F__law_vars⟩ := c.def_ 9 (d := dD 48 "_law_vars") rfl
  obtain ⟨fd__law_deeds, F__law_deeds⟩ := c.def_ 10 (d := dD 46 "_law_deeds") rfl
  obtain ⟨fd__law_parts, F__law_parts⟩ := c.def_ 11 (d := dD 49 "_law_parts") rfl
  obtain ⟨fd__law_program, F__law_program⟩ := c.def_ 12 (d := dD 50 "_law_program") rfl
  obtain ⟨fd_is_small, F_is_small⟩ := c.def_ 13 (d := dD 7 "is_small") rfl
  obtain ⟨fd_is_great, F_is_great⟩ := c.def_ 14 (d := dD 8 "is_great") rfl
  obtain ⟨fd_in_row, F_in_row⟩ := c.def_ 15 (d := dD 9 "in_row") rfl
  obtain ⟨fd_in_text, F_in_text⟩ := c.def_ 16 (d := dD 10 "in_text") rfl
  obtain ⟨fd_behind_remark, F_behind_remark⟩ := c.def_ 17 (d := dD 12 "behind_remark") rfl
  obtain ⟨fd_token_at, F_token_at⟩ := c.def_ 18 (d := dD 13 "token_at") rfl
  obtain ⟨fd_tokens, F_tokens⟩ := c.def_ 19 (d := dD 11 "tokens") rfl
  obtain ⟨fd_CursorU_initU, F_CursorU_initU⟩ := c.def_ 20 (d := dM 17 0 "Cursor" "__init__") rfl
  obtain ⟨fd_Cursor_now, F_Cursor_now⟩ := c.def_ 21 (d := dM 17 1 "Cursor" "now") rfl
  obtain ⟨fd_Cursor_take, F_Cursor_take⟩ := c.def_ 22 (d := dM 17 3 "Cursor" "take") rfl
  obtain ⟨fd_Cursor_enter, F_Cursor_enter⟩ := c.def_ 23 (d := dM 17 4 "Cursor" "enter") rfl
  obtain ⟨fd_Cursor_leave, F_Cursor_leave⟩ := c.def_ 24 (d := dM 17 5 "Cursor" "leave") rfl
  obtain ⟨fd_Cursor_shut, F_Cursor_shut⟩ := c.def_ 25 (d := dM 17 6 "Cursor" "shut") rfl
  obtain ⟨fd_read_atom, F_read_atom⟩ := c.def_ 26 (d := dD 25 "read_atom") rfl
  obtain ⟨fd_read_givens, F_read_givens⟩ := c.def_ 27 (d := dD 20 "read_givens") rfl
  obtain ⟨fd_grouped, F_grouped⟩ := c.def_ 28 (d := dD 28 "grouped") rfl
  obtain ⟨fd__go_on, F__go_on⟩ := c.def_ 29 (d := dD 31 "_go_on") rfl
  obtain ⟨fd__put, F__put⟩ := c.def_ 30 (d := dD 30 "_put") rfl
  obtain ⟨fd_RowsU_initU, F_RowsU_initU⟩ := c.def_ 31 (d := dM 27 0 "Rows" "__init__") rfl
  obtain ⟨fd_read_test, F_read_test⟩ := c.def_ 32 (d := dD 29 "read_test") rfl
  obtain ⟨fd_read_value, F_read_value⟩ := c.def_ 33 (d := dD 26 "read_value") rfl
  obtain ⟨fd_read_vars, F_read_vars⟩ := c.def_ 34 (d := dD 19 "read_vars") rfl
  obtain ⟨fd_read_kinds, F_read_kinds⟩ := c.def_ 35 (d := dD 18 "read_kinds") rfl
  obtain ⟨fd_read_plain, F_read_plain⟩ := c.def_ 36 (d := dD 24 "read_plain") rfl
  obtain ⟨fd_read_deeds, F_read_deeds⟩ := c.def_ 37 (d := dD 23 "read_deeds") rfl
  obtain ⟨fd_read_act, F_read_act⟩ := c.def_ 38 (d := dD 22 "read_act") rfl
  obtain ⟨fd_read_parts, F_read_parts⟩ := c.def_ 39 (d := dD 21 "read_parts") rfl
  obtain ⟨fd_read, F_read⟩ := c.def_ 40 (d := dD 32 "read") rfl
  obtain ⟨fd__law_commas, F__law_commas⟩ := c.def_ 41 (d := dD 51 "_law_commas") rfl
  obtain ⟨fd__law_test_row, F__law_test_row⟩ := c.def_ 42 (d := dD 52 "_law_test_row") rfl
  obtain ⟨fd__law_value_row, F__law_value_row⟩ := c.def_ 43 (d := dD 53 "_law_value_row") rfl
  obtain ⟨fd__law_deed_row, F__law_deed_row⟩ := c.def_ 44 (d := dD 54 "_law_deed_row") rfl
  obtain ⟨fd__law_var_row, F__law_var_row⟩ := c.def_ 45 (d := dD 55 "_law_var_row") rfl
  obtain ⟨fd__law_part_row, F__law_part_row⟩ := c.def_ 46 (d := dD 56 "_law_part_row") rfl
  obtain ⟨fd__law_tokens, F__law_tokens⟩ := c.def_ 47 (d := dD 57 "_law_tokens") rfl
  obtain ⟨fd__law_fuse, F__law_fuse⟩ := c.def_ 48 (d := dD 39 "_law_fuse") rfl
  obtain ⟨fd__law_gap, F__law_gap⟩ := c.def_ 49 (d := dD 40 "_law_gap") rfl
  obtain ⟨fd__law_behind, F__law_behind⟩ := c.def_ 50 (d := dD 41 "_law_behind") rfl
  obtain ⟨fd__law_laid, F__law_laid⟩ := c.def_ 51 (d := dD 42 "_law_laid") rfl
  obtain ⟨fd_law, F_law⟩ := c.def_ 52 (d := dD 58 "law") rfl
  unfold ex at ce
  have ce1 := (Bool.and_eq_true_iff.mp ce).2
  replace ce := (Bool.and_eq_true_iff.mp ce).1
  have ce0 := ce
  have T : Txt K mg := { len := He.free_ok X G (c.fact 46 (f := .free "len") rfl), PAIRS := gtup_of X G (c.fact 47 (f := .glo "PAIRS") rfl) ce0, SIGNS := He.str_ok X G (c.fact 48 (f := .str "SIGNS" "=|;:,(){}") rfl), WORDS := gtup_of X G (c.fact 49 (f := .glo "WORDS") rfl) ce1, DEEP := He.int_ok X G (c.fact 50 (f := .int "DEEP" 60) rfl), tuple := He.free_ok X G (c.fact 51 (f := .free "tuple") rfl), range := He.free_ok X G (c.fact 52 (f := .free "range") rfl), LONG := He.int_ok X G (c.fact 53 (f := .int "LONG" 60) rfl), int := He.free_ok X G (c.fact 54 (f := .free "int") rfl) }
  have e := hfa.symm.trans (He.glo_ok X G (c.fact 45 (f := .glo "law") rfl))
  cases e
  have b := FunD.bindsA (ps := ["script"]) F_law fun _ _ _ _ _ _ us hl => match us, hl with | [_], _ => rfl
  refine ⟨fd_law, fun s v => b s [v] rfl, fun base _ _ => ?_⟩
  have g_Cursor := He.glo_ok X G (c.fact 55 (f := .glo "Cursor") rfl)
  have k_Cursor := He.cls_ok (c.fact 56 (f := .cls "Cursor") rfl)
  have f_Cursor : CurF K (He.ga K "Cursor") := ⟨k_Cursor, He.noat_ok (c.fact 57 (f := .noat "Cursor" "rows") rfl), He.noat_ok (c.fact 58 (f := .noat "Cursor" "at") rfl), He.noat_ok (c.fact 59 (f := .noat "Cursor" "deep") rfl)⟩
  have g_Rows := He.glo_ok X G (c.fact 60 (f := .glo "Rows") rfl)
  have k_Rows := He.cls_ok (c.fact 61 (f := .cls "Rows") rfl)
  have f_Rows : RowF K (He.ga K "Rows") := ⟨k_Rows, He.noat_ok (c.fact 62 (f := .noat "Rows" "ors") rfl), He.noat_ok (c.fact 63 (f := .noat "Rows" "ands") rfl), He.noat_ok (c.fact 64 (f := .noat "Rows" "nots") rfl)⟩
  have m__law_draw : ∀ {k : Nat} {sp : SpD}, FnOk P w K mg base CX0 k (He.ga K "_law_draw") fd__law_draw P_law_draw (LSp K sp) → Callee P w K mg base CX0 k "_law_draw" P_law_draw sp := fun ok => callee_of F__law_draw ok (He.glo_ok X G (c.fact 0 (f := .glo "_law_draw") rfl)) (fun _ _ _ _ _ _ us hl => match us, hl with | [_], _ => rfl) (fun _ _ _ _ _ _ us hl => match us, hl with | [_], _ => rfl)
  have m__law_next : ∀ {k : Nat} {sp : SpD}, FnOk P w K mg base CX0 k (He.ga K "_law_next") fd__law_next P_law_next (LSp K sp) → Callee P w K mg base CX0 k "_law_next" P_law_next sp := fun ok => callee_of F__law_next ok (He.glo_ok X G (c.fact 1 (f := .glo "_law_next") rfl)) (fun _ _ _ _ _ _ us hl => match us, hl with | [_, _], _ => rfl) (fun _ _ _ _ _ _ us hl => match us, hl with | [_, _], _ => rfl)
  have m__law_pick : ∀ {k : Nat} {sp : SpD}, FnOk P w K mg base CX0 k (He.ga K "_law_pick") fd__law_pick P_law_pick (LSp K sp) → Callee P w K mg base CX0 k "_law_pick" P_law_pick sp := fun ok => callee_of F__law_pick ok (He.glo_ok X G (c.fact 2 (f := .glo "_law_pick") rfl)) (fun _ _ _ _ _ _ us hl => match us, hl with | [_, _], _ => rfl) (fun _ _ _ _ _ _ us hl => match us, hl with | [_, _], _ => rfl)
  have m__law_words : ∀ {k : Nat} {sp : SpD}, FnOk P w K mg base CX0 k (He.ga K "_law_words") fd__law_words P_law_words (LSp K sp) → Callee P w K mg base CX0 k "_law_words" P_law_words sp := fun ok => callee_of F__law_words ok (He.glo_ok X G (c.fact 3 (f := .glo "_law_words") rfl)) (fun _ _ _ _ _ _ us hl => match us, hl with | [], _ => rfl) (fun _ _ _ _ _ _ us hl => match us, hl with | [], _ => rfl)
  have m__law_spelled : ∀ {k : Nat} {sp : SpD}, FnOk P w K mg base CX0 k (He.ga K "_law_spelled") fd__law_spelled P_law_spelled (LSp K sp) → Callee P w K mg base CX0 k "_law_spelled" P_law_spelled sp := fun ok => callee_of F__law_spelled ok (He.glo_ok X G (c.fact 4 (f := .glo "_law_spelled") rfl)) (fun _ _ _ _ _ _ us hl => match us, hl with | [_, _], _ => rfl) (fun _ _ _ _ _ _ us hl => match us, hl with | [_, _], _ => rfl)
  have m__law_atom : ∀ {k : Nat} {sp : SpD}, FnOk P w K mg base CX0 k (He.ga K "_law_atom") fd__law_atom P_law_atom (LSp K sp) → Callee P w K mg base CX0 k "_law_atom" P_law_atom sp := fun ok => callee_of F__law_atom ok (He.glo_ok X G (c.fact 5 (f := .glo "_law_atom") rfl)) (fun _ _ _ _ _ _ us hl => match us, hl with | [_], _ => rfl) (fun _ _ _ _ _ _ us hl => match us, hl with | [_], _ => rfl)
  have m__law_test : ∀ {k : Nat} {sp : SpD}, FnOk P w K mg base CX0 k (He.ga K "_law_test") fd__law_test P_law_test (LSp K sp) → Callee P w K mg base CX0 k "_law_test" P_law_test sp := fun ok => callee_of F__law_test ok (He.glo_ok X G (c.fact 6 (f := .glo "_law_test") rfl)) (fun _ _ _ _ _ _ us hl => match us, hl with | [_, _], _ => rfl) (fun _ _ _ _ _ _ us hl => match us, hl with | [_, _], _ => rfl)
  have m__law_value : ∀ {k : Nat} {sp : SpD}, FnOk P w K mg base CX0 k (He.ga K "_law_value") fd__law_value P_law_value (LSp K sp) → Callee P w K mg base CX0 k "_law_value" P_law_value sp := fun ok => callee_of F__law_value ok (He.glo_ok X G (c.fact 7 (f := .glo "_law_value") rfl)) (fun _ _ _ _ _ _ us hl => match us, hl with | [_, _], _ => rfl) (fun _ _ _ _ _ _ us hl => match us, hl with | [_, _], _ => rfl)
  have m__law_givens : ∀ {k : Nat} {sp : SpD}, FnOk P w K mg base CX0 k (He.ga K "_law_givens") fd__law_givens P_law_givens (LSp K sp) → Callee P w K mg base CX0 k "_law_givens" P_law_givens sp := fun ok => callee_of F__law_givens ok (He.glo_ok X G (c.fact 8 (f := .glo "_law_givens") rfl)) (fun _ _ _ _ _ _ us hl => match us, hl with | [_], _ => rfl) (fun _ _ _ _ _ _ us hl => match us, hl with | [_], _ => rfl)
  have m__law_vars : ∀ {k : Nat} {sp : SpD}, FnOk P w K mg base CX0 k (He.ga K "_law_vars") fd__law_vars P_law_vars (LSp K sp) → Callee P w K mg base CX0 k "_law_vars" P_law_vars sp := fun ok => callee_of F__law_vars ok (He.glo_ok X G (c.fact 9 (f := .glo "_law_vars") rfl)) (fun _ _ _ _ _ _ us hl => match us, hl with | [_, _], _ => rfl) (fun _ _ _ _ _ _ us hl => match us, hl with | [_, _], _ => rfl)
  have m__law_deeds : ∀ {k : Nat} {sp : SpD}, FnOk P w K mg base CX0 k (He.ga K "_law_deeds") fd__law_deeds P_law_deeds (LSp K sp) → Callee P w K mg base CX0 k "_law_deeds" P_law_deeds sp := fun ok => callee_of F__law_deeds ok (He.glo_ok X G (c.fact 10 (f := .glo "_law_deeds") rfl)) (fun _ _ _ _ _ _ us hl => match us, hl with | [_, _, _], _ => rfl) (fun _ _ _ _ _ _ us hl => match us, hl with | [_, _, _], _ => rfl)
  have m__law_parts : ∀ {k : Nat} {sp : SpD}, FnOk P w K mg base CX0 k (He.ga K "_law_parts") fd__law_parts P_law_parts (LSp K sp) → Callee P w K mg base CX0 k "_law_parts" P_law_parts sp := fun ok => callee_of F__law_parts ok (He.glo_ok X G (c.fact 11 (f := .glo "_law_parts") rfl)) (fun _ _ _ _ _ _ us hl => match us, hl with | [_, _, _], _ => rfl) (fun _ _ _ _ _ _ us hl => match us, hl with | [_, _, _], _ => rfl)
  have m__law_program : ∀ {k : Nat} {sp : SpD}, FnOk P w K mg base CX0 k (He.ga K "_law_program") fd__law_program P_law_program (LSp K sp) → Callee P w K mg base CX0 k "_law_program" P_law_program sp := fun ok => callee_of F__law_program ok (He.glo_ok X G (c.fact 12 (f := .glo "_law_program") rfl)) (fun _ _ _ _ _ _ us hl => match us, hl with | [_], _ => rfl) (fun _ _ _ _ _ _ us hl => match us, hl with | [_], _ => rfl)
  have m_is_small : ∀ {k : Nat} {sp : SpD}, FnOk P w K mg base CX0 k (He.ga K "is_small") fd_is_small Pis_small (LSp K sp) → Callee P w K mg base CX0 k "is_small" Pis_small sp := fun ok => callee_of F_is_small ok (He.glo_ok X G (c.fact 13 (f := .glo "is_small") rfl)) (fun _ _ _ _ _ _ us hl => match us, hl with | [_], _ => rfl) (fun _ _ _ _ _ _ us hl => match us, hl with | [_], _ => rfl)
  have m_is_great : ∀ {k : Nat} {sp : SpD}, FnOk P w K mg base CX0 k (He.ga K "is_great") fd_is_great Pis_great (LSp K sp) → Callee P w K mg base CX0 k "is_great" Pis_great sp := fun ok => callee_of F_is_great ok (He.glo_ok X G (c.fact 14 (f := .glo "is_great") rfl)) (fun _ _ _ _ _ _ us hl => match us, hl with | [_], _ => rfl) (fun _ _ _ _ _ _ us hl => match us, hl with | [_], _ => rfl)
  have m_in_row : ∀ {k : Nat} {sp : SpD}, FnOk P w K mg base CX0 k (He.ga K "in_row") fd_in_row Pin_row (LSp K sp) → Callee P w K mg base CX0 k "in_row" Pin_row sp := fun ok => callee_of F_in_row ok (He.glo_ok X G (c.fact 15 (f := .glo "in_row") rfl)) (fun _ _ _ _ _ _ us hl => match us, hl with | [_], _ => rfl) (fun _ _ _ _ _ _ us hl => match us, hl with | [_], _ => rfl)
  have m_in_text : ∀ {k : Nat} {sp : SpD}, FnOk P w K mg base CX0 k (He.ga K "in_text") fd_in_text Pin_text (LSp K sp) → Callee P w K mg base CX0 k "in_text" Pin_text sp := fun ok => callee_of F_in_text ok (He.glo_ok X G (c.fact 16 (f := .glo "in_text") rfl)) (fun _ _ _ _ _ _ us hl => match us, hl with | [_], _ => rfl) (fun _ _ _ _ _ _ us hl => match us, hl with | [_], _ => rfl)
  have m_behind_remark : ∀ {k : Nat} {sp : SpD}, FnOk P w K mg base CX0 k (He.ga K "behind_remark") fd_behind_remark Pbehind_remark (LSp K sp) → Callee P w K mg base CX0 k "behind_remark" Pbehind_remark sp := fun ok => callee_of F_behind_remark ok (He.glo_ok X G (c.fact 17 (f := .glo "behind_remark") rfl)) (fun _ _ _ _ _ _ us hl => match us, hl with | [_, _], _ => rfl) (fun _ _ _ _ _ _ us hl => match us, hl with | [_, _], _ => rfl)
  have m_token_at : ∀ {k : Nat} {sp : SpD}, FnOk P w K mg base CX0 k (He.ga K "token_at") fd_token_at Ptoken_at (LSp K sp) → Callee P w K mg base CX0 k "token_at" Ptoken_at sp := fun ok => callee_of F_token_at ok (He.glo_ok X G (c.fact 18 (f := .glo "token_at") rfl)) (fun _ _ _ _ _ _ us hl => match us, hl with | [_, _], _ => rfl) (fun _ _ _ _ _ _ us hl => match us, hl with | [_, _], _ => rfl)
  have m_tokens : ∀ {k : Nat} {sp : SpD}, FnOk P w K mg base CX0 k (He.ga K "tokens") fd_tokens Ptokens (LSp K sp) → Callee P w K mg base CX0 k "tokens" Ptokens sp := fun ok => callee_of F_tokens ok (He.glo_ok X G (c.fact 19 (f := .glo "tokens") rfl)) (fun _ _ _ _ _ _ us hl => match us, hl with | [_], _ => rfl) (fun _ _ _ _ _ _ us hl => match us, hl with | [_], _ => rfl)
  have m_CursorU_initU : ∀ {k : Nat} {sp : SpD}, FnOk P w K mg base CX0 k (He.ma K (He.ga K "Cursor") "__init__") fd_CursorU_initU PCursorU_initU (LSp K sp) → Mkr P w K mg base CX0 (He.ga K "Cursor") k "Cursor" PCursorU_initU sp := fun ok => ⟨_, _, ok, He.mkr_ok (c.fact 65 (f := .mkr "Cursor") rfl), g_Cursor, F_CursorU_initU.bindsN (fun _ _ _ _ _ _ us hl => match us, hl with | [_, _], _ => rfl)⟩
  have m_Cursor_now : ∀ {k : Nat} {sp : SpD}, FnOk P w K mg base CX0 k (He.ma K (He.ga K "Cursor") "now") fd_Cursor_now PCursor_now (LSp K sp) → Mth P w K mg base CX0 (He.ga K "Cursor") k "now" PCursor_now sp := fun ok => ⟨_, _, ok, k_Cursor, He.meth_ok (c.fact 66 (f := .meth "Cursor" "now") rfl), F_Cursor_now.bindsN (fun _ _ _ _ _ _ us hl => match us, hl with | [_], _ => rfl)⟩
  have m_Cursor_take : ∀ {k : Nat} {sp : SpD}, FnOk P w K mg base CX0 k (He.ma K (He.ga K "Cursor") "take") fd_Cursor_take PCursor_take (LSp K sp) → Mth P w K mg base CX0 (He.ga K "Cursor") k "take" PCursor_take sp := fun ok => ⟨_, _, ok, k_Cursor, He.meth_ok (c.fact 67 (f := .meth "Cursor" "take") rfl), F_Cursor_take.bindsN (fun _ _ _ _ _ _ us hl => match us, hl with | [_, _], _ => rfl)⟩
  have m_Cursor_enter : ∀ {k : Nat} {sp : SpD}, FnOk P w K mg base CX0 k (He.ma K (He.ga K "Cursor") "enter") fd_Cursor_enter PCursor_enter (LSp K sp) → Mth P w K mg base CX0 (He.ga K "Cursor") k "enter" PCursor_enter sp := fun ok => ⟨_, _, ok, k_Cursor, He.meth_ok (c.fact 68 (f := .meth "Cursor" "enter") rfl), F_Cursor_enter.bindsN (fun _ _ _ _ _ _ us hl => match us, hl with | [_, _], _ => rfl)⟩
  have m_Cursor_leave : ∀ {k : Nat} {sp : SpD}, FnOk P w K mg base CX0 k (He.ma K (He.ga K "Cursor") "leave") fd_Cursor_leave PCursor_leave (LSp K sp) → Mth P w K mg base CX0 (He.ga K "Cursor") k "leave" PCursor_leave sp := fun ok => ⟨_, _, ok, k_Cursor, He.meth_ok (c.fact 69 (f := .meth "Cursor" "leave") rfl), F_Cursor_leave.bindsN (fun _ _ _ _ _ _ us hl => match us, hl with | [_, _], _ => rfl)⟩
  have m_Cursor_shut : ∀ {k : Nat} {sp : SpD}, FnOk P w K mg base CX0 k (He.ma K (He.ga K "Cursor") "shut") fd_Cursor_shut PCursor_shut (LSp K sp) → Mth P w K mg base CX0 (He.ga K "Cursor") k "shut" PCursor_shut sp := fun ok => ⟨_, _, ok, k_Cursor, He.meth_ok (c.fact 70 (f := .meth "Cursor" "shut") rfl), F_Cursor_shut.bindsN (fun _ _ _ _ _ _ us hl => match us, hl with | [_], _ => rfl)⟩
  have m_read_atom : ∀ {k : Nat} {sp : SpD}, FnOk P w K mg base CX0 k (He.ga K "read_atom") fd_read_atom Pread_atom (LSp K sp) → Callee P w K mg base CX0 k "read_atom" Pread_atom sp := fun ok => callee_of F_read_atom ok (He.glo_ok X G (c.fact 20 (f := .glo "read_atom") rfl)) (fun _ _ _ _ _ _ us hl => match us, hl with | [_], _ => rfl) (fun _ _ _ _ _ _ us hl => match us, hl with | [_], _ => rfl)
  have m_read_givens : ∀ {k : Nat} {sp : SpD}, FnOk P w K mg base CX0 k (He.ga K "read_givens") fd_read_givens Pread_givens (LSp K sp) → Callee P w K mg base CX0 k "read_givens" Pread_givens sp := fun ok => callee_of F_read_givens ok (He.glo_ok X G (c.fact 21 (f := .glo "read_givens") rfl)) (fun _ _ _ _ _ _ us hl => match us, hl with | [_], _ => rfl) (fun _ _ _ _ _ _ us hl => match us, hl with | [_], _ => rfl)
  have m_grouped : ∀ {k : Nat} {sp : SpD}, FnOk P w K mg base CX0 k (He.ga K "grouped") fd_grouped Pgrouped (LSp K sp) → Callee P w K mg base CX0 k "grouped" Pgrouped sp := fun ok => callee_of F_grouped ok (He.glo_ok X G (c.fact 22 (f := .glo "grouped") rfl)) (fun _ _ _ _ _ _ us hl => match us, hl with | [_, _], _ => rfl) (fun _ _ _ _ _ _ us hl => match us, hl with | [_, _], _ => rfl)
  have m__go_on : ∀ {k : Nat} {sp : SpD}, FnOk P w K mg base CX0 k (He.ga K "_go_on") fd__go_on P_go_on (LSp K sp) → Callee P w K mg base CX0 k "_go_on" P_go_on sp := fun ok => callee_of F__go_on ok (He.glo_ok X G (c.fact 23 (f := .glo "_go_on") rfl)) (fun _ _ _ _ _ _ us hl => match us, hl with | [_, _, _], _ => rfl) (fun _ _ _ _ _ _ us hl => match us, hl with | [_, _, _], _ => rfl)
  have m__put : ∀ {k : Nat} {sp : SpD}, FnOk P w K mg base CX0 k (He.ga K "_put") fd__put P_put (LSp K sp) → Callee P w K mg base CX0 k "_put" P_put sp := fun ok => callee_of F__put ok (He.glo_ok X G (c.fact 24 (f := .glo "_put") rfl)) (fun _ _ _ _ _ _ us hl => match us, hl with | [_, _, _], _ => rfl) (fun _ _ _ _ _ _ us hl => match us, hl with | [_, _, _], _ => rfl)
  have m_RowsU_initU : ∀ {k : Nat} {sp : SpD}, FnOk P w K mg base CX0 k (He.ma K (He.ga K "Rows") "__init__") fd_RowsU_initU PRowsU_initU (LSp K sp) → Mkr P w K mg base CX0 (He.ga K "Rows") k "Rows" PRowsU_initU sp := fun ok => ⟨_, _, ok, He.mkr_ok (c.fact 71 (f := .mkr "Rows") rfl), g_Rows, F_RowsU_initU.bindsN (fun _ _ _ _ _ _ us hl => match us, hl with | [_], _ => rfl)⟩
  have m_read_test : ∀ {k : Nat} {sp : SpD}, FnOk P w K mg base CX0 k (He.ga K "read_test") fd_read_test Pread_test (LSp K sp) → Callee P w K mg base CX0 k "read_test" Pread_test sp := fun ok => callee_of F_read_test ok (He.glo_ok X G (c.fact 25 (f := .glo "read_test") rfl)) (fun _ _ _ _ _ _ us hl => match us, hl with | [_], _ => rfl) (fun _ _ _ _ _ _ us hl => match us, hl with | [_], _ => rfl)
  have m_read_value : ∀ {k : Nat} {sp : SpD}, FnOk P w K mg base CX0 k (He.ga K "read_value") fd_read_value Pread_value (LSp K sp) → Callee P w K mg base CX0 k "read_value" Pread_value sp := fun ok => callee_of F_read_value ok (He.glo_ok X G (c.fact 26 (f := .glo "read_value") rfl)) (fun _ _ _ _ _ _ us hl => match us, hl with | [_], _ => rfl) (fun _ _ _ _ _ _ us hl => match us, hl with | [_], _ => rfl)
  have m_read_vars : ∀ {k : Nat} {sp : SpD}, FnOk P w K mg base CX0 k (He.ga K "read_vars") fd_read_vars Pread_vars (LSp K sp) → Callee P w K mg base CX0 k "read_vars" Pread_vars sp := fun ok => callee_of F_read_vars ok (He.glo_ok X G (c.fact 27 (f := .glo "read_vars") rfl)) (fun _ _ _ _ _ _ us hl => match us, hl with | [_], _ => rfl) (fun _ _ _ _ _ _ us hl => match us, hl with | [_], _ => rfl)
  have m_read_kinds : ∀ {k : Nat} {sp : SpD}, FnOk P w K mg base CX0 k (He.ga K "read_kinds") fd_read_kinds Pread_kinds (LSp K sp) → Callee P w K mg base CX0 k "read_kinds" Pread_kinds sp := fun ok => callee_of F_read_kinds ok (He.glo_ok X G (c.fact 28 (f := .glo "read_kinds") rfl)) (fun _ _ _ _ _ _ us hl => match us, hl with | [_], _ => rfl) (fun _ _ _ _ _ _ us hl => match us, hl with | [_], _ => rfl)
  have m_read_plain : ∀ {k : Nat} {sp : SpD}, FnOk P w K mg base CX0 k (He.ga K "read_plain") fd_read_plain Pread_plain (LSp K sp) → Callee P w K mg base CX0 k "read_plain" Pread_plain sp := fun ok => callee_of F_read_plain ok (He.glo_ok X G (c.fact 29 (f := .glo "read_plain") rfl)) (fun _ _ _ _ _ _ us hl => match us, hl with | [_], _ => rfl) (fun _ _ _ _ _ _ us hl => match us, hl with | [_], _ => rfl)
  have m_read_deeds : ∀ {k : Nat} {sp : SpD}, FnOk P w K mg base CX0 k (He.ga K "read_deeds") fd_read_deeds Pread_deeds (LSp K sp) → Callee P w K mg base CX0 k "read_deeds" Pread_deeds sp := fun ok => callee_of F_read_deeds ok (He.glo_ok X G (c.fact 30 (f := .glo "read_deeds") rfl)) (fun _ _ _ _ _ _ us hl => match us, hl with | [_], _ => rfl) (fun _ _ _ _ _ _ us hl => match us, hl with | [_], _ => rfl)
  have m_read_act : ∀ {k : Nat} {sp : SpD}, FnOk P w K mg base CX0 k (He.ga K "read_act") fd_read_act Pread_act (LSp K sp) → Callee P w K mg base CX0 k "read_act" Pread_act sp := fun ok => callee_of F_read_act ok (He.glo_ok X G (c.fact 31 (f := .glo "read_act") rfl)) (fun _ _ _ _ _ _ us hl => match us, hl with | [_], _ => rfl) (fun _ _ _ _ _ _ us hl => match us, hl with | [_], _ => rfl)
  have m_read_parts : ∀ {k : Nat} {sp : SpD}, FnOk P w K mg base CX0 k (He.ga K "read_parts") fd_read_parts Pread_parts (LSp K sp) → Callee P w K mg base CX0 k "read_parts" Pread_parts sp := fun ok => callee_of F_read_parts ok (He.glo_ok X G (c.fact 32 (f := .glo "read_parts") rfl)) (fun _ _ _ _ _ _ us hl => match us, hl with | [_], _ => rfl) (fun _ _ _ _ _ _ us hl => match us, hl with | [_], _ => rfl)
  have m_read : ∀ {k : Nat} {sp : SpD}, FnOk P w K mg base CX0 k (He.ga K "read") fd_read Pread (LSp K sp) → Callee P w K mg base CX0 k "read" Pread sp := fun ok => callee_of F_read ok (He.glo_ok X G (c.fact 33 (f := .glo "read") rfl)) (fun _ _ _ _ _ _ us hl => match us, hl with | [_], _ => rfl) (fun _ _ _ _ _ _ us hl => match us, hl with | [_], _ => rfl)
  have m__law_commas : ∀ {k : Nat} {sp : SpD}, FnOk P w K mg base CX0 k (He.ga K "_law_commas") fd__law_commas P_law_commas (LSp K sp) → Callee P w K mg base CX0 k "_law_commas" P_law_commas sp := fun ok => callee_of F__law_commas ok (He.glo_ok X G (c.fact 34 (f := .glo "_law_commas") rfl)) (fun _ _ _ _ _ _ us hl => match us, hl with | [_], _ => rfl) (fun _ _ _ _ _ _ us hl => match us, hl with | [_], _ => rfl)
  have m__law_test_row : ∀ {k : Nat} {sp : SpD}, FnOk P w K mg base CX0 k (He.ga K "_law_test_row") fd__law_test_row P_law_test_row (LSp K sp) → Callee P w K mg base CX0 k "_law_test_row" P_law_test_row sp := fun ok => callee_of F__law_test_row ok (He.glo_ok X G (c.fact 35 (f := .glo "_law_test_row") rfl)) (fun _ _ _ _ _ _ us hl => match us, hl with | [_, _, _], _ => rfl) (fun _ _ _ _ _ _ us hl => match us, hl with | [_, _, _], _ => rfl)
  have m__law_value_row : ∀ {k : Nat} {sp : SpD}, FnOk P w K mg base CX0 k (He.ga K "_law_value_row") fd__law_value_row P_law_value_row (LSp K sp) → Callee P w K mg base CX0 k "_law_value_row" P_law_value_row sp := fun ok => callee_of F__law_value_row ok (He.glo_ok X G (c.fact 36 (f := .glo "_law_value_row") rfl)) (fun _ _ _ _ _ _ us hl => match us, hl with | [_, _], _ => rfl) (fun _ _ _ _ _ _ us hl => match us, hl with | [_, _], _ => rfl)
  have m__law_deed_row : ∀ {k : Nat} {sp : SpD}, FnOk P w K mg base CX0 k (He.ga K "_law_deed_row") fd__law_deed_row P_law_deed_row (LSp K sp) → Callee P w K mg base CX0 k "_law_deed_row" P_law_deed_row sp := fun ok => callee_of F__law_deed_row ok (He.glo_ok X G (c.fact 37 (f := .glo "_law_deed_row") rfl)) (fun _ _ _ _ _ _ us hl => match us, hl with | [_, _], _ => rfl) (fun _ _ _ _ _ _ us hl => match us, hl with | [_, _], _ => rfl)
  have m__law_var_row : ∀ {k : Nat} {sp : SpD}, FnOk P w K mg base CX0 k (He.ga K "_law_var_row") fd__law_var_row P_law_var_row (LSp K sp) → Callee P w K mg base CX0 k "_law_var_row" P_law_var_row sp := fun ok => callee_of F__law_var_row ok (He.glo_ok X G (c.fact 38 (f := .glo "_law_var_row") rfl)) (fun _ _ _ _ _ _ us hl => match us, hl with | [_, _], _ => rfl) (fun _ _ _ _ _ _ us hl => match us, hl with | [_, _], _ => rfl)
  have m__law_part_row : ∀ {k : Nat} {sp : SpD}, FnOk P w K mg base CX0 k (He.ga K "_law_part_row") fd__law_part_row P_law_part_row (LSp K sp) → Callee P w K mg base CX0 k "_law_part_row" P_law_part_row sp := fun ok => callee_of F__law_part_row ok (He.glo_ok X G (c.fact 39 (f := .glo "_law_part_row") rfl)) (fun _ _ _ _ _ _ us hl => match us, hl with | [_, _], _ => rfl) (fun _ _ _ _ _ _ us hl => match us, hl with | [_, _], _ => rfl)
  have m__law_tokens : ∀ {k : Nat} {sp : SpD}, FnOk P w K mg base CX0 k (He.ga K "_law_tokens") fd__law_tokens P_law_tokens (LSp K sp) → Callee P w K mg base CX0 k "_law_tokens" P_law_tokens sp := fun ok => callee_of F__law_tokens ok (He.glo_ok X G (c.fact 40 (f := .glo "_law_tokens") rfl)) (fun _ _ _ _ _ _ us hl => match us, hl with | [_, _], _ => rfl) (fun _ _ _ _ _ _ us hl => match us, hl with | [_, _], _ => rfl)
  have m__law_fuse : ∀ {k : Nat} {sp : SpD}, FnOk P w K mg base CX0 k (He.ga K "_law_fuse") fd__law_fuse P_law_fuse (LSp K sp) → Callee P w K mg base CX0 k "_law_fuse" P_law_fuse sp := fun ok => callee_of F__law_fuse ok (He.glo_ok X G (c.fact 41 (f := .glo "_law_fuse") rfl)) (fun _ _ _ _ _ _ us hl => match us, hl with | [_, _], _ => rfl) (fun _ _ _ _ _ _ us hl => match us, hl with | [_, _], _ => rfl)
  have m__law_gap : ∀ {k : Nat} {sp : SpD}, FnOk P w K mg base CX0 k (He.ga K "_law_gap") fd__law_gap P_law_gap (LSp K sp) → Callee P w K mg base CX0 k "_law_gap" P_law_gap sp := fun ok => callee_of F__law_gap ok (He.glo_ok X G (c.fact 42 (f := .glo "_law_gap") rfl)) (fun _ _ _ _ _ _ us hl => match us, hl with | [_, _, _], _ => rfl) (fun _ _ _ _ _ _ us hl => match us, hl with | [_, _, _], _ => rfl)
  have m__law_behind : ∀ {k : Nat} {sp : SpD}, FnOk P w K mg base CX0 k (He.ga K "_law_behind") fd__law_behind P_law_behind (LSp K sp) → Callee P w K mg base CX0 k "_law_behind" P_law_behind sp := fun ok => callee_of F__law_behind ok (He.glo_ok X G (c.fact 43 (f := .glo "_law_behind") rfl)) (fun _ _ _ _ _ _ us hl => match us, hl with | [_, _], _ => rfl) (fun _ _ _ _ _ _ us hl => match us, hl with | [_, _], _ => rfl)
  have m__law_laid : ∀ {k : Nat} {sp : SpD}, FnOk P w K mg base CX0 k (He.ga K "_law_laid") fd__law_laid P_law_laid (LSp K sp) → Callee P w K mg base CX0 k "_law_laid" P_law_laid sp := fun ok => callee_of F__law_laid ok (He.glo_ok X G (c.fact 44 (f := .glo "_law_laid") rfl)) (fun _ _ _ _ _ _ us hl => match us, hl with | [_, _], _ => rfl) (fun _ _ _ _ _ _ us hl => match us, hl with | [_, _], _ => rfl)
  have c__law_draw := m__law_draw (ok__law_draw T F__law_draw )
  have c__law_next := m__law_next (ok__law_next T F__law_next )
  have c__law_pick := m__law_pick (ok__law_pick T F__law_pick c__law_next)
  have c__law_words := m__law_words (ok__law_words T F__law_words )
  have c__law_spelled := m__law_spelled (ok__law_spelled T F__law_spelled c__law_next c__law_pick c__law_words)
  have c__law_atom := m__law_atom (ok__law_atom T F__law_atom c__law_next c__law_spelled)
  have c__law_test : ∀ n, Callee P w K mg base CX0 (4+n) "_law_test" P_law_test (sp_test n) := fun n => by
    induction n with
    | zero => exact m__law_test (fnok_no fun _ _ _ _ h => by first | (obtain ⟨_, h, _⟩ := h; exact absurd h (Nat.not_lt_zero _)) | (obtain ⟨_, _, h, _⟩ := h; exact absurd h (Nat.not_lt_zero _)) | (obtain ⟨_, _, _, h, _⟩ := h; exact absurd h (Nat.not_lt_zero _)) | (obtain ⟨_, _, _, _, h, _⟩ := h; exact absurd h (Nat.not_lt_zero _)) | (obtain ⟨_, _, _, _, _, h, _⟩ := h; exact absurd h (Nat.not_lt_zero _)) | (obtain ⟨_, _, _, _, _, _, h, _⟩ := h; exact absurd h (Nat.not_lt_zero _)) | (obtain ⟨_, _, _, _, _, _, _, h, _⟩ := h; exact absurd h (Nat.not_lt_zero _)) | (obtain ⟨_, _, _, _, _, _, _, _, h, _⟩ := h; exact absurd h (Nat.not_lt_zero _)) | (obtain ⟨_, _, _, _, _, _, _, _, _, h, _⟩ := h; exact absurd h (Nat.not_lt_zero _)) | (obtain ⟨_, _, _, _, _, _, _, _, _, _, h, _⟩ := h; exact absurd h (Nat.not_lt_zero _)) | (obtain ⟨_, _, _, _, _, _, _, _, _, _, _, h, _⟩ := h; exact absurd h (Nat.not_lt_zero _)))
    | succ n ih => exact m__law_test (ok__law_test T F__law_test c__law_next c__law_atom ih)
  have c__law_value : ∀ n, Callee P w K mg base CX0 (8+n) "_law_value" P_law_value (sp_value n) := fun n => by
    induction n with
    | zero => exact m__law_value (fnok_no fun _ _ _ _ h => by first | (obtain ⟨_, h, _⟩ := h; exact absurd h (Nat.not_lt_zero _)) | (obtain ⟨_, _, h, _⟩ := h; exact absurd h (Nat.not_lt_zero _)) | (obtain ⟨_, _, _, h, _⟩ := h; exact absurd h (Nat.not_lt_zero _)) | (obtain ⟨_, _, _, _, h, _⟩ := h; exact absurd h (Nat.not_lt_zero _)) | (obtain ⟨_, _, _, _, _, h, _⟩ := h; exact absurd h (Nat.not_lt_zero _)) | (obtain ⟨_, _, _, _, _, _, h, _⟩ := h; exact absurd h (Nat.not_lt_zero _)) | (obtain ⟨_, _, _, _, _, _, _, h, _⟩ := h; exact absurd h (Nat.not_lt_zero _)) | (obtain ⟨_, _, _, _, _, _, _, _, h, _⟩ := h; exact absurd h (Nat.not_lt_zero _)) | (obtain ⟨_, _, _, _, _, _, _, _, _, h, _⟩ := h; exact absurd h (Nat.not_lt_zero _)) | (obtain ⟨_, _, _, _, _, _, _, _, _, _, h, _⟩ := h; exact absurd h (Nat.not_lt_zero _)) | (obtain ⟨_, _, _, _, _, _, _, _, _, _, _, h, _⟩ := h; exact absurd h (Nat.not_lt_zero _)))
    | succ n ih => exact m__law_value (ok__law_value T F__law_value c__law_next c__law_atom (c__law_test 4) ih)
  have c__law_givens := m__law_givens (ok__law_givens T F__law_givens c__law_next c__law_spelled)
  have c__law_vars := m__law_vars (ok__law_vars T F__law_vars c__law_next c__law_spelled (c__law_value 3))
  have c__law_deeds : ∀ n, Callee P w K mg base CX0 (11+n) "_law_deeds" P_law_deeds (sp_deeds n) := fun n => by
    induction n with
    | zero => exact m__law_deeds (fnok_no fun _ _ _ _ h => by first | (obtain ⟨_, h, _⟩ := h; exact absurd h (Nat.not_lt_zero _)) | (obtain ⟨_, _, h, _⟩ := h; exact absurd h (Nat.not_lt_zero _)) | (obtain ⟨_, _, _, h, _⟩ := h; exact absurd h (Nat.not_lt_zero _)) | (obtain ⟨_, _, _, _, h, _⟩ := h; exact absurd h (Nat.not_lt_zero _)) | (obtain ⟨_, _, _, _, _, h, _⟩ := h; exact absurd h (Nat.not_lt_zero _)) | (obtain ⟨_, _, _, _, _, _, h, _⟩ := h; exact absurd h (Nat.not_lt_zero _)) | (obtain ⟨_, _, _, _, _, _, _, h, _⟩ := h; exact absurd h (Nat.not_lt_zero _)) | (obtain ⟨_, _, _, _, _, _, _, _, h, _⟩ := h; exact absurd h (Nat.not_lt_zero _)) | (obtain ⟨_, _, _, _, _, _, _, _, _, h, _⟩ := h; exact absurd h (Nat.not_lt_zero _)) | (obtain ⟨_, _, _, _, _, _, _, _, _, _, h, _⟩ := h; exact absurd h (Nat.not_lt_zero _)) | (obtain ⟨_, _, _, _, _, _, _, _, _, _, _, h, _⟩ := h; exact absurd h (Nat.not_lt_zero _)))
    | succ n ih => exact m__law_deeds (ok__law_deeds T F__law_deeds c__law_next c__law_spelled (c__law_value 3) (c__law_test 4) ih)
  have c__law_parts : ∀ n, Callee P w K mg base CX0 (14+n) "_law_parts" P_law_parts (sp_parts n) := fun n => by
    induction n with
    | zero => exact m__law_parts (fnok_no fun _ _ _ _ h => by first | (obtain ⟨_, h, _⟩ := h; exact absurd h (Nat.not_lt_zero _)) | (obtain ⟨_, _, h, _⟩ := h; exact absurd h (Nat.not_lt_zero _)) | (obtain ⟨_, _, _, h, _⟩ := h; exact absurd h (Nat.not_lt_zero _)) | (obtain ⟨_, _, _, _, h, _⟩ := h; exact absurd h (Nat.not_lt_zero _)) | (obtain ⟨_, _, _, _, _, h, _⟩ := h; exact absurd h (Nat.not_lt_zero _)) | (obtain ⟨_, _, _, _, _, _, h, _⟩ := h; exact absurd h (Nat.not_lt_zero _)) | (obtain ⟨_, _, _, _, _, _, _, h, _⟩ := h; exact absurd h (Nat.not_lt_zero _)) | (obtain ⟨_, _, _, _, _, _, _, _, h, _⟩ := h; exact absurd h (Nat.not_lt_zero _)) | (obtain ⟨_, _, _, _, _, _, _, _, _, h, _⟩ := h; exact absurd h (Nat.not_lt_zero _)) | (obtain ⟨_, _, _, _, _, _, _, _, _, _, h, _⟩ := h; exact absurd h (Nat.not_lt_zero _)) | (obtain ⟨_, _, _, _, _, _, _, _, _, _, _, h, _⟩ := h; exact absurd h (Nat.not_lt_zero _)))
    | succ n ih => exact m__law_parts (ok__law_parts T F__law_parts c__law_next c__law_spelled c__law_givens (c__law_value 3) c__law_vars (c__law_deeds 3) ih)
  have c__law_program := m__law_program (ok__law_program T F__law_program c__law_next c__law_spelled c__law_vars (c__law_parts 4))
  have c_is_small := m_is_small (ok_is_small T F_is_small )
  have c_is_great := m_is_great (ok_is_great T F_is_great )
  have c_in_row := m_in_row (ok_in_row T F_in_row c_is_small c_is_great)
  have c_in_text := m_in_text (ok_in_text T F_in_text )
  have c_behind_remark := m_behind_remark (ok_behind_remark T F_behind_remark c_in_text)
  have c_token_at := m_token_at (ok_token_at T F_token_at c_is_small c_is_great c_in_row)
  have c_tokens := m_tokens (ok_tokens T F_tokens c_behind_remark c_token_at)
  have c_CursorU_initU := m_CursorU_initU (ok_CursorU_initU T F_CursorU_initU f_Cursor)
  have c_Cursor_now := m_Cursor_now (ok_Cursor_now T F_Cursor_now f_Cursor)
  have c_Cursor_take := m_Cursor_take (ok_Cursor_take T F_Cursor_take f_Cursor c_Cursor_now)
  have c_Cursor_enter := m_Cursor_enter (ok_Cursor_enter T F_Cursor_enter f_Cursor c_Cursor_take)
  have c_Cursor_leave := m_Cursor_leave (ok_Cursor_leave T F_Cursor_leave f_Cursor c_Cursor_take)
  have c_Cursor_shut := m_Cursor_shut (ok_Cursor_shut T F_Cursor_shut f_Cursor)
  have c_read_atom := m_read_atom (ok_read_atom T F_read_atom c_Cursor_now c_Cursor_take)
  have c_read_givens := m_read_givens (ok_read_givens T F_read_givens c_Cursor_now c_Cursor_take c_Cursor_enter c_Cursor_leave)
  have c_grouped := m_grouped (ok_grouped T F_grouped )
  have c__go_on := m__go_on (ok__go_on T F__go_on c_Cursor_take)
  have c__put := m__put (ok__put T F__put f_Rows c_Cursor_now c_Cursor_shut c_grouped c__go_on)
  have c_RowsU_initU := m_RowsU_initU (ok_RowsU_initU T F_RowsU_initU f_Rows)
  have c_read_test := m_read_test (ok_read_test T F_read_test f_Rows c_Cursor_now c_Cursor_take c_Cursor_enter c_Cursor_leave c_RowsU_initU c_read_atom c__put c_grouped)
  have c_read_value := m_read_value (ok_read_value T F_read_value c_Cursor_now c_Cursor_take c_Cursor_enter c_Cursor_shut c_read_atom c_read_test)
  have c_read_vars := m_read_vars (ok_read_vars T F_read_vars c_Cursor_now c_Cursor_take c_read_value)
  have c_read_kinds := m_read_kinds (ok_read_kinds T F_read_kinds c_Cursor_now c_Cursor_take)
  have c_read_plain := m_read_plain (ok_read_plain T F_read_plain c_Cursor_now c_Cursor_take c_Cursor_enter c_Cursor_leave c_read_value)
  have c_read_deeds := m_read_deeds (ok_read_deeds T F_read_deeds c_Cursor_now c_Cursor_take c_Cursor_enter c_Cursor_leave c_read_plain c_read_test)
  have c_read_act := m_read_act (ok_read_act T F_read_act c_Cursor_take c_Cursor_enter c_Cursor_leave c_read_givens c_read_deeds c_read_value)
  have c_read_parts := m_read_parts (ok_read_parts T F_read_parts c_Cursor_now c_Cursor_take c_Cursor_enter c_Cursor_leave c_read_givens c_read_vars c_read_act)
  have c_read := m_read (ok_read T F_read c_CursorU_initU c_tokens c_read_kinds c_read_vars c_read_parts)
  have c__law_commas := m__law_commas (ok__law_commas T F__law_commas )
  have c__law_test_row : ∀ n, Callee P w K mg base CX0 (1+n) "_law_test_row" P_law_test_row (sp_trowd n) := fun n => by
    induction n with
    | zero => exact m__law_test_row (fnok_no fun _ _ _ _ h => by first | (obtain ⟨_, h, _⟩ := h; exact absurd h (Nat.not_lt_zero _)) | (obtain ⟨_, _, h, _⟩ := h; exact absurd h (Nat.not_lt_zero _)) | (obtain ⟨_, _, _, h, _⟩ := h; exact absurd h (Nat.not_lt_zero _)) | (obtain ⟨_, _, _, _, h, _⟩ := h; exact absurd h (Nat.not_lt_zero _)) | (obtain ⟨_, _, _, _, _, h, _⟩ := h; exact absurd h (Nat.not_lt_zero _)) | (obtain ⟨_, _, _, _, _, _, h, _⟩ := h; exact absurd h (Nat.not_lt_zero _)) | (obtain ⟨_, _, _, _, _, _, _, h, _⟩ := h; exact absurd h (Nat.not_lt_zero _)) | (obtain ⟨_, _, _, _, _, _, _, _, h, _⟩ := h; exact absurd h (Nat.not_lt_zero _)) | (obtain ⟨_, _, _, _, _, _, _, _, _, h, _⟩ := h; exact absurd h (Nat.not_lt_zero _)) | (obtain ⟨_, _, _, _, _, _, _, _, _, _, h, _⟩ := h; exact absurd h (Nat.not_lt_zero _)) | (obtain ⟨_, _, _, _, _, _, _, _, _, _, _, h, _⟩ := h; exact absurd h (Nat.not_lt_zero _)))
    | succ n ih => exact m__law_test_row (ok__law_test_row T F__law_test_row c__law_next ih)
  have c__law_value_row : ∀ n, Callee P w K mg base CX0 (5+n) "_law_value_row" P_law_value_row (sp_vrowd n) := fun n => by
    induction n with
    | zero => exact m__law_value_row (fnok_no fun _ _ _ _ h => by first | (obtain ⟨_, h, _⟩ := h; exact absurd h (Nat.not_lt_zero _)) | (obtain ⟨_, _, h, _⟩ := h; exact absurd h (Nat.not_lt_zero _)) | (obtain ⟨_, _, _, h, _⟩ := h; exact absurd h (Nat.not_lt_zero _)) | (obtain ⟨_, _, _, _, h, _⟩ := h; exact absurd h (Nat.not_lt_zero _)) | (obtain ⟨_, _, _, _, _, h, _⟩ := h; exact absurd h (Nat.not_lt_zero _)) | (obtain ⟨_, _, _, _, _, _, h, _⟩ := h; exact absurd h (Nat.not_lt_zero _)) | (obtain ⟨_, _, _, _, _, _, _, h, _⟩ := h; exact absurd h (Nat.not_lt_zero _)) | (obtain ⟨_, _, _, _, _, _, _, _, h, _⟩ := h; exact absurd h (Nat.not_lt_zero _)) | (obtain ⟨_, _, _, _, _, _, _, _, _, h, _⟩ := h; exact absurd h (Nat.not_lt_zero _)) | (obtain ⟨_, _, _, _, _, _, _, _, _, _, h, _⟩ := h; exact absurd h (Nat.not_lt_zero _)) | (obtain ⟨_, _, _, _, _, _, _, _, _, _, _, h, _⟩ := h; exact absurd h (Nat.not_lt_zero _)))
    | succ n ih => exact m__law_value_row (ok__law_value_row T F__law_value_row (c__law_test_row 4) ih)
  have c__law_deed_row : ∀ n, Callee P w K mg base CX0 (8+n) "_law_deed_row" P_law_deed_row (sp_ddrow n) := fun n => by
    induction n with
    | zero => exact m__law_deed_row (fnok_no fun _ _ _ _ h => by first | (obtain ⟨_, h, _⟩ := h; exact absurd h (Nat.not_lt_zero _)) | (obtain ⟨_, _, h, _⟩ := h; exact absurd h (Nat.not_lt_zero _)) | (obtain ⟨_, _, _, h, _⟩ := h; exact absurd h (Nat.not_lt_zero _)) | (obtain ⟨_, _, _, _, h, _⟩ := h; exact absurd h (Nat.not_lt_zero _)) | (obtain ⟨_, _, _, _, _, h, _⟩ := h; exact absurd h (Nat.not_lt_zero _)) | (obtain ⟨_, _, _, _, _, _, h, _⟩ := h; exact absurd h (Nat.not_lt_zero _)) | (obtain ⟨_, _, _, _, _, _, _, h, _⟩ := h; exact absurd h (Nat.not_lt_zero _)) | (obtain ⟨_, _, _, _, _, _, _, _, h, _⟩ := h; exact absurd h (Nat.not_lt_zero _)) | (obtain ⟨_, _, _, _, _, _, _, _, _, h, _⟩ := h; exact absurd h (Nat.not_lt_zero _)) | (obtain ⟨_, _, _, _, _, _, _, _, _, _, h, _⟩ := h; exact absurd h (Nat.not_lt_zero _)) | (obtain ⟨_, _, _, _, _, _, _, _, _, _, _, h, _⟩ := h; exact absurd h (Nat.not_lt_zero _)))
    | succ n ih => exact m__law_deed_row (ok__law_deed_row T F__law_deed_row c__law_next (c__law_test_row 4) (c__law_value_row 3) c__law_commas ih)
  have c__law_var_row := m__law_var_row (ok__law_var_row T F__law_var_row (c__law_value_row 3))
  have c__law_part_row : ∀ n, Callee P w K mg base CX0 (11+n) "_law_part_row" P_law_part_row (sp_partrowd n) := fun n => by
    induction n with
    | zero => exact m__law_part_row (fnok_no fun _ _ _ _ h => by first | (obtain ⟨_, h, _⟩ := h; exact absurd h (Nat.not_lt_zero _)) | (obtain ⟨_, _, h, _⟩ := h; exact absurd h (Nat.not_lt_zero _)) | (obtain ⟨_, _, _, h, _⟩ := h; exact absurd h (Nat.not_lt_zero _)) | (obtain ⟨_, _, _, _, h, _⟩ := h; exact absurd h (Nat.not_lt_zero _)) | (obtain ⟨_, _, _, _, _, h, _⟩ := h; exact absurd h (Nat.not_lt_zero _)) | (obtain ⟨_, _, _, _, _, _, h, _⟩ := h; exact absurd h (Nat.not_lt_zero _)) | (obtain ⟨_, _, _, _, _, _, _, h, _⟩ := h; exact absurd h (Nat.not_lt_zero _)) | (obtain ⟨_, _, _, _, _, _, _, _, h, _⟩ := h; exact absurd h (Nat.not_lt_zero _)) | (obtain ⟨_, _, _, _, _, _, _, _, _, h, _⟩ := h; exact absurd h (Nat.not_lt_zero _)) | (obtain ⟨_, _, _, _, _, _, _, _, _, _, h, _⟩ := h; exact absurd h (Nat.not_lt_zero _)) | (obtain ⟨_, _, _, _, _, _, _, _, _, _, _, h, _⟩ := h; exact absurd h (Nat.not_lt_zero _)))
    | succ n ih => exact m__law_part_row (ok__law_part_row T F__law_part_row c__law_commas c__law_var_row ih (c__law_deed_row 3) (c__law_value_row 3))
  have c__law_tokens := m__law_tokens (ok__law_tokens T F__law_tokens c__law_var_row (c__law_part_row 4))
  have c__law_fuse := m__law_fuse (ok__law_fuse T F__law_fuse )
  have c__law_gap := m__law_gap (ok__law_gap T F__law_gap c__law_next c__law_fuse c__law_pick)
  have c__law_behind := m__law_behind (ok__law_behind T F__law_behind )
  have c__law_laid := m__law_laid (ok__law_laid T F__law_laid c__law_next c__law_gap c__law_behind)
  exact ok_law T F_law c__law_draw c__law_program c__law_vars (c__law_parts 4) c__law_tokens c__law_laid c_read
end K01
open PySem PySem.W PySem.Calls PyProof.Rows
theorem PySem.Challenge.cw_outlived_k01_whole_any_layout_holds : PySem.Challenge.rw_outlived_k01_whole_any_layout.Holds := by
  w_on; o_law
  refine HandSHeadRun.head_any (r := OpenLaw.row PySem.Challenge.rw_outlived_k01_whole_any_layout) (q := view (OpenLaw.row PySem.Challenge.rw_outlived_k01_whole_any_layout).prog [58]) (H := K01.hk) (ob := K01.ob) (M := 4000) (loose := K01.LOOSE) (d := HandSHeadRun.topDef (OpenLaw.row PySem.Challenge.rw_outlived_k01_whole_any_layout).prog 58) (kwd := []) K01.ob_eq
    (by kernel_rfl) (fun s => by kernel_rfl) K01.run (by kernel_rfl) (by kernel_rfl) (by kernel_rfl) (by rfl) (by first | assumption | decide +kernel) (by decide +kernel) ⟨rfl, rfl, rfl, rfl, rfl, by decide +kernel⟩ ?hw ?hc
  case hw => w_witness2
  case hc =>
    refine L2.walk_ofE (l := PySem.Challenge.rw_outlived_k01_whole_any_layout) (n := 63) (k := 20 + 1) (x := "script") (CX := L2.CX0) rfl (by decide) (by kernel_rfl) ⟨rfl, by decide, by decide⟩ ?F (fun _ _ _ _ z => z)
    intro w mg fa h Y G hmg0
    obtain ⟨K, KX, c, ce⟩ := Y
    have hmg : mg ("law" : PySem.Str) = some (.ref fa) := by
      have e : (HandSHeadRun.topDef (OpenLaw.row PySem.Challenge.rw_outlived_k01_whole_any_layout).prog 58).name = ("law" : PySem.Str) := by kernel_rfl
      rw [← e]
      exact hmg0
    obtain ⟨fd, hb, hF⟩ := K01.facts (P := (PySem.Challenge.rw_outlived_k01_whole_any_layout).prog) (w := w) KX G hmg c ce
    exact ⟨K, fd, DL.LSp K K01.sp_law, KX, hb, fun H a ns hl _ hS => DL.law_sp hl hS fun M Q E q => ⟨ns, rfl, hl, q⟩, hF⟩
