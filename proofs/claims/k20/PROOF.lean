import PyProof.Rows.All
import Wide.All
import OpenK.AllK
import Wide.FinOn
import HandS.ForMost
import HandS.Style
import HandS.TupAny
import HandS.Dict
import KE.KDictKeyed
import HandS.IsInst
import HandS.StrMore
import HandS.Conv
import HandS.Defaults
import HandS.SetKeys
import HandS.More
import HandS.List
import KE.SortData
import KE.GoesMore
import KE.DataEq
import KE.KDictWalk
import KE.KPairComp
import KE.KDictList
import KE.KDictSum
import HandS.Iter
import PyProof.AutoSeq1
import HandS.TupSets
import KE.KDictCopyH
import HandS.Head0
import HandS.Head1
import HandS.Head2
import HandS.HeadEnd
import HandS.HeadHook1
import HandS.HeadHook2
import PySem.Challenge.RW_outlived_k20_trees_lie_within
set_option Elab.async false
set_option linter.all false
set_option maxRecDepth 100000
set_option maxHeartbeats 0
/-! A layer over HandS: tuples and lists that nobody changes any more are plain data; lists that are still changed and instances stand in a map by address. -/
namespace DL
open PySem L2

structure Wd where
  P : Program
  w : World
/-- data: rdl: a list of ints that is only read (the script); dic, fin: a dict, an instance that nobody changes any more -/
inductive D where
  | non | bl (b : Bool) | int (i : Int) | str (x : Str) | obj (a : Addr) | rdl (ns : List Int)
  | tup (ds : List D) | lst (ds : List D) | dic (pw : Wd) (ks vs : List D) | fin (C : Addr) (ns : List Str) (ds : List D)
instance : Inhabited D := ⟨.non⟩
/-! ### data as PyData, as keys -/
mutual
def pyD : D → Option PyData
  | .non => some .none
  | .bl b => some (.bool b)
  | .int i => some (.int i)
  | .str x => some (.str x)
  | .obj _ => none
  | .rdl ns => some (.list (ns.map PyData.int))
  | .tup ds => (pyDs ds).map PyData.tuple
  | .lst ds => (pyDs ds).map PyData.list
  | .dic _ _ _ => none
  | .fin _ _ _ => none
def pyDs : List D → Option (List PyData)
  | [] => some []
  | d :: ds => (pyD d).bind fun x => (pyDs ds).map fun xs => x :: xs
end
mutual
def nkP : PyData → Option NestedKey
  | .none => some .none
  | .bool b => some (.num (if b = true then 1 else 0))
  | .int i => some (.num i)
  | .str x => some (.text x)
  | .tuple xs => (nkPs xs).map .tup
  | _ => none
def nkPs : List PyData → Option (List NestedKey)
  | [] => some []
  | x :: xs => match nkP x, nkPs xs with
    | some k, some ks => some (k :: ks)
    | _, _ => none
end
/-- a tree as a key -/
def nkD (d : D) : Option NestedKey := (pyD d).bind nkP
def nkN (d : D) : NestedKey := (nkD d).getD .none
/-- a key that is a tuple -/
def KeyD (d : D) : Prop := (∃ ds, d = .tup ds) ∧ (nkD d).isSome = true ∧ (nkN d).depth ≤ 8
def dK : Key → D
  | .inr x => .str x
  | .inl i => .int i
/-- at a: a dict with such keys; where their tuples stand -/
def dnO (P : Program) (w : World) (a : Addr) (xs : List (NestedKey × Addr × V)) : HO := .ext fun h => xs.length ≤ sizeLine ∧ (a == sysModules) = false ∧ ∃ (ys : List (NestedKey × Addr × Value)) (o : Obj) (es : Array DictEntry) (ep : Nat),
  Paired (fun (p : NestedKey × Addr × V) (q : NestedKey × Addr × Value) => p.1 = q.1 ∧ p.2.1 = q.2.1 ∧ RelV p.2.2 q.2.2) xs ys ∧ h.get? a = some o ∧ o.ExactDict ∧ o.data = .dict es ep ∧ es.toList = ys.map (entryOfKey (nestedKind P w)) ∧ (ys.map (·.1)).Nodup
def buildN : List NestedKey → List V → List V → List (NestedKey × Addr × V)
  | k :: ks, .ref q :: qs, v :: vs => (k, q, v) :: buildN ks qs vs
  | _, _, _ => []
/-- the object of a dict with these keys: all ints and texts, or all tuples -/
def DicHO (pw : Wd) (a : Addr) (ks : List D) (kl vl : List V) (o : Option HO) : Prop :=
  ks.length = vl.length ∧ ((∃ kk : List Key, ks = kk.map dK ∧ o = some (.dK (kk.zip vl))) ∨ (ks ≠ [] ∧ (∀ k ∈ ks, KeyD k) ∧ o = some (dnO pw.P pw.w a (buildN (ks.map nkN) kl vl))))

section
variable (K : PySem.W.Frag)
mutual
def Rep (F : Hp) : D → V → Prop
  | .non, v => v = .non
  | .bl b, v => v = .bl b
  | .int i, v => v = .int i
  | .str x, v => v = .str x
  | .obj a, v => v = .ref a
  | .rdl ns, v => ∃ a, v = .ref a ∧ SqL K F a (ns.map V.int)
  | .tup ds, v => ∃ a vs, v = .ref a ∧ SqT K F a vs ∧ Reps F ds vs
  | .lst ds, v => ∃ a vs, v = .ref a ∧ F a = some (.lst vs) ∧ Reps F ds vs
  | .dic pw ks vs, v => ∃ a kl vl od u, v = .ref a ∧ F a = some (.frz od u) ∧ DicHO pw a ks kl vl (some u) ∧ Reps F ks kl ∧ Reps F vs vl
  | .fin C ns ds, v => ∃ a dx vl, v = .ref a ∧ F a = some (.ins C dx (ns.zip vl)) ∧ F dx = some (.own a) ∧ ns.length = vl.length ∧ Reps F ds vl
def Reps (F : Hp) : List D → List V → Prop
  | [], [] => True
  | d :: ds, v :: vs => Rep F d v ∧ Reps F ds vs
  | _, _ => False
end
/-- names and data -/
def FReps (F : Hp) : List (Str × D) → List (Str × V) → Prop
  | [], [] => True
  | p :: fs, q :: gs => p.1 = q.1 ∧ Rep K F p.2 q.2 ∧ FReps F fs gs
  | _, _ => False
/-- keys and data -/
def KReps (F : Hp) : List (Key × D) → List (Key × V) → Prop
  | [], [] => True
  | p :: fs, q :: gs => p.1 = q.1 ∧ Rep K F p.2 q.2 ∧ KReps F fs gs
  | _, _ => False
abbrev DS := List (Option D)
def SRep (F : Hp) : DS → St → Prop
  | [], [] => True
  | none :: r, _ :: s => SRep F r s
  | some d :: r, some v :: s => Rep K F d v ∧ SRep F r s
  | _, _ => False
end

/-- what may change -/
inductive MO where
  | lst (ds : List D) | ins (C : Addr) (fs : List (Str × D)) | dct (kvs : List (Key × D)) | raw (f : List V → HO) (ds : List D) | dic (pw : Wd) (kvs : List (D × D)) | lck (od : Obj) (u : HO) (pw : Wd) (kvs : List (D × D))
abbrev Mp := Addr → Option MO
def updM (M : Mp) (a : Addr) (o : MO) : Mp := fun b => if b = a then some o else M b
theorem updM_same {M : Mp} {a : Addr} {o : MO} : updM M a o a = some o := by unfold updM; rw [if_pos rfl]
theorem updM_ne {M : Mp} {a b : Addr} {o : MO} (h : b ≠ a) : updM M a o b = M b := by unfold updM; rw [if_neg h]
theorem updM_updM {M : Mp} {a : Addr} {o u : MO} : updM (updM M a o) a u = updM M a u := by
  funext b; unfold updM; split <;> rfl
theorem updM_comm {M : Mp} {a b : Addr} {o u : MO} (h : a ≠ b) : updM (updM M a o) b u = updM (updM M b u) a o := by
  funext c; unfold updM
  by_cases h1 : c = b
  · subst h1; rw [if_pos rfl, if_neg (Ne.symm h), if_pos rfl]
  · rw [if_neg h1, if_neg h1]
theorem updM_self {M : Mp} {a : Addr} {o : MO} (h : M a = some o) : updM M a o = M := by
  funext b; unfold updM; split
  · rename_i e; rw [e, h]
  · rfl
theorem neM {M : Mp} {a b : Addr} {o : MO} (h : M a = some o) (h' : M b = none) : a ≠ b := by
  intro e; subst e; rw [h] at h'; cases h'

def MRep (K : PySem.W.Frag) (F H : Hp) (a : Addr) : MO → Prop
  | .lst ds => ∃ vs, H a = some (.lst vs) ∧ Reps K F ds vs
  | .ins C fs => ∃ dx gs, H a = some (.ins C dx gs) ∧ F dx = some (.own a) ∧ FReps K F fs gs
  | .dct kvs => ∃ vs, H a = some (.dK vs) ∧ KReps K F kvs vs
  | .raw f ds => ∃ vs, H a = some (f vs) ∧ Reps K F ds vs
  | .dic pw kvs => ∃ kl vl, DicHO pw a (kvs.map (·.1)) kl vl (H a) ∧ Reps K F (kvs.map (·.1)) kl ∧ Reps K F (kvs.map (·.2)) vl
  | .lck od u pw kvs => ∃ kl vl, H a = some (.frz od u) ∧ DicHO pw a (kvs.map (·.1)) kl vl (some u) ∧ Reps K F (kvs.map (·.1)) kl ∧ Reps K F (kvs.map (·.2)) vl
/-- M and the frozen part F lie apart within H -/
structure R (K : PySem.W.Frag) (M : Mp) (F H : Hp) : Prop where
  fr : Same F H
  ap : ∀ a mo, M a = some mo → F a = none
  mem : ∀ a mo, M a = some mo → MRep K F H a mo

section
variable {K : PySem.W.Frag} {F F' H H' : Hp} {M : Mp}
theorem sqT_mono (e : Same F F') {a : Addr} {xs : List V} (h : SqT K F a xs) : SqT K F' a xs := by
  rcases h with (h | ⟨o, h⟩) | h
  · exact .inl (.inl (e _ _ h))
  · exact .inl (.inr ⟨o, e _ _ h⟩)
  · exact .inr h
theorem DicHO.mono {pw : Wd} {a : Addr} {ks : List D} {kl vl : List V} {o o' : Option HO} (h : DicHO pw a ks kl vl o) (e : ∀ u, o = some u → o' = some u) : DicHO pw a ks kl vl o' := by
  obtain ⟨h1, h2⟩ := h
  rcases h2 with ⟨kk, h2, h3⟩ | ⟨h0, h2, h3⟩
  · exact ⟨h1, .inl ⟨kk, h2, e _ h3⟩⟩
  · exact ⟨h1, .inr ⟨h0, h2, e _ h3⟩⟩
theorem DicHO.there {pw : Wd} {a : Addr} {ks : List D} {kl vl : List V} {o : Option HO} (h : DicHO pw a ks kl vl o) : ∃ u, o = some u := by
  obtain ⟨h1, h2⟩ := h
  rcases h2 with ⟨kk, h2, h3⟩ | ⟨h0, h2, h3⟩
  · exact ⟨_, h3⟩
  · exact ⟨_, h3⟩
mutual
theorem Rep.mono (e : Same F F') : ∀ {d : D} {v : V}, Rep K F d v → Rep K F' d v
  | .non, _, h => h
  | .bl _, _, h => h
  | .int _, _, h => h
  | .str _, _, h => h
  | .obj _, _, h => h
  | .rdl _, _, h => by
    unfold Rep at h ⊢
    obtain ⟨a, h1, h2⟩ := h
    exact ⟨a, h1, e.seq h2⟩
  | .tup ds, _, h => by
    unfold Rep at h ⊢
    obtain ⟨a, vs, h1, h2, h3⟩ := h
    exact ⟨a, vs, h1, sqT_mono e h2, Reps.mono e h3⟩
  | .lst ds, _, h => by
    unfold Rep at h ⊢
    obtain ⟨a, vs, h1, h2, h3⟩ := h
    exact ⟨a, vs, h1, e _ _ h2, Reps.mono e h3⟩
  | .dic pw ks vs, _, h => by
    unfold Rep at h ⊢
    obtain ⟨a, kl, vl, od, u, h1, h2, h0, h3, h4⟩ := h
    exact ⟨a, kl, vl, od, u, h1, e _ _ h2, h0, Reps.mono e h3, Reps.mono e h4⟩
  | .fin C ns ds, _, h => by
    unfold Rep at h ⊢
    obtain ⟨a, dx, vl, h1, h2, h3, h4, h5⟩ := h
    exact ⟨a, dx, vl, h1, e _ _ h2, e _ _ h3, h4, Reps.mono e h5⟩
theorem Reps.mono (e : Same F F') : ∀ {ds : List D} {vs : List V}, Reps K F ds vs → Reps K F' ds vs
  | [], [], _ => by unfold Reps; trivial
  | [], _ :: _, h => by unfold Reps at h; exact h.elim
  | _ :: _, [], h => by unfold Reps at h; exact h.elim
  | d :: ds, v :: vs, h => by
    unfold Reps at h ⊢
    exact ⟨Rep.mono e h.1, Reps.mono e h.2⟩
end
theorem FReps.mono (e : Same F F') : ∀ {fs : List (Str × D)} {gs : List (Str × V)}, FReps K F fs gs → FReps K F' fs gs
  | [], [], _ => trivial
  | [], _ :: _, h => h.elim
  | _ :: _, [], h => h.elim
  | _ :: _, _ :: _, h => ⟨h.1, h.2.1.mono e, h.2.2.mono e⟩
theorem KReps.mono (e : Same F F') : ∀ {fs : List (Key × D)} {gs : List (Key × V)}, KReps K F fs gs → KReps K F' fs gs
  | [], [], _ => trivial
  | [], _ :: _, h => h.elim
  | _ :: _, [], h => h.elim
  | _ :: _, _ :: _, h => ⟨h.1, h.2.1.mono e, h.2.2.mono e⟩
theorem SRep.mono (e : Same F F') : ∀ {σd : DS} {σ : St}, SRep K F σd σ → SRep K F' σd σ
  | [], [], _ => trivial
  | [], _ :: _, h => h.elim
  | none :: _, [], h => h.elim
  | some _ :: _, [], h => h.elim
  | none :: r, _ :: s, h => SRep.mono e (σd := r) (σ := s) h
  | some _ :: _, none :: _, h => h.elim
  | some _ :: _, some _ :: _, h => ⟨h.1.mono e, SRep.mono e h.2⟩
theorem Reps.length : ∀ {ds : List D} {vs : List V}, Reps K F ds vs → ds.length = vs.length
  | [], [], _ => rfl
  | [], _ :: _, h => by unfold Reps at h; exact h.elim
  | _ :: _, [], h => by unfold Reps at h; exact h.elim
  | d :: ds, v :: vs, h => by
    unfold Reps at h
    simp [Reps.length h.2]
theorem Reps.get : ∀ {ds : List D} {vs : List V}, Reps K F ds vs → ∀ {i : Nat} {v : V}, vs[i]? = some v → ∃ d, ds[i]? = some d ∧ Rep K F d v
  | [], [], _, i, v, e => by simp at e
  | [], _ :: _, h, _, _, _ => by unfold Reps at h; exact h.elim
  | _ :: _, [], h, _, _, _ => by unfold Reps at h; exact h.elim
  | d :: ds, v :: vs, h, 0, _, e => by
    unfold Reps at h
    simp at e; subst e
    exact ⟨d, by simp, h.1⟩
  | d :: ds, v :: vs, h, i + 1, _, e => by
    unfold Reps at h
    obtain ⟨d', h1, h2⟩ := Reps.get h.2 (i := i) (by simpa using e)
    exact ⟨d', by simpa using h1, h2⟩
theorem Reps.getD : ∀ {ds : List D} {vs : List V}, Reps K F ds vs → ∀ {i : Nat} {d : D}, ds[i]? = some d → ∃ v, vs[i]? = some v ∧ Rep K F d v
  | [], [], _, i, v, e => by simp at e
  | [], _ :: _, h, _, _, _ => by unfold Reps at h; exact h.elim
  | _ :: _, [], h, _, _, _ => by unfold Reps at h; exact h.elim
  | d :: ds, v :: vs, h, 0, _, e => by
    unfold Reps at h
    simp at e; subst e
    exact ⟨v, by simp, h.1⟩
  | d :: ds, v :: vs, h, i + 1, _, e => by
    unfold Reps at h
    obtain ⟨d', h1, h2⟩ := Reps.getD h.2 (i := i) (by simpa using e)
    exact ⟨d', by simpa using h1, h2⟩
theorem Reps.nil : Reps K F [] [] := by unfold Reps; trivial
theorem Reps.cons {d : D} {v : V} {ds : List D} {vs : List V} (h : Rep K F d v) (t : Reps K F ds vs) : Reps K F (d :: ds) (v :: vs) := by unfold Reps; exact ⟨h, t⟩
theorem Reps.cons_inv {v : V} {ds : List D} {vs : List V} (h : Reps K F ds (v :: vs)) : ∃ d ds', ds = d :: ds' ∧ Rep K F d v ∧ Reps K F ds' vs := by
  cases ds with
  | nil => unfold Reps at h; exact h.elim
  | cons d ds => unfold Reps at h; exact ⟨d, ds, rfl, h⟩
theorem Reps.consD_inv {d : D} {ds : List D} {vs : List V} (h : Reps K F (d :: ds) vs) : ∃ v vs', vs = v :: vs' ∧ Rep K F d v ∧ Reps K F ds vs' := by
  cases vs with
  | nil => unfold Reps at h; exact h.elim
  | cons v vs => unfold Reps at h; exact ⟨v, vs, rfl, h⟩
theorem Reps.nil_inv {vs : List V} (h : Reps K F [] vs) : vs = [] := by
  cases vs with
  | nil => rfl
  | cons v vs => unfold Reps at h; exact h.elim
theorem Reps.nilV_inv {ds : List D} (h : Reps K F ds []) : ds = [] := by
  cases ds with
  | nil => rfl
  | cons v vs => unfold Reps at h; exact h.elim
theorem Reps.append : ∀ {ds es : List D} {vs us : List V}, Reps K F ds vs → Reps K F es us → Reps K F (ds ++ es) (vs ++ us)
  | [], _, vs, _, h, t => by rw [h.nil_inv]; exact t
  | d :: ds, _, vs, _, h, t => by
    obtain ⟨v, vs', rfl, h1, h2⟩ := h.consD_inv
    exact .cons h1 (Reps.append h2 t)
theorem Reps.reverse : ∀ {ds : List D} {vs : List V}, Reps K F ds vs → Reps K F ds.reverse vs.reverse
  | [], vs, h => by rw [h.nil_inv]; exact .nil
  | d :: ds, vs, h => by
    obtain ⟨v, vs', rfl, h1, h2⟩ := h.consD_inv
    rw [List.reverse_cons, List.reverse_cons]
    exact (Reps.reverse h2).append (.cons h1 .nil)
theorem Reps.take : ∀ (n : Nat) {ds : List D} {vs : List V}, Reps K F ds vs → Reps K F (ds.take n) (vs.take n)
  | 0, _, _, _ => by simp; exact .nil
  | n + 1, [], vs, h => by rw [h.nil_inv]; simp; exact .nil
  | n + 1, d :: ds, vs, h => by
    obtain ⟨v, vs', rfl, h1, h2⟩ := h.consD_inv
    simp only [List.take_succ_cons]
    exact .cons h1 (Reps.take n h2)
theorem Reps.drop : ∀ (n : Nat) {ds : List D} {vs : List V}, Reps K F ds vs → Reps K F (ds.drop n) (vs.drop n)
  | 0, _, _, h => by simpa using h
  | n + 1, [], vs, h => by rw [h.nil_inv]; simp; exact .nil
  | n + 1, d :: ds, vs, h => by
    obtain ⟨v, vs', rfl, h1, h2⟩ := h.consD_inv
    simp only [List.drop_succ_cons]
    exact Reps.drop n h2
theorem Reps.dropLast {ds : List D} {vs : List V} (h : Reps K F ds vs) : Reps K F ds.dropLast vs.dropLast := by
  rw [List.dropLast_eq_take, List.dropLast_eq_take, h.length]
  exact h.take _
theorem Reps.set : ∀ {ds : List D} {vs : List V} (i : Nat) {d : D} {v : V}, Reps K F ds vs → Rep K F d v → Reps K F (ds.set i d) (vs.set i v)
  | [], vs, i, _, _, h, _ => by rw [h.nil_inv]; simp; exact .nil
  | d :: ds, vs, 0, _, _, h, t => by
    obtain ⟨v, vs', rfl, h1, h2⟩ := h.consD_inv
    simp only [List.set_cons_zero]
    exact .cons t h2
  | d :: ds, vs, i + 1, _, _, h, t => by
    obtain ⟨v, vs', rfl, h1, h2⟩ := h.consD_inv
    simp only [List.set_cons_succ]
    exact .cons h1 (Reps.set i h2 t)
theorem Reps.ints : ∀ {ns : List Int} , Reps K F (ns.map D.int) (ns.map V.int)
  | [] => .nil
  | n :: ns => .cons (by unfold Rep; rfl) (Reps.ints (ns := ns))
theorem Reps.strs : ∀ {ns : List Str} , Reps K F (ns.map D.str) (ns.map V.str)
  | [] => .nil
  | n :: ns => .cons (by unfold Rep; rfl) (Reps.strs (ns := ns))
theorem Reps.strs_inv : ∀ {ns : List Str} {vs : List V}, Reps K F (ns.map D.str) vs → vs = ns.map V.str
  | [], vs, h => h.nil_inv
  | n :: ns, vs, h => by
    obtain ⟨v, vs', rfl, h1, h2⟩ := Reps.consD_inv h
    unfold Rep at h1
    rw [h1, Reps.strs_inv h2] <;> rfl
theorem FReps.lookup {f : Str} : ∀ {fs : List (Str × D)} {gs : List (Str × V)}, FReps K F fs gs → (∀ d, fs.lookup f = some d → ∃ v, gs.lookup f = some v ∧ Rep K F d v) ∧ (fs.lookup f = none → gs.lookup f = none)
  | [], [], _ => ⟨fun d e => by simp at e, fun _ => rfl⟩
  | [], _ :: _, h => h.elim
  | _ :: _, [], h => h.elim
  | (x, d) :: fs, (y, v) :: gs, h => by
    obtain ⟨e, h1, h2⟩ := h
    dsimp only at e h1
    subst e
    obtain ⟨i1, i2⟩ := FReps.lookup (f := f) h2
    constructor
    · intro d' e
      simp only [List.lookup_cons] at e ⊢
      cases q : (f == x) with
      | true => rw [q] at e; simp at e; subst e; exact ⟨v, by simp, h1⟩
      | false => rw [q] at e; simpa using i1 d' (by simpa using e)
    · intro e
      simp only [List.lookup_cons] at e ⊢
      cases q : (f == x) with
      | true => rw [q] at e; simp at e
      | false => rw [q] at e; simpa using i2 (by simpa using e)
def putD (f : Str) (v : D) : List (Str × D) → List (Str × D)
  | [] => [(f, v)]
  | (g, u) :: r => if g = f then (g, v) :: r else (g, u) :: putD f v r
theorem FReps.put {f : Str} {d : D} {v : V} (hv : Rep K F d v) : ∀ {fs : List (Str × D)} {gs : List (Str × V)}, FReps K F fs gs → FReps K F (putD f d fs) (putF f v gs)
  | [], [], _ => ⟨rfl, hv, trivial⟩
  | [], _ :: _, h => h.elim
  | _ :: _, [], h => h.elim
  | (x, d') :: fs, (y, v') :: gs, h => by
    obtain ⟨e, h1, h2⟩ := h
    dsimp only at e h1
    subst e
    unfold putD putF
    by_cases q : x = f
    · rw [if_pos q, if_pos q]
      exact ⟨rfl, hv, h2⟩
    · rw [if_neg q, if_neg q]
      exact ⟨rfl, h1, FReps.put hv h2⟩
theorem FReps.length : ∀ {fs : List (Str × D)} {gs : List (Str × V)}, FReps K F fs gs → fs.length = gs.length
  | [], [], _ => rfl
  | [], _ :: _, h => h.elim
  | _ :: _, [], h => h.elim
  | _ :: _, _ :: _, h => by simp [FReps.length h.2.2]
theorem SRep.length : ∀ {σd : DS} {σ : St}, SRep K F σd σ → σd.length = σ.length
  | [], [], _ => rfl
  | [], _ :: _, h => h.elim
  | none :: _, [], h => h.elim
  | some _ :: _, [], h => h.elim
  | none :: r, _ :: s, h => by simp [SRep.length (σd := r) (σ := s) h]
  | some _ :: _, none :: _, h => h.elim
  | some _ :: _, some _ :: _, h => by simp [SRep.length h.2]
theorem SRep.get : ∀ {σd : DS} {σ : St}, SRep K F σd σ → ∀ {i : Nat} {d : D}, σd[i]? = some (some d) → ∃ v, σ[i]? = some (some v) ∧ Rep K F d v
  | [], [], _, _, _, e => by simp at e
  | [], _ :: _, h, _, _, _ => h.elim
  | none :: _, [], h, _, _, _ => h.elim
  | some _ :: _, [], h, _, _, _ => h.elim
  | none :: _, _ :: _, h, 0, _, e => by simp at e
  | none :: r, _ :: s, h, i + 1, _, e => by
    obtain ⟨v, h1, h2⟩ := SRep.get (σd := r) (σ := s) h (i := i) (by simpa using e)
    exact ⟨v, by simpa using h1, h2⟩
  | some _ :: _, none :: _, h, _, _, _ => h.elim
  | some _ :: _, some v :: _, h, 0, _, e => by
    simp at e; subst e
    exact ⟨v, by simp, h.1⟩
  | some _ :: _, some _ :: _, h, i + 1, _, e => by
    obtain ⟨v, h1, h2⟩ := SRep.get h.2 (i := i) (by simpa using e)
    exact ⟨v, by simpa using h1, h2⟩
theorem SRep.set : ∀ {σd : DS} {σ : St} (i : Nat) {d : D} {v : V}, SRep K F σd σ → Rep K F d v → SRep K F (σd.set i (some d)) (σ.set i (some v))
  | [], [], _, _, _, _, _ => by simp; trivial
  | [], _ :: _, _, _, _, h, _ => h.elim
  | none :: _, [], _, _, _, h, _ => h.elim
  | some _ :: _, [], _, _, _, h, _ => h.elim
  | none :: r, _ :: s, 0, _, _, h, t => ⟨t, h⟩
  | none :: r, _ :: s, i + 1, _, _, h, t => SRep.set (σd := r) (σ := s) i h t
  | some _ :: _, none :: _, _, _, _, h, _ => h.elim
  | some _ :: _, some v :: _, 0, _, _, h, t => ⟨t, h.2⟩
  | some _ :: _, some v :: _, i + 1, _, _, h, t => ⟨h.1, SRep.set i h.2 t⟩
theorem SRep.forget : ∀ {σd : DS} {σ : St} (i : Nat), SRep K F σd σ → SRep K F (σd.set i none) (σ.set i none)
  | [], [], _, _ => by simp; trivial
  | [], _ :: _, _, h => h.elim
  | none :: _, [], _, h => h.elim
  | some _ :: _, [], _, h => h.elim
  | none :: r, _ :: s, 0, h => h
  | none :: r, _ :: s, i + 1, h => SRep.forget (σd := r) (σ := s) i h
  | some _ :: _, none :: _, _, h => h.elim
  | some _ :: _, some v :: _, 0, h => h.2
  | some _ :: _, some v :: _, i + 1, h => ⟨h.1, SRep.forget i h.2⟩
def wipeD (σ : DS) : List Nat → DS
  | [] => σ
  | v :: vs => (wipeD σ vs).set v none
theorem SRep.wipe {σd : DS} {σ : St} (h : SRep K F σd σ) : ∀ vs : List Nat, SRep K F (wipeD σd vs) (wipe σ vs)
  | [] => h
  | v :: vs => SRep.forget v (SRep.wipe h vs)
theorem SRep.nones : ∀ {n : Nat}, SRep K F (List.replicate n none) (List.replicate n none)
  | 0 => trivial
  | n + 1 => SRep.nones (n := n)
theorem SRep.start_app : ∀ {ds : List D} {vs : List V} {n : Nat}, Reps K F ds vs → SRep K F (ds.map some ++ List.replicate n none) (vs.map some ++ List.replicate n none)
  | [], vs, n, h => by rw [h.nil_inv]; exact SRep.nones
  | d :: ds, vs, n, h => by
    obtain ⟨v, vs', rfl, h1, h2⟩ := h.consD_inv
    exact ⟨h1, SRep.start_app h2⟩
/-- the slots at a def's beginning -/
def startD (N : List Str) (ds : List D) : DS := ds.map some ++ List.replicate (N.length - ds.length) none
theorem SRep.start {N : List Str} {ds : List D} {vs : List V} (h : Reps K F ds vs) : SRep K F (startD N ds) (start N vs) := by
  unfold startD L2.start
  rw [h.length]
  exact SRep.start_app h

/-! ### the heap -/
theorem R.free (r : R K M F H) {p : Addr} (h : H p = none) : M p = none := by
  cases e : M p with
  | none => rfl
  | some mo =>
    have q := r.mem p mo e
    cases mo with
    | lst ds => obtain ⟨vs, q, _⟩ := q; rw [h] at q; cases q
    | ins C fs => obtain ⟨dx, gs, q, _⟩ := q; rw [h] at q; cases q
    | dct kvs => obtain ⟨vs, q, _⟩ := q; rw [h] at q; cases q
    | raw f ds => obtain ⟨vs, q, _⟩ := q; rw [h] at q; cases q
    | dic pw kvs =>
      obtain ⟨kl, vl, q, _⟩ := q
      obtain ⟨u, q⟩ := q.there
      rw [h] at q; cases q
    | lck od u pw kvs =>
      obtain ⟨kl, vl, q, _⟩ := q
      rw [h] at q; cases q
theorem R.freeF (r : R K M F H) {p : Addr} (h : H p = none) : F p = none := r.fr.free h
theorem same_upd {F : Hp} {p : Addr} {o : HO} (h : F p = none) : Same F (upd F p o) := fun b u e => by
  rw [upd_ne (ne_of_none e h)]; exact e
theorem MRep.mono {a : Addr} {mo : MO} (eF : Same F F') (h : MRep K F H a mo) (eH : H' a = H a) : MRep K F' H' a mo := by
  cases mo with
  | lst ds => obtain ⟨vs, q, r⟩ := h; exact ⟨vs, eH.trans q, r.mono eF⟩
  | ins C fs => obtain ⟨dx, gs, q, r1, r⟩ := h; exact ⟨dx, gs, eH.trans q, eF _ _ r1, r.mono eF⟩
  | dct kvs => obtain ⟨vs, q, r⟩ := h; exact ⟨vs, eH.trans q, r.mono eF⟩
  | raw f ds => obtain ⟨vs, q, r⟩ := h; exact ⟨vs, eH.trans q, r.mono eF⟩
  | dic pw kvs => obtain ⟨kl, vl, q, r1, r⟩ := h; exact ⟨kl, vl, q.mono fun u hu => eH.trans hu, r1.mono eF, r.mono eF⟩
  | lck od u pw kvs => obtain ⟨kl, vl, q, q2, r1, r⟩ := h; exact ⟨kl, vl, eH.trans q, q2, r1.mono eF, r.mono eF⟩
theorem MRep.there {a : Addr} {mo : MO} (h : MRep K F H a mo) : ∃ o, H a = some o := by
  cases mo with
  | lst ds => obtain ⟨vs, q, r⟩ := h; exact ⟨_, q⟩
  | ins C fs => obtain ⟨dx, gs, q, r1, r⟩ := h; exact ⟨_, q⟩
  | dct kvs => obtain ⟨vs, q, r⟩ := h; exact ⟨_, q⟩
  | raw f ds => obtain ⟨vs, q, r⟩ := h; exact ⟨_, q⟩
  | dic pw kvs => obtain ⟨kl, vl, q, r1, r⟩ := h; exact q.there
  | lck od u pw kvs => obtain ⟨kl, vl, q, _⟩ := h; exact ⟨_, q⟩
/-- a new object that stays as it is -/
theorem R.newF (r : R K M F H) {p : Addr} (hp : H p = none) (o : HO) : R K M (upd F p o) (upd H p o) where
  fr := fun b u e => by
    by_cases hb : b = p
    · subst hb; rw [upd_same] at e ⊢; exact e
    · rw [upd_ne hb] at e ⊢; exact r.fr b u e
  ap := fun a mo e => by
    rw [upd_ne (neM e (r.free hp))]
    exact r.ap a mo e
  mem := fun a mo e => (r.mem a mo e).mono (same_upd (r.freeF hp)) (upd_ne (neM e (r.free hp)))
/-- a new list that may change -/
theorem R.newM (r : R K M F H) {p : Addr} (hp : H p = none) {ds : List D} {vs : List V} (h : Reps K F ds vs) : R K (updM M p (.lst ds)) F (upd H p (.lst vs)) where
  fr := fun b u e => by rw [upd_ne (ne_of_none e (r.freeF hp))]; exact r.fr b u e
  ap := fun a mo e => by
    by_cases ha : a = p
    · subst ha; exact r.freeF hp
    · rw [updM_ne ha] at e; exact r.ap a mo e
  mem := fun a mo e => by
    by_cases ha : a = p
    · subst ha; rw [updM_same] at e; cases e
      exact ⟨vs, upd_same, h⟩
    · rw [updM_ne ha] at e
      exact (r.mem a mo e).mono (Same.refl F) (upd_ne ha)
/-- a new object that may change -/
theorem R.newX (r : R K M F H) {p : Addr} (hp : H p = none) {mo : MO} {ho : HO} (h : ∀ H' : Hp, H' p = some ho → MRep K F H' p mo) : R K (updM M p mo) F (upd H p ho) where
  fr := fun b u e => by rw [upd_ne (ne_of_none e (r.freeF hp))]; exact r.fr b u e
  ap := fun a mo e => by
    by_cases ha : a = p
    · subst ha; exact r.freeF hp
    · rw [updM_ne ha] at e; exact r.ap a mo e
  mem := fun a mo e => by
    by_cases ha : a = p
    · subst ha; rw [updM_same] at e; cases e
      exact h _ upd_same
    · rw [updM_ne ha] at e
      exact (r.mem a mo e).mono (Same.refl F) (upd_ne ha)
/-- an object of M is written -/
theorem R.setX (r : R K M F H) {p : Addr} {mo mo2 : MO} {ho : HO} (hp : M p = some mo) (h : ∀ H' : Hp, H' p = some ho → MRep K F H' p mo2) : R K (updM M p mo2) F (upd H p ho) where
  fr := fun b u e => by rw [upd_ne (ne_of_none e (r.ap p mo hp))]; exact r.fr b u e
  ap := fun a mo' e => by
    by_cases ha : a = p
    · subst ha; exact r.ap _ _ hp
    · rw [updM_ne ha] at e; exact r.ap a mo' e
  mem := fun a mo' e => by
    by_cases ha : a = p
    · subst ha; rw [updM_same] at e; cases e
      exact h _ upd_same
    · rw [updM_ne ha] at e
      exact (r.mem a mo' e).mono (Same.refl F) (upd_ne ha)
/-- a list of M is written -/
theorem R.setM (r : R K M F H) {p : Addr} {mo : MO} (hp : M p = some mo) {ds : List D} {vs : List V} (h : Reps K F ds vs) : R K (updM M p (.lst ds)) F (upd H p (.lst vs)) where
  fr := fun b u e => by rw [upd_ne (ne_of_none e (r.ap p mo hp))]; exact r.fr b u e
  ap := fun a mo' e => by
    by_cases ha : a = p
    · subst ha; exact r.ap _ _ hp
    · rw [updM_ne ha] at e; exact r.ap a mo' e
  mem := fun a mo' e => by
    by_cases ha : a = p
    · subst ha; rw [updM_same] at e; cases e
      exact ⟨vs, upd_same, h⟩
    · rw [updM_ne ha] at e
      exact (r.mem a mo' e).mono (Same.refl F) (upd_ne ha)
theorem R.setI (r : R K M F H) {p : Addr} {mo : MO} (hp : M p = some mo) {C dx : Addr} {fs : List (Str × D)} {gs : List (Str × V)} (hd : F dx = some (.own p)) (h : FReps K F fs gs) : R K (updM M p (.ins C fs)) F (upd H p (.ins C dx gs)) where
  fr := fun b u e => by rw [upd_ne (ne_of_none e (r.ap p mo hp))]; exact r.fr b u e
  ap := fun a mo' e => by
    by_cases ha : a = p
    · subst ha; exact r.ap _ _ hp
    · rw [updM_ne ha] at e; exact r.ap a mo' e
  mem := fun a mo' e => by
    by_cases ha : a = p
    · subst ha; rw [updM_same] at e; cases e
      exact ⟨dx, gs, upd_same, hd, h⟩
    · rw [updM_ne ha] at e
      exact (r.mem a mo' e).mono (Same.refl F) (upd_ne ha)
/-- forgetting -/
theorem R.weak (r : R K M F H) {M' : Mp} (h : ∀ a mo, M' a = some mo → M a = some mo) : R K M' F H where
  fr := r.fr
  ap := fun a mo e => r.ap a mo (h a mo e)
  mem := fun a mo e => r.mem a mo (h a mo e)
/-- a new instance -/
theorem R.newI (r : R K M F H) {x dx C : Addr} (hx : H x = none) (hd : H dx = none) (ne : dx ≠ x) : R K (updM M x (.ins C [])) (upd F dx (.own x)) (upd (upd H dx (.own x)) x (.ins C dx [])) := by
  have r1 := r.newF hd (.own x)
  have hx1 : upd H dx (.own x) x = none := by rw [upd_ne ne.symm]; exact hx
  exact {
    fr := fun b u e => by rw [upd_ne (ne_of_none e (r1.freeF hx1))]; exact r1.fr b u e
    ap := fun a mo e => by
      by_cases ha : a = x
      · subst ha; exact r1.freeF hx1
      · rw [updM_ne ha] at e; exact r1.ap a mo e
    mem := fun a mo e => by
      by_cases ha : a = x
      · subst ha; rw [updM_same] at e; cases e
        exact ⟨dx, [], upd_same, upd_same, trivial⟩
      · rw [updM_ne ha] at e
        exact (r1.mem a mo e).mono (Same.refl _) (upd_ne ha) }
end
end DL
namespace DL
open PySem L2

/-! ### what is wanted -/
abbrev DK := D → Mp → Prop
abbrev DTE := DS → Mp → DK → Prop
abbrev DTT := DS → Mp → (Bool → Mp → Prop) → Prop
abbrev DTA := DS → Mp → (List D → Mp → Prop) → Prop
structure DEnds where
  nx : DS → Mp → Prop
  rt : DK
  bk : DS → Mp → Prop := fun _ _ => False
  ct : DS → Mp → Prop := fun _ _ => False
abbrev DTS := DEnds → DS → Mp → Prop
abbrev DTG := D → DS → Mp → (DS → Mp → Prop) → Prop
abbrev DTGs := List D → DS → Mp → (DS → Mp → Prop) → Prop
abbrev DR2 := D → D → Mp → DK → Prop
abbrev DR1 := D → Mp → DK → Prop
abbrev DRC := List D → Mp → DK → Prop
abbrev DRM := D → List D → Mp → DK → Prop

section
variable (K : PySem.W.Frag) (F0 : Hp)
def Fin (F : Hp) (Qd : DK) (Q : VK) : Prop := ∀ d M v H F', Qd d M → Same F F' → R K M F' H → Rep K F' d v → Q v H
def FinB (F : Hp) (Qd : Bool → Mp → Prop) (Q : Bool → Hp → Prop) : Prop := ∀ b M H F', Qd b M → Same F F' → R K M F' H → Q b H
def FinA (F : Hp) (Qd : List D → Mp → Prop) (Q : List V → Hp → Prop) : Prop := ∀ ds M vs H F', Qd ds M → Same F F' → R K M F' H → Reps K F' ds vs → Q vs H
def FinS (F : Hp) (Qd : DS → Mp → Prop) (Q : St → Hp → Prop) : Prop := ∀ σd M σ H F', Qd σd M → Same F F' → R K M F' H → SRep K F' σd σ → Q σ H
structure FinE (F : Hp) (Dd : DEnds) (D : Ends) : Prop where
  nx : FinS K F Dd.nx D.nx
  rt : Fin K F Dd.rt D.rt
  bk : FinS K F Dd.bk D.bk
  ct : FinS K F Dd.ct D.ct
def LE (τ : DTE) : TE := fun σ H Q => ∃ σd M F Qd, Same F0 F ∧ R K M F H ∧ SRep K F σd σ ∧ τ σd M Qd ∧ Fin K F Qd Q
def LT (τ : DTT) : TT := fun σ H Q => ∃ σd M F Qd, Same F0 F ∧ R K M F H ∧ SRep K F σd σ ∧ τ σd M Qd ∧ FinB K F Qd Q
def LA (τ : DTA) : TA := fun σ H Q => ∃ σd M F Qd, Same F0 F ∧ R K M F H ∧ SRep K F σd σ ∧ τ σd M Qd ∧ FinA K F Qd Q
def LS (τ : DTS) : TS := fun D σ H => ∃ σd M F Dd, Same F0 F ∧ R K M F H ∧ SRep K F σd σ ∧ τ Dd σd M ∧ FinE K F Dd D
def LG (τ : DTG) : TG := fun v σ H Q => ∃ d σd M F Qd, Same F0 F ∧ R K M F H ∧ Rep K F d v ∧ SRep K F σd σ ∧ τ d σd M Qd ∧ FinS K F Qd Q
def LGs (τ : DTGs) : TGs := fun vs σ H Q => ∃ ds σd M F Qd, Same F0 F ∧ R K M F H ∧ Reps K F ds vs ∧ SRep K F σd σ ∧ τ ds σd M Qd ∧ FinS K F Qd Q
def LR (r : DR2) : R2 := fun v u H Q => ∃ x y M F Qd, Same F0 F ∧ R K M F H ∧ Rep K F x v ∧ Rep K F y u ∧ r x y M Qd ∧ Fin K F Qd Q
def LR1 (r : DR1) : V → Hp → VK → Prop := fun v H Q => ∃ x M F Qd, Same F0 F ∧ R K M F H ∧ Rep K F x v ∧ r x M Qd ∧ Fin K F Qd Q
def LRC (r : DRC) : List V → Hp → VK → Prop := fun vs H Q => ∃ xs M F Qd, Same F0 F ∧ R K M F H ∧ Reps K F xs vs ∧ r xs M Qd ∧ Fin K F Qd Q
def LRM (r : DRM) : V → List V → Hp → VK → Prop := fun v vs H Q => ∃ x xs M F Qd, Same F0 F ∧ R K M F H ∧ Rep K F x v ∧ Reps K F xs vs ∧ r x xs M Qd ∧ Fin K F Qd Q
end
section
variable {K : PySem.W.Frag} {F F' : Hp}
theorem Fin.mono {Qd : DK} {Q : VK} (f : Fin K F Qd Q) (e : Same F F') : Fin K F' Qd Q := fun d M v H F2 q e2 => f d M v H F2 q (e.trans e2)
theorem FinB.mono {Qd : Bool → Mp → Prop} {Q : Bool → Hp → Prop} (f : FinB K F Qd Q) (e : Same F F') : FinB K F' Qd Q := fun d M H F2 q e2 => f d M H F2 q (e.trans e2)
theorem FinA.mono {Qd : List D → Mp → Prop} {Q : List V → Hp → Prop} (f : FinA K F Qd Q) (e : Same F F') : FinA K F' Qd Q := fun d M v H F2 q e2 => f d M v H F2 q (e.trans e2)
theorem FinS.mono {Qd : DS → Mp → Prop} {Q : St → Hp → Prop} (f : FinS K F Qd Q) (e : Same F F') : FinS K F' Qd Q := fun d M v H F2 q e2 => f d M v H F2 q (e.trans e2)
theorem FinE.mono {Dd : DEnds} {D : Ends} (f : FinE K F Dd D) (e : Same F F') : FinE K F' Dd D := ⟨f.nx.mono e, f.rt.mono e, f.bk.mono e, f.ct.mono e⟩
/-- the end is reached with a value at hand -/
theorem Fin.go {Qd : DK} {Q : VK} (f : Fin K F Qd Q) {d : D} {M : Mp} {v : V} {H : Hp} (q : Qd d M) (r : R K M F H) (h : Rep K F d v) : Q v H := f d M v H F q (Same.refl F) r h
end

section
variable {X : Cx} {F0 : Hp}
abbrev DE (X : Cx) (F0 : Hp) (e : Expr) (τ : DTE) : Prop := PE X e (LE X.K F0 τ)
abbrev DT (X : Cx) (F0 : Hp) (e : Expr) (τ : DTT) : Prop := PT X e (LT X.K F0 τ)
abbrev DW (X : Cx) (F0 : Hp) (e : Expr) (τ : DTT) : Prop := PW X e (LT X.K F0 τ)
abbrev DA (X : Cx) (F0 : Hp) (es : List Expr) (τ : DTA) : Prop := PA X es (LA X.K F0 τ)
abbrev DSt (X : Cx) (F0 : Hp) (st : Stmt) (τ : DTS) : Prop := PS X st (LS X.K F0 τ)
abbrev DSs (X : Cx) (F0 : Hp) (st : List Stmt) (τ : DTS) : Prop := PSs X st (LS X.K F0 τ)
abbrev DG (X : Cx) (F0 : Hp) (t : Expr) (τ : DTG) : Prop := PG X t (LG X.K F0 τ)
abbrev DGs (X : Cx) (F0 : Hp) (ts : List Expr) (τ : DTGs) : Prop := PGs X ts (LGs X.K F0 τ)
theorem PE_imp {e : Expr} {t t' : TE} (h : PE X e t) (i : ∀ σ H Q, t' σ H Q → t σ H Q) : PE X e t' := ⟨fun pins s σ H Q I q => h.run pins s σ H Q I (i σ H Q q)⟩
theorem PT_imp {e : Expr} {t t' : TT} (h : PT X e t) (i : ∀ σ H Q, t' σ H Q → t σ H Q) : PT X e t' := ⟨fun pins s σ H Q I q => h.run pins s σ H Q I (i σ H Q q)⟩
theorem PW_imp {e : Expr} {t t' : TT} (h : PW X e t) (i : ∀ σ H Q, t' σ H Q → t σ H Q) : PW X e t' := ⟨fun wh pins s σ H Q I q => h.run wh pins s σ H Q I (i σ H Q q)⟩
theorem PA_imp {es : List Expr} {t t' : TA} (h : PA X es t) (i : ∀ σ H Q, t' σ H Q → t σ H Q) : PA X es t' := ⟨fun pos pins s σ H Q I q => h.run pos pins s σ H Q I (i σ H Q q)⟩
theorem PS_imp {st : Stmt} {t t' : TS} (h : PS X st t) (i : ∀ D σ H, t' D σ H → t D σ H) : PS X st t' := ⟨fun pins s σ H D I q => h.run pins s σ H D I (i D σ H q)⟩
theorem PSs_imp {st : List Stmt} {t t' : TS} (h : PSs X st t) (i : ∀ D σ H, t' D σ H → t D σ H) : PSs X st t' := ⟨fun pins s σ H D I q => h.run pins s σ H D I (i D σ H q)⟩
theorem PG_imp {tg : Expr} {t t' : TG} (h : PG X tg t) (i : ∀ v σ H Q, t' v σ H Q → t v σ H Q) : PG X tg t' := ⟨fun pins s σ H v u Q I r q => h.run pins s σ H v u Q I r (i v σ H Q q)⟩
theorem PGs_imp {tg : List Expr} {t t' : TGs} (h : PGs X tg t) (i : ∀ v σ H Q, t' v σ H Q → t v σ H Q) : PGs X tg t' := ⟨fun pins s σ H v u Q I r q => h.run pins s σ H v u Q I r (i v σ H Q q)⟩
theorem OpR_imp {f : Value → Value → Sem Value} {r r' : R2} (h : OpR X f r) (i : ∀ x y H Q, r' x y H Q → r x y H Q) : OpR X f r' := fun pins s σ H x y v u Q I rx ry q => h pins s σ H x y v u Q I rx ry (i x y H Q q)
theorem CallR_imp {f : Value} {r r' : List V → Hp → VK → Prop} (h : CallR X f r) (i : ∀ x H Q, r' x H Q → r x H Q) : CallR X f r' := fun pins s σ H x us Q I rx q => h pins s σ H x us Q I rx (i x H Q q)
theorem MtR_imp {id : String} {r r' : V → List V → Hp → VK → Prop} (h : MtR X id r) (i : ∀ x xs H Q, r' x xs H Q → r x xs H Q) : MtR X id r' := fun pins s σ H x xs v us Q I rx rv q => h pins s σ H x xs v us Q I rx rv (i x xs H Q q)
theorem IxR_imp {r r' : R2} (h : IxR X r) (i : ∀ x y H Q, r' x y H Q → r x y H Q) : IxR X r' := fun va sl pins s σ H x y v u Q I rx ry q hs => h va sl pins s σ H x y v u Q I rx ry (i x y H Q q) hs
theorem UnR_imp {f : Value → Sem Value} {r r' : V → Hp → VK → Prop} (h : UnR X f r) (i : ∀ x H Q, r' x H Q → r x H Q) : UnR X f r' := fun pins s σ H x v Q I rx q => h pins s σ H x v Q I rx (i x H Q q)

/-! ### representations turned round -/
section
variable {K : PySem.W.Frag} {F H : Hp} {M : Mp} {v : V}
theorem rep_int {i : Int} : Rep K F (.int i) v ↔ v = .int i := by unfold Rep; rfl
theorem rep_str {i : Str} : Rep K F (.str i) v ↔ v = .str i := by unfold Rep; rfl
theorem rep_bl {i : Bool} : Rep K F (.bl i) v ↔ v = .bl i := by unfold Rep; rfl
theorem rep_non : Rep K F .non v ↔ v = .non := by unfold Rep; rfl
theorem rep_obj {a : Addr} : Rep K F (.obj a) v ↔ v = .ref a := by unfold Rep; rfl
theorem rep_tup {ds : List D} : Rep K F (.tup ds) v ↔ ∃ a vs, v = .ref a ∧ SqT K F a vs ∧ Reps K F ds vs := by unfold Rep; rfl
theorem rep_lst {ds : List D} : Rep K F (.lst ds) v ↔ ∃ a vs, v = .ref a ∧ F a = some (.lst vs) ∧ Reps K F ds vs := by unfold Rep; rfl
theorem rep_rdl {ns : List Int} : Rep K F (.rdl ns) v ↔ ∃ a, v = .ref a ∧ SqL K F a (ns.map V.int) := by unfold Rep; rfl
theorem rep_dic {pw : Wd} {ks vs : List D} : Rep K F (.dic pw ks vs) v ↔ ∃ a kl vl od u, v = .ref a ∧ F a = some (.frz od u) ∧ DicHO pw a ks kl vl (some u) ∧ Reps K F ks kl ∧ Reps K F vs vl := by unfold Rep; rfl
theorem rep_fin {C : Addr} {ns : List Str} {ds : List D} : Rep K F (.fin C ns ds) v ↔ ∃ a dx vl, v = .ref a ∧ F a = some (.ins C dx (ns.zip vl)) ∧ F dx = some (.own a) ∧ ns.length = vl.length ∧ Reps K F ds vl := by unfold Rep; rfl
theorem sqL_up (r : R K M F H) {a : Addr} {xs : List V} (h : SqL K F a xs) : SqL K H a xs := r.fr.seq h
theorem sqT_up (r : R K M F H) {a : Addr} {xs : List V} (h : SqT K F a xs) : SqT K H a xs := sqT_mono r.fr h
/-- the items of a list, frozen or not -/
def lsD (M : Mp) : D → Option (List D)
  | .lst ds => some ds
  | .obj p => (match M p with
    | some (.lst ds) => some ds
    | _ => none)
  | _ => none
theorem lsD_obj {p : Addr} {ds : List D} : lsD M (.obj p) = some ds ↔ M p = some (.lst ds) := by
  unfold lsD
  dsimp only
  split
  · rename_i e; rw [e]; simp
  · rename_i e; constructor
    · intro q; cases q
    · intro q; exact (e ds q).elim
theorem lsD_rep (r : R K M F H) {x : D} {ds : List D} (h : Rep K F x v) (e : lsD M x = some ds) : ∃ a vs, v = .ref a ∧ H a = some (.lst vs) ∧ Reps K F ds vs := by
  cases x with
  | lst es =>
    cases e
    obtain ⟨a, vs, h1, h2, h3⟩ := rep_lst.mp h
    exact ⟨a, vs, h1, r.fr _ _ h2, h3⟩
  | obj p =>
    have q := lsD_obj.mp e
    obtain ⟨vs, h1, h2⟩ := r.mem p _ q
    exact ⟨p, vs, rep_obj.mp h, h1, h2⟩
  | _ => cases e
/-- .. a list that is only read, a tuple too -/
def sqD (M : Mp) : D → Option (List D)
  | .lst ds => some ds
  | .tup ds => some ds
  | .rdl ns => some (ns.map D.int)
  | .obj p => (match M p with
    | some (.lst ds) => some ds
    | _ => none)
  | _ => none
theorem sqD_rep (r : R K M F H) {x : D} {ds : List D} (h : Rep K F x v) (e : sqD M x = some ds) : ∃ a vs, v = .ref a ∧ (SqL K H a vs ∨ SqT K H a vs) ∧ Reps K F ds vs := by
  cases x with
  | lst es =>
    cases e
    obtain ⟨a, vs, h1, h2, h3⟩ := rep_lst.mp h
    exact ⟨a, vs, h1, .inl (SqL.of (r.fr _ _ h2)), h3⟩
  | tup es =>
    cases e
    obtain ⟨a, vs, h1, h2, h3⟩ := rep_tup.mp h
    exact ⟨a, vs, h1, .inr (sqT_up r h2), h3⟩
  | rdl ns =>
    cases e
    obtain ⟨a, h1, h2⟩ := rep_rdl.mp h
    exact ⟨a, _, h1, .inl (sqL_up r h2), Reps.ints⟩
  | obj p =>
    have q : M p = some (.lst ds) := by
      unfold sqD at e
      cases h : M p with
      | none => simp [h] at e
      | some mo => cases mo <;> simp [h] at e; rw [e]
    obtain ⟨vs, h1, h2⟩ := r.mem p _ q
    exact ⟨p, vs, rep_obj.mp h, .inl (SqL.of h1), h2⟩
  | _ => cases e
end

/-- a new list: one that may change (own), or one that stays -/
def dNew (own : Bool) (ds : List D) (M : Mp) (Q : DK) : Prop :=
  match own with
  | true => ∀ p, M p = none → Q (.obj p) (updM M p (.lst ds))
  | false => Q (.lst ds) M
theorem dNew_fin {K : PySem.W.Frag} {F H : Hp} {M : Mp} {own : Bool} {ds : List D} {vs : List V} {Qd : DK} {Q : VK} (r : R K M F H) (hv : Reps K F ds vs) (h : dNew own ds M Qd) (fin : Fin K F Qd Q) {p : Addr} (hp : H p = none) : Q (.ref p) (upd H p (.lst vs)) := by
  cases own with
  | true => exact fin _ _ _ _ F (h p (r.free hp)) (Same.refl F) (r.newM hp hv) (rep_obj.mpr rfl)
  | false =>
    have e := same_upd (o := HO.lst vs) (r.freeF hp)
    exact fin _ _ _ _ _ h e (r.newF hp _) (rep_lst.mpr ⟨p, vs, rfl, upd_same, hv.mono e⟩)
theorem tup_fin {K : PySem.W.Frag} {F H : Hp} {M : Mp} {ds : List D} {vs : List V} {Qd : DK} {Q : VK} (r : R K M F H) (hv : Reps K F ds vs) (h : Qd (.tup ds) M) (fin : Fin K F Qd Q) {p : Addr} (hp : H p = none) : Q (.ref p) (upd H p (.tup vs)) := by
  have e := same_upd (o := HO.tup vs) (r.freeF hp)
  exact fin _ _ _ _ _ h e (r.newF hp _) (rep_tup.mpr ⟨p, vs, rfl, SqT.of upd_same, hv.mono e⟩)

/-! ### names, constants -/
def dVar (i : Nat) : DTE := fun σ M Q => match σ[i]? with
  | some (some d) => Q d M
  | _ => False
def dC (d : D) : DTE := fun _ M Q => Q d M
theorem de_var {i : Nat} {x : Str} {pos : Pos} (h : PE X (.Name x pos) (tVar i)) : DE X F0 (.Name x pos) (dVar i) := PE_imp h fun σ H Q ⟨σd, M, F, Qd, hF, r, hS, h, fin⟩ => by
  unfold dVar at h
  split at h
  · rename_i d e
    obtain ⟨v, e1, e2⟩ := hS.get e
    exact ⟨v, e1, fin.go h r e2⟩
  · exact h.elim
theorem de_c {e : Expr} {v : V} {d : D} (h : PE X e (tC v)) (hd : ∀ K F, Rep K F d v) : DE X F0 e (dC d) := PE_imp h fun σ H Q ⟨σd, M, F, Qd, hF, r, hS, h, fin⟩ => fin.go h r (hd _ _)
theorem de_int {i j pos} : DE X F0 (.Constant (.int i) j pos) (dC (.int i)) := de_c pe_int fun _ _ => rep_int.mpr rfl
theorem de_bl {i j pos} : DE X F0 (.Constant (.bool i) j pos) (dC (.bl i)) := de_c pe_bl fun _ _ => rep_bl.mpr rfl
theorem de_str {i j pos} : DE X F0 (.Constant (.str i) j pos) (dC (.str i)) := de_c pe_str fun _ _ => rep_str.mpr rfl
theorem de_non {j pos} : DE X F0 (.Constant .none j pos) (dC .non) := de_c pe_non fun _ _ => rep_non.mpr rfl
/-- a tuple of the module -/
theorem de_gtup {x : Str} {pos : Pos} {a : Addr} {ds : List D} {vs : List V} (hg : Gl X x) (hm : X.mg x = some (.ref a)) (hq : ∀ H, SqT X.K H a vs) (hv : ∀ F, Reps X.K F ds vs) (hd : (x == ("__debug__" : Str)) = false := by decide) : DE X F0 (.Name x pos) (dC (.tup ds)) :=
  PE_imp (pe_glob (v := .ref a) hg hm rfl hd) fun σ H Q ⟨σd, M, F, Qd, hF, r, hS, h, fin⟩ => fin.go h r (rep_tup.mpr ⟨a, vs, rfl, hq F, hv F⟩)
theorem de_gstr {x : Str} {pos : Pos} {z : Str} {t : Tok} (hg : Gl X x) (hm : X.mg x = some (.str z t)) (hd : (x == ("__debug__" : Str)) = false := by decide) : DE X F0 (.Name x pos) (dC (.str z)) :=
  PE_imp (pe_glob (v := .str z) hg hm ⟨_, rfl⟩ hd) fun σ H Q ⟨σd, M, F, Qd, hF, r, hS, h, fin⟩ => fin.go h r (rep_str.mpr rfl)
theorem de_gint {x : Str} {pos : Pos} {z : Int} {t : Tok} (hg : Gl X x) (hm : X.mg x = some (.int z t)) (hd : (x == ("__debug__" : Str)) = false := by decide) : DE X F0 (.Name x pos) (dC (.int z)) :=
  PE_imp (pe_glob (v := .int z) hg hm ⟨_, rfl⟩ hd) fun σ H Q ⟨σd, M, F, Qd, hF, r, hS, h, fin⟩ => fin.go h r (rep_int.mpr rfl)

/-! ### operators -/
variable {a b c e : Expr} {ta tb tc te : DTE} {pos : Pos}
def dOp (r : DR2) (ta tb : DTE) : DTE := fun σ M Q => ta σ M fun x M1 => tb σ M1 fun y M2 => r x y M2 Q
def dUn (r : DR1) (ta : DTE) : DTE := fun σ M Q => ta σ M fun x M1 => r x M1 Q
theorem lift_op {K : PySem.W.Frag} {r : DR2} {σ : St} {H : Hp} {Q : VK} (h : LE K F0 (dOp r ta tb) σ H Q) : tOp (LR K F0 r) (LE K F0 ta) (LE K F0 tb) σ H Q := by
  obtain ⟨σd, M, F, Qd, hF, hR, hS, h, fin⟩ := h
  refine ⟨σd, M, F, _, hF, hR, hS, h, fun x M1 v H1 F1 h1 e1 r1 v1 => ?_⟩
  refine ⟨σd, M1, F1, _, hF.trans e1, r1, hS.mono e1, h1, fun y M2 w H2 F2 h2 e2 r2 w2 => ?_⟩
  exact ⟨x, y, M2, F2, Qd, (hF.trans e1).trans e2, r2, v1.mono e2, w2, h2, fin.mono (e1.trans e2)⟩
theorem de_op {op : Operator} {r : DR2} (ho : OpR X (binaryOp op) (LR X.K F0 r)) (ha : DE X F0 a ta) (hb : DE X F0 b tb) : DE X F0 (.BinOp a op b pos) (dOp r ta tb) :=
  PE_imp (pe_op ho ha hb) fun _ _ _ h => lift_op h
theorem de_un {op : UnaryOp} {r : DR1} (ho : UnR X (unaryOp op) (LR1 X.K F0 r)) (ha : DE X F0 a ta) : DE X F0 (.UnaryOp op a pos) (dUn r ta) :=
  PE_imp (pe_un ho ha) fun _ _ _ ⟨σd, M, F, Qd, hF, hR, hS, h, fin⟩ => ⟨σd, M, F, _, hF, hR, hS, h, fun x M1 v H1 F1 h1 e1 r1 v1 => ⟨x, M1, F1, Qd, hF.trans e1, r1, v1, h1, fin.mono e1⟩⟩

def dAdd (own : Bool) : DR2 := fun x y M Q => match x, y with
  | .int i, .int j => Q (.int (i + j)) M
  | .str a, .str b => a.length + b.length ≤ sizeLine ∧ Q (.str (a ++ b)) M
  | .tup a, .tup b => a.length + b.length ≤ sizeLine ∧ Q (.tup (a ++ b)) M
  | x, y => ∃ a b, lsD M x = some a ∧ lsD M y = some b ∧ a.length + b.length ≤ sizeLine ∧ dNew own (a ++ b) M Q
theorem od_add {own : Bool} : OpR X (binaryOp .Add) (LR X.K F0 (dAdd own)) := by
  refine OpR_imp (op_add.or (op_add_str.or (op_catA.or op_cat))) fun v u H Q ⟨x, y, M, F, Qd, hF, r, hx, hy, h, fin⟩ => ?_
  unfold dAdd at h
  split at h
  · exact .inl ⟨_, _, rep_int.mp hx, rep_int.mp hy, fin.go h r (rep_int.mpr rfl)⟩
  · exact .inr (.inl ⟨_, _, rep_str.mp hx, rep_str.mp hy, h.1, fin.go h.2 r (rep_str.mpr rfl)⟩)
  · rename_i as bs
    obtain ⟨p, vs, e1, h1, r1⟩ := rep_tup.mp hx
    obtain ⟨q, us, e2, h2, r2⟩ := rep_tup.mp hy
    refine .inr (.inr (.inl ⟨p, q, vs, us, e1, e2, sqT_up r h1, sqT_up r h2, by rw [← r1.length, ← r2.length]; exact h.1, fun ev => ?_, fun ev eu => ?_, fun ev eu p' hp' => tup_fin r (r1.append r2) h.2 fin hp'⟩))
    · subst ev
      have := r1.nilV_inv
      subst this
      exact fin.go h.2 r (rep_tup.mpr ⟨q, us, rfl, h2, r2⟩)
    · subst eu
      have := r2.nilV_inv
      subst this
      have h' := h.2
      rw [List.append_nil] at h'
      exact fin.go h' r (rep_tup.mpr ⟨p, vs, rfl, h1, r1⟩)
  · obtain ⟨as, bs, ea, eb, hz, h⟩ := h
    obtain ⟨p, vs, e1, h1, r1⟩ := lsD_rep r hx ea
    obtain ⟨q, us, e2, h2, r2⟩ := lsD_rep r hy eb
    exact .inr (.inr (.inr ⟨p, q, vs, us, e1, e2, h1, h2, by rw [← r1.length, ← r2.length]; exact hz, fun p' hp' => dNew_fin r (r1.append r2) h fin hp'⟩))
def dSub : DR2 := fun x y M Q => match x, y with
  | .int i, .int j => Q (.int (i - j)) M
  | _, _ => False
theorem od_sub : OpR X (binaryOp .Sub) (LR X.K F0 dSub) := by
  refine OpR_imp op_sub fun v u H Q ⟨x, y, M, F, Qd, hF, r, hx, hy, h, fin⟩ => ?_
  unfold dSub at h
  split at h
  · exact ⟨_, _, rep_int.mp hx, rep_int.mp hy, fin.go h r (rep_int.mpr rfl)⟩
  · exact h.elim
theorem op_mul_str : OpR X (binaryOp .Mult) (fun x y H Q => ∃ z n, x = .str z ∧ y = .int n ∧ MulOk z n ∧ Q (.str (Txt.mul z n)) H) := by
  intro pins s σ H x y v u Q I rx ry h
  obtain ⟨z, n, rfl, rfl, hm, q⟩ := h
  obtain ⟨t, rfl⟩ := rx
  obtain ⟨t', rfl⟩ := ry
  exact SB.mul hm fun t2 k => ⟨.str _, H, I.tok _, ⟨_, rfl⟩, q⟩
def dMul (own : Bool) : DR2 := fun x y M Q => match x, y with
  | .int i, .int j => CMul i j ∧ Q (.int (i * j)) M
  | .str a, .int n => MulOk a n ∧ Q (.str (Txt.mul a n)) M
  | x, .int k => ∃ a, lsD M x = some a ∧ -(2 ^ 63) ≤ k ∧ k < 2 ^ 63 ∧ a.length * k.toNat ≤ sizeLine ∧ dNew own (List.replicate k.toNat a).flatten M Q
  | _, _ => False
theorem Reps.rep {K : PySem.W.Frag} {F : Hp} {ds : List D} {vs : List V} (h : Reps K F ds vs) : ∀ k : Nat, Reps K F (List.replicate k ds).flatten (List.replicate k vs).flatten
  | 0 => .nil
  | k + 1 => by
    rw [List.replicate_succ, List.flatten_cons, List.replicate_succ, List.flatten_cons]
    exact h.append (Reps.rep h k)
theorem od_mul {own : Bool} : OpR X (binaryOp .Mult) (LR X.K F0 (dMul own)) := by
  refine OpR_imp (op_mul.or (op_mul_str.or op_rep)) fun v u H Q ⟨x, y, M, F, Qd, hF, r, hx, hy, h, fin⟩ => ?_
  unfold dMul at h
  split at h
  · exact .inl ⟨_, _, rep_int.mp hx, rep_int.mp hy, h.1, fin.go h.2 r (rep_int.mpr rfl)⟩
  · exact .inr (.inl ⟨_, _, rep_str.mp hx, rep_int.mp hy, h.1, fin.go h.2 r (rep_str.mpr rfl)⟩)
  · obtain ⟨as, ea, h1, h2, h3, h⟩ := h
    obtain ⟨p, vs, e1, q1, r1⟩ := lsD_rep r hx ea
    exact .inr (.inr ⟨p, _, vs, e1, rep_int.mp hy, q1, h1, h2, by rw [← r1.length]; exact h3, fun p' hp' => dNew_fin r (r1.rep _) h fin hp'⟩)
  · exact h.elim
def dDiv : DR2 := fun x y M Q => match x, y with
  | .int i, .int j => (0 < j ∧ j < 1073741824) ∧ Q (.int (i / j)) M
  | _, _ => False
theorem od_div : OpR X (binaryOp .FloorDiv) (LR X.K F0 dDiv) := by
  refine OpR_imp op_fdiv fun v u H Q ⟨x, y, M, F, Qd, hF, r, hx, hy, h, fin⟩ => ?_
  unfold dDiv at h
  split at h
  · exact ⟨_, _, rep_int.mp hx, rep_int.mp hy, h.1, fin.go h.2 r (rep_int.mpr rfl)⟩
  · exact h.elim
def dMod : DR2 := fun x y M Q => match x, y with
  | .int i, .int j => 0 < j ∧ Q (.int (i % j)) M
  | _, _ => False
theorem od_mod : OpR X (binaryOp .Mod) (LR X.K F0 dMod) := by
  refine OpR_imp op_mod fun v u H Q ⟨x, y, M, F, Qd, hF, r, hx, hy, h, fin⟩ => ?_
  unfold dMod at h
  split at h
  · exact ⟨_, _, rep_int.mp hx, rep_int.mp hy, h.1, fin.go h.2 r (rep_int.mpr rfl)⟩
  · exact h.elim
def dPow : DR2 := fun x y M Q => match x, y with
  | .int i, .int j => (0 ≤ j ∧ j ≤ 1000000 ∧ i.natAbs < 2 ^ 64) ∧ Q (.int (i ^ j.toNat)) M
  | _, _ => False
theorem od_pow : OpR X (binaryOp .Pow) (LR X.K F0 dPow) := by
  refine OpR_imp op_pow fun v u H Q ⟨x, y, M, F, Qd, hF, r, hx, hy, h, fin⟩ => ?_
  unfold dPow at h
  split at h
  · exact ⟨_, _, rep_int.mp hx, rep_int.mp hy, h.1, fin.go h.2 r (rep_int.mpr rfl)⟩
  · exact h.elim
def dNeg : DR1 := fun x M Q => match x with
  | .int i => Q (.int (-i)) M
  | _ => False
theorem ud_neg : UnR X (unaryOp .USub) (LR1 X.K F0 dNeg) := by
  refine UnR_imp un_neg fun v H Q ⟨x, M, F, Qd, hF, r, hx, h, fin⟩ => ?_
  unfold dNeg at h
  split at h
  · exact ⟨_, rep_int.mp hx, fin.go h r (rep_int.mpr rfl)⟩
  · exact h.elim

/-! ### comparisons -/
theorem de_cmp {op : CmpOp} {r : DR2} (ho : OpR X (compareOp op) (LR X.K F0 r)) (ha : DE X F0 a ta) (hb : DE X F0 b tb) (hm : behindInMarks op b = false) : DE X F0 (.Compare a [op] [b] pos) (dOp r ta tb) :=
  PE_imp (pe_cmpR ho ha hb hm) fun _ _ _ h => lift_op h
/-- a bool as a test -/
def dB (t : DTE) : DTT := fun σ M Q => t σ M fun x M1 => match x with
  | .bl b => Q b M1
  | _ => False
theorem dt_cmp {op : CmpOp} {r : DR2} (ho : OpR X (compareOp op) (LR X.K F0 r)) (ha : DE X F0 a ta) (hb : DE X F0 b tb) (hm : behindInMarks op b = false) : DT X F0 (.Compare a [op] [b] pos) (dB (dOp r ta tb)) :=
  PT_imp (pt_cmpR ho ha hb hm) fun σ H Q ⟨σd, M, F, Qd, hF, hR, hS, h, fin⟩ => lift_op ⟨σd, M, F, _, hF, hR, hS, h, fun x M1 v H1 F1 h1 e1 r1 v1 => by
    split at h1
    · exact ⟨_, rep_bl.mp v1, fin _ _ _ _ h1 e1 r1⟩
    · exact h1.elim⟩
/-- an expression whose value is a bool (a call, a name), as a test -/
theorem dt_val {t : DTE} (h : DE X F0 e t) (he : ∀ whole, isTrue e X.env whole = (do let v ← whole; standAt e.pos; holding [v] (truthy v)) := by intro _; rfl) : DT X F0 e (dB t) :=
  PT_imp (pt_val h he) fun σ H Q ⟨σd, M, F, Qd, hF, hR, hS, h, fin⟩ => ⟨σd, M, F, _, hF, hR, hS, h, fun x M1 v H1 F1 h1 e1 r1 v1 => by
    split at h1
    · exact ⟨_, rep_bl.mp v1, fin _ _ _ _ h1 e1 r1⟩
    · exact h1.elim⟩
/-- the truth of data -/
def truD (x : D) (M : Mp) : Option Bool := match x with
  | .non => some false
  | .bl b => some b
  | .int i => some (i != 0)
  | .str y => if y.length ≤ sizeLine then some ((y.length : Int) != 0) else none
  | x => (sqD M x).map fun ds => !ds.isEmpty
def dTru (t : DTE) : DTT := fun σ M Q => t σ M fun x M1 => ∃ b, truD x M1 = some b ∧ Q b M1
theorem isEmpty_reps {K : PySem.W.Frag} {F : Hp} {ds : List D} {vs : List V} (h : Reps K F ds vs) : vs.isEmpty = ds.isEmpty := by
  cases ds with
  | nil => rw [h.nil_inv] <;> rfl
  | cons d ds => obtain ⟨v, vs', rfl, _⟩ := h.consD_inv; rfl
theorem truD_ok {K : PySem.W.Frag} {F H : Hp} {M : Mp} (r : R K M F H) {x : D} {v : V} {b : Bool} (h : Rep K F x v) (e : truD x M = some b) : TruV K v H b := by
  have sq : ∀ x : D, Rep K F x v → (sqD M x).map (fun ds => !ds.isEmpty) = some b → TruV K v H b := fun x h e => by
    obtain ⟨ds, e1, e2⟩ := Option.map_eq_some_iff.mp e
    obtain ⟨a, vs, rfl, hq, hr⟩ := sqD_rep r h e1
    rw [← isEmpty_reps hr] at e2
    rcases hq with hq | hq
    · exact .inl ⟨vs, hq, e2.symm⟩
    · exact .inr (.inl ⟨vs, hq, e2.symm⟩)
  cases x with
  | non => cases rep_non.mp h; cases e; rfl
  | bl b => cases rep_bl.mp h; cases e; rfl
  | int i => cases rep_int.mp h; cases e; rfl
  | str y =>
    cases rep_str.mp h
    unfold truD at e
    dsimp only at e
    split at e
    · rename_i hz
      cases e
      exact ⟨hz, rfl⟩
    · cases e
  | obj a => exact sq _ h e
  | rdl a => exact sq _ h e
  | tup a => exact sq _ h e
  | lst a => exact sq _ h e
  | dic _ _ _ => exact sq _ h e
  | fin _ _ _ => exact sq _ h e
theorem dt_tru {t : DTE} (h : DE X F0 e t) (he : ∀ whole, isTrue e X.env whole = (do let v ← whole; standAt e.pos; holding [v] (truthy v)) := by intro _; rfl) : DT X F0 e (dTru t) :=
  PT_imp (pt_truth h he) fun σ H Q ⟨σd, M, F, Qd, hF, hR, hS, h, fin⟩ => ⟨σd, M, F, _, hF, hR, hS, h, fun x M1 v H1 F1 ⟨b, h1, h2⟩ e1 r1 v1 => ⟨b, truD_ok r1 v1 h1, fin _ _ _ _ h2 e1 r1⟩⟩
section
variable {tA tB : DTT} {rest : List Expr}
/-- two ways by a Bool -/
def IfB (b : Bool) (A B : Prop) : Prop := match b with
  | true => A
  | false => B
theorem ifB_t {A B : Prop} : IfB true A B = A := rfl
theorem ifB_f {A B : Prop} : IfB false A B = B := rfl
theorem ifB {b : Bool} {A B : Prop} (h1 : b = true → A) (h2 : b = false → B) : IfB b A B := by
  cases b with
  | true => exact h1 rfl
  | false => exact h2 rfl
def dAnd (t u : DTT) : DTT := fun σ M Q => t σ M fun c M1 => IfB c (u σ M1 Q) (Q false M1)
def dOr (t u : DTT) : DTT := fun σ M Q => t σ M fun c M1 => IfB c (Q true M1) (u σ M1 Q)
def dNot (t : DTT) : DTT := fun σ M Q => t σ M fun c M1 => Q (!c) M1
theorem dw_and1 (ha : DT X F0 a tA) : DW X F0 (.BoolOp .And [a] pos) tA := pw_and1 ha
theorem dw_or1 (ha : DT X F0 a tA) : DW X F0 (.BoolOp .Or [a] pos) tA := pw_or1 ha
theorem dw_and (ha : DT X F0 a tA) (hb : DW X F0 (.BoolOp .And (b :: rest) pos) tB) : DW X F0 (.BoolOp .And (a :: b :: rest) pos) (dAnd tA tB) :=
  PW_imp (pw_and ha hb) fun σ H Q ⟨σd, M, F, Qd, hF, hR, hS, h, fin⟩ => ⟨σd, M, F, _, hF, hR, hS, h, fun c M1 H1 F1 h1 e1 r1 => by
    cases c with
    | true => exact ⟨σd, M1, F1, Qd, hF.trans e1, r1, hS.mono e1, h1, fin.mono e1⟩
    | false => exact fin _ _ _ _ h1 e1 r1⟩
theorem dw_or (ha : DT X F0 a tA) (hb : DW X F0 (.BoolOp .Or (b :: rest) pos) tB) : DW X F0 (.BoolOp .Or (a :: b :: rest) pos) (dOr tA tB) :=
  PW_imp (pw_or ha hb) fun σ H Q ⟨σd, M, F, Qd, hF, hR, hS, h, fin⟩ => ⟨σd, M, F, _, hF, hR, hS, h, fun c M1 H1 F1 h1 e1 r1 => by
    cases c with
    | false => exact ⟨σd, M1, F1, Qd, hF.trans e1, r1, hS.mono e1, h1, fin.mono e1⟩
    | true => exact fin _ _ _ _ h1 e1 r1⟩
theorem dt_w (h : DW X F0 a tA) : DT X F0 a tA := PW.pt h
theorem dt_not (ha : DT X F0 a tA) : DT X F0 (.UnaryOp .Not a pos) (dNot tA) :=
  PT_imp (pt_not ha) fun σ H Q ⟨σd, M, F, Qd, hF, hR, hS, h, fin⟩ => ⟨σd, M, F, _, hF, hR, hS, h, fun c M1 H1 F1 h1 e1 r1 => fin _ _ _ _ h1 e1 r1⟩
/-- .. as values -/
def dAndV (ta tb : DTE) : DTE := fun σ M Q => ta σ M fun x M1 => match x with
  | .bl c => IfB c (tb σ M1 Q) (Q (.bl false) M1)
  | _ => False
def dOrV (ta tb : DTE) : DTE := fun σ M Q => ta σ M fun x M1 => match x with
  | .bl c => IfB c (Q (.bl true) M1) (tb σ M1 Q)
  | _ => False
def dNotV (ta : DTE) : DTE := fun σ M Q => ta σ M fun x M1 => match x with
  | .bl c => Q (.bl (!c)) M1
  | _ => False
theorem de_one {op} {t : DTE} (h : DE X F0 a t) : DE X F0 (.BoolOp op [a] pos) t := pe_one h
theorem de_and (ha : DE X F0 a ta) (hb : DE X F0 (.BoolOp .And (b :: rest) pos) tb) : DE X F0 (.BoolOp .And (a :: b :: rest) pos) (dAndV ta tb) :=
  PE_imp (pe_and ha hb) fun σ H Q ⟨σd, M, F, Qd, hF, hR, hS, h, fin⟩ => ⟨σd, M, F, _, hF, hR, hS, h, fun c M1 v H1 F1 h1 e1 r1 v1 => by
    split at h1
    · rename_i c
      cases c with
      | true => exact ⟨true, rep_bl.mp v1, iteT ⟨σd, M1, F1, Qd, hF.trans e1, r1, hS.mono e1, h1, fin.mono e1⟩⟩
      | false => exact ⟨false, rep_bl.mp v1, iteF (fin _ _ _ _ _ h1 e1 r1 (rep_bl.mpr rfl))⟩
    · exact h1.elim⟩
theorem de_or (ha : DE X F0 a ta) (hb : DE X F0 (.BoolOp .Or (b :: rest) pos) tb) : DE X F0 (.BoolOp .Or (a :: b :: rest) pos) (dOrV ta tb) :=
  PE_imp (pe_or ha hb) fun σ H Q ⟨σd, M, F, Qd, hF, hR, hS, h, fin⟩ => ⟨σd, M, F, _, hF, hR, hS, h, fun c M1 v H1 F1 h1 e1 r1 v1 => by
    split at h1
    · rename_i c
      cases c with
      | true => exact ⟨true, rep_bl.mp v1, iteT (fin _ _ _ _ _ h1 e1 r1 (rep_bl.mpr rfl))⟩
      | false => exact ⟨false, rep_bl.mp v1, iteF ⟨σd, M1, F1, Qd, hF.trans e1, r1, hS.mono e1, h1, fin.mono e1⟩⟩
    · exact h1.elim⟩
theorem de_not (ha : DE X F0 a ta) : DE X F0 (.UnaryOp .Not a pos) (dNotV ta) :=
  PE_imp (pe_not ha) fun σ H Q ⟨σd, M, F, Qd, hF, hR, hS, h, fin⟩ => ⟨σd, M, F, _, hF, hR, hS, h, fun c M1 v H1 F1 h1 e1 r1 v1 => by
    split at h1
    · exact ⟨_, rep_bl.mp v1, fin _ _ _ _ _ h1 e1 r1 (rep_bl.mpr rfl)⟩
    · exact h1.elim⟩
def dIf (t : DTT) (ta tb : DTE) : DTE := fun σ M Q => t σ M fun c M1 => IfB c (ta σ M1 Q) (tb σ M1 Q)
theorem de_if (hc : DT X F0 c tA) (ha : DE X F0 a ta) (hb : DE X F0 b tb) : DE X F0 (.IfExp c a b pos) (dIf tA ta tb) :=
  PE_imp (pe_ifExp hc ha hb) fun σ H Q ⟨σd, M, F, Qd, hF, hR, hS, h, fin⟩ => ⟨σd, M, F, _, hF, hR, hS, h, fun c M1 H1 F1 h1 e1 r1 => by
    cases c with
    | true => exact iteT ⟨σd, M1, F1, Qd, hF.trans e1, r1, hS.mono e1, h1, fin.mono e1⟩
    | false => exact iteF ⟨σd, M1, F1, Qd, hF.trans e1, r1, hS.mono e1, h1, fin.mono e1⟩⟩
end
end
end DL
namespace DL
open PySem L2

section
variable {K : PySem.W.Frag} {F H : Hp} {M : Mp}
theorem dpInts {H : Hp} : ∀ ns : List Int, DpAll K H (ns.map V.int) (ns.map PyData.int)
  | [] => .nil
  | n :: ns => .cons (.int n) (dpInts ns)
mutual
theorem dp_of (hf : Same F H) : ∀ (d : D) (v : V) (y : PyData), Rep K F d v → pyD d = some y → Dp K H v y
  | .non, v, y, h, e => by unfold pyD at e; cases e; cases rep_non.mp h; exact .non
  | .bl b, v, y, h, e => by unfold pyD at e; cases e; cases rep_bl.mp h; exact .bl b
  | .int b, v, y, h, e => by unfold pyD at e; cases e; cases rep_int.mp h; exact .int b
  | .str b, v, y, h, e => by unfold pyD at e; cases e; cases rep_str.mp h; exact .str b
  | .obj b, v, y, h, e => by unfold pyD at e; cases e
  | .rdl ns, v, y, h, e => by
    unfold pyD at e; cases e
    obtain ⟨a, rfl, hq⟩ := rep_rdl.mp h
    exact .lst (hf.seq hq) (dpInts ns)
  | .tup ds, v, y, h, e => by
    unfold pyD at e
    obtain ⟨ys, e1, rfl⟩ := Option.map_eq_some_iff.mp e
    obtain ⟨a, vs, rfl, hq, hr⟩ := rep_tup.mp h
    exact .tup (sqT_mono hf hq) (dpAll_of hf ds vs ys hr e1)
  | .lst ds, v, y, h, e => by
    unfold pyD at e
    obtain ⟨ys, e1, rfl⟩ := Option.map_eq_some_iff.mp e
    obtain ⟨a, vs, rfl, hq, hr⟩ := rep_lst.mp h
    exact .lst (SqL.of (hf _ _ hq)) (dpAll_of hf ds vs ys hr e1)
  | .dic pw ks vs, v, y, h, e => by unfold pyD at e; cases e
  | .fin C ns ds, v, y, h, e => by unfold pyD at e; cases e
theorem dpAll_of (hf : Same F H) : ∀ (ds : List D) (vs : List V) (ys : List PyData), Reps K F ds vs → pyDs ds = some ys → DpAll K H vs ys
  | [], vs, ys, h, e => by unfold pyDs at e; cases e; rw [h.nil_inv]; exact .nil
  | d :: ds, vs, ys, h, e => by
    unfold pyDs at e
    obtain ⟨y, e1, e2⟩ := Option.bind_eq_some_iff.mp e
    obtain ⟨ys', e3, rfl⟩ := Option.map_eq_some_iff.mp e2
    obtain ⟨v, vs', rfl, h1, h2⟩ := h.consD_inv
    exact .cons (dp_of hf d v y h1 e1) (dpAll_of hf ds vs' ys' h2 e3)
end
end

section
variable {X : Cx} {F0 : Hp} {a b c e : Expr} {ta tb tc te : DTE} {pos : Pos}
/-! ### ==, != -/
def dEq (neg : Bool) : DR2 := fun x y M Q => match x, y with
  | .int i, .int j => Q (.bl (neg != decide (i = j))) M
  | .str i, .str j => Q (.bl (neg != decide (i = j))) M
  | .bl i, .bl j => Q (.bl (neg != decide (i = j))) M
  | x, y => ∃ d e, pyD x = some d ∧ pyD y = some e ∧ SeqAt.shaped d = true ∧ SeqAt.shaped e = true ∧ Q (.bl (neg != PyData.eqv d e)) M
theorem od_eq (hu : X.A.units + 64 < cLine) : OpR X (compareOp .Eq) (LR X.K F0 (dEq false)) := by
  refine OpR_imp (op_eq.or (op_eqD hu)) fun v u H Q ⟨x, y, M, F, Qd, hF, r, hx, hy, h, fin⟩ => ?_
  unfold dEq at h
  split at h
  · cases rep_int.mp hx; cases rep_int.mp hy
    refine .inl ⟨rfl, fin.go h r (rep_bl.mpr ?_)⟩
    simp
  · cases rep_str.mp hx; cases rep_str.mp hy
    refine .inl ⟨rfl, fin.go h r (rep_bl.mpr ?_)⟩
    simp
  · cases rep_bl.mp hx; cases rep_bl.mp hy
    refine .inl ⟨rfl, fin.go h r (rep_bl.mpr ?_)⟩
    simp
  · obtain ⟨d, e, h1, h2, h3, h4, h⟩ := h
    refine .inr ⟨d, e, dp_of r.fr _ _ _ hx h1, dp_of r.fr _ _ _ hy h2, h3, h4, fin.go h r (rep_bl.mpr ?_)⟩
    simp
theorem od_ne (hu : X.A.units + 64 < cLine) : OpR X (compareOp .NotEq) (LR X.K F0 (dEq true)) := by
  refine OpR_imp (op_ne.or (op_neD hu)) fun v u H Q ⟨x, y, M, F, Qd, hF, r, hx, hy, h, fin⟩ => ?_
  unfold dEq at h
  split at h
  · cases rep_int.mp hx; cases rep_int.mp hy
    refine .inl ⟨rfl, fin.go h r (rep_bl.mpr ?_)⟩
    simp
  · cases rep_str.mp hx; cases rep_str.mp hy
    refine .inl ⟨rfl, fin.go h r (rep_bl.mpr ?_)⟩
    simp
  · cases rep_bl.mp hx; cases rep_bl.mp hy
    refine .inl ⟨rfl, fin.go h r (rep_bl.mpr ?_)⟩
    simp
  · obtain ⟨d, e, h1, h2, h3, h4, h⟩ := h
    refine .inr ⟨d, e, dp_of r.fr _ _ _ hx h1, dp_of r.fr _ _ _ hy h2, h3, h4, fin.go h r (rep_bl.mpr ?_)⟩
    simp
def isNon : D → Bool
  | .non => true
  | _ => false
def dIsN (neg : Bool) : DR2 := fun x y M Q => match y with
  | .non => Q (.bl (neg != isNon x)) M
  | _ => False
theorem isN_rep {K : PySem.W.Frag} {F : Hp} {x : D} {v : V} (h : Rep K F x v) : decide (v = V.non) = isNon x := by
  cases x with
  | non => cases rep_non.mp h; rfl
  | bl b => cases rep_bl.mp h; rfl
  | int i => cases rep_int.mp h; rfl
  | str i => cases rep_str.mp h; rfl
  | obj i => cases rep_obj.mp h; rfl
  | rdl i => obtain ⟨a, rfl, _⟩ := rep_rdl.mp h; rfl
  | tup i => obtain ⟨a, vs, rfl, _⟩ := rep_tup.mp h; rfl
  | lst i => obtain ⟨a, vs, rfl, _⟩ := rep_lst.mp h; rfl
  | dic pw ks vs => obtain ⟨a, kl, vl, od, u, rfl, _⟩ := rep_dic.mp h; rfl
  | fin C ns ds => obtain ⟨a, dx, vl, rfl, _⟩ := rep_fin.mp h; rfl
theorem od_isN : OpR X (compareOp .Is) (LR X.K F0 (dIsN false)) := by
  refine OpR_imp op_isN fun v u H Q ⟨x, y, M, F, Qd, hF, r, hx, hy, h, fin⟩ => ?_
  unfold dIsN at h
  split at h
  · refine ⟨rep_non.mp hy, fin.go h r (rep_bl.mpr ?_)⟩
    rw [isN_rep hx]; simp
  · exact h.elim
theorem od_notN : OpR X (compareOp .IsNot) (LR X.K F0 (dIsN true)) := by
  refine OpR_imp op_notN fun v u H Q ⟨x, y, M, F, Qd, hF, r, hx, hy, h, fin⟩ => ?_
  unfold dIsN at h
  split at h
  · refine ⟨rep_non.mp hy, fin.go h r (rep_bl.mpr ?_)⟩
    rw [isN_rep hx]; simp
  · exact h.elim
/-! ### order -/
def dLt : DR2 := fun x y M Q => match x, y with
  | .int i, .int j => Q (.bl (decide (i < j))) M
  | .str i, .str j => Q (.bl (decide (i.cps.toList < j.cps.toList))) M
  | _, _ => False
theorem od_lt : OpR X (compareOp .Lt) (LR X.K F0 dLt) := by
  refine OpR_imp (op_lt.or op_lt_str) fun v u H Q ⟨x, y, M, F, Qd, hF, r, hx, hy, h, fin⟩ => ?_
  unfold dLt at h
  split at h
  · exact .inl ⟨_, _, rep_int.mp hx, rep_int.mp hy, fin.go h r (rep_bl.mpr rfl)⟩
  · exact .inr ⟨_, _, rep_str.mp hx, rep_str.mp hy, fin.go h r (rep_bl.mpr rfl)⟩
  · exact h.elim
def dLe : DR2 := fun x y M Q => match x, y with
  | .int i, .int j => Q (.bl (decide (i ≤ j))) M
  | .str i, .str j => Q (.bl (!decide (j.cps.toList < i.cps.toList))) M
  | _, _ => False
theorem od_le : OpR X (compareOp .LtE) (LR X.K F0 dLe) := by
  refine OpR_imp (op_le.or op_le_str) fun v u H Q ⟨x, y, M, F, Qd, hF, r, hx, hy, h, fin⟩ => ?_
  unfold dLe at h
  split at h
  · exact .inl ⟨_, _, rep_int.mp hx, rep_int.mp hy, fin.go h r (rep_bl.mpr rfl)⟩
  · exact .inr ⟨_, _, rep_str.mp hx, rep_str.mp hy, fin.go h r (rep_bl.mpr rfl)⟩
  · exact h.elim
def dGt : DR2 := fun x y M Q => match x, y with
  | .int i, .int j => Q (.bl (decide (j < i))) M
  | _, _ => False
theorem od_gt : OpR X (compareOp .Gt) (LR X.K F0 dGt) := by
  refine OpR_imp op_gt fun v u H Q ⟨x, y, M, F, Qd, hF, r, hx, hy, h, fin⟩ => ?_
  unfold dGt at h
  split at h
  · exact ⟨_, _, rep_int.mp hx, rep_int.mp hy, fin.go h r (rep_bl.mpr rfl)⟩
  · exact h.elim
def dGe : DR2 := fun x y M Q => match x, y with
  | .int i, .int j => Q (.bl (decide (j ≤ i))) M
  | _, _ => False
theorem od_ge : OpR X (compareOp .GtE) (LR X.K F0 dGe) := by
  refine OpR_imp op_ge fun v u H Q ⟨x, y, M, F, Qd, hF, r, hx, hy, h, fin⟩ => ?_
  unfold dGe at h
  split at h
  · exact ⟨_, _, rep_int.mp hx, rep_int.mp hy, fin.go h r (rep_bl.mpr rfl)⟩
  · exact h.elim
/-! ### in, not in: a text in texts, a sign in a text, an int in ints -/
def strsD : List D → Option (List Str)
  | [] => some []
  | .str x :: r => (strsD r).map fun xs => x :: xs
  | _ :: _ => none
theorem strsD_eq : ∀ {ds : List D} {xs : List Str}, strsD ds = some xs → ds = xs.map D.str
  | [], xs, e => by unfold strsD at e; cases e; rfl
  | d :: ds, xs, e => by
    cases d with
    | str z =>
      unfold strsD at e
      obtain ⟨ys, e1, rfl⟩ := Option.map_eq_some_iff.mp e
      rw [strsD_eq e1] <;> rfl
    | _ => unfold strsD at e; cases e
theorem strsD_map : ∀ xs : List Str, strsD (xs.map D.str) = some xs
  | [] => rfl
  | x :: xs => by rw [List.map_cons]; unfold strsD; rw [strsD_map xs] <;> rfl
theorem inV_strs (x : Str) : ∀ xs : List Str, inV (.str x) (xs.map V.str) = decide (x ∈ xs)
  | [] => rfl
  | y :: xs => by
    have ih := inV_strs x xs
    unfold inV at ih ⊢
    rw [List.map_cons, List.any_cons, ih]
    by_cases e : y = x
    · subst e; simp [eqV]
    · have e' : ¬ x = y := fun q => e q.symm
      simp [eqV, e, e']
theorem flat_strsV (ys : List Str) : (ys.map V.str).all flatV = true := by
  induction ys with
  | nil => rfl
  | cons y ys ih => rw [List.map_cons, List.all_cons, ih] <;> rfl
def dIn (neg : Bool) : DR2 := fun x y M Q => match x, y with
  | .str i, .str j => Q (.bl (neg != !(Builtin.Str.occurrences j i 0 j.length 1).isEmpty)) M
  | .str i, y => ∃ xs, (sqD M y).bind strsD = some xs ∧ Q (.bl (neg != decide (i ∈ xs))) M
  | _, _ => False
theorem od_in : OpR X (compareOp .In) (LR X.K F0 (dIn false)) := by
  refine OpR_imp (op_in_str.or op_in_seq) fun v u H Q ⟨x, y, M, F, Qd, hF, r, hx, hy, h, fin⟩ => ?_
  unfold dIn at h
  split at h
  · exact .inl ⟨_, _, rep_str.mp hx, rep_str.mp hy, fin.go h r (rep_bl.mpr (by simp))⟩
  · obtain ⟨xs, e, h⟩ := h
    obtain ⟨ds, e1, e2⟩ := Option.bind_eq_some_iff.mp e
    obtain ⟨p, vs, rfl, hq, hr⟩ := sqD_rep r hy e1
    have := strsD_eq e2
    subst this
    have := hr.strs_inv
    subst this
    cases rep_str.mp hx
    refine .inr ⟨p, _, rfl, hq, rfl, flat_strsV _, fin.go h r (rep_bl.mpr ?_)⟩
    rw [inV_strs]; simp
  · exact h.elim
theorem od_notIn : OpR X (compareOp .NotIn) (LR X.K F0 (dIn true)) := by
  refine OpR_imp (L2.op_notIn_str.or op_notIn_seq) fun v u H Q ⟨x, y, M, F, Qd, hF, r, hx, hy, h, fin⟩ => ?_
  unfold dIn at h
  split at h
  · exact .inl ⟨_, _, rep_str.mp hx, rep_str.mp hy, fin.go h r (rep_bl.mpr (by simp))⟩
  · obtain ⟨xs, e, h⟩ := h
    obtain ⟨ds, e1, e2⟩ := Option.bind_eq_some_iff.mp e
    obtain ⟨p, vs, rfl, hq, hr⟩ := sqD_rep r hy e1
    have := strsD_eq e2
    subst this
    have := hr.strs_inv
    subst this
    cases rep_str.mp hx
    refine .inr ⟨p, _, rfl, hq, rfl, flat_strsV _, fin.go h r (rep_bl.mpr ?_)⟩
    rw [inV_strs]; simp
  · exact h.elim
/-- a op b op' c -/
def dChain (r r' : DR2) (ta tb tc : DTE) : DTE := fun σ M Q => ta σ M fun x M1 => tb σ M1 fun y M2 => r x y M2 fun z M3 => match z with
  | .bl k => IfB k (tc σ M3 fun w M4 => r' y w M4 Q) (Q (.bl false) M3)
  | _ => False
theorem lift_chain {K : PySem.W.Frag} {r r' : DR2} {σ : St} {H : Hp} {Q : VK} (h : LE K F0 (dChain r r' ta tb tc) σ H Q) : tChain (LR K F0 r) (LR K F0 r') (LE K F0 ta) (LE K F0 tb) (LE K F0 tc) σ H Q := by
  obtain ⟨σd, M, F, Qd, hF, hR, hS, h, fin⟩ := h
  refine ⟨σd, M, F, _, hF, hR, hS, h, fun x M1 v H1 F1 h1 e1 r1 v1 => ?_⟩
  refine ⟨σd, M1, F1, _, hF.trans e1, r1, hS.mono e1, h1, fun y M2 w H2 F2 h2 e2 r2 w2 => ?_⟩
  refine ⟨x, y, M2, F2, _, (hF.trans e1).trans e2, r2, v1.mono e2, w2, h2, fun z M3 zv H3 F3 h3 e3 r3 z3 => ?_⟩
  have e13 := (e1.trans e2).trans e3
  split at h3
  · rename_i k
    cases k with
    | true =>
      refine ⟨true, rep_bl.mp z3, ?_⟩
      rw [if_pos rfl]
      refine ⟨σd, M3, F3, _, hF.trans e13, r3, hS.mono e13, h3, fun u M4 uv H4 F4 h4 e4 r4 u4 => ?_⟩
      exact ⟨y, u, M4, F4, Qd, (hF.trans e13).trans e4, r4, w2.mono (e3.trans e4), u4, h4, fin.mono (e13.trans e4)⟩
    | false =>
      refine ⟨false, rep_bl.mp z3, ?_⟩
      rw [if_neg Bool.false_ne_true]
      exact fin _ _ _ _ _ h3 e13 r3 (rep_bl.mpr rfl)
  · exact h3.elim

/-! ### displays, arguments -/
variable {es : List Expr} {tr : DTA}
def dNil : DTA := fun _ M Q => Q [] M
def dCons (ta : DTE) (tr : DTA) : DTA := fun σ M Q => ta σ M fun x M1 => tr σ M1 fun xs M2 => Q (x :: xs) M2
theorem da_nil : DA X F0 [] dNil := PA_imp pa_nil fun σ H Q ⟨σd, M, F, Qd, hF, r, hS, h, fin⟩ => fin _ _ _ _ F h (Same.refl F) r Reps.nil
theorem da_cons (ha : DE X F0 e te) (hr : DA X F0 es tr) (hs : starEach (e :: es) X.env = (false, eval e X.env) :: starEach es X.env := by rfl) : DA X F0 (e :: es) (dCons te tr) :=
  PA_imp (pa_cons ha hr hs) fun σ H Q ⟨σd, M, F, Qd, hF, r, hS, h, fin⟩ => ⟨σd, M, F, _, hF, r, hS, h, fun x M1 v H1 F1 h1 e1 r1 v1 =>
    ⟨σd, M1, F1, _, hF.trans e1, r1, hS.mono e1, h1, fun xs M2 vs H2 F2 h2 e2 r2 vs2 => fin _ _ _ _ F2 h2 (e1.trans e2) r2 (.cons (v1.mono e2) vs2)⟩⟩
def dTup (t : DTA) : DTE := fun σ M Q => t σ M fun xs M1 => xs.length ≤ sizeLine ∧ Q (.tup xs) M1
def dLst (own : Bool) (t : DTA) : DTE := fun σ M Q => t σ M fun xs M1 => xs.length ≤ sizeLine ∧ dNew own xs M1 Q
theorem de_tup {x1} (h : DA X F0 es tr) : DE X F0 (.Tuple es x1 pos) (dTup tr) :=
  PE_imp (pe_tup h) fun σ H Q ⟨σd, M, F, Qd, hF, r, hS, h, fin⟩ => ⟨σd, M, F, _, hF, r, hS, h, fun xs M1 vs H1 F1 h1 e1 r1 v1 =>
    ⟨by rw [← v1.length]; exact h1.1, fun p hp => tup_fin r1 v1 h1.2 (fin.mono e1) hp⟩⟩
theorem de_lst {own : Bool} (h : DA X F0 es tr) : DE X F0 (.List es pos) (dLst own tr) :=
  PE_imp (pe_lst h) fun σ H Q ⟨σd, M, F, Qd, hF, r, hS, h, fin⟩ => ⟨σd, M, F, _, hF, r, hS, h, fun xs M1 vs H1 F1 h1 e1 r1 v1 =>
    ⟨by rw [← v1.length]; exact h1.1, fun p hp => dNew_fin r1 v1 h1.2 (fin.mono e1) hp⟩⟩

/-! ### subscripts -/
def dIx : DR2 := fun x y M Q => match x, y with
  | .str z, .int i => z.length ≤ sizeLine ∧ ∃ c, atI z.cps.toList i = some c ∧ Q (.str ⟨#[c]⟩) M
  | x, .int i => ∃ ds d, sqD M x = some ds ∧ atI ds i = some d ∧ Q d M
  | _, _ => False
theorem Reps.atI {K : PySem.W.Frag} {F : Hp} {ds : List D} {vs : List V} (h : Reps K F ds vs) {i : Int} {d : D} (e : L2.atI ds i = some d) : ∃ v, L2.atI vs i = some v ∧ Rep K F d v := by
  unfold L2.atI at e ⊢
  rw [← h.length]
  cases q : ixN ds.length i with
  | none => rw [q] at e; cases e
  | some j =>
    rw [q] at e
    exact h.getD (show ds[j]? = some d from e)
theorem xd_ix : IxR X (LR X.K F0 dIx) := by
  refine IxR_imp ix_seq fun v u H Q ⟨x, y, M, F, Qd, hF, r, hx, hy, h, fin⟩ => ?_
  unfold dIx at h
  split at h
  · obtain ⟨hz, c, e, h⟩ := h
    exact .inr (.inr ⟨_, _, c, rep_str.mp hx, rep_int.mp hy, hz, e, fin.go h r (rep_str.mpr rfl)⟩)
  · obtain ⟨ds, d, e1, e2, h⟩ := h
    obtain ⟨p, vs, rfl, hq, hr⟩ := sqD_rep r hx e1
    obtain ⟨w, e3, hw⟩ := hr.atI e2
    rcases hq with hq | hq
    · exact .inl ⟨p, vs, _, w, rfl, rep_int.mp hy, hq, e3, fin.go h r hw⟩
    · exact .inr (.inl ⟨p, vs, _, w, rfl, rep_int.mp hy, hq, e3, fin.go h r hw⟩)
  · exact h.elim
theorem de_ix (ha : DE X F0 a ta) (hb : DE X F0 b tb) (hs : PlainIx b) : DE X F0 (.Subscript a b pos) (dOp dIx ta tb) := PE_imp (pe_ix xd_ix ha hb hs) fun _ _ _ h => lift_op h

abbrev DTO := DS → Mp → (Option Int → Mp → Prop) → Prop
def LO (K : PySem.W.Frag) (F0 : Hp) (τ : DTO) : TO := fun σ H Q => ∃ σd M F Qd, Same F0 F ∧ R K M F H ∧ SRep K F σd σ ∧ τ σd M Qd ∧ ∀ o M' H' F', Qd o M' → Same F F' → R K M' F' H' → Q o H'
abbrev DO (X : Cx) (F0 : Hp) (e : Option Expr) (τ : DTO) : Prop := PO X e (LO X.K F0 τ)
theorem PO_imp {e : Option Expr} {t t' : TO} (h : PO X e t) (i : ∀ σ H Q, t' σ H Q → t σ H Q) : PO X e t' := ⟨fun pins s σ H Q I q => h.run pins s σ H Q I (i σ H Q q)⟩
def dNoPart : DTO := fun _ M Q => Q none M
def dPart (t : DTE) : DTO := fun σ M Q => t σ M fun x M1 => match x with
  | .int i => Q (some i) M1
  | _ => False
theorem do_none : DO X F0 none dNoPart := PO_imp po_none fun σ H Q ⟨σd, M, F, Qd, hF, r, hS, h, fin⟩ => fin _ _ _ F h (Same.refl F) r
theorem do_some (h : DE X F0 e te) : DO X F0 (some e) (dPart te) := PO_imp (po_some h) fun σ H Q ⟨σd, M, F, Qd, hF, r, hS, h, fin⟩ => ⟨σd, M, F, _, hF, r, hS, h, fun x M1 v H1 F1 h1 e1 r1 v1 => by
  split at h1
  · exact ⟨_, rep_int.mp v1, fin _ _ _ _ h1 e1 r1⟩
  · exact h1.elim⟩
def cutL {α : Type} (xs : List α) (lo hi : Option Int) : List α := (xs.drop (HT.sIx xs.length 0 lo)).take (HT.sIx xs.length xs.length hi - HT.sIx xs.length 0 lo)
theorem Reps.cut {K : PySem.W.Frag} {F : Hp} {ds : List D} {vs : List V} (h : Reps K F ds vs) (lo hi : Option Int) : Reps K F (cutL ds lo hi) (cutV vs lo hi) := by
  unfold cutL cutV
  rw [← h.length]
  exact (h.drop _).take _
/-- x[lo:hi] -/
def dSl (own : Bool) : D → Option Int → Option Int → Mp → DK → Prop := fun x lo hi M Q => match x with
  | .tup ds => Q (.tup (cutL ds lo hi)) M
  | .rdl ns => dNew own ((cutL ns lo hi).map D.int) M Q
  | .str z => z.length ≤ sizeLine ∧ Q (.str ⟨(cutL z.cps.toList lo hi).toArray⟩) M
  | x => ∃ ds, lsD M x = some ds ∧ dNew own (cutL ds lo hi) M Q
def LSl (K : PySem.W.Frag) (F0 : Hp) (r : D → Option Int → Option Int → Mp → DK → Prop) : V → Option Int → Option Int → Hp → VK → Prop := fun v lo hi H Q => ∃ x M F Qd, Same F0 F ∧ R K M F H ∧ Rep K F x v ∧ r x lo hi M Qd ∧ Fin K F Qd Q
theorem SlR_imp {r r' : V → Option Int → Option Int → Hp → VK → Prop} (h : SlR X r) (i : ∀ x lo hi H Q, r' x lo hi H Q → r x lo hi H Q) : SlR X r' := fun pins s σ H x v vl vu lo hi sl Q I rx hs pl pu q => h pins s σ H x v vl vu lo hi sl Q I rx hs pl pu (i x lo hi H Q q)
theorem cutL_whole {α : Type} {xs : List α} {lo hi : Option Int} (h : HT.sIx xs.length 0 lo = 0 ∧ HT.sIx xs.length xs.length hi = xs.length) : cutL xs lo hi = xs := by
  unfold cutL
  rw [h.1, h.2]
  simp
theorem cutL_map {α β : Type} (f : α → β) (xs : List α) (lo hi : Option Int) : cutL (xs.map f) lo hi = (cutL xs lo hi).map f := by
  unfold cutL
  rw [List.length_map, List.map_take, List.map_drop]
theorem sd_sl {own : Bool} : SlR X (LSl X.K F0 (dSl own)) := by
  refine SlR_imp (sl_tupA.or (sl_list.or sl_str)) fun v lo hi H Q ⟨x, M, F, Qd, hF, r, hx, h, fin⟩ => ?_
  unfold dSl at h
  split at h
  · rename_i ds
    obtain ⟨a, vs, rfl, hq, hr⟩ := rep_tup.mp hx
    refine .inl ⟨a, vs, rfl, sqT_up r hq, fun hw => ?_, fun _ p hp => tup_fin r (hr.cut lo hi) h fin hp⟩
    rw [← hr.length] at hw
    rw [cutL_whole hw] at h
    exact fin.go h r hx
  · rename_i ns
    obtain ⟨a, rfl, hq⟩ := rep_rdl.mp hx
    refine .inr (.inl ⟨a, _, rfl, sqL_up r hq, fun p hp => ?_⟩)
    refine dNew_fin r (vs := cutV (ns.map V.int) lo hi) ?_ h fin hp
    have e : cutV (ns.map V.int) lo hi = (cutL ns lo hi).map V.int := cutL_map V.int ns lo hi
    rw [e]
    exact Reps.ints
  · rename_i z
    refine .inr (.inr ⟨z, rep_str.mp hx, h.1, fin.go h.2 r (rep_str.mpr ?_)⟩)
    unfold cutL
    rw [show z.cps.toList.length = z.length by simp [Str.length]]
    rfl
  · obtain ⟨ds, e1, h⟩ := h
    obtain ⟨p, vs, rfl, hq, hr⟩ := lsD_rep r hx e1
    exact .inr (.inl ⟨p, vs, rfl, SqL.of hq, fun p hp => dNew_fin r (hr.cut lo hi) h fin hp⟩)
def dSlE (r : D → Option Int → Option Int → Mp → DK → Prop) (te : DTE) (tl th : DTO) : DTE := fun σ M Q => te σ M fun x M1 => tl σ M1 fun l M2 => th σ M2 fun u M3 => r x l u M3 Q
theorem de_sl {own : Bool} {lo hi : Option Expr} {tl th : DTO} {p2 : Pos} (he : DE X F0 e te) (hl : DO X F0 lo tl) (hu : DO X F0 hi th) : DE X F0 (.Subscript e (.Slice lo hi none p2) pos) (dSlE (dSl own) te tl th) :=
  PE_imp (pe_slice sd_sl he hl hu) fun σ H Q ⟨σd, M, F, Qd, hF, hR, hS, h, fin⟩ => ⟨σd, M, F, _, hF, hR, hS, h, fun x M1 v H1 F1 h1 e1 r1 v1 =>
    ⟨σd, M1, F1, _, hF.trans e1, r1, hS.mono e1, h1, fun l M2 H2 F2 h2 e2 r2 => ⟨σd, M2, F2, _, (hF.trans e1).trans e2, r2, hS.mono (e1.trans e2), h2, fun u M3 H3 F3 h3 e3 r3 =>
      ⟨x, M3, F3, Qd, ((hF.trans e1).trans e2).trans e3, r3, v1.mono (e2.trans e3), h3, fin.mono ((e1.trans e2).trans e3)⟩⟩⟩⟩
/-- x[::-1] of a list -/
def dRev (own : Bool) (te : DTE) : DTE := fun σ M Q => te σ M fun x M1 => ∃ ds, lsD M1 x = some ds ∧ dNew own ds.reverse M1 Q
theorem de_rev {own : Bool} {k : Nat} {p1 p2 p3 : Pos} (he : DE X F0 e te) : DE X F0 (.Subscript e (.Slice none none (some (.UnaryOp .USub (.Constant (.int 1) k p1) p2)) p3) pos) (dRev own te) :=
  PE_imp (pe_revL he) fun σ H Q ⟨σd, M, F, Qd, hF, hR, hS, h, fin⟩ => ⟨σd, M, F, _, hF, hR, hS, h, fun x M1 v H1 F1 ⟨ds, e0, h1⟩ e1 r1 v1 => by
    obtain ⟨p, vs, rfl, hq, hr⟩ := lsD_rep r1 v1 e0
    exact ⟨p, vs, rfl, SqL.of hq, fun p' hp' => dNew_fin r1 hr.reverse h1 (fin.mono e1) hp'⟩⟩

/-! ### calls of built-in things by values -/
def dCB (r : DRC) (t : DTA) : DTE := fun σ M Q => t σ M fun xs M1 => r xs M1 Q
theorem lift_CB {K : PySem.W.Frag} {r : DRC} {t : DTA} {σ : St} {H : Hp} {Q : VK} (h : LE K F0 (dCB r t) σ H Q) : tCB (LRC K F0 r) (LA K F0 t) σ H Q := by
  obtain ⟨σd, M, F, Qd, hF, hR, hS, h, fin⟩ := h
  exact ⟨σd, M, F, _, hF, hR, hS, h, fun xs M1 vs H1 F1 h1 e1 r1 v1 => ⟨xs, M1, F1, Qd, hF.trans e1, r1, v1, h1, fin.mono e1⟩⟩
theorem de_callB {x : Str} {p : Pos} {id : String} {r : DRC} (hc : CallR X (.builtin id) (LRC X.K F0 r)) (hg : Gl X x) (hm : X.mg x = none) (hv : bootBuiltins x = some (.builtin id)) (ha : DA X F0 (e :: es) tr) (hn : x ≠ "__name__" := by decide) (hdb : (x == ("__debug__" : Str)) = false := by decide) (hs : starEach (e :: es) X.env = (false, eval e X.env) :: starEach es X.env := by rfl) (hpl : (backTo pos (starEach es X.env)).any (·.1) = false := by rfl) : DE X F0 (.Call (.Name x p) (e :: es) [] pos) (dCB r tr) :=
  PE_imp (pe_callB hc hg hm hv ha hn hdb hs hpl) fun _ _ _ h => lift_CB h
theorem de_callTy {x : Str} {p : Pos} {T : String} {r : DRC} (hc : CallR X (.type T) (LRC X.K F0 r)) (hg : Gl X x) (hm : X.mg x = none) (hv : bootBuiltins x = some (.type T)) (ha : DA X F0 (e :: es) tr) (hn : x ≠ "__name__" := by decide) (hdb : (x == ("__debug__" : Str)) = false := by decide) (hs : starEach (e :: es) X.env = (false, eval e X.env) :: starEach es X.env := by rfl) (hpl : (backTo pos (starEach es X.env)).any (·.1) = false := by rfl) : DE X F0 (.Call (.Name x p) (e :: es) [] pos) (dCB r tr) :=
  PE_imp (pe_callTy hc hg hm hv ha hn hdb hs hpl) fun _ _ _ h => lift_CB h
theorem Reps.one {K : PySem.W.Frag} {F : Hp} {d : D} {vs : List V} (h : Reps K F [d] vs) : ∃ v, vs = [v] ∧ Rep K F d v := by
  obtain ⟨v, vs', rfl, h1, h2⟩ := h.consD_inv
  rw [h2.nil_inv]
  exact ⟨v, rfl, h1⟩
theorem Reps.two {K : PySem.W.Frag} {F : Hp} {d d' : D} {vs : List V} (h : Reps K F [d, d'] vs) : ∃ v v', vs = [v, v'] ∧ Rep K F d v ∧ Rep K F d' v' := by
  obtain ⟨v, vs', rfl, h1, h2⟩ := h.consD_inv
  obtain ⟨v', rfl, h3⟩ := h2.one
  exact ⟨v, v', rfl, h1, h3⟩
def dLen : DRC := fun xs M Q => match xs with
  | [.str z] => z.length ≤ sizeLine ∧ Q (.int z.length) M
  | [x] => ∃ ds, sqD M x = some ds ∧ Q (.int ds.length) M
  | _ => False
theorem cd_len : CallR X (.builtin "len") (LRC X.K F0 dLen) := by
  refine CallR_imp call_len fun vs H Q ⟨xs, M, F, Qd, hF, r, hx, h, fin⟩ => ?_
  unfold dLen at h
  split at h
  · obtain ⟨v, rfl, h1⟩ := hx.one
    cases rep_str.mp h1
    exact ⟨_, _, rfl, ⟨h.1, rfl⟩, fin.go h.2 r (rep_int.mpr rfl)⟩
  · obtain ⟨ds, e1, h⟩ := h
    obtain ⟨v, rfl, h1⟩ := hx.one
    obtain ⟨p, vs, rfl, hq, hr⟩ := sqD_rep r h1 e1
    refine ⟨_, vs.length, rfl, ?_, fin.go h r (rep_int.mpr (by rw [hr.length]))⟩
    rcases hq with hq | hq
    · exact .inl ⟨vs, hq, rfl⟩
    · exact .inr ⟨vs, hq, rfl⟩
  · exact h.elim
def dIntC : DRC := fun xs M Q => match xs with
  | [.int i] => Q (.int i) M
  | [.bl b] => Q (.int (if b then 1 else 0)) M
  | _ => False
theorem cd_int : CallR X (.type "int") (LRC X.K F0 dIntC) := by
  refine CallR_imp call_int1 fun vs H Q ⟨xs, M, F, Qd, hF, r, hx, h, fin⟩ => ?_
  unfold dIntC at h
  split at h
  · obtain ⟨v, rfl, h1⟩ := hx.one
    cases rep_int.mp h1
    exact .inl ⟨_, rfl, fin.go h r (rep_int.mpr rfl)⟩
  · obtain ⟨v, rfl, h1⟩ := hx.one
    cases rep_bl.mp h1
    exact .inr ⟨_, rfl, fin.go h r (rep_int.mpr rfl)⟩
  · exact h.elim
def dTupC : DRC := fun xs M Q => match xs with
  | [.tup ds] => Q (.tup ds) M
  | [x] => ∃ ds, lsD M x = some ds ∧ Q (.tup ds) M
  | _ => False
theorem cd_tuple : CallR X (.type "tuple") (LRC X.K F0 dTupC) := by
  refine CallR_imp call_tuple_of fun vs H Q ⟨xs, M, F, Qd, hF, r, hx, h, fin⟩ => ?_
  unfold dTupC at h
  split at h
  · obtain ⟨v, rfl, h1⟩ := hx.one
    obtain ⟨a, vs, rfl, hq, hr⟩ := rep_tup.mp h1
    exact ⟨a, vs, rfl, .inr ⟨sqT_up r hq, fin.go h r h1⟩⟩
  · obtain ⟨ds, e1, h⟩ := h
    obtain ⟨v, rfl, h1⟩ := hx.one
    obtain ⟨p, vs, rfl, hq, hr⟩ := lsD_rep r h1 e1
    exact ⟨p, vs, rfl, .inl ⟨SqL.of hq, fun l hl => tup_fin r hr h fin hl⟩⟩
  · exact h.elim
def dListC (own : Bool) : DRC := fun xs M Q => match xs with
  | [x] => ∃ ds, sqD M x = some ds ∧ dNew own ds M Q
  | _ => False
theorem cd_list {own : Bool} : CallR X (.type "list") (LRC X.K F0 (dListC own)) := by
  refine CallR_imp call_list_of fun vs H Q ⟨xs, M, F, Qd, hF, r, hx, h, fin⟩ => ?_
  unfold dListC at h
  split at h
  · obtain ⟨ds, e1, h⟩ := h
    obtain ⟨v, rfl, h1⟩ := hx.one
    obtain ⟨p, vs, rfl, hq, hr⟩ := sqD_rep r h1 e1
    exact ⟨p, vs, rfl, hq, fun l hl => dNew_fin r hr h fin hl⟩
  · exact h.elim
def dMax2 : DRC := fun xs M Q => match xs with
  | [.int i, .int j] => Q (.int (if j > i then j else i)) M
  | _ => False
theorem cd_max2 (hc : X.calm = true) : CallR X (.builtin "max") (LRC X.K F0 dMax2) := by
  refine CallR_imp (call_max2 hc) fun vs H Q ⟨xs, M, F, Qd, hF, r, hx, h, fin⟩ => ?_
  unfold dMax2 at h
  split at h
  · obtain ⟨v, v', rfl, h1, h2⟩ := hx.two
    cases rep_int.mp h1; cases rep_int.mp h2
    exact ⟨_, _, rfl, fin.go h r (rep_int.mpr rfl)⟩
  · exact h.elim
def dMin2 : DRC := fun xs M Q => match xs with
  | [.int i, .int j] => Q (.int (if j < i then j else i)) M
  | _ => False
theorem cd_min2 (hc : X.calm = true) : CallR X (.builtin "min") (LRC X.K F0 dMin2) := by
  refine CallR_imp (call_min2 hc) fun vs H Q ⟨xs, M, F, Qd, hF, r, hx, h, fin⟩ => ?_
  unfold dMin2 at h
  split at h
  · obtain ⟨v, v', rfl, h1, h2⟩ := hx.two
    cases rep_int.mp h1; cases rep_int.mp h2
    exact ⟨_, _, rfl, fin.go h r (rep_int.mpr rfl)⟩
  · exact h.elim

/-! ### methods of built-in things -/
def dBM (r : DRM) (to : DTE) (t : DTA) : DTE := fun σ M Q => to σ M fun x M1 => t σ M1 fun xs M2 => r x xs M2 Q
def isLst (x : D) (M : Mp) : Prop := ∃ p ds, x = .obj p ∧ M p = some (.lst ds)
/-- a method of a list that may change -/
def dBL (r : DRM) (to : DTE) (t : DTA) : DTE := fun σ M Q => to σ M fun x M1 => isLst x M1 ∧ t σ M1 fun xs M2 => r x xs M2 Q
theorem isLst_ty {K : PySem.W.Frag} {F H : Hp} {M : Mp} (r : R K M F H) {x : D} {v : V} (h : Rep K F x v) (e : isLst x M) : tyV K "list" v H := by
  obtain ⟨p, ds, rfl, hp⟩ := e
  obtain ⟨vs, h1, h2⟩ := r.mem p _ hp
  cases rep_obj.mp h
  exact .inl ⟨rfl, vs, SqL.of h1⟩
theorem de_bl1 {id : String} {name : Str} {apos cpos : Pos} {r : DRM} {o : Expr} {to : DTE} (slot : Slot "list" name id) (hty : typeOf (.builtin id) = pure (.type "method_descriptor")) (hm : MtR X id (LRM X.K F0 r)) (ho : DE X F0 o to) (ha : DA X F0 (e :: es) tr)
    (hbase : attributeBase o name X.env (eval o X.env) = eval o X.env := by rfl)
    (hfew : ((backTo cpos (starEach (e :: es) X.env)).all (fun x => !x.1) && (backToKw cpos (keywordEach [] X.env)).all (fun x => x.1.isSome)
      && decide ((e :: es).length + ([] : List Keyword).length + (if ([] : List Keyword).isEmpty then 0 else 1) < 30)) = true := by rfl)
    (hline : (apos.endLine == cpos.line) = true := by rfl) (hs : starEach (e :: es) X.env = (false, eval e X.env) :: starEach es X.env := by rfl) (hplain : (backTo cpos (starEach es X.env)).any (·.1) = false := by rfl) :
    DE X F0 (.Call (.Attribute o name apos) (e :: es) [] cpos) (dBL r to tr) :=
  PE_imp (pe_bm F.plainAttrs_list slot hty hm ho ha hbase hfew hline hs hplain) fun σ H Q ⟨σd, M, F, Qd, hF, hR, hS, h, fin⟩ => ⟨σd, M, F, _, hF, hR, hS, h, fun x M1 v H1 F1 h1 e1 r1 v1 =>
    ⟨isLst_ty r1 v1 h1.1, σd, M1, F1, _, hF.trans e1, r1, hS.mono e1, h1.2, fun xs M2 vs H2 F2 h2 e2 r2 vs2 => ⟨x, xs, M2, F2, Qd, (hF.trans e1).trans e2, r2, v1.mono e2, vs2, h2, fin.mono (e1.trans e2)⟩⟩⟩
def dBL0 (r : DRM) (to : DTE) : DTE := fun σ M Q => to σ M fun x M1 => isLst x M1 ∧ r x [] M1 Q
theorem de_bl0 {id : String} {name : Str} {apos cpos : Pos} {r : DRM} {o : Expr} {to : DTE} (slot : Slot "list" name id) (hty : typeOf (.builtin id) = pure (.type "method_descriptor")) (hm : MtR X id (LRM X.K F0 r)) (ho : DE X F0 o to)
    (hbase : attributeBase o name X.env (eval o X.env) = eval o X.env := by rfl) (hline : (apos.endLine == cpos.line) = true := by rfl) : DE X F0 (.Call (.Attribute o name apos) [] [] cpos) (dBL0 r to) :=
  PE_imp (pe_bm0 F.plainAttrs_list slot hty hm ho hbase hline) fun σ H Q ⟨σd, M, F, Qd, hF, hR, hS, h, fin⟩ => ⟨σd, M, F, _, hF, hR, hS, h, fun x M1 v H1 F1 h1 e1 r1 v1 =>
    ⟨isLst_ty r1 v1 h1.1, x, [], M1, F1, Qd, hF.trans e1, r1, v1, .nil, h1.2, fin.mono e1⟩⟩
def dAppend : DRM := fun x xs M Q => ∃ p ds y, x = .obj p ∧ xs = [y] ∧ M p = some (.lst ds) ∧ ds.length < sizeLine ∧ Q .non (updM M p (.lst (ds ++ [y])))
theorem md_append : MtR X "list.append" (LRM X.K F0 dAppend) := by
  refine MtR_imp mt_append fun v vs H Q ⟨x, xs, M, F, Qd, hF, r, hx, hxs, ⟨p, ds, y, e1, e2, hp, hz, h⟩, fin⟩ => ?_
  subst e1 e2
  obtain ⟨u, rfl, hu⟩ := hxs.one
  obtain ⟨vs, h1, h2⟩ := r.mem p _ hp
  cases rep_obj.mp hx
  exact ⟨p, vs, u, rfl, rfl, h1, by rw [← h2.length]; exact hz, fin.go h (r.setM hp (h2.append (.cons hu .nil))) (rep_non.mpr rfl)⟩
def dExtend : DRM := fun x xs M Q => ∃ p ds y es, x = .obj p ∧ xs = [y] ∧ M p = some (.lst ds) ∧ lsD M y = some es ∧ ds.length + es.length ≤ sizeLine ∧ Q .non (updM M p (.lst (ds ++ es)))
theorem md_extend : MtR X "list.extend" (LRM X.K F0 dExtend) := by
  refine MtR_imp mt_extend fun v vs H Q ⟨x, xs, M, F, Qd, hF, r, hx, hxs, ⟨p, ds, y, es, e1, e2, hp, hy, hz, h⟩, fin⟩ => ?_
  subst e1 e2
  obtain ⟨u, rfl, hu⟩ := hxs.one
  obtain ⟨vs, h1, h2⟩ := r.mem p _ hp
  cases rep_obj.mp hx
  obtain ⟨q, us, rfl, h3, h4⟩ := lsD_rep r hu hy
  exact ⟨p, q, vs, us, rfl, rfl, h1, h3, by rw [← h2.length, ← h4.length]; exact hz, fin.go h (r.setM hp (h2.append h4)) (rep_non.mpr rfl)⟩
def dPop : DRM := fun x xs M Q => ∃ p ds y, x = .obj p ∧ xs = [] ∧ M p = some (.lst ds) ∧ ds.getLast? = some y ∧ Q y (updM M p (.lst ds.dropLast))
theorem md_pop : MtR X "list.pop" (LRM X.K F0 dPop) := by
  refine MtR_imp mt_pop fun v vs H Q ⟨x, xs, M, F, Qd, hF, r, hx, hxs, ⟨p, ds, y, e1, e2, hp, hz, h⟩, fin⟩ => ?_
  subst e1 e2
  cases hxs.nil_inv
  obtain ⟨vs, h1, h2⟩ := r.mem p _ hp
  cases rep_obj.mp hx
  rw [List.getLast?_eq_getElem?] at hz
  obtain ⟨u, h3, h4⟩ := h2.getD hz
  rw [h2.length] at h3
  exact ⟨p, vs, u, rfl, rfl, h1, h3, fin.go h (r.setM hp h2.dropLast) h4⟩
def dReverse : DRM := fun x xs M Q => ∃ p ds, x = .obj p ∧ xs = [] ∧ M p = some (.lst ds) ∧ Q .non (updM M p (.lst ds.reverse))
theorem md_reverse : MtR X "list.reverse" (LRM X.K F0 dReverse) := by
  refine MtR_imp mt_reverse fun v vs H Q ⟨x, xs, M, F, Qd, hF, r, hx, hxs, ⟨p, ds, e1, e2, hp, h⟩, fin⟩ => ?_
  subst e1 e2
  cases hxs.nil_inv
  obtain ⟨vs, h1, h2⟩ := r.mem p _ hp
  cases rep_obj.mp hx
  exact ⟨p, vs, rfl, rfl, h1, fin.go h (r.setM hp h2.reverse) (rep_non.mpr rfl)⟩
/-- methods of texts -/
def dS0 (r : Str → Mp → DK → Prop) (to : DTE) : DTE := fun σ M Q => to σ M fun x M1 => match x with
  | .str z => r z M1 Q
  | _ => False
def LS0 (K : PySem.W.Frag) (F0 : Hp) (r : Str → Mp → DK → Prop) : V → List V → Hp → VK → Prop := fun v vs H Q => ∃ z M F Qd, v = .str z ∧ vs = [] ∧ Same F0 F ∧ R K M F H ∧ r z M Qd ∧ Fin K F Qd Q
theorem de_s0 {id : String} {name : Str} {apos cpos : Pos} {r : Str → Mp → DK → Prop} {o : Expr} {to : DTE} (slot : Slot "str" name id) (ty : typeOf (.builtin id) = pure (.type "method_descriptor")) (rule : MtR X id (LS0 X.K F0 r)) (ho : DE X F0 o to)
    (hbase : attributeBase o name X.env (eval o X.env) = eval o X.env := by rfl) (hline : (apos.endLine == cpos.line) = true := by rfl) : DE X F0 (.Call (.Attribute o name apos) [] [] cpos) (dS0 r to) :=
  PE_imp (pe_m0 slot ty rule ho hbase hline) fun σ H Q ⟨σd, M, F, Qd, hF, hR, hS, h, fin⟩ => ⟨σd, M, F, _, hF, hR, hS, h, fun x M1 v H1 F1 h1 e1 r1 v1 => by
    split at h1
    · exact ⟨⟨_, rep_str.mp v1⟩, _, M1, F1, Qd, rep_str.mp v1, rfl, hF.trans e1, r1, h1, fin.mono e1⟩
    · exact h1.elim⟩
def dS1 (r : Str → D → Mp → DK → Prop) (to te : DTE) : DTE := fun σ M Q => to σ M fun x M1 => match x with
  | .str z => te σ M1 fun y M2 => r z y M2 Q
  | _ => False
def LS1 (K : PySem.W.Frag) (F0 : Hp) (r : Str → D → Mp → DK → Prop) : V → List V → Hp → VK → Prop := fun v vs H Q => ∃ z y u M F Qd, v = .str z ∧ vs = [u] ∧ Rep K F y u ∧ Same F0 F ∧ R K M F H ∧ r z y M Qd ∧ Fin K F Qd Q
theorem de_s1 {id : String} {name : Str} {apos cpos : Pos} {r : Str → D → Mp → DK → Prop} {o : Expr} {to : DTE} (slot : Slot "str" name id) (ty : typeOf (.builtin id) = pure (.type "method_descriptor")) (rule : MtR X id (LS1 X.K F0 r)) (ho : DE X F0 o to) (he : DE X F0 e te)
    (hs : starEach [e] X.env = [(false, eval e X.env)] := by rfl) (hbase : attributeBase o name X.env (eval o X.env) = eval o X.env := by rfl) (hline : (apos.endLine == cpos.line) = true := by rfl) : DE X F0 (.Call (.Attribute o name apos) [e] [] cpos) (dS1 r to te) :=
  PE_imp (pe_m1 slot ty rule ho he hs hbase hline) fun σ H Q ⟨σd, M, F, Qd, hF, hR, hS, h, fin⟩ => ⟨σd, M, F, _, hF, hR, hS, h, fun x M1 v H1 F1 h1 e1 r1 v1 => by
    split at h1
    · exact ⟨⟨_, rep_str.mp v1⟩, σd, M1, F1, _, hF.trans e1, r1, hS.mono e1, h1, fun y M2 w H2 F2 h2 e2 r2 w2 => ⟨_, y, w, M2, F2, Qd, rep_str.mp v1, rfl, w2, (hF.trans e1).trans e2, r2, h2, fin.mono (e1.trans e2)⟩⟩
    · exact h1.elim⟩
def sUpper : Str → Mp → DK → Prop := fun z M Q => z.length ≤ 5592405 ∧ Q (.str (Txt.upper z)) M
theorem xs_upper : MtR X "str.upper" (LS0 X.K F0 sUpper) := MtR_imp mt_upper fun v vs H Q ⟨z, M, F, Qd, e1, e2, hF, r, h, fin⟩ => ⟨z, e1, e2, h.1, fin.go h.2 r (rep_str.mpr rfl)⟩
def sIsalnum : Str → Mp → DK → Prop := fun z M Q => Q (.bl (Txt.isalnum z)) M
theorem xs_isalnum : MtR X "str.isalnum" (LS0 X.K F0 sIsalnum) := MtR_imp mt_isalnum fun v vs H Q ⟨z, M, F, Qd, e1, e2, hF, r, h, fin⟩ => ⟨z, e1, e2, trivial, fin.go h r (rep_bl.mpr rfl)⟩
def sIsalpha : Str → Mp → DK → Prop := fun z M Q => Q (.bl (Txt.isalpha z)) M
theorem xs_isalpha : MtR X "str.isalpha" (LS0 X.K F0 sIsalpha) := MtR_imp mt_isalpha fun v vs H Q ⟨z, M, F, Qd, e1, e2, hF, r, h, fin⟩ => ⟨z, e1, e2, trivial, fin.go h r (rep_bl.mpr rfl)⟩
def sSplit (own : Bool) : Str → D → Mp → DK → Prop := fun z y M Q => match y with
  | .str b => (b.length == 0) = false ∧ z.length + 2 ≤ sizeLine ∧ dNew own ((Txt.split z b).map D.str) M Q
  | _ => False
theorem xs_split {own : Bool} : MtR X "str.split" (LS1 X.K F0 (sSplit own)) := MtR_imp mt_split fun v vs H Q ⟨z, y, u, M, F, Qd, e1, e2, hu, hF, r, h, fin⟩ => by
  unfold sSplit at h
  split at h
  · cases rep_str.mp hu
    exact ⟨z, _, e1, e2, h.1, h.2.1, fun p hp => dNew_fin r Reps.strs h.2.2 fin hp⟩
  · exact h.elim
def sJoin : Str → D → Mp → DK → Prop := fun z y M Q => ∃ xs, (sqD M y).bind strsD = some xs ∧ (xs.map (·.length)).sum + xs.length * z.length ≤ 16777216 ∧ Q (.str (Txt.join z xs)) M
theorem xs_join : MtR X "str.join" (LS1 X.K F0 sJoin) := MtR_imp mt_join fun v vs H Q ⟨z, y, u, M, F, Qd, e1, e2, hu, hF, r, ⟨xs, e, hz, h⟩, fin⟩ => by
  obtain ⟨ds, e3, e4⟩ := Option.bind_eq_some_iff.mp e
  obtain ⟨p, vs', rfl, hq, hr⟩ := sqD_rep r hu e3
  have := strsD_eq e4
  subst this
  have := hr.strs_inv
  subst this
  exact ⟨z, p, xs, e1, e2, hq, hz, fin.go h r (rep_str.mpr rfl)⟩
def sCount : Str → D → Mp → DK → Prop := fun z y M Q => match y with
  | .str b => Q (.int (Txt.count z b)) M
  | _ => False
theorem xs_count : MtR X "str.count" (LS1 X.K F0 sCount) := MtR_imp mt_count fun v vs H Q ⟨z, y, u, M, F, Qd, e1, e2, hu, hF, r, h, fin⟩ => by
  unfold sCount at h
  split at h
  · cases rep_str.mp hu
    exact ⟨z, _, e1, e2, fin.go h r (rep_int.mpr rfl)⟩
  · exact h.elim
def sEndswith : Str → D → Mp → DK → Prop := fun z y M Q => match y with
  | .str b => Q (.bl (Txt.endswith z b)) M
  | _ => False
theorem xs_endswith : MtR X "str.endswith" (LS1 X.K F0 sEndswith) := MtR_imp mt_endswith fun v vs H Q ⟨z, y, u, M, F, Qd, e1, e2, hu, hF, r, h, fin⟩ => by
  unfold sEndswith at h
  split at h
  · cases rep_str.mp hu
    exact ⟨z, _, e1, e2, fin.go h r (rep_bl.mpr rfl)⟩
  · exact h.elim
def sRfind : Str → D → Mp → DK → Prop := fun z y M Q => match y with
  | .str b => Q (.int (Txt.rfind z b)) M
  | _ => False
theorem xs_rfind : MtR X "str.rfind" (LS1 X.K F0 sRfind) := MtR_imp mt_rfind fun v vs H Q ⟨z, y, u, M, F, Qd, e1, e2, hu, hF, r, h, fin⟩ => by
  unfold sRfind at h
  split at h
  · cases rep_str.mp hu
    exact ⟨z, _, e1, e2, fin.go h r (rep_int.mpr rfl)⟩
  · exact h.elim
end
end DL
namespace DL
open PySem L2
section
variable {X : Cx} {F0 : Hp} {a b c e : Expr} {ta tb tc te : DTE} {pos : Pos} {es : List Expr} {tr : DTA}

/-! ### isinstance(x, T), T a built-in type -/
def tyD (x : D) (M : Mp) : Option String := match x with
  | .non => some "NoneType"
  | .bl _ => some "bool"
  | .int _ => some "int"
  | .str _ => some "str"
  | .tup _ => some "tuple"
  | .lst _ => some "list"
  | .rdl _ => none
  | .dic _ _ _ => none
  | .fin _ _ _ => none
  | .obj p => (match M p with
    | some (.lst _) => some "list"
    | _ => none)
theorem tyD_ok {K : PySem.W.Frag} {F H : Hp} {M : Mp} (r : R K M F H) {x : D} {v : V} {n : String} (h : Rep K F x v) (e : tyD x M = some n) : TyX K H v (.type n) := by
  cases x with
  | non => cases rep_non.mp h; cases e; exact .base .non
  | bl b => cases rep_bl.mp h; cases e; exact .base (.bl b)
  | int i => cases rep_int.mp h; cases e; exact .base (.int i)
  | str i => cases rep_str.mp h; cases e; exact .base (.str i)
  | rdl i => cases e
  | dic _ _ _ => cases e
  | fin _ _ _ => cases e
  | tup ds =>
    obtain ⟨a, vs, rfl, hq, _⟩ := rep_tup.mp h
    cases e
    rcases hq with (hq | ⟨o, hq⟩) | ⟨o, its, m, hk, hc, _⟩
    · exact .base (.tup (r.fr _ _ hq))
    · exact .fTuple (r.fr _ _ hq)
    · exact .kTuple hk hc
  | lst ds =>
    obtain ⟨a, vs, rfl, hq, _⟩ := rep_lst.mp h
    cases e
    exact .base (.lst (r.fr _ _ hq))
  | obj p =>
    cases rep_obj.mp h
    unfold tyD at e
    dsimp only at e
    split at e
    · rename_i ds hp
      cases e
      obtain ⟨vs, h1, _⟩ := r.mem p _ hp
      exact .base (.lst h1)
    · cases e
def dIsi (T : String) (te : DTE) : DTE := fun σ M Q => te σ M fun x M1 => ∃ n b, tyD x M1 = some n ∧ kitB n T = some b ∧ Q (.bl b) M1
theorem de_isi {p q : Pos} {T : Str} {n : String} (ha : DE X F0 a ta) (hg : Gl X "isinstance") (hm : X.mg "isinstance" = none) (hT : PE X (.Name T q) (tC (.ty n)))
    (hs : starEach [a, .Name T q] X.env = (false, eval a X.env) :: starEach [.Name T q] X.env := by rfl) (hs2 : starEach [.Name T q] X.env = (false, eval (.Name T q) X.env) :: starEach [] X.env := by rfl) (hpl : (backTo pos (starEach [.Name T q] X.env)).any (·.1) = false := by rfl) :
    DE X F0 (.Call (.Name "isinstance" p) [a, .Name T q] [] pos) (dIsi n ta) :=
  PE_imp (pe_callB call_isi hg hm (by decide +kernel) (pa_cons ha (pa_cons hT pa_nil hs2) hs) (by decide) (by decide) hs hpl) fun σ H Q ⟨σd, M, F, Qd, hF, hR, hS, h, fin⟩ => ⟨σd, M, F, _, hF, hR, hS, h, fun x M1 v H1 F1 ⟨m, b, e1, e2, h1⟩ e3 r1 v1 =>
    ⟨v, .ty n, .type m, .type n, b, rfl, .ty n, tyD_ok r1 v1 e1, kit_ty e2, fin _ _ _ _ _ h1 e3 r1 (rep_bl.mpr rfl)⟩⟩

/-! ### statements -/
variable {st : Stmt} {rest : List Stmt} {t u : DTS}
def dNext : DTS := fun D σ M => D.nx σ M
def dSeq (t u : DTS) : DTS := fun D σ M => t { D with nx := u D } σ M
theorem dss_nil : DSs X F0 [] dNext := PSs_imp pss_nil fun D σ H ⟨σd, M, F, Dd, hF, r, hS, h, fin⟩ => fin.nx _ _ _ _ F h (Same.refl F) r hS
theorem dss_cons (h1 : DSt X F0 st t) (h2 : DSs X F0 rest u) : DSs X F0 (st :: rest) (dSeq t u) :=
  PSs_imp (pss_cons h1 h2) fun D σ H ⟨σd, M, F, Dd, hF, r, hS, h, fin⟩ => ⟨σd, M, F, _, hF, r, hS, h, ⟨fun σd1 M1 σ1 H1 F1 q e1 r1 s1 => ⟨σd1, M1, F1, Dd, hF.trans e1, r1, s1, q, fin.mono e1⟩, fin.rt, fin.bk, fin.ct⟩⟩
theorem dss_one (h1 : DSt X F0 st t) : DSs X F0 [st] t := pss_one h1
def dBreak : DTS := fun D σ M => D.bk σ M
def dCont : DTS := fun D σ M => D.ct σ M
theorem ds_pass : DSt X F0 (.Pass pos) dNext := PS_imp ps_pass fun D σ H ⟨σd, M, F, Dd, hF, r, hS, h, fin⟩ => fin.nx _ _ _ _ F h (Same.refl F) r hS
theorem ds_break : DSt X F0 (.Break pos) dBreak := PS_imp ps_break fun D σ H ⟨σd, M, F, Dd, hF, r, hS, h, fin⟩ => fin.bk _ _ _ _ F h (Same.refl F) r hS
theorem ds_continue : DSt X F0 (.Continue pos) dCont := PS_imp ps_continue fun D σ H ⟨σd, M, F, Dd, hF, r, hS, h, fin⟩ => fin.ct _ _ _ _ F h (Same.refl F) r hS
theorem ds_doc {x j pos pos'} : DSt X F0 (.Expr (.Constant (.str x) j pos) pos') dNext := PS_imp ps_doc fun D σ H ⟨σd, M, F, Dd, hF, r, hS, h, fin⟩ => fin.nx _ _ _ _ F h (Same.refl F) r hS
def dDrop (te : DTE) : DTS := fun D σ M => te σ M fun _ M1 => D.nx σ M1
theorem ds_expr (he : DE X F0 e te) (hs : swapsWith e none pos.line X.env = pure false := by rfl) : DSt X F0 (.Expr e pos) (dDrop te) :=
  PS_imp (ps_expr he hs) fun D σ H ⟨σd, M, F, Dd, hF, r, hS, h, fin⟩ => ⟨σd, M, F, _, hF, r, hS, h, fun d M1 v H1 F1 q e1 r1 v1 => fin.nx _ _ _ _ F1 q e1 r1 (hS.mono e1)⟩
def dRet (te : DTE) : DTS := fun D σ M => te σ M D.rt
theorem ds_ret (he : DE X F0 e te) : DSt X F0 (.Return (some e) pos) (dRet te) :=
  PS_imp (ps_ret he) fun D σ H ⟨σd, M, F, Dd, hF, r, hS, h, fin⟩ => ⟨σd, M, F, _, hF, r, hS, h, fin.rt⟩
def dRetN : DTS := fun D _ M => D.rt .non M
theorem ds_retN : DSt X F0 (.Return none pos) dRetN := PS_imp ps_retN fun D σ H ⟨σd, M, F, Dd, hF, r, hS, h, fin⟩ => fin.rt.go h r (rep_non.mpr rfl)
def dIfS (c : DTT) (t u : DTS) : DTS := fun D σ M => c σ M fun b M1 => IfB b (t D σ M1) (u D σ M1)
theorem ds_if {c : Expr} {a b : List Stmt} {tc : DTT} (hc : DT X F0 c tc) (ha : DSs X F0 a t) (hb : DSs X F0 b u) : DSt X F0 (.If c a b pos) (dIfS tc t u) :=
  PS_imp (ps_if hc ha hb) fun D σ H ⟨σd, M, F, Dd, hF, r, hS, h, fin⟩ => ⟨σd, M, F, _, hF, r, hS, h, fun b M1 H1 F1 q e1 r1 => by
    cases b with
    | true => exact iteT ⟨σd, M1, F1, Dd, hF.trans e1, r1, hS.mono e1, q, fin.mono e1⟩
    | false => exact iteF ⟨σd, M1, F1, Dd, hF.trans e1, r1, hS.mono e1, q, fin.mono e1⟩⟩
def dNever : DTS := fun _ _ _ => False
theorem ds_never : DSt X F0 st dNever := PS_imp ps_never fun D σ H ⟨σd, M, F, Dd, hF, r, hS, h, fin⟩ => h.elim
theorem dss_never {sts : List Stmt} : DSs X F0 sts dNever := PSs_imp pss_never fun D σ H ⟨σd, M, F, Dd, hF, r, hS, h, fin⟩ => h.elim

/-! ### targets -/
def nGm (i : Nat) : DTG := fun d σ M Q => Q (σ.set i (some d)) M
theorem dg_name {i : Nat} {x : Str} (h : PG X (.Name x pos) (gName i)) : DG X F0 (.Name x pos) (nGm i) :=
  PG_imp h fun v σ H Q ⟨d, σd, M, F, Qd, hF, r, hv, hS, h, fin⟩ => fin _ _ _ _ F h (Same.refl F) r (hS.set i hv)
def nNil : DTGs := fun ds σ M Q => ds = [] ∧ Q σ M
def nCons (t : DTG) (u : DTGs) : DTGs := fun ds σ M Q => match ds with
  | d :: r => t d σ M fun σ' M' => u r σ' M' Q
  | [] => False
theorem dgs_nil : DGs X F0 [] nNil := PGs_imp pgs_nil fun v σ H Q ⟨ds, σd, M, F, Qd, hF, r, hv, hS, ⟨e, h⟩, fin⟩ => by
  subst e
  exact ⟨hv.nil_inv, fin _ _ _ _ F h (Same.refl F) r hS⟩
theorem dgs_cons {tg : Expr} {tgs : List Expr} {t : DTG} {u : DTGs} (h1 : DG X F0 tg t) (h2 : DGs X F0 tgs u)
    (hs : (assignEach (tg :: tgs) X.env).map (·.2) = assign tg X.env :: (assignEach tgs X.env).map (·.2) := by rfl) : DGs X F0 (tg :: tgs) (nCons t u) :=
  PGs_imp (pgs_cons h1 h2 hs) fun v σ H Q ⟨ds, σd, M, F, Qd, hF, r, hv, hS, h, fin⟩ => by
    unfold nCons at h
    split at h
    · obtain ⟨v1, vs, rfl, r1, r2⟩ := hv.consD_inv
      exact ⟨v1, vs, rfl, _, σd, M, F, _, hF, r, r1, hS, h, fun σd1 M1 σ1 H1 F1 q e1 rr s1 => ⟨_, σd1, M1, F1, Qd, hF.trans e1, rr, r2.mono e1, s1, q, fin.mono e1⟩⟩
    · exact h.elim
def nTup (n : Nat) (t : DTGs) : DTG := fun d σ M Q => match d with
  | .tup ds => ds.length = n ∧ t ds σ M Q
  | _ => False
theorem dg_tup {tgs : List Expr} {k : Nat} {t : DTGs} {n : Nat} (hc : X.calm = true) (h : DGs X F0 tgs t)
    (hn : (assignEach tgs X.env).length = n := by rfl) (hst : (assignEach tgs X.env).findIdx? (·.1) = none := by rfl) : DG X F0 (.Tuple tgs k pos) (nTup n t) :=
  PG_imp (pg_tup hc h hn hst) fun v σ H Q ⟨d, σd, M, F, Qd, hF, r, hv, hS, h, fin⟩ => by
    unfold nTup at h
    split at h
    · obtain ⟨a, vs, rfl, hq, hr⟩ := rep_tup.mp hv
      exact ⟨a, vs, rfl, sqT_up r hq, by rw [← hr.length]; exact h.1, _, σd, M, F, Qd, hF, r, hr, hS, h.2, fin⟩
    · exact h.elim
/-- o[i] = v, o a list that may change -/
def nSub (to ti : DTE) : DTG := fun d σ M Q => to σ M fun o M1 => ti σ M1 fun i M2 => ∃ p ds k j, o = .obj p ∧ i = .int k ∧ M2 p = some (.lst ds) ∧ ixN ds.length k = some j ∧ Q σ (updM M2 p (.lst (ds.set j d)))
theorem dg_sub {o i : Expr} {to ti : DTE} (ho : DE X F0 o to) (hi : DE X F0 i ti)
    (ha : ∀ v, assign (.Subscript o i pos) X.env v = (do
      let ov ← holding [v] (eval o X.env)
      let iv ← holding [v, ov] (eval i X.env)
      standAt pos
      holding [v, ov, iv] (setItem ov iv v)
      release [v, ov, iv] []) := by intro _; rfl) : DG X F0 (.Subscript o i pos) (nSub to ti) :=
  PG_imp (pg_sub ho hi set_list ha) fun v σ H Q ⟨d, σd, M, F, Qd, hF, r, hv, hS, h, fin⟩ => ⟨σd, M, F, _, hF, r, hS, h, fun ov M1 ou H1 F1 q e1 r1 o1 =>
    ⟨σd, M1, F1, _, hF.trans e1, r1, hS.mono e1, q, fun iv M2 iu H2 F2 q2 e2 r2 i2 => by
      obtain ⟨p, ds, k, j, rfl, rfl, hp, hj, q2⟩ := q2
      obtain ⟨vs, h1, h2⟩ := r2.mem p _ hp
      have e12 := e1.trans e2
      refine ⟨p, vs, k, j, rep_obj.mp o1, rep_int.mp i2, h1, by rw [← h2.length]; exact hj, ?_⟩
      exact fin _ _ _ _ F2 q2 e12 (r2.setM hp (h2.set j (hv.mono e12))) (hS.mono e12)⟩⟩
def dAsg (te : DTE) (g : DTG) : DTS := fun D σ M => te σ M fun x M1 => g x σ M1 D.nx
theorem lift_asg {K : PySem.W.Frag} {g : DTG} {D : Ends} {σ : St} {H : Hp} (h : LS K F0 (dAsg te g) D σ H) : tAsg (LE K F0 te) (LG K F0 g) D σ H := by
  obtain ⟨σd, M, F, Dd, hF, r, hS, h, fin⟩ := h
  exact ⟨σd, M, F, _, hF, r, hS, h, fun x M1 v H1 F1 q e1 r1 v1 => ⟨x, σd, M1, F1, _, hF.trans e1, r1, v1, hS.mono e1, q, fin.nx.mono e1⟩⟩
theorem ds_asg {tg e : Expr} {g : DTG} (he : DE X F0 e te) (hg : DG X F0 tg g) (hs : swapsWithSole [tg] e pos.line X.env = pure false := by rfl) (hw : swappedStores [tg] e X.env = pure none := by rfl)
    (h1 : (assignEach [tg] X.env).map (·.2) = [assign tg X.env] := by rfl) : DSt X F0 (.Assign [tg] e pos) (dAsg te g) :=
  PS_imp (ps_asg he hg hs hw h1) fun _ _ _ h => lift_asg h
theorem ds_set {i : Nat} {x : Str} {e : Expr} {pos' : Pos} (hN : X.N.Nodup) (hi : X.N[i]? = some x) (hx : Loc X.env.scope x) (he : DE X F0 e te) (hs : swapsWith e (some (.Name x pos')) pos.line X.env = pure false := by rfl) (hf : X.fn x = true ∨ X.env.scope.names.lookup x = some .local := by first | exact .inl rfl | exact .inr rfl | assumption) :
    DSt X F0 (.Assign [.Name x pos'] e pos) (dAsg te (nGm i)) :=
  PS_imp (ps_set hN hi hx he hs hf) fun D σ H ⟨σd, M, F, Dd, hF, r, hS, h, fin⟩ => ⟨σd, M, F, _, hF, r, hS, h, fun x M1 v H1 F1 q e1 r1 v1 => fin.nx _ _ _ _ F1 q e1 r1 ((hS.mono e1).set i v1)⟩
def dPar (i j : Nat) (ta : DTA) : DTS := fun D σ M => ta σ M fun vs M1 => match vs with
  | [v, w] => D.nx ((σ.set i (some v)).set j (some w)) M1
  | _ => False
theorem ds_par {i j : Nat} {x y : Str} {a b : Expr} {ta : DTA} {px py pt : Pos} {kt k2 pt2} (hc : X.calm = true) (hN : X.N.Nodup) (hi : X.N[i]? = some x) (hj : X.N[j]? = some y) (hij : i ≠ j)
    (hx : X.env.scope.names.lookup x = some .local) (hy : X.env.scope.names.lookup y = some .local) (ha : DA X F0 [a, b] ta)
    (hw : swappedStores [.Tuple [.Name x px, .Name y py] kt pt] (.Tuple [a, b] k2 pt2) X.env = pure (some [x, y]))
    (hs : swapsWithSole [.Tuple [.Name x px, .Name y py] kt pt] (.Tuple [a, b] k2 pt2) pos.line X.env = pure false := by rfl) :
    DSt X F0 (.Assign [.Tuple [.Name x px, .Name y py] kt pt] (.Tuple [a, b] k2 pt2) pos) (dPar i j ta) :=
  PS_imp (ps_par hc hN hi hj hij hx hy ha hw hs) fun D σ H ⟨σd, M, F, Dd, hF, r, hS, h, fin⟩ => ⟨σd, M, F, _, hF, r, hS, h, fun ds M1 vs H1 F1 q e1 r1 v1 => by
    split at q
    · obtain ⟨v, w, rfl, h1, h2⟩ := v1.two
      exact ⟨v, w, rfl, fin.nx _ _ _ _ F1 q e1 r1 (((hS.mono e1).set i h1).set j h2)⟩
    · exact q.elim⟩
/-- x op= e of a name -/
def dAug (i : Nat) (te : DTE) (r : DR2) : DTS := fun D σ M => match σ[i]? with
  | some (some x) => te σ M fun y M1 => r x y M1 fun z M2 => D.nx (σ.set i (some z)) M2
  | _ => False
def LIp (K : PySem.W.Frag) (F0 : Hp) (r : DR2) : TIp := LR K F0 r
theorem PIp_of {op : Operator} {r : R2} (h : OpR X (inplaceOp op) r) : PIp X op r := fun pins s σ H x y v u Q I r1 r2 q => h pins s σ H x y v u Q I r1 r2 q
theorem ds_aug {i : Nat} {x : Str} {e : Expr} {op : Operator} {r : DR2} {pos' : Pos} (hN : X.N.Nodup) (hi : X.N[i]? = some x) (hx : Loc X.env.scope x) (he : DE X F0 e te) (ho : OpR X (inplaceOp op) (LR X.K F0 r)) (hf : X.fn x = true ∨ X.env.scope.names.lookup x = some .local := by first | exact .inl rfl | exact .inr rfl | assumption) :
    DSt X F0 (.AugAssign (.Name x pos') op e pos) (dAug i te r) :=
  PS_imp (ps_aug hN hi hx he (PIp_of ho) hf) fun D σ H ⟨σd, M, F, Dd, hF, rr, hS, h, fin⟩ => by
    unfold dAug at h
    split at h
    · rename_i x0 ex
      obtain ⟨v, e1, hv⟩ := hS.get ex
      exact ⟨v, e1, σd, M, F, _, hF, rr, hS, h, fun y M1 w H1 F1 q e2 r1 w1 => ⟨x0, y, M1, F1, _, hF.trans e2, r1, hv.mono e2, w1, q, fun z M2 zv H2 F2 q2 e3 r2 z2 => fin.nx _ _ _ _ F2 q2 (e2.trans e3) r2 ((hS.mono (e2.trans e3)).set i z2)⟩⟩
    · exact h.elim
/-- += of ints, texts; of a list that may change by a list -/
def dIAdd : DR2 := fun x y M Q => match x, y with
  | .int i, .int j => Q (.int (i + j)) M
  | .str a, .str b => a.length + b.length ≤ sizeLine ∧ Q (.str (a ++ b)) M
  | .obj p, y => ∃ ds es, M p = some (.lst ds) ∧ lsD M y = some es ∧ ds.length + es.length ≤ sizeLine ∧ Q (.obj p) (updM M p (.lst (ds ++ es)))
  | _, _ => False
theorem od_iadd : OpR X (inplaceOp .Add) (LR X.K F0 dIAdd) := by
  refine OpR_imp (iop_add.or (iop_add_str.or iop_ext)) fun v u H Q ⟨x, y, M, F, Qd, hF, r, hx, hy, h, fin⟩ => ?_
  unfold dIAdd at h
  split at h
  · exact .inl ⟨_, _, rep_int.mp hx, rep_int.mp hy, fin.go h r (rep_int.mpr rfl)⟩
  · exact .inr (.inl ⟨_, _, rep_str.mp hx, rep_str.mp hy, h.1, fin.go h.2 r (rep_str.mpr rfl)⟩)
  · obtain ⟨ds, es, hp, hy', hz, h⟩ := h
    obtain ⟨vs, h1, h2⟩ := r.mem _ _ hp
    obtain ⟨q, us, rfl, h3, h4⟩ := lsD_rep r hy hy'
    exact .inr (.inr ⟨_, q, vs, us, rep_obj.mp hx, rfl, h1, h3, by rw [← h2.length, ← h4.length]; exact hz, fin.go h (r.setM hp (h2.append h4)) (rep_obj.mpr rfl)⟩)
  · exact h.elim
def dISub : DR2 := fun x y M Q => match x, y with
  | .int i, .int j => Q (.int (i - j)) M
  | _, _ => False
theorem od_isub : OpR X (inplaceOp .Sub) (LR X.K F0 dISub) := by
  refine OpR_imp iop_sub fun v u H Q ⟨x, y, M, F, Qd, hF, r, hx, hy, h, fin⟩ => ?_
  unfold dISub at h
  split at h
  · exact ⟨_, _, rep_int.mp hx, rep_int.mp hy, fin.go h r (rep_int.mpr rfl)⟩
  · exact h.elim

/-! ### while -/
def dWhile (c : DTT) (tb : DTS) : DTS := fun D σ M => ∃ W : Nat → DS → Mp → Prop, (∃ m, W m σ M) ∧ ∀ m σ M, W m σ M → c σ M fun b M1 => IfB b (tb { D with nx := fun σ' M' => ∃ m', m' < m ∧ W m' σ' M', ct := fun σ' M' => ∃ m', m' < m ∧ W m' σ' M', bk := D.nx } σ M1) (D.nx σ M1)
theorem ds_while {c : Expr} {body : List Stmt} {tc : DTT} {tb : DTS} (hp : PassesOwn (model X.prog X.w) X.A X.env X.xe) (hc : DT X F0 c tc) (hb : DSs X F0 body tb) : DSt X F0 (.While c body [] pos) (dWhile tc tb) :=
  PS_imp (ps_while hp hc hb) fun D σ H ⟨σd, M, F, Dd, hF, r, hS, ⟨W, ⟨m0, w0⟩, h⟩, fin⟩ =>
    ⟨fun m σ H => ∃ σd M F1, Same F F1 ∧ R X.K M F1 H ∧ SRep X.K F1 σd σ ∧ W m σd M, ⟨m0, σd, M, F, Same.refl F, r, hS, w0⟩, fun m σ H ⟨σd, M, F1, e1, r1, s1, w⟩ =>
      ⟨σd, M, F1, _, hF.trans e1, r1, s1, h m σd M w, fun b M2 H2 F2 q e2 r2 => by
        have e12 := e1.trans e2
        cases b with
        | true =>
          refine iteT ⟨_, fun _ _ z => z, σd, M2, F2, _, hF.trans e12, r2, s1.mono e2, q, ⟨?_, fin.rt.mono e12, fin.nx.mono e12, ?_⟩⟩
          · rintro σd3 M3 σ3 H3 F3 ⟨m', hm, w3⟩ e3 r3 s3
            exact ⟨m', hm, σd3, M3, F3, e12.trans e3, r3, s3, w3⟩
          · rintro σd3 M3 σ3 H3 F3 ⟨m', hm, w3⟩ e3 r3 s3
            exact ⟨m', hm, σd3, M3, F3, e12.trans e3, r3, s3, w3⟩
        | false => exact iteF (fin.nx _ _ _ _ F2 q e12 r2 (s1.mono e2))⟩⟩

/-! ### what a loop walks -/
/-- the items, and what must stay true of M while they are walked -/
abbrev DTI := DS → Mp → (List D → (Mp → Prop) → Mp → Prop) → Prop
/-- a source that a loop walks: the items' iterator J over the concrete heap -/
structure Src (K : PySem.W.Frag) (F H : Hp) (ds : List D) (St : Mp → Prop) (J : It) : Prop where
  go : ∀ i F' H' M', Same F F' → R K M' F' H' → St M' → i < ds.length → J.go i H'
  yld : ∀ i F' H' M' x H2, Same F F' → R K M' F' H' → St M' → i < ds.length → J.yld i H' x H2 → ∃ d F2, ds[i]? = some d ∧ Same F' F2 ∧ R K M' F2 H2 ∧ Rep K F2 d x
  stop : ∀ i F' H' M', Same F F' → R K M' F' H' → St M' → ds.length ≤ i → J.stop i H'
def LI (K : PySem.W.Frag) (F0 : Hp) (τ : DTI) : TI := fun σ H Rr => ∃ σd M F, Same F0 F ∧ R K M F H ∧ SRep K F σd σ ∧ ∃ Kd : List D → (Mp → Prop) → Mp → Prop, τ σd M Kd ∧
  ∀ ds St M1 J F1 H1, Kd ds St M1 → Same F F1 → R K M1 F1 H1 → St M1 → Src K F1 H1 ds St J → Rr J H1
abbrev DI (X : Cx) (F0 : Hp) (tg iter : Expr) (τ : DTI) : Prop := PI X tg iter (LI X.K F0 τ)
theorem PI_imp {tg iter : Expr} {t t' : TI} (h : PI X tg iter t) (i : ∀ σ H Q, t' σ H Q → t σ H Q) : PI X tg iter t' := ⟨fun pins s σ H Q I q => h.run pins s σ H Q I (i σ H Q q)⟩
theorem PI_or {tg iter : Expr} {t t' : TI} (h : PI X tg iter t) (h' : PI X tg iter t') : PI X tg iter (fun σ H Q => t σ H Q ∨ t' σ H Q) := ⟨fun pins s σ H Q I q => q.elim (h.run pins s σ H Q I) (h'.run pins s σ H Q I)⟩
theorem src_list {K : PySem.W.Frag} {F H : Hp} {ds : List D} {St : Mp → Prop} {a : Addr} {vs : List V} (hq : ∀ F' H' M', Same F F' → R K M' F' H' → St M' → ∃ vs, SqL K H' a vs ∧ Reps K F' ds vs) : Src K F H ds St (Itl K a) where
  go := fun i F' H' M' e r s hi => by
    obtain ⟨vs, h1, h2⟩ := hq F' H' M' e r s
    have hi' : i < vs.length := by rw [← h2.length]; exact hi
    exact ⟨vs, vs[i], h1, by simp [hi']⟩
  yld := fun i F' H' M' x H2 e r s hi ⟨e2, y⟩ => by
    subst e2
    obtain ⟨vs, h1, h2⟩ := hq F' _ M' e r s
    obtain ⟨d, h3, h4⟩ := h2.get (y vs h1)
    exact ⟨d, F', h3, Same.refl _, r, h4⟩
  stop := fun i F' H' M' e r s hi => by
    obtain ⟨vs, h1, h2⟩ := hq F' H' M' e r s
    exact ⟨vs, h1, by rw [← h2.length]; exact hi⟩
theorem src_tup {K : PySem.W.Frag} {F H : Hp} {ds : List D} {St : Mp → Prop} {a : Addr} {vs : List V} (h1 : SqT K F a vs) (h2 : Reps K F ds vs) : Src K F H ds St (Itt K a) where
  go := fun i F' H' M' e r s hi => by
    have hi' : i < vs.length := by rw [← h2.length]; exact hi
    exact ⟨vs, vs[i], sqT_up r (sqT_mono e h1), by simp [hi']⟩
  yld := fun i F' H' M' x H2 e r s hi ⟨e2, y⟩ => by
    subst e2
    obtain ⟨d, h3, h4⟩ := (h2.mono e).get (y vs (sqT_up r (sqT_mono e h1)))
    exact ⟨d, F', h3, Same.refl _, r, h4⟩
  stop := fun i F' H' M' e r s hi => ⟨vs, sqT_up r (sqT_mono e h1), by rw [← h2.length]; exact hi⟩
/-- a list, a tuple or a text, walked -/
def iAny (K : PySem.W.Frag) (tl : TE) : TI := fun σ H R => tl σ H fun x H1 => (∃ a, x = .ref a ∧ (∃ xs, SqL K H1 a xs) ∧ R (Itl K a) H1) ∨ (∃ a, x = .ref a ∧ (∃ xs, SqT K H1 a xs) ∧ R (Itt K a) H1) ∨ ∃ z, x = .str z ∧ R (Its z) H1
theorem pi_any {tg l : Expr} {tl : TE} (hl : PE X l tl) : PI X tg l (iAny X.K tl) := by
  refine ⟨fun pins s σ H R I h => ?_⟩
  refine thn (hl.run pins s σ H _ I h) fun v s1 ⟨x, H1, I1, r1, q1⟩ => ?_
  rcases q1 with ⟨a, e, ⟨xs, hq⟩, q⟩ | ⟨a, e, ⟨xs, hq⟩, q⟩ | ⟨z, e, q⟩
  · subst e
    cases r1
    obtain ⟨its, rv, p, hz⟩ := I1.list hq
    refine wpAny_pyIter_list p.isList ?_
    refine ⟨s1.heap.objs.size, [s1.heap.objs.size], _, _, H1, rfl, I1.kept (t' := s1.toks) fun b o e => Heap.get?_push_of_some _ e, turn_list a _, ⟨_, Heap.get?_push_size _ rfl, rfl, rfl⟩, fun b hb => ?_, q⟩
    have e : b = s1.heap.objs.size := by simpa using hb
    subst e
    exact I1.fpOk (Nat.le_refl _) (I1.hok.fresh (Nat.le_refl _))
  · subst e
    cases r1
    obtain ⟨its, rv, p, hz⟩ := I1.tuple hq
    refine wpAny_pyIter_tuple (show s1.heap.IsTuple a its.toArray from p) ?_
    refine ⟨s1.heap.objs.size, [s1.heap.objs.size], _, _, H1, rfl, I1.kept (t' := s1.toks) fun b o e => Heap.get?_push_of_some _ e, turn_tuple a _, ⟨_, Heap.get?_push_size _ rfl, rfl, rfl⟩, fun b hb => ?_, q⟩
    have e : b = s1.heap.objs.size := by simpa using hb
    subst e
    exact I1.fpOk (Nat.le_refl _) (I1.hok.fresh (Nat.le_refl _))
  · subst e
    obtain ⟨t, rfl⟩ := r1
    cases ha : z.cps.all (· < 128)
    · exact wpAny_pyIter_wide ha (pi_one (tk := s1.toks) I1 _ (turn_str _ z t "str_iterator" (.inr rfl)) ⟨_, Heap.get?_push_size _ rfl, rfl, rfl⟩ q)
    · exact wpAny_pyIter_ascii ha (pi_one (tk := s1.toks) I1 _ (turn_str _ z t "str_ascii_iterator" (.inl rfl)) ⟨_, Heap.get?_push_size _ rfl, rfl, rfl⟩ q)
def signs (z : Str) : List D := z.cps.toList.map fun c => .str ⟨#[c]⟩
theorem src_str {K : PySem.W.Frag} {F H : Hp} {St : Mp → Prop} {z : Str} : Src K F H (signs z) St (Its z) where
  go := fun i F' H' M' e r s hi => by
    have : (signs z).length = z.cps.size := by simp [signs]
    rw [this] at hi
    exact hi
  yld := fun i F' H' M' x H2 e r s hi ⟨e2, c, h1, h2⟩ => by
    subst e2
    refine ⟨.str ⟨#[c]⟩, F', ?_, Same.refl _, r, rep_str.mpr h2⟩
    unfold signs
    rw [List.getElem?_map, Array.getElem?_toList, h1] <;> rfl
  stop := fun i F' H' M' e r s hi => by
    have : (signs z).length = z.cps.size := by simp [signs]
    rw [this] at hi
    exact hi
/-- items of a value -/
def dItems (te : DTE) : DTI := fun σ M Kd => te σ M fun x M1 => match x with
  | .obj p => ∃ ds, M1 p = some (.lst ds) ∧ Kd ds (fun M' => M' p = some (.lst ds)) M1
  | .tup ds => Kd ds (fun _ => True) M1
  | .lst ds => Kd ds (fun _ => True) M1
  | .rdl ns => Kd (ns.map D.int) (fun _ => True) M1
  | .str z => Kd (signs z) (fun _ => True) M1
  | _ => False
theorem di_items {tg : Expr} (he : DE X F0 e te) : DI X F0 tg e (dItems te) :=
  PI_imp (pi_any he) fun σ H Rr ⟨σd, M, F, hF, r, hS, Kd, h, fin⟩ => ⟨σd, M, F, _, hF, r, hS, h, fun x M1 v H1 F1 q e1 r1 v1 => by
    split at q
    · obtain ⟨ds, hp, q⟩ := q
      obtain ⟨vs, h1, h2⟩ := r1.mem _ _ hp
      refine .inl ⟨_, rep_obj.mp v1, ⟨vs, SqL.of h1⟩, fin _ _ _ _ _ _ q e1 r1 hp (src_list (vs := vs) fun F' H' M' e' r' s' => ?_)⟩
      obtain ⟨vs', h3, h4⟩ := r'.mem _ _ s'
      exact ⟨vs', SqL.of h3, h4⟩
    · obtain ⟨a, vs, rfl, hq, hr⟩ := rep_tup.mp v1
      exact .inr (.inl ⟨a, rfl, ⟨vs, sqT_up r1 hq⟩, fin _ _ _ _ _ _ q e1 r1 trivial (src_tup hq hr)⟩)
    · obtain ⟨a, vs, rfl, hq, hr⟩ := rep_lst.mp v1
      exact .inl ⟨a, rfl, ⟨vs, SqL.of (r1.fr _ _ hq)⟩, fin _ _ _ _ _ _ q e1 r1 trivial (src_list (vs := vs) fun F' H' M' e' r' s' => ⟨vs, SqL.of (r'.fr _ _ (e' _ _ hq)), hr.mono e'⟩)⟩
    · obtain ⟨a, rfl, hq⟩ := rep_rdl.mp v1
      exact .inl ⟨a, rfl, ⟨_, sqL_up r1 hq⟩, fin _ _ _ _ _ _ q e1 r1 trivial (src_list (vs := []) fun F' H' M' e' r' s' => ⟨_, sqL_up r' (e'.seq hq), Reps.ints⟩)⟩
    · exact .inr (.inr ⟨_, rep_str.mp v1, fin _ _ _ _ _ _ q e1 r1 trivial src_str⟩)
    · exact q.elim⟩
/-- range(n), range(i, j) -/
def upto (lo : Int) (n : Nat) : List D := (List.range n).map fun i => .int (lo + (i : Nat))
theorem src_range {K : PySem.W.Frag} {F H : Hp} {St : Mp → Prop} {lo : Int} {n : Nat} : Src K F H (upto lo n) St (Itr lo n) where
  go := fun i F' H' M' e r s hi => by
    have : (upto lo n).length = n := by simp [upto]
    rw [this] at hi
    exact hi
  yld := fun i F' H' M' x H2 e r s hi ⟨e2, h⟩ => by
    subst e2
    have : (upto lo n).length = n := by simp [upto]
    rw [this] at hi
    exact ⟨.int (lo + (i : Nat)), F', by simp [upto, hi], Same.refl _, r, rep_int.mpr h⟩
  stop := fun i F' H' M' e r s hi => by
    have : (upto lo n).length = n := by simp [upto]
    rw [this] at hi
    exact hi
def dRange1 (ta : DTA) : DTI := fun σ M Kd => ta σ M fun vs M1 => match vs with
  | [.int n] => (-(2 ^ 62) ≤ n ∧ n < 2 ^ 62) ∧ Kd (upto 0 n.toNat) (fun _ => True) M1
  | _ => False
theorem di_range1 {tg : Expr} {p : Pos} (hg : Gl X "range") (hm : X.mg "range" = none) (ha : DA X F0 [a] tr) (hs : starEach [a] X.env = [(false, eval a X.env)] := by rfl) : DI X F0 tg (.Call (.Name "range" p) [a] [] pos) (dRange1 tr) :=
  PI_imp (pi_range1 hg hm ha hs) fun σ H Rr ⟨σd, M, F, hF, r, hS, Kd, h, fin⟩ => ⟨σd, M, F, _, hF, r, hS, h, fun x M1 v H1 F1 q e1 r1 v1 => by
    split at q
    · obtain ⟨u, rfl, h1⟩ := v1.one
      cases rep_int.mp h1
      exact ⟨_, rfl, q.1.1, q.1.2, fin _ _ _ _ _ _ q.2 e1 r1 trivial src_range⟩
    · exact q.elim⟩
def dRange2 (ta : DTA) : DTI := fun σ M Kd => ta σ M fun vs M1 => match vs with
  | [.int m, .int n] => (-(2 ^ 62) ≤ m ∧ m < 2 ^ 62 ∧ -(2 ^ 62) ≤ n ∧ n < 2 ^ 62) ∧ Kd (upto m (n - m).toNat) (fun _ => True) M1
  | _ => False
theorem di_range2 {tg : Expr} {p : Pos} (hg : Gl X "range") (hm : X.mg "range" = none) (ha : DA X F0 [a, b] tr) (hs : starEach [a, b] X.env = [(false, eval a X.env), (false, eval b X.env)] := by rfl) (hs2 : starEach [b] X.env = [(false, eval b X.env)] := by rfl) : DI X F0 tg (.Call (.Name "range" p) [a, b] [] pos) (dRange2 tr) :=
  PI_imp (pi_range2 hg hm ha hs hs2) fun σ H Rr ⟨σd, M, F, hF, r, hS, Kd, h, fin⟩ => ⟨σd, M, F, _, hF, r, hS, h, fun x M1 v H1 F1 q e1 r1 v1 => by
    split at q
    · obtain ⟨u, u', rfl, h1, h2⟩ := v1.two
      cases rep_int.mp h1; cases rep_int.mp h2
      exact ⟨_, _, rfl, q.1, fin _ _ _ _ _ _ q.2 e1 r1 trivial src_range⟩
    · exact q.elim⟩

/-! ### for -/
def dFor (wi : DTI) (g : DTG) (tb : DTS) : DTS := fun D σ M => wi σ M fun ds St M1 => ∃ W : Nat → DS → Mp → Prop, W 0 σ M1 ∧ (∀ i σ M, W i σ M → i ≤ ds.length → St M) ∧
  (∀ i d σ M, ds[i]? = some d → W i σ M → g d σ M fun σ2 M2 => tb { D with nx := W (i + 1), ct := W (i + 1), bk := D.nx } σ2 M2) ∧ ∀ σ M, W ds.length σ M → D.nx σ M
theorem ds_for {tg iter : Expr} {body : List Stmt} {wi : DTI} {g : DTG} {tb : DTS} (hp : PassesOwn (model X.prog X.w) X.A X.env X.xe) (hc : X.calm = true) (hi : DI X F0 tg iter wi) (hg : DG X F0 tg g) (hb : DSs X F0 body tb)
    (hs : ∀ x, foldedSetIterable iter X.env x = pure x := by intro _; rfl) : DSt X F0 (.For tg iter body [] pos) (dFor wi g tb) :=
  PS_imp (ps_for hp hc hi hg hb hs) fun D σ H ⟨σd, M, F, Dd, hF, r, hS, h, fin⟩ => ⟨σd, M, F, hF, r, hS, _, h, by
    intro ds St M1 J F1 H1 ⟨W, w0, hst, hstep, hend⟩ e1 r1 st1 src
    refine ⟨fun i m σ H => ∃ σd M F2, m = ds.length - i ∧ i ≤ ds.length ∧ Same F1 F2 ∧ R X.K M F2 H ∧ SRep X.K F2 σd σ ∧ W i σd M, ⟨ds.length, σd, M1, F1, by simp, Nat.zero_le _, Same.refl _, r1, hS.mono e1, w0⟩, ?_⟩
    rintro i m σ H ⟨σd2, M2, F2, rfl, hi, e2, r2, s2, w2⟩
    have e12 := e1.trans e2
    have st2 := hst i σd2 M2 w2 hi
    by_cases hlt : i < ds.length
    · refine .inr ⟨src.go i F2 H M2 e2 r2 st2 hlt, fun σ' H' => ∃ σd M F3, Same F2 F3 ∧ R X.K M F3 H' ∧ SRep X.K F3 σd σ' ∧ W (i + 1) σd M, ?_, ?_⟩
      · rintro σ' H' ⟨σd3, M3, F3, e3, r3, s3, w3⟩
        exact ⟨ds.length - (i + 1), by omega, σd3, M3, F3, rfl, hlt, e2.trans e3, r3, s3, w3⟩
      · intro x H3 y
        obtain ⟨d, F3, hd, e3, r3, x3⟩ := src.yld i F2 H M2 x H3 e2 r2 st2 hlt y
        refine ⟨d, σd2, M2, F3, _, hF.trans (e12.trans e3), r3, x3, s2.mono e3, hstep i d σd2 M2 hd w2, fun σd4 M4 σ4 H4 F4 q e4 r4 s4 => ?_⟩
        have e14 := (e12.trans e3).trans e4
        refine ⟨σd4, M4, F4, _, hF.trans e14, r4, s4, q, ⟨?_, fin.rt.mono e14, fin.nx.mono e14, ?_⟩⟩
        · exact fun σd5 M5 σ5 H5 F5 w5 e5 r5 s5 => ⟨σd5, M5, F5, (e3.trans e4).trans e5, r5, s5, w5⟩
        · exact fun σd5 M5 σ5 H5 F5 w5 e5 r5 s5 => ⟨σd5, M5, F5, (e3.trans e4).trans e5, r5, s5, w5⟩
    · have e : i = ds.length := by omega
      subst e
      exact .inl ⟨src.stop _ F2 H M2 e2 r2 st2 (Nat.le_refl _), fin.nx _ _ _ _ F2 (hend _ _ w2) e12 r2 s2⟩⟩

end
end DL
namespace DL
open PySem L2
def remM (M : Mp) (p : Addr) : Mp := fun b => if b = p then none else M b
theorem remM_upd {M : Mp} {p : Addr} {o : MO} (h : M p = none) : remM (updM M p o) p = M := by
  funext b; unfold remM updM
  by_cases e : b = p
  · subst e; rw [if_pos rfl, h]
  · rw [if_neg e, if_neg e]
section
variable {K : PySem.W.Frag} {F H : Hp} {M : Mp}
/-- a list that stays as it is from here on -/
theorem R.freeze (r : R K M F H) {p : Addr} {ds : List D} (hp : M p = some (.lst ds)) : ∃ F', Same F F' ∧ R K (remM M p) F' H ∧ Rep K F' (.lst ds) (.ref p) := by
  obtain ⟨vs, h1, h2⟩ := r.mem p _ hp
  have e := same_upd (o := HO.lst vs) (r.ap p _ hp)
  refine ⟨upd F p (.lst vs), e, ⟨fun b u q => ?_, fun a mo q => ?_, fun a mo q => ?_⟩, rep_lst.mpr ⟨p, vs, rfl, upd_same, h2.mono e⟩⟩
  · by_cases hb : b = p
    · subst hb; rw [upd_same] at q; cases q; exact h1
    · rw [upd_ne hb] at q; exact r.fr b u q
  · have ha : a ≠ p := fun z => by subst z; unfold remM at q; rw [if_pos rfl] at q; cases q
    unfold remM at q; rw [if_neg ha] at q
    rw [upd_ne ha]; exact r.ap a mo q
  · have ha : a ≠ p := fun z => by subst z; unfold remM at q; rw [if_pos rfl] at q; cases q
    unfold remM at q; rw [if_neg ha] at q
    exact (r.mem a mo q).mono e rfl
end
section
variable {X : Cx} {F0 : Hp} {a b c e : Expr} {ta tb tc te : DTE} {pos : Pos} {es : List Expr} {tr : DTA}
/-! ### comprehensions: the one name at slot i -/
def dLcQ (own : Bool) (p : Addr) (M : Mp) (Q : DK) : Prop := match own with
  | true => Q (.obj p) M
  | false => ∃ acc, M p = some (.lst acc) ∧ Q (.lst acc) (remM M p)
def dLc (own : Bool) (j : Nat) (wi : DTI) (te : DTE) : DTE := fun σ M Q => wi σ M fun ds St M1 => ∀ p, M1 p = none → ∃ W : Nat → Mp → Prop, W 0 (updM M1 p (.lst [])) ∧ (∀ i M, W i M → i ≤ ds.length → St M) ∧
  (∀ i d M, ds[i]? = some d → W i M → te (σ.set j (some d)) M fun y M3 => ∃ acc, M3 p = some (.lst acc) ∧ acc.length < sizeLine ∧ W (i + 1) (updM M3 p (.lst (acc ++ [y])))) ∧ ∀ M, W ds.length M → dLcQ own p M Q
theorem lift_lc {own : Bool} {j : Nat} {wi : DTI} {σ : St} {H : Hp} {Q : VK} (h : LE X.K F0 (dLc own j wi te) σ H Q) : tLc (LI X.K F0 wi) (gName j) tYes (LE X.K F0 te) [j] σ H Q := by
  obtain ⟨σd, M, F, Qd, hF, r, hS, h, fin⟩ := h
  refine ⟨σd, M, F, hF, r, hS, _, h, ?_⟩
  intro ds St M1 J F1 H1 hd e1 r1 st1 src D hD
  obtain ⟨W, w0, hst, hstep, hend⟩ := hd D (r1.free hD)
  refine ⟨fun i m H => ∃ M F2, m = ds.length - i ∧ i ≤ ds.length ∧ Same F1 F2 ∧ R X.K M F2 H ∧ W i M, ⟨ds.length, _, F1, by simp, Nat.zero_le _, Same.refl _, r1.newM hD .nil, w0⟩, ?_⟩
  rintro i m H2 ⟨M2, F2, rfl, hi, e2, r2, w2⟩
  have e12 := e1.trans e2
  have st2 := hst i M2 w2 hi
  -- the source over the later frozen part
  have src2 : ∀ F' H' M', Same F2 F' → R X.K M' F' H' → St M' → True := fun _ _ _ _ _ _ => trivial
  by_cases hlt : i < ds.length
  · refine .inr ⟨src.go i F2 H2 M2 e2 r2 st2 hlt, fun H' => ∃ M F3, Same F2 F3 ∧ R X.K M F3 H' ∧ W (i + 1) M, ?_, ?_⟩
    · rintro H' ⟨M3, F3, e3, r3, w3⟩
      exact ⟨ds.length - (i + 1), by omega, M3, F3, rfl, hlt, e2.trans e3, r3, w3⟩
    · intro x H3 y
      obtain ⟨d, F3, hd', e3, r3, x3⟩ := src.yld i F2 H2 M2 x H3 e2 r2 st2 hlt y
      have e13 := e12.trans e3
      refine ⟨?_, ?_⟩
      · show wipe ((wipe σ [j]).set j (some x)) [j] = wipe σ [j]
        unfold wipe
        show ((σ.set j none).set j (some x)).set j none = σ.set j none
        rw [List.set_set, List.set_set]
      · have go : ∀ {A B : Prop}, A → (if true = true then A else B) := fun h => by rw [if_pos rfl]; exact h
        refine go (B := (fun H' => ∃ M F3, Same F2 F3 ∧ R X.K M F3 H' ∧ W (i + 1) M) H3) ?_
        have hs2 : SRep X.K F3 (σd.set j (some d)) ((wipe σ [j]).set j (some x)) := by
          show SRep X.K F3 (σd.set j (some d)) ((σ.set j none).set j (some x))
          rw [List.set_set]
          exact (hS.mono e13).set j x3
        refine ⟨_, M2, F3, _, hF.trans e13, r3, hs2, hstep i d M2 hd' w2, fun yv M4 v H4 F4 q e4 r4 v4 => ?_⟩
        obtain ⟨acc, hp, hz, w4⟩ := q
        obtain ⟨vs, h1, h2⟩ := r4.mem _ _ hp
        exact ⟨vs, h1, by rw [← h2.length]; exact hz, _, F4, e3.trans e4, r4.setM hp (h2.append (.cons v4 .nil)), w4⟩
  · have e : i = ds.length := by omega
    subst e
    refine .inl ⟨src.stop _ F2 H2 M2 e2 r2 st2 (Nat.le_refl _), ?_⟩
    have q := hend M2 w2
    cases own with
    | true => exact fin _ _ _ _ F2 q e12 r2 (rep_obj.mpr rfl)
    | false =>
      obtain ⟨acc, hp, q⟩ := q
      obtain ⟨F3, e3, r3, x3⟩ := r2.freeze hp
      exact fin _ _ _ _ F3 q (e12.trans e3) r3 x3
theorem de_lc {own : Bool} {x : Str} {j : Nat} {elt iter : Expr} {scope : Scope} {px : Pos} {wi : DTI} (hc : X.calm = true) (hN : X.N.Nodup) (hi : DI X F0 (.Name x px) iter wi) (ok : BlkOk X.N X.env.scope scope [(x, j)])
    (hg : ∀ (s : Shared) (H : Hp) (C : Addr) (cl : List (Str × Addr)) (fp : List Addr), PG (X.blk s H scope (compEnvC scope cl C X.env) fp) (.Name x px) (gName j))
    (he : ∀ (s : Shared) (H : Hp) (C : Addr) (cl : List (Str × Addr)) (fp : List Addr), DE (X.blk s H scope (compEnvC scope cl C X.env) fp) F0 elt te) (hs : ∀ x, foldedSetIterable iter X.env x = pure x := by intro _; rfl) :
    DE X F0 (.ListComp elt [⟨.Name x px, iter, [], 0⟩] scope pos) (dLc own j wi te) :=
  PE_imp (pe_lc (own := [(x, j)]) hc hN hi ok hg (fun _ _ _ _ _ => pts_nil) he hs) fun _ _ _ h => lift_lc h
theorem ds_setLc {own : Bool} {i : Nat} {y : Str} {py spos : Pos} {x : Str} {j : Nat} {elt iter : Expr} {scope : Scope} {px : Pos} {wi : DTI} (hc : X.calm = true) (hN : X.N.Nodup) (hy : X.N[i]? = some y) (hyl : X.env.scope.names.lookup y = some .local)
    (hsw : swapsWith (.ListComp elt [⟨.Name x px, iter, [], 0⟩] scope pos) (some (.Name y py)) spos.line X.env = pure true) (hi : DI X F0 (.Name x px) iter wi) (ok : BlkOk X.N X.env.scope scope [(x, j)])
    (hg : ∀ (s : Shared) (H : Hp) (C : Addr) (cl : List (Str × Addr)) (fp : List Addr), PG (X.blk s H scope (compEnvC scope cl C X.env) fp) (.Name x px) (gName j))
    (he : ∀ (s : Shared) (H : Hp) (C : Addr) (cl : List (Str × Addr)) (fp : List Addr), DE (X.blk s H scope (compEnvC scope cl C X.env) fp) F0 elt te) (hs : ∀ x, foldedSetIterable iter X.env x = pure x := by intro _; rfl) :
    DSt X F0 (.Assign [.Name y py] (.ListComp elt [⟨.Name x px, iter, [], 0⟩] scope pos) spos) (dAsg (dLc own j wi te) (nGm i)) :=
  PS_imp (ps_setLc (own := [(x, j)]) hc hN hy hyl hsw hi ok hg (fun _ _ _ _ _ => pts_nil) he hs) fun D σ H ⟨σd, M, F, Dd, hF, r, hS, h, fin⟩ =>
    lift_lc (Q := fun v H1 => D.nx (σ.set i (some v)) H1) ⟨σd, M, F, _, hF, r, hS, h, fun d M1 v H1 F1 q e1 r1 v1 => fin.nx _ _ _ _ F1 q e1 r1 ((hS.mono e1).set i v1)⟩
/-- each element's value by itself, nothing changed -/
theorem lc_map {own : Bool} {j : Nat} {σ : DS} {M1 : Mp} {ds : List D} {St : Mp → Prop} {Q : DK} (f : D → D) (hz : ds.length ≤ sizeLine) (hst : ∀ p o, M1 p = none → St (updM M1 p o)) (h : ∀ (i : Nat) d M (Q : DK), ds[i]? = some d → (∀ a o, M1 a = some o → M a = some o) → Q (f d) M → te (σ.set j (some d)) M Q) (q : dNew own (ds.map f) M1 Q) :
    ∀ p, M1 p = none → ∃ W : Nat → Mp → Prop, W 0 (updM M1 p (.lst [])) ∧ (∀ i M, W i M → i ≤ ds.length → St M) ∧
      (∀ i d M, ds[i]? = some d → W i M → te (σ.set j (some d)) M fun y M3 => ∃ acc, M3 p = some (.lst acc) ∧ acc.length < sizeLine ∧ W (i + 1) (updM M3 p (.lst (acc ++ [y])))) ∧ ∀ M, W ds.length M → dLcQ own p M Q := by
  intro p hp
  refine ⟨fun i M => M = updM M1 p (.lst ((ds.take i).map f)), by simp, fun i M w _ => ?_, fun i d M hd w => ?_, fun M w => ?_⟩
  · dsimp only at w; rw [w]; exact hst p _ hp
  · dsimp only at w
    have hi : i < ds.length := (List.getElem?_eq_some_iff.mp hd).1
    refine h i d M _ hd (fun a o ha => by rw [w, updM_ne (neM ha hp)]; exact ha) ?_
    refine ⟨(ds.take i).map f, by rw [w, updM_same], ?_, ?_⟩
    · rw [List.length_map, List.length_take]; omega
    · dsimp only
      rw [w, updM_updM]
      have : ds.take (i + 1) = ds.take i ++ [d] := by
        rw [List.take_add_one, hd] <;> rfl
      rw [this, List.map_append] <;> rfl
  · dsimp only at w
    rw [List.take_length] at w
    cases own with
    | true => rw [w]; exact q p hp
    | false => exact ⟨_, by rw [w, updM_same], by rw [w, remM_upd hp]; exact q⟩
/-- with a state: Inv by the turn, what is made so far, M without the new list -/
theorem lc_inv {own : Bool} {j : Nat} {σ : DS} {M1 : Mp} {ds : List D} {St : Mp → Prop} {Q : DK} (Inv : Nat → List D → Mp → Prop) (hz : ds.length ≤ sizeLine) (h0 : Inv 0 [] M1) (hst : ∀ i acc M p o, Inv i acc M → M p = none → St (updM M p o))
    (h : ∀ (i : Nat) d acc M p (Q : DK), ds[i]? = some d → Inv i acc M → M p = none → M1 p = none → acc.length = i → (∀ y M', M' p = none → Inv (i + 1) (acc ++ [y]) M' → Q y (updM M' p (.lst acc))) → te (σ.set j (some d)) (updM M p (.lst acc)) Q)
    (q : ∀ acc M, acc.length = ds.length → Inv ds.length acc M → dNew own acc M Q) :
    ∀ p, M1 p = none → ∃ W : Nat → Mp → Prop, W 0 (updM M1 p (.lst [])) ∧ (∀ i M, W i M → i ≤ ds.length → St M) ∧
      (∀ i d M, ds[i]? = some d → W i M → te (σ.set j (some d)) M fun y M3 => ∃ acc, M3 p = some (.lst acc) ∧ acc.length < sizeLine ∧ W (i + 1) (updM M3 p (.lst (acc ++ [y])))) ∧ ∀ M, W ds.length M → dLcQ own p M Q := by
  intro p hp
  refine ⟨fun i M => ∃ acc M', M = updM M' p (.lst acc) ∧ M' p = none ∧ acc.length = i ∧ Inv i acc M', ⟨[], M1, rfl, hp, rfl, h0⟩, ?_, ?_, ?_⟩
  · rintro i M ⟨acc, M', rfl, hp', _, hI⟩ _
    exact hst i acc M' p _ hI hp'
  · rintro i d M hd ⟨acc, M', rfl, hp', hl, hI⟩
    have hi : i < ds.length := (List.getElem?_eq_some_iff.mp hd).1
    refine h i d acc M' p _ hd hI hp' hp hl fun y M2 hp2 hI2 => ⟨acc, updM_same, by omega, acc ++ [y], M2, by rw [updM_updM], hp2, by simp [hl], hI2⟩
  · rintro M ⟨acc, M', rfl, hp', hl, hI⟩
    have z := q acc M' hl hI
    cases own with
    | true => exact z p hp'
    | false => exact ⟨acc, updM_same, by rw [remM_upd hp']; exact z⟩
end
end DL
namespace DL
open PySem PySem.Spec PyProof.Rows L2
/-! ### exceptions as data; promises -/
structure Exn where
  C : Addr
  fs : Option (List (Str × D))
abbrev DX := Exn → Mp → Prop
def XRep (K : PySem.W.Frag) (F : Hp) (x : Exn) (cls : Value) (d : Option Addr) : Prop := cls = .ref x.C ∧ match x.fs, d with
  | none, none => True
  | some fs, some a => ∃ gs, F a = some (.xd gs) ∧ FReps K F fs gs
  | _, _ => False
def FinX (K : PySem.W.Frag) (F : Hp) (Ed : DX) (E : XK) : Prop := ∀ x M H F' cls d, Ed x M → Same F F' → R K M F' H → XRep K F' x cls d → E cls d H
theorem FinX.mono {K : PySem.W.Frag} {F F' : Hp} {Ed : DX} {E : XK} (f : FinX K F Ed E) (e : Same F F') : FinX K F' Ed E := fun x M H F2 cls d q e2 => f x M H F2 cls d q (e.trans e2)
abbrev X0 : DX := fun _ _ => False
theorem finX0 {K : PySem.W.Frag} {F : Hp} {E : XK} : FinX K F X0 E := fun _ _ _ _ _ _ h => h.elim
abbrev SpD := List D → Mp → DK → DX → Prop
def LSp (K : PySem.W.Frag) (sp : SpD) : Sp := fun vs H Q E => ∃ ds M F Qd Ed, R K M F H ∧ Reps K F ds vs ∧ sp ds M Qd Ed ∧ Fin K F Qd Q ∧ FinX K F Ed E
/-- what is forgotten at a def's end -/
def Wk (Q : DK) : DK := fun d M => ∃ M', (∀ a o, M' a = some o → M a = some o) ∧ Q d M'
theorem Wk.here {Q : DK} {d : D} {M : Mp} (h : Q d M) : Wk Q d M := ⟨M, fun _ _ h => h, h⟩
theorem Wk.drop {Q : DK} {d : D} {M : Mp} {p : Addr} {o : MO} (hp : M p = none) (h : Q d M) : Wk Q d (updM M p o) := ⟨M, fun a o' h => by rw [updM_ne (neM h hp)]; exact h, h⟩
theorem Fin.wk {K : PySem.W.Frag} {F : Hp} {Qd : DK} {Q : VK} (f : Fin K F Qd Q) : Fin K F (Wk Qd) Q := fun d M v H F' ⟨M', hw, q⟩ e r h => f d M' v H F' q e (r.weak hw) h
section
variable {X : Cx} {F0 : Hp} {CX : CXT} {k : Nat} {f C : Addr} {fd : FuncData} {ps : List Str} {sp : SpD} {Ed : DX} {E : XK} {x m : Str} {p pos apos : Pos} {e o : Expr} {es : List Expr} {ta te tv : DTE} {t : DTA}
def dCall (sp : SpD) (Ed : DX) (t : DTA) : DTE := fun σ M Q => t σ M fun ds M1 => sp ds M1 Q Ed
theorem lift_call {K : PySem.W.Frag} {σ : L2.St} {H : Hp} {Q : VK} (hE : FinX K F0 Ed E) (h : LE K F0 (dCall sp Ed t) σ H Q) : tCall (LSp K sp) [] E (LA K F0 t) σ H Q := by
  obtain ⟨σd, M, F, Qd, hF, r, hS, h, fin⟩ := h
  refine ⟨σd, M, F, _, hF, r, hS, h, fun ds M1 vs H1 F1 q e1 r1 v1 => ?_⟩
  dsimp only
  rw [List.append_nil]
  exact ⟨ds, M1, F1, Qd, Ed, r1, v1, q, fin.mono e1, hE.mono (hF.trans e1)⟩
theorem de_call (F : FnOk X.prog X.w X.K X.mg X.base CX k f fd ps (LSp X.K sp)) (hr : Room k X.A) (hg : Gl X x) (hm : X.mg x = some (.ref f)) (hk : PySem.W.keepIn X.K (.ref f) = true) (hb : Binds X.K fd ps []) (hx : Passes CX X E) (hE : FinX X.K F0 Ed E)
    (ha : DA X F0 (e :: es) t) (hdb : (x == ("__debug__" : Str)) = false := by decide) (he : starEach (e :: es) X.env = (false, eval e X.env) :: starEach es X.env := by rfl) (hpl : (backTo pos (starEach es X.env)).any (·.1) = false := by rfl) :
    DE X F0 (.Call (.Name x p) (e :: es) [] pos) (dCall sp Ed t) :=
  PE_imp (pe_call F hr hg hm hk hb .nil hx ha hdb he hpl) fun _ _ _ h => lift_call hE h
theorem de_call0 (F : FnOk X.prog X.w X.K X.mg X.base CX k f fd ps (LSp X.K sp)) (hr : Room k X.A) (hg : Gl X x) (hm : X.mg x = some (.ref f)) (hk : PySem.W.keepIn X.K (.ref f) = true) (hb : Binds X.K fd ps []) (hx : Passes CX X E) (hE : FinX X.K F0 Ed E)
    (hdb : (x == ("__debug__" : Str)) = false := by decide) : DE X F0 (.Call (.Name x p) [] [] pos) (dCall sp Ed dNil) :=
  PE_imp (pe_call0 F hr hg hm hk hb .nil hx hdb) fun _ _ _ ⟨σd, M, F, Qd, hF, r, hS, h, fin⟩ => ⟨[], M, F, Qd, Ed, r, .nil, h, fin, hE.mono hF⟩
def dMeth (C : Addr) (m : Str) (sp : SpD) (Ed : DX) (ta : DTE) (t : DTA) : DTE := fun σ M Q => ta σ M fun x M1 => ∃ p fs, x = .obj p ∧ M1 p = some (.ins C fs) ∧ fs.lookup m = none ∧ t σ M1 fun ds M2 => sp (x :: ds) M2 Q Ed
theorem lift_meth {K : PySem.W.Frag} {σ : L2.St} {H : Hp} {Q : VK} (hE : FinX K F0 Ed E) (h : LE K F0 (dMeth C m sp Ed ta t) σ H Q) : tMeth C m (LSp K sp) [] E (LE K F0 ta) (LA K F0 t) σ H Q := by
  obtain ⟨σd, M, F, Qd, hF, r, hS, h, fin⟩ := h
  refine ⟨σd, M, F, _, hF, r, hS, h, fun d M1 v H1 F1 q e1 r1 v1 => ?_⟩
  obtain ⟨p, fs, rfl, hp, hl, q⟩ := q
  obtain ⟨dx, gs, h1, h2, h3⟩ := r1.mem p _ hp
  refine ⟨p, dx, gs, rep_obj.mp v1, h1, (FReps.lookup h3).2 hl, σd, M1, F1, _, hF.trans e1, r1, hS.mono e1, q, fun ds M2 vs H2 F2 q2 e2 r2 v2 => ?_⟩
  dsimp only
  rw [List.append_nil]
  exact ⟨_, M2, F2, Qd, Ed, r2, .cons (v1.mono e2) v2, q2, fin.mono (e1.trans e2), hE.mono ((hF.trans e1).trans e2)⟩
theorem de_meth {pl : Sem Bool} (he : DE X F0 o ta) (c : Cls X.K C) (hm : Meth X.K C m f) (F : FnOk X.prog X.w X.K X.mg X.base CX k f fd ps (LSp X.K sp)) (hr : Room k X.A) (hb : Binds X.K fd ps []) (hx : Passes CX X E) (hE : FinX X.K F0 Ed E) (ha : DA X F0 (e :: es) t)
    (hst : starEach (e :: es) X.env = (false, eval e X.env) :: starEach es X.env := by rfl) (hpl : (backTo pos (starEach es X.env)).any (·.1) = false := by rfl)
    (ht : eval (.Call (.Attribute o m apos) (e :: es) [] pos) X.env = (do
      let ov ← eval o X.env
      standAt apos.atName
      let (f, first) ← holding [ov] (getMethod ov m pl)
      callWith pos f first (backTo pos (starEach (e :: es) X.env)) (backToKw pos (keywordEach [] X.env))) := by rfl) :
    DE X F0 (.Call (.Attribute o m apos) (e :: es) [] pos) (dMeth C m sp Ed ta t) :=
  PE_imp (pe_meth he c hm F hr hb .nil hx ha hst hpl ht) fun _ _ _ h => lift_meth hE h
theorem de_meth0 {pl : Sem Bool} (he : DE X F0 o ta) (c : Cls X.K C) (hm : Meth X.K C m f) (F : FnOk X.prog X.w X.K X.mg X.base CX k f fd ps (LSp X.K sp)) (hr : Room k X.A) (hb : Binds X.K fd ps []) (hx : Passes CX X E) (hE : FinX X.K F0 Ed E)
    (ht : eval (.Call (.Attribute o m apos) [] [] pos) X.env = (do
      let ov ← eval o X.env
      standAt apos.atName
      let (f, first) ← holding [ov] (getMethod ov m pl)
      callWith pos f first (backTo pos (starEach [] X.env)) (backToKw pos (keywordEach [] X.env))) := by rfl) :
    DE X F0 (.Call (.Attribute o m apos) [] [] pos) (dMeth C m sp Ed ta dNil) :=
  PE_imp (pe_meth0 he c hm F hr hb .nil hx ht) fun σ H Q ⟨σd, M, F, Qd, hF, r, hS, h, fin⟩ => ⟨σd, M, F, _, hF, r, hS, h, fun d M1 v H1 F1 q e1 r1 v1 => by
    obtain ⟨p, fs, rfl, hp, hl, q⟩ := q
    obtain ⟨dx, gs, h1, h2, h3⟩ := r1.mem p _ hp
    exact ⟨p, dx, gs, rep_obj.mp v1, h1, (FReps.lookup h3).2 hl, _, M1, F1, Qd, Ed, r1, .cons v1 .nil, q, fin.mono e1, hE.mono (hF.trans e1)⟩⟩
def dMake (C : Addr) (sp : SpD) (Ed : DX) (t : DTA) : DTE := fun σ M Q => t σ M fun ds M1 => ∀ x, M1 x = none → sp (.obj x :: ds) (updM M1 x (.ins C [])) (fun v M2 => v = .non ∧ Q (.obj x) M2) Ed
theorem make_fin {K : PySem.W.Frag} {F H : Hp} {M : Mp} {Qd : DK} {Q : VK} {ds : List D} {vs : List V} (hE : FinX K F Ed E) (r : R K M F H) (hv : Reps K F ds vs) (fin : Fin K F Qd Q) (q : ∀ x, M x = none → sp (.obj x :: ds) (updM M x (.ins C [])) (fun v M2 => v = .non ∧ Qd (.obj x) M2) Ed) :
    ∀ x dx, H x = none → H dx = none → dx ≠ x → LSp K sp (.ref x :: vs) (upd (upd H dx (.own x)) x (.ins C dx [])) (fun v H2 => v = .non ∧ Q (.ref x) H2) E := by
  intro x dx hx hdx ne
  have e := same_upd (o := HO.own x) (r.freeF hdx)
  refine ⟨_, _, _, _, Ed, r.newI hx hdx ne, .cons (rep_obj.mpr rfl) (hv.mono e), q x (r.free hx), ?_, hE.mono e⟩
  rintro d M2 v H2 F2 ⟨rfl, q2⟩ e2 r2 v2
  exact ⟨rep_non.mp v2, fin _ _ _ _ F2 q2 (e.trans e2) r2 (rep_obj.mpr rfl)⟩
theorem de_make (M : Mk X.K C f) (F : FnOk X.prog X.w X.K X.mg X.base CX k f fd ps (LSp X.K sp)) (hr : Room (k + 1) X.A) (hg : Gl X x) (hm : X.mg x = some (.ref C)) (hb : Binds X.K fd ps []) (hx : Passes CX X E) (hE : FinX X.K F0 Ed E)
    (ha : DA X F0 (e :: es) t) (hdb : (x == ("__debug__" : Str)) = false := by decide) (he : starEach (e :: es) X.env = (false, eval e X.env) :: starEach es X.env := by rfl) (hpl : (backTo pos (starEach es X.env)).any (·.1) = false := by rfl) :
    DE X F0 (.Call (.Name x p) (e :: es) [] pos) (dMake C sp Ed t) :=
  PE_imp (pe_make M F hr hg hm hb .nil hx ha hdb he hpl) fun σ H Q ⟨σd, M, F, Qd, hF, r, hS, h, fin⟩ => ⟨σd, M, F, _, hF, r, hS, h, fun ds M1 vs H1 F1 q e1 r1 v1 => by
    dsimp only
    rw [List.append_nil]
    exact make_fin (hE.mono (hF.trans e1)) r1 v1 (fin.mono e1) q⟩
theorem de_make0 (M : Mk X.K C f) (F : FnOk X.prog X.w X.K X.mg X.base CX k f fd ps (LSp X.K sp)) (hr : Room (k + 1) X.A) (hg : Gl X x) (hm : X.mg x = some (.ref C)) (hb : Binds X.K fd ps []) (hx : Passes CX X E) (hE : FinX X.K F0 Ed E)
    (hdb : (x == ("__debug__" : Str)) = false := by decide) : DE X F0 (.Call (.Name x p) [] [] pos) (dMake C sp Ed dNil) :=
  PE_imp (pe_make0 M F hr hg hm hb .nil hx hdb) fun σ H Q ⟨σd, M, F, Qd, hF, r, hS, h, fin⟩ => make_fin (hE.mono hF) r .nil fin h

/-- f(k = v, ..), nothing by place: the keywords in the parameters' order -/
theorem callWith_K0kw {M : Model} {A : Around} {E : Value → Shared → Prop} {s : Shared} {K : PySem.W.Frag} {h₀ : Heap} {env : Env} {pos : Pos} {f : Value} {Q : Value → Shared → Prop} {kws : List Keyword} (X : K.In h₀) (hk : PySem.W.keepIn K f = true) (hall : (backToKw pos (keywordEach kws env)).all (·.1.isSome) = true)
    (h : wpAny M A (evalAll ((backToKw pos (keywordEach kws env)).map (·.2))) (fun ks s₂ => K.In s₂.heap ∧ wpAny M A (call f [] (((backToKw pos (keywordEach kws env)).filterMap (·.1)).zip ks)) Q E s₂) E s)
    (hplain : ((backTo pos (starEach [] env)).any (·.1) || (backToKw pos (keywordEach kws env)).any (·.1.isNone)) = false := by rfl) :
    wpAny M A (callWith pos f [] (backTo pos (starEach [] env)) (backToKw pos (keywordEach kws env))) Q E s := PySem.W.callWith_KW0 X hk hall h hplain
abbrev DKw (X : Cx) (F0 : Hp) (kws : List Keyword) (t : DTA) : Prop := PK X kws (LA X.K F0 t)
theorem PK_imp {kws : List Keyword} {t t' : TA} (h : PK X kws t) (i : ∀ σ H Q, t' σ H Q → t σ H Q) : PK X kws t' := ⟨fun pos pins s σ H Q I q => h.run pos pins s σ H Q I (i σ H Q q)⟩
theorem dk_nil : DKw X F0 [] dNil := PK_imp pk_nil fun σ H Q ⟨σd, M, F, Qd, hF, r, hS, h, fin⟩ => fin _ _ _ _ F h (Same.refl F) r Reps.nil
theorem dk_cons {kpos : Pos} {nm : Option Str} {kws : List Keyword} {tr : DTA} (ha : DE X F0 e te) (hr : DKw X F0 kws tr) : DKw X F0 (⟨nm, e, kpos⟩ :: kws) (dCons te tr) :=
  PK_imp (pk_cons ha hr) fun σ H Q ⟨σd, M, F, Qd, hF, r, hS, h, fin⟩ => ⟨σd, M, F, _, hF, r, hS, h, fun x M1 v H1 F1 h1 e1 r1 v1 =>
    ⟨σd, M1, F1, _, hF.trans e1, r1, hS.mono e1, h1, fun xs M2 vs H2 F2 h2 e2 r2 vs2 => fin _ _ _ _ F2 h2 (e1.trans e2) r2 (.cons (v1.mono e2) vs2)⟩⟩
/-- the parameters are given by their names, in their order -/
def BindsK (fd : FuncData) (ps : List Str) : Prop := ∀ (ws : List Value), ws.length = ps.length → bindArgs fd ⟨[], ps.zip ws⟩ = pure (ps.zip ws)
theorem de_callK {kws : List Keyword} (F : FnOk X.prog X.w X.K X.mg X.base CX k f fd ps (LSp X.K sp)) (hr : Room k X.A) (hg : Gl X x) (hm : X.mg x = some (.ref f)) (hk : PySem.W.keepIn X.K (.ref f) = true) (hb : BindsK fd ps) (hx : Passes CX X E) (hE : FinX X.K F0 Ed E)
    (hkw : DKw X F0 kws t) (hall : (backToKw pos (keywordEach kws X.env)).all (·.1.isSome) = true := by rfl) (hks : (backToKw pos (keywordEach kws X.env)).filterMap (·.1) = ps := by rfl)
    (hdb : (x == ("__debug__" : Str)) = false := by decide) (hpl : ((backTo pos (starEach [] X.env)).any (·.1) || (backToKw pos (keywordEach kws X.env)).any (·.1.isNone)) = false := by rfl) :
    DE X F0 (.Call (.Name x p) [] kws pos) (dCall sp Ed t) := by
  refine ⟨fun pins s σ H Q I ⟨σd, M, F1, Qd, hF, r, hS, h, fin⟩ => ?_⟩
  refine wpAny_Call_Name_kw (ld_glob I hg hm ?_ hdb)
  refine callWith_K0kw (h₀ := X.base) I.ok.mod.kin hk hall ?_ hpl
  refine thn (hkw.run pos pins s σ H (fun vs H1 => LSp X.K sp vs H1 Q E) I ⟨σd, M, F1, _, hF, r, hS, h, fun ds M1 vs H1 F2 q e1 r1 v1 => ⟨ds, M1, F2, Qd, Ed, r1, v1, q, fin.mono e1, hE.mono (hF.trans e1)⟩⟩) fun ws s2 ⟨zs, H2, I2, rz, q2⟩ => ⟨I2.kIn, ?_⟩
  rw [hks]
  have hl : ws.length = ps.length := by rw [← rz.length]; exact F.len _ _ _ _ q2
  refine wpAny_call (codeAny_mono (F.run X.A X.stack s2 H2 ⟨[], ps.zip ws⟩ ws zs Q E hr I2.env0 (.of_eq (hb ws hl)) rz q2) fun r s' hq => ?_)
  cases r with
  | error e => exact hx pins σ H2 s2 e s' I2 hq
  | ok fl =>
    cases fl with
    | ret u => exact I2.after hq
    | next => exact False.elim hq
    | brk => exact False.elim hq
    | cont => exact False.elim hq

/-! ### fields -/
def dFld (K : PySem.W.Frag) (f : Str) (te : DTE) : DTE := fun σ M Q => te σ M fun x M1 => ∃ p C fs v, x = .obj p ∧ M1 p = some (.ins C fs) ∧ Cls K C ∧ NoAttr K C f ∧ fs.lookup f = some v ∧ Q v M1
theorem de_fld {f : Str} (he : DE X F0 e te) (hb : attributeBase e f X.env (eval e X.env) = eval e X.env) : DE X F0 (.Attribute e f pos) (dFld X.K f te) :=
  PE_imp (pe_fld he hb) fun σ H Q ⟨σd, M, F, Qd, hF, r, hS, h, fin⟩ => ⟨σd, M, F, _, hF, r, hS, h, fun d M1 v H1 F1 q e1 r1 v1 => by
    obtain ⟨p, C, fs, y, rfl, hp, hc, hn, hl, q⟩ := q
    obtain ⟨dx, gs, h1, h2, h3⟩ := r1.mem p _ hp
    obtain ⟨u, h4, h5⟩ := (FReps.lookup h3).1 _ hl
    exact ⟨p, C, dx, gs, u, rep_obj.mp v1, h1, hc, hn, h4, fin _ _ _ _ F1 q e1 r1 h5⟩⟩
def dSFld (K : PySem.W.Frag) (f : Str) (ta tv : DTE) : DTS := fun D σ M => tv σ M fun y M1 => ta σ M1 fun x M2 => ∃ p C fs, x = .obj p ∧ M2 p = some (.ins C fs) ∧ Cls K C ∧ NoAttr K C f ∧ fs.length < 1000 ∧ D.nx σ (updM M2 p (.ins C (putD f y fs)))
theorem ds_fld {f : Str} {value : Expr} {pos' : Pos} (ha : DE X F0 o ta) (hv : DE X F0 value tv) (hs : swapsWith value (some (.Attribute o f pos')) pos.line X.env = pure false) : DSt X F0 (.Assign [.Attribute o f pos'] value pos) (dSFld X.K f ta tv) :=
  PS_imp (ps_fld ha hv hs) fun D σ H ⟨σd, M, F, Dd, hF, r, hS, h, fin⟩ => ⟨σd, M, F, _, hF, r, hS, h, fun y M1 v H1 F1 q e1 r1 v1 => ⟨σd, M1, F1, _, hF.trans e1, r1, hS.mono e1, q, fun x M2 u H2 F2 q2 e2 r2 u2 => by
    obtain ⟨p, C, fs, rfl, hp, hc, hn, hl, q2⟩ := q2
    obtain ⟨dx, gs, h1, h2, h3⟩ := r2.mem p _ hp
    refine ⟨p, C, dx, gs, rep_obj.mp u2, h1, hc, hn, by rw [← FReps.length h3]; exact hl, ?_⟩
    exact fin.nx _ _ _ _ F2 q2 (e1.trans e2) (r2.setI hp h2 (FReps.put (v1.mono e2) h3)) (hS.mono (e1.trans e2))⟩⟩
def dIOp (g : Int → Int → Int) : DR2 := fun x y M Q => match x, y with
  | .int i, .int j => Q (.int (g i j)) M
  | _, _ => False
def rIOp (g : Int → Int → Int) : V → V → Hp → VK → Prop := fun x y H Q => ∃ i j, x = .int i ∧ y = .int j ∧ Q (.int (g i j)) H
theorem in_addG : InOp X .Add (rIOp fun i j => i + j) := fun pins s σ H x y u v Q I rx ry h => in_add pins s σ H x y u v Q I rx ry h
theorem in_subG : InOp X .Sub (rIOp fun i j => i - j) := fun pins s σ H x y u v Q I rx ry h => in_sub pins s σ H x y u v Q I rx ry h
def dSFldA (K : PySem.W.Frag) (f : Str) (g : Int → Int → Int) (ta tv : DTE) : DTS := fun D σ M => ta σ M fun x M1 => ∃ p C fs v, x = .obj p ∧ M1 p = some (.ins C fs) ∧ Cls K C ∧ NoAttr K C f ∧ fs.lookup f = some v ∧
  tv σ M1 fun y M2 => dIOp g v y M2 fun z M3 => ∃ fs', M3 p = some (.ins C fs') ∧ fs'.length < 1000 ∧ D.nx σ (updM M3 p (.ins C (putD f z fs')))
theorem ds_fldaug {f : Str} {value : Expr} {tpos : Pos} {op : Operator} {g : Int → Int → Int} (ha : DE X F0 o ta) (hv : DE X F0 value tv) (hop : InOp X op (rIOp g)) : DSt X F0 (.AugAssign (.Attribute o f tpos) op value pos) (dSFldA X.K f g ta tv) :=
  PS_imp (ps_fldaug ha hv hop) fun D σ H ⟨σd, M, F, Dd, hF, r, hS, h, fin⟩ => ⟨σd, M, F, _, hF, r, hS, h, fun x M1 u H1 F1 q e1 r1 u1 => by
    obtain ⟨p, C, fs, v, rfl, hp, hc, hn, hl, q⟩ := q
    obtain ⟨dx, gs, h1, h2, h3⟩ := r1.mem p _ hp
    obtain ⟨w, h4, h5⟩ := (FReps.lookup h3).1 _ hl
    refine ⟨p, C, dx, gs, w, rep_obj.mp u1, h1, hc, hn, h4, σd, M1, F1, _, hF.trans e1, r1, hS.mono e1, q, fun y M2 yv H2 F2 q2 e2 r2 y2 => ?_⟩
    unfold dIOp at q2
    split at q2
    · rename_i i j
      obtain ⟨fs', hp', hl', q2⟩ := q2
      obtain ⟨dx', gs', h1', h2', h3'⟩ := r2.mem p _ hp'
      refine ⟨i, j, rep_int.mp h5, rep_int.mp y2, dx', gs', h1', by rw [← FReps.length h3']; exact hl', ?_⟩
      exact fin.nx _ _ _ _ F2 q2 (e1.trans e2) (r2.setI hp' h2' (FReps.put (rep_int.mpr rfl) h3')) (hS.mono (e1.trans e2))
    · exact q2.elim⟩
end

/-! ### a def keeps its promise -/
section
variable {P : Program} {w : World} {K : PySem.W.Frag} {mg : Str → Option Value} {base : Heap} {CX : CXT} {x qual : Str} {params : Arguments} {body : List Stmt} {scope : Scope} {f : Addr} {fd : FuncData} {N ps : List Str} {k : Nat} {sp : SpD}
theorem fnD (F : FunD K x qual params body scope [] [] f fd) (S : FnScope N ps scope) (len : ∀ ds M Q E, sp ds M Q E → ds.length = ps.length)
    (hbody : ∀ (cdv : Value) (A : Around) (outer : List Env) (s : Shared) (H : Hp) (E : XK) (F0 : Hp) (Ed : DX), Room k (A.deeper (envOfC qual scope s.heap.objs.size f cdv)) → FinX K F0 Ed E →
      ∃ τ : DTS, DSs (cxOf CX P w K mg base N qual scope f cdv A outer s H E) F0 body τ ∧ ∀ ds M Q, sp ds M Q Ed → τ { nx := fun _ M' => Wk Q .non M', rt := Wk Q } (startD N ds) M) : FnOk P w K mg base CX (k + 1) f fd ps (LSp K sp) := by
  refine F.ok S (fun vs H Q E ⟨ds, M, F, Qd, Ed, r, hv, h, fin, finx⟩ => by rw [← hv.length]; exact len _ _ _ _ h) fun cdv A outer s H vs Q E hr ⟨ds, M, F0, Qd, Ed, r, hv, h, fin, finx⟩ => ?_
  obtain ⟨τ, h1, h2⟩ := hbody cdv A outer s H E F0 Ed hr finx
  refine ⟨_, h1, startD N ds, M, F0, _, Same.refl _, r, SRep.start hv, h2 ds M Qd h, ⟨?_, fin.wk, ?_, ?_⟩⟩
  · exact fun σd M' σ H' F' q e r' s' => fin.wk _ _ _ _ F' q e r' (rep_non.mpr rfl)
  · exact fun σd M' σ H' F' q => q.elim
  · exact fun σd M' σ H' F' q => q.elim
end
end DL
/-! Dicts over data: they stand in M, keys are ints and texts. -/
namespace DL
open PySem PySem.Spec PyProof.Rows L2

theorem _root_.L2.Room.u1 {k : Nat} {A : Around} (r : Room k A) : A.units + 1 < cLine := by have := r.un; omega
def valD (kvs : List (Key × D)) (k : Key) : Option D := (kvs.find? fun kv => decide (kv.1 = k)).map (·.2)
def putKD (kvs : List (Key × D)) (k : Key) (v : D) : List (Key × D) :=
  if (kvs.any fun kv => decide (kv.1 = k)) = true then kvs.map (fun kv => if kv.1 = k then (kv.1, v) else kv) else kvs ++ [(k, v)]
theorem valD_nil {k : Key} : valD [] k = none := rfl
theorem valD_pos {p : Key × D} {r : List (Key × D)} {k : Key} (e : p.1 = k) : valD (p :: r) k = some p.2 := by simp [valD, List.find?_cons, e]
theorem valD_neg {p : Key × D} {r : List (Key × D)} {k : Key} (e : ¬ p.1 = k) : valD (p :: r) k = valD r k := by simp [valD, List.find?_cons, e]
def keyD : D → Option Key
  | .str x => some (.inr x)
  | .int i => some (.inl i)
  | _ => none
theorem sqD_of_ls {M : Mp} {x : D} {ds : List D} (h : lsD M x = some ds) : sqD M x = some ds := by
  cases x with
  | lst es => exact h
  | obj p => exact h
  | _ => cases h
section
variable {K : PySem.W.Frag} {F H : Hp} {M : Mp}
theorem keyD_rep {d : D} {v : V} {k : Key} (h : Rep K F d v) (e : keyD d = some k) : v = kV k := by
  cases d with
  | str x => cases e; exact rep_str.mp h
  | int x => cases e; exact rep_int.mp h
  | _ => cases e
theorem rep_dK {k : Key} : Rep K F (dK k) (kV k) := by
  cases k with
  | inl i => exact rep_int.mpr rfl
  | inr i => exact rep_str.mpr rfl
theorem KReps.val {k : Key} : ∀ {kvs : List (Key × D)} {gs : List (Key × V)}, KReps K F kvs gs → (∀ d, valD kvs k = some d → ∃ v, valV gs k = some v ∧ Rep K F d v) ∧ (valD kvs k = none → valV gs k = none)
  | [], [], _ => ⟨fun d e => (by cases e), fun _ => rfl⟩
  | [], _ :: _, h => h.elim
  | _ :: _, [], h => h.elim
  | p :: fs, q :: gs, h => by
    obtain ⟨e, h1, h2⟩ := h
    obtain ⟨i1, i2⟩ := KReps.val (k := k) h2
    by_cases hk : p.1 = k
    · rw [valD_pos hk, valV_pos (e ▸ hk)]
      exact ⟨fun d e => (by cases e; exact ⟨_, rfl, h1⟩), fun e => (by cases e)⟩
    · rw [valD_neg hk, valV_neg (e ▸ hk)]
      exact ⟨i1, i2⟩
theorem KReps.isSome {k : Key} {kvs : List (Key × D)} {gs : List (Key × V)} (h : KReps K F kvs gs) : (valV gs k).isSome = (valD kvs k).isSome := by
  obtain ⟨h1, h2⟩ := h.val (k := k)
  cases e : valD kvs k with
  | none => rw [h2 e] <;> rfl
  | some d =>
    obtain ⟨v, hv, _⟩ := h1 d e
    rw [hv] <;> rfl
theorem KReps.length : ∀ {kvs : List (Key × D)} {gs : List (Key × V)}, KReps K F kvs gs → kvs.length = gs.length
  | [], [], _ => rfl
  | [], _ :: _, h => h.elim
  | _ :: _, [], h => h.elim
  | _ :: _, _ :: _, h => by simp [KReps.length h.2.2]
theorem KReps.any {k : Key} : ∀ {kvs : List (Key × D)} {gs : List (Key × V)}, KReps K F kvs gs → (kvs.any fun kv => decide (kv.1 = k)) = gs.any fun kv => decide (kv.1 = k)
  | [], [], _ => rfl
  | [], _ :: _, h => h.elim
  | _ :: _, [], h => h.elim
  | _ :: _, _ :: _, h => by
    rw [List.any_cons, List.any_cons, KReps.any h.2.2, h.1]
theorem KReps.app : ∀ {kvs ls : List (Key × D)} {gs hs : List (Key × V)}, KReps K F kvs gs → KReps K F ls hs → KReps K F (kvs ++ ls) (gs ++ hs)
  | [], _, [], _, _, t => t
  | [], _, _ :: _, _, h, _ => h.elim
  | _ :: _, _, [], _, h, _ => h.elim
  | _ :: _, _, _ :: _, _, h, t => ⟨h.1, h.2.1, KReps.app h.2.2 t⟩
theorem KReps.repl {k : Key} {d : D} {v : V} (hv : Rep K F d v) : ∀ {kvs : List (Key × D)} {gs : List (Key × V)}, KReps K F kvs gs → KReps K F (kvs.map fun kv => if kv.1 = k then (kv.1, d) else kv) (gs.map fun kv => if kv.1 = k then (kv.1, v) else kv)
  | [], [], _ => trivial
  | [], _ :: _, h => h.elim
  | _ :: _, [], h => h.elim
  | p :: fs, q :: gs, h => by
    obtain ⟨e, h1, h2⟩ := h
    rw [List.map_cons, List.map_cons]
    refine ⟨?_, ?_, KReps.repl hv h2⟩ <;>
    · by_cases hk : p.1 = k
      · rw [if_pos hk, if_pos (e ▸ hk)]
        first | exact e | exact hv
      · rw [if_neg hk, if_neg (e ▸ hk)]
        first | exact e | exact h1
theorem KReps.put {k : Key} {d : D} {v : V} (hv : Rep K F d v) {kvs : List (Key × D)} {gs : List (Key × V)} (h : KReps K F kvs gs) : KReps K F (putKD kvs k d) (putK gs k v) := by
  unfold putKD putK
  rw [h.any (k := k)]
  split
  · exact h.repl hv
  · exact h.app ⟨rfl, hv, trivial⟩
theorem KReps.keys : ∀ {kvs : List (Key × D)} {gs : List (Key × V)}, KReps K F kvs gs → Reps K F (kvs.map fun kv => dK kv.1) (gs.map fun kv => kV kv.1)
  | [], [], _ => .nil
  | [], _ :: _, h => h.elim
  | _ :: _, [], h => h.elim
  | p :: fs, q :: gs, h => by
    rw [List.map_cons, List.map_cons, h.1]
    exact .cons rep_dK (KReps.keys h.2.2)
end
/-- d[y] -/
def dDGet (td ty : DTE) : DTE := fun σ M Q => td σ M fun x M1 => ty σ M1 fun y M2 => ∃ a kvs k v, x = .obj a ∧ M2 a = some (.dct kvs) ∧ keyD y = some k ∧ valD kvs k = some v ∧ Q v M2
def dDIn (neg : Bool) (ty td : DTE) : DTE := fun σ M Q => ty σ M fun y M1 => td σ M1 fun x M2 => ∃ a kvs k, x = .obj a ∧ M2 a = some (.dct kvs) ∧ keyD y = some k ∧ Q (.bl (neg != (valD kvs k).isSome)) M2
def dDPut (td ty tv : DTE) : DTS := fun D σ M => tv σ M fun v M1 => td σ M1 fun x M2 => ty σ M2 fun y M3 => ∃ a kvs k, x = .obj a ∧ M3 a = some (.dct kvs) ∧ keyD y = some k ∧ kvs.length < sizeLine ∧ D.nx σ (updM M3 a (.dct (putKD kvs k v)))
def dDSetd (td ty tx : DTE) : DTE := fun σ M Q => td σ M fun x M1 => ∃ a kvs0, x = .obj a ∧ M1 a = some (.dct kvs0) ∧ ty σ M1 fun y M2 => tx σ M2 fun z M3 => ∃ kvs k, M3 a = some (.dct kvs) ∧ keyD y = some k ∧ kvs.length < sizeLine ∧
  (∀ v, valD kvs k = some v → Q v M3) ∧ (valD kvs k = none → Q z (updM M3 a (.dct (putKD kvs k z))))
def dDNew : DTE := fun _ M Q => ∀ p, M p = none → Q (.obj p) (updM M p (.dct []))
section
variable {X : Cx} {F0 : Hp} {a b e f o i value : Expr} {ta tb td ty tv tx : DTE} {pos pos' apos cpos : Pos}
theorem de_dget (hu : X.A.units + 1 < cLine) (ho : DE X F0 o td) (hi : DE X F0 i ty) (hs : NoSl i := by exact fun _ _ => rfl) : DE X F0 (.Subscript o i pos) (dDGet td ty) :=
  PE_imp (pe_dget hu ho hi hs) fun σ H Q ⟨σd, M, F, Qd, hF, r, hS, h, fin⟩ => ⟨σd, M, F, _, hF, r, hS, h, fun x M1 v H1 F1 h1 e1 r1 v1 => ⟨σd, M1, F1, _, hF.trans e1, r1, hS.mono e1, h1, fun y M2 w H2 F2 h2 e2 r2 w2 => by
    obtain ⟨a, kvs, k, d, rfl, hM, hk, hv, q⟩ := h2
    obtain ⟨vs, hH, kr⟩ := r2.mem a _ hM
    obtain ⟨u, hu, ru⟩ := kr.val.1 d hv
    cases keyD_rep w2 hk
    refine ⟨a, u, rep_obj.mp v1, ?_, fin _ _ _ _ _ q (e1.trans e2) r2 ru⟩
    rw [← hu]
    exact DGet.k hH⟩⟩
theorem lift_din {neg : Bool} {σ : L2.St} {H : Hp} {Q : VK} (h : LE X.K F0 (dDIn neg ty td) σ H Q) : (if neg then tDNotIn (LE X.K F0 ty) (LE X.K F0 td) else tDIn (LE X.K F0 ty) (LE X.K F0 td)) σ H Q := by
  obtain ⟨σd, M, F, Qd, hF, r, hS, h, fin⟩ := h
  have key : LE X.K F0 ty σ H fun y H1 => LE X.K F0 td σ H1 fun x H2 => ∃ a o, x = .ref a ∧ DGet H2 a y o ∧ Q (.bl (neg != o.isSome)) H2 :=
    ⟨σd, M, F, _, hF, r, hS, h, fun y M1 v H1 F1 h1 e1 r1 v1 => ⟨σd, M1, F1, _, hF.trans e1, r1, hS.mono e1, h1, fun x M2 w H2 F2 h2 e2 r2 w2 => by
      obtain ⟨a, kvs, k, rfl, hM, hk, q⟩ := h2
      obtain ⟨vs, hH, kr⟩ := r2.mem a _ hM
      cases keyD_rep v1 hk
      refine ⟨a, valV vs k, rep_obj.mp w2, DGet.k hH, ?_⟩
      rw [kr.isSome]
      exact fin _ _ _ _ _ q (e1.trans e2) r2 (rep_bl.mpr rfl)⟩⟩
  cases neg with
  | true => simpa [tDNotIn] using key
  | false => simpa [tDIn] using key
theorem de_din (hu : X.A.units + 1 < cLine) (ha : DE X F0 a ta) (hb : DE X F0 b tb) (hm : behindInMarks .In b = false := by rfl) : DE X F0 (.Compare a [.In] [b] pos) (dDIn false ta tb) :=
  PE_imp (pe_cmp (pc_din hu ha hb) hm) fun σ H Q h => lift_din h
theorem de_dnotin (hu : X.A.units + 1 < cLine) (ha : DE X F0 a ta) (hb : DE X F0 b tb) (hm : behindInMarks .NotIn b = false := by rfl) : DE X F0 (.Compare a [.NotIn] [b] pos) (dDIn true ta tb) :=
  PE_imp (pe_cmp (pc_dnotin hu ha hb) hm) fun σ H Q h => lift_din h
theorem lift_dB {t : DTE} {σ : L2.St} {H : Hp} {Q : Bool → Hp → Prop} (h : LT X.K F0 (dB t) σ H Q) : LE X.K F0 t σ H fun x H1 => ∃ c, x = .bl c ∧ Q c H1 := by
  obtain ⟨σd, M, F, Qd, hF, hR, hS, h, fin⟩ := h
  exact ⟨σd, M, F, _, hF, hR, hS, h, fun x M1 v H1 F1 h1 e1 r1 v1 => by
    split at h1
    · exact ⟨_, rep_bl.mp v1, fin _ _ _ _ h1 e1 r1⟩
    · exact h1.elim⟩
theorem dt_din (hu : X.A.units + 1 < cLine) (ha : DE X F0 a ta) (hb : DE X F0 b tb) (hm : behindInMarks .In b = false := by rfl) : DT X F0 (.Compare a [.In] [b] pos) (dB (dDIn false ta tb)) :=
  PT_imp (pt_cmp (pc_din hu ha hb) hm) fun σ H Q h => lift_din (neg := false) (lift_dB h)
theorem dt_dnotin (hu : X.A.units + 1 < cLine) (ha : DE X F0 a ta) (hb : DE X F0 b tb) (hm : behindInMarks .NotIn b = false := by rfl) : DT X F0 (.Compare a [.NotIn] [b] pos) (dB (dDIn true ta tb)) :=
  PT_imp (pt_cmp (pc_dnotin hu ha hb) hm) fun σ H Q h => lift_din (neg := true) (lift_dB h)
theorem ds_dput (hu : X.A.units + 1 < cLine) (ho : DE X F0 o td) (hi : DE X F0 i ty) (hv : DE X F0 value tv) (hs : swapsWith value (some (.Subscript o i pos')) pos.line X.env = pure false := by rfl) :
    DSt X F0 (.Assign [.Subscript o i pos'] value pos) (dDPut td ty tv) :=
  PS_imp (ps_dput hu ho hi hv hs) fun D σ H ⟨σd, M, F, Dd, hF, r, hS, h, fin⟩ => ⟨σd, M, F, _, hF, r, hS, h, fun z M1 v H1 F1 h1 e1 r1 v1 => ⟨σd, M1, F1, _, hF.trans e1, r1, hS.mono e1, h1, fun x M2 w H2 F2 h2 e2 r2 w2 =>
    ⟨σd, M2, F2, _, (hF.trans e1).trans e2, r2, hS.mono (e1.trans e2), h2, fun y M3 u H3 F3 h3 e3 r3 u3 => by
    obtain ⟨a, kvs, k, rfl, hM, hk, hl, q⟩ := h3
    obtain ⟨vs, hH, kr⟩ := r3.mem a _ hM
    cases keyD_rep u3 hk
    have e13 := (e1.trans e2).trans e3
    refine ⟨a, _, rep_obj.mp w2, DPut.k hH (by rw [← kr.length]; exact hl), fin.nx _ _ _ _ _ q e13 (r3.setX hM fun H' hH' => ⟨_, hH', kr.put (v1.mono (e2.trans e3))⟩) (hS.mono e13)⟩⟩⟩⟩
theorem de_dsetd (ho : DE X F0 o td) (he : DE X F0 e ty) (hf : DE X F0 f tx) (m : M2 X o "setdefault" apos e f cpos) : DE X F0 (.Call (.Attribute o "setdefault" apos) [e, f] [] cpos) (dDSetd td ty tx) :=
  PE_imp (pe_dsetd ho he hf m) fun σ H Q ⟨σd, M, F, Qd, hF, r, hS, h, fin⟩ => ⟨σd, M, F, _, hF, r, hS, h, fun x M1 v H1 F1 h1 e1 r1 v1 => by
    obtain ⟨a, kvs0, rfl, hM0, h1⟩ := h1
    obtain ⟨vs0, hH0, _⟩ := r1.mem a _ hM0
    refine ⟨a, rep_obj.mp v1, .inl ⟨vs0, .inl hH0⟩, σd, M1, F1, _, hF.trans e1, r1, hS.mono e1, h1, fun y M2 w H2 F2 h2 e2 r2 w2 => ⟨σd, M2, F2, _, (hF.trans e1).trans e2, r2, hS.mono (e1.trans e2), h2, fun z M3 u H3 F3 h3 e3 r3 u3 => ?_⟩⟩
    obtain ⟨kvs, k, hM, hk, hl, q1, q2⟩ := h3
    obtain ⟨vs, hH, kr⟩ := r3.mem a _ hM
    have e13 := (e1.trans e2).trans e3
    have hkk := keyD_rep w2 hk
    obtain ⟨k1, k2⟩ := kr.val (k := k)
    refine ⟨vs, k, hH, hkk, by rw [← kr.length]; exact hl, fun v hv => ?_, fun hn => ?_⟩
    · cases hd : valD kvs k with
      | none => rw [k2 hd] at hv; cases hv
      | some d =>
        obtain ⟨v', hv', rv⟩ := k1 d hd
        rw [hv'] at hv
        cases hv
        exact fin _ _ _ _ _ (q1 d hd) e13 r3 rv
    · cases hd : valD kvs k with
      | some d =>
        obtain ⟨v', hv', rv⟩ := k1 d hd
        rw [hv'] at hn
        cases hn
      | none => exact fin _ _ _ _ _ (q2 hd) e13 (r3.setX hM fun H' hH' => ⟨_, hH', kr.put u3⟩) u3⟩
theorem de_dnew : DE X F0 (.Dict [] [] pos) dDNew :=
  PE_imp pe_dnewK fun σ H Q ⟨σd, M, F, Qd, hF, r, hS, h, fin⟩ => fun p hp => fin _ _ _ _ F (h p (r.free hp)) (Same.refl F) (r.newX hp fun H' hH' => ⟨[], hH', trivial⟩) (rep_obj.mpr rfl)
/-- list(d) -/
def dListD (own : Bool) : DRC := fun xs M Q => match xs with
  | [.obj a] => ∃ kvs, M a = some (.dct kvs) ∧ dNew own (kvs.map fun kv => dK kv.1) M Q
  | _ => False
theorem cd_listD {own : Bool} (hc : X.calm = true) : CallR X (.type "list") (LRC X.K F0 (dListD own)) := by
  refine CallR_imp (call_listD hc) fun vs H Q ⟨xs, M, F, Qd, hF, r, hx, h, fin⟩ => ?_
  unfold dListD at h
  split at h
  · obtain ⟨kvs, hM, h⟩ := h
    obtain ⟨v, rfl, h1⟩ := hx.one
    cases rep_obj.mp h1
    obtain ⟨gs, hH, kr⟩ := r.mem _ _ hM
    exact ⟨_, gs, rfl, .inl hH, fun p hp => dNew_fin r kr.keys h fin hp⟩
  · exact h.elim
/-- sorted(xs), texts -/
def dSortS (own : Bool) : DRC := fun xs M Q => match xs with
  | [x] => ∃ zs : List Str, lsD M x = some (zs.map D.str) ∧ zs.length < 64 ∧ ∀ ys : List Str, ys.Perm zs → sortedS ys = true → dNew own (ys.map D.str) M Q
  | _ => False
theorem cd_sortS {own : Bool} : CallR X (.builtin "sorted") (LRC X.K F0 (dSortS own)) := by
  refine CallR_imp cr_sortedS fun vs H Q ⟨xs, M, F, Qd, hF, r, hx, h, fin⟩ => ?_
  unfold dSortS at h
  split at h
  · obtain ⟨zs, hM, hl, h⟩ := h
    obtain ⟨v, rfl, h1⟩ := hx.one
    obtain ⟨a, us, rfl, hH, hr⟩ := lsD_rep r h1 hM
    cases hr.strs_inv
    exact ⟨a, zs, rfl, SqL.of hH, hl, fun ys p h1 h2 hp => dNew_fin r Reps.strs (h ys h1 h2) fin hp⟩
  · exact h.elim
end
end DL
namespace DL
open PySem PySem.Spec PyProof.Rows L2
/-- a loop over a list that may change, but does not -/
theorem for_keep {M : Mp} {wi : DTI} {g : DTG} {tb : DTS} {E : DEnds} {σ : DS} (ds : List D) (Kp : Mp → Prop) (hwi : ∀ Kd : List D → (Mp → Prop) → Mp → Prop, (∀ St : Mp → Prop, (∀ M', Kp M' → St M') → Kd ds St M) → wi σ M Kd) (W : Nat → DS → Mp → Prop) (h0 : W 0 σ M)
    (hkp : ∀ i σ M, W i σ M → Kp M)
    (h : ∀ (i : Nat) d σ M (N : DS → Mp → Prop), ds[i]? = some d → W i σ M → (∀ σ M, W (i + 1) σ M → N σ M) → g d σ M fun σ2 M2 => tb { E with nx := N, ct := N, bk := E.nx } σ2 M2)
    (q : ∀ σ M, W ds.length σ M → E.nx σ M) : dFor wi g tb E σ M := by
  unfold dFor
  refine hwi _ fun St hSt => ⟨W, h0, fun i σ M w _ => hSt M (hkp i σ M w), fun i d σ M hd w => ?_, q⟩
  exact h i d σ M _ hd w fun _ _ z => z
end DL
/-! sorted(xs), xs a list of data (nested tuples, texts, numbers) that are alike. -/
namespace DL
open PySem PySem.Spec PyProof.Rows L2
/-- a tree as data (none where it is none) -/
def encD (d : D) : PyData := (pyD d).getD .none
def dSortD (A : Around) (own : Bool) : DRC := fun xs M Q => match xs with
  | [x] => ∃ ds, lsD M x = some ds ∧ (∀ d ∈ ds, (pyD d).isSome = true ∧ A.units + 2 + (encD d).depth < cLine) ∧ PySem.W.AllAlike (ds.map encD) ∧ PySem.W.Sortable (ds.map encD) ∧ ds.length ≤ sizeLine ∧ dNew own (ds.mergeSort (PySem.W.dataLe false encD)) M Q
  | _ => False
theorem each_out {K : PySem.W.Frag} {F : Hp} : ∀ {out : List Value} {ds : List D}, PySem.W.EachIs (fun (u : Value) (d : D) => ∃ v, RelV v u ∧ Rep K F d v) out ds → ∃ vs, Vals vs out ∧ Reps K F ds vs
  | _, _, .nil => ⟨[], .nil, Reps.nil⟩
  | _, _, .cons ⟨v, h1, h2⟩ t => by
    obtain ⟨vs, h3, h4⟩ := each_out t
    exact ⟨v :: vs, .cons h1 h3, Reps.cons h2 h4⟩
theorem each_in {K : PySem.W.Frag} {F : Hp} {R' : Value → D → Prop} : ∀ {us : List Value} {vs : List V} {ds : List D}, Vals vs us → Reps K F ds vs → (∀ d ∈ ds, ∀ u v, RelV v u → Rep K F d v → R' u d) → PySem.W.EachIs R' us ds
  | _, _, [], h, k, _ => by
    cases k.nil_inv
    cases h
    exact .nil
  | _, _, d :: ds, h, k, hr => by
    obtain ⟨v, vs', rfl, k1, k2⟩ := Reps.consD_inv k
    cases h with
    | cons h1 h2 => exact .cons (hr d (List.mem_cons_self ..) _ _ h1 k1) (each_in h2 k2 fun d hd => hr d (List.mem_cons_of_mem _ hd))
section
variable {X : Cx} {F0 : Hp}
theorem cd_sortD {own : Bool} : CallR X (.builtin "sorted") (LRC X.K F0 (dSortD X.A own)) := by
  intro pins s σ H vs us Q I rr ⟨xs, M, F, Qd, hF, r, hx, h, fin⟩
  unfold dSortD at h
  split at h
  · obtain ⟨ds, hM, hpy, hal, hk, hz, h⟩ := h
    obtain ⟨v, rfl, h1⟩ := hx.one
    obtain ⟨a, ws, rfl, hH, hr⟩ := lsD_rep r h1 hM
    obtain ⟨its, rv, hl, _⟩ := I.list (SqL.of hH)
    rw [Vals.ref1 rr]
    have e := each_in (R' := fun (u : Value) (d : D) => ∃ v, RelV v u ∧ Rep X.K F d v) rv hr fun d _ u v h1 h2 => ⟨v, h1, h2⟩
    have er := each_in (R' := fun (u : Value) (d : D) => ∃ as, Reads s.heap u (encD d) as) rv hr fun d hd u v h1 h2 => by
      obtain ⟨y, hy⟩ := Option.isSome_iff_exists.mp (hpy d hd).1
      have ey : encD d = y := by unfold encD; rw [hy] <;> rfl
      rw [ey]
      exact Dp.reads I y v u (dp_of r.fr _ _ _ h2 hy) h1
    refine PySem.W.sorted_data hl.isList e er hal hk hz (fun d hd => (hpy d hd).2) fun out ho eo => ?_
    obtain ⟨zs, z1, z2⟩ := each_out eo
    obtain ⟨ep, he'⟩ := PyProof.Rows.sortedAll_at s.heap its out.toArray
    have hlen : zs.length ≤ sizeLine := by rw [z1.length, ho]; exact hz
    exact ⟨.ref _, upd H (s.heap.objs.size + 1) (.lst zs), I.laid (t' := s.toks) (fun _ _ => PyProof.Rows.sortedAll_old) (Nat.le_succ _) ⟨hlen, out, ep, z1, he'⟩, rfl, dNew_fin r z2 h fin (I.hok.fresh (Nat.le_succ _))⟩
  · exact h.elim
end
end DL
/-! Trees as keys of dicts: a first step (the key itself; the object of such a dict). -/
namespace DL
open PySem PySem.Spec PyProof.Rows L2
mutual
theorem nested_of {h : Heap} : ∀ {y : PyData} {u : Value} {as : List Addr} {k : NestedKey}, Reads h u y as → nkP y = some k → NestedIs h k u
  | .none, _, _, k, r, e => by
    cases r
    unfold nkP at e
    cases e
    exact .none
  | .bool b, _, _, k, r, e => by
    cases r
    unfold nkP at e
    cases e
    exact .bool rfl
  | .int i, _, _, k, r, e => by
    cases r
    unfold nkP at e
    cases e
    exact .int _ _
  | .str x, _, _, k, r, e => by
    cases r
    unfold nkP at e
    cases e
    exact .text _ _
  | .tuple xs, _, _, k, r, e => by
    cases r with
    | tuple h1 h2 h3 h4 =>
      unfold nkP at e
      obtain ⟨ks, e1, rfl⟩ := Option.map_eq_some_iff.mp e
      exact .tup h1 h2 h3 (nested_all h4 e1)
  | .list xs, _, _, k, r, e => by
    unfold nkP at e
    cases e
  | .dict xs, _, _, k, r, e => by
    unfold nkP at e
    cases e
theorem nested_all {h : Heap} : ∀ {ys : List PyData} {us : List Value} {as : List Addr} {ks : List NestedKey}, ReadsAll h us ys as → nkPs ys = some ks → NestedAll h ks us
  | [], _, _, ks, r, e => by
    cases r
    unfold nkPs at e
    cases e
    exact .nil
  | y :: ys, _, _, ks, r, e => by
    cases r with
    | cons r1 r2 =>
      unfold nkPs at e
      split at e
      · rename_i k ks' e1 e2
        cases e
        exact .cons (nested_of r1 e1) (nested_all r2 e2)
      · cases e
end
theorem key_is {X : Cx} {pins : List (Addr × Obj)} {σ : L2.St} {H F : Hp} {s : Shared} {d : D} {v : V} {u : Value} {k : NestedKey} (I : Inv X pins σ H s) (hf : Same F H) (h : Rep X.K F d v) (r : RelV v u) (e : nkD d = some k) : NestedIs s.heap k u := by
  obtain ⟨y, h1, h2⟩ := Option.bind_eq_some_iff.mp e
  obtain ⟨as, q⟩ := Dp.reads I y v u (dp_of hf _ _ _ h h1) r
  exact nested_of q h2
theorem dnO_ok {P : Program} {w : World} {H : Hp} {h : Heap} {a : Addr} {xs : List (NestedKey × Addr × V)} {ys : List (NestedKey × Addr × Value)} {o : Obj} {es : Array DictEntry} {ep : Nat} (hz : xs.length ≤ sizeLine) (hs : (a == sysModules) = false)
    (hp : Paired (fun (p : NestedKey × Addr × V) (q : NestedKey × Addr × Value) => p.1 = q.1 ∧ p.2.1 = q.2.1 ∧ RelV p.2.2 q.2.2) xs ys) (ho : h.get? a = some o) (he : o.ExactDict) (hd : o.data = .dict es ep) (hes : es.toList = ys.map (entryOfKey (nestedKind P w))) (hn : (ys.map (·.1)).Nodup) : ObjOk P w H h a (dnO P w a xs) :=
  ⟨⟨hz, hs, ys, o, es, ep, hp, ho, he, hd, hes, hn⟩, ⟨o, ho⟩, fun h1 h2 ⟨z1, z2, ys', o', es', ep', q1, q2, q3⟩ k => ⟨z1, z2, ys', o', es', ep', q1, k o' q2, q3⟩⟩
/-- {}, to be such a dict -/
theorem pe_dnewN {X : Cx} {pos : Pos} : PE X (.Dict [] [] pos) (fun _ H Q => ∀ p, H p = none → Q (.ref p) (upd H p (dnO X.prog X.w p []))) := ⟨fun pins s σ H Q I h =>
  wpAny_Dict_empty ⟨.ref s.heap.objs.size, _, I.laid (a := s.heap.objs.size) (o := dnO X.prog X.w s.heap.objs.size []) (t' := s.toks) (fun _ _ q => Heap.get?_push_of_some _ q) (Nat.le_refl _)
    (dnO_ok (ys := []) (es := #[]) (ep := 0) (Nat.zero_le _) (beq_eq_false_iff_ne.mpr (Ne.symm (Nat.ne_of_lt I.big))) .nil (Heap.get?_push_size _ rfl) ⟨rfl, rfl, rfl⟩ rfl rfl List.nodup_nil), rfl, h _ (I.hok.fresh (Nat.le_refl _))⟩⟩
end DL
/-! Dicts with trees as keys: in, d[k], d[k] = v, over the abstract heap. -/
namespace DL
open PySem PySem.Spec PyProof.Rows L2
def KeyOk (K : PySem.W.Frag) (H : Hp) (k : NestedKey) (q : Addr) : Prop := ∃ d F, Same F H ∧ Rep K F d (.ref q) ∧ nkD d = some k ∧ k.depth ≤ 8
abbrev PrN : NestedKey × Addr × V → NestedKey × Addr × Value → Prop := fun p q => p.1 = q.1 ∧ p.2.1 = q.2.1 ∧ RelV p.2.2 q.2.2
def atN (xs : List (NestedKey × Addr × V)) (k : NestedKey) : Option (Addr × V) := (xs.find? fun x => decide (x.1 = k)).map (·.2)
def storeN (xs : List (NestedKey × Addr × V)) (k : NestedKey) (a : Addr) (v : V) : List (NestedKey × Addr × V) :=
  if (atN xs k).isSome then xs.map (fun x => if x.1 = k then (x.1, x.2.1, v) else x) else xs ++ [(k, a, v)]
theorem atN_pair {k : NestedKey} : ∀ {xs : List (NestedKey × Addr × V)} {ys : List (NestedKey × Addr × Value)}, Paired PrN xs ys → (atN xs k = none ∧ atKey ys k = none) ∨ ∃ a v u, atN xs k = some (a, v) ∧ atKey ys k = some (a, u) ∧ RelV v u
  | _, _, .nil => .inl ⟨rfl, rfl⟩
  | _, _, .cons (a := x) (b := y) h t => by
    obtain ⟨h1, h2, h3⟩ := h
    unfold atN atKey
    rw [List.find?_cons, List.find?_cons, ← h1]
    by_cases e : x.1 = k
    · rw [decide_eq_true e]
      exact .inr ⟨x.2.1, x.2.2, y.2.2, rfl, by rw [h2] <;> rfl, h3⟩
    · rw [decide_eq_false e]
      exact atN_pair t
section
variable {X : Cx} {pins : List (Addr × Obj)} {σ : L2.St} {H : Hp} {s : Shared}
theorem KeyOk.is {k : NestedKey} {q : Addr} (I : Inv X pins σ H s) (h : KeyOk X.K H k q) : (nestedKind X.prog X.w).is s.heap k q := by
  obtain ⟨d, F, h1, h2, h3, h4⟩ := h
  exact ⟨key_is I h1 h2 (u := .ref q) rfl h3, h4⟩
theorem pairN_mem : ∀ {xs : List (NestedKey × Addr × V)} {ys : List (NestedKey × Addr × Value)}, Paired PrN xs ys → ∀ y ∈ ys, ∃ x ∈ xs, PrN x y
  | _, _, .nil, y, hy => by cases hy
  | _, _, .cons h t, y, hy => by
    rcases List.mem_cons.mp hy with rfl | hy
    · exact ⟨_, List.mem_cons_self .., h⟩
    · obtain ⟨x, hx, q⟩ := pairN_mem t y hy
      exact ⟨x, List.mem_cons_of_mem _ hx, q⟩
theorem dn_full {p : Addr} {xs : List (NestedKey × Addr × V)} (I : Inv X pins σ H s) (e : H p = some (dnO X.prog X.w p xs)) (hk : ∀ x ∈ xs, KeyOk X.K H x.1 x.2.1) :
    ∃ ys, Paired PrN xs ys ∧ s.heap.DictOfH (nestedKind X.prog X.w) p ys ∧ (p == sysModules) = false ∧ xs.length ≤ sizeLine := by
  have x := I.hok p _ e
  obtain ⟨⟨hz, hs, ys, o, es, ep, hp, ho, he, hd, hes, hn⟩, _⟩ := x
  refine ⟨ys, hp, ⟨o, es, ep, ho, he, hd, hes, fun y hy => ?_, hn⟩, hs, hz⟩
  obtain ⟨x, hx, q1, q2, _⟩ := pairN_mem hp y hy
  have := (hk x hx).is I
  rw [q1, q2] at this
  exact this
end
section
variable {X : Cx}
/-- k in d -/
theorem op_inN (hu : X.A.units + 9 < cLine) : OpR X (compareOp .In) (fun x y H Q => ∃ (q p : Addr) (k : NestedKey) (xs : List (NestedKey × Addr × V)), x = .ref q ∧ y = .ref p ∧ H p = some (dnO X.prog X.w p xs) ∧ (∀ x ∈ xs, KeyOk X.K H x.1 x.2.1) ∧ KeyOk X.K H k q ∧ Q (.bl (atN xs k).isSome) H) := by
  intro pins s σ H x y v u Q I rx ry ⟨q, p, k, xs, ex, ey, hp, hk, hq, h⟩
  subst ex ey
  cases rx
  cases ry
  obtain ⟨ys, h1, h2, h3, h4⟩ := dn_full I hp hk
  refine wpAny_in_heap (by show X.A.units + 1 + 8 < cLine; omega) (hq.is I) h3 h2 ?_
  have e : (atKey ys k).isSome = (atN xs k).isSome := by
    rcases atN_pair (k := k) h1 with ⟨e1, e2⟩ | ⟨a, v, u, e1, e2, _⟩
    · rw [e1, e2] <;> rfl
    · rw [e1, e2] <;> rfl
  rw [e]
  exact ⟨.bl _, H, I.tok _, rfl, h⟩
end
section
variable {X : Cx} {pins : List (Addr × Obj)} {σ : L2.St} {H : Hp} {s : Shared} {p q : Addr} {k : NestedKey} {xs : List (NestedKey × Addr × V)} {v : V} {r : Value} {A : Around} {E : Value → Shared → Prop}
/-- d[k], there -/
theorem dn_getItem {a : Addr} {Q : Value → Shared → Prop} (hu : A.units + 9 < cLine) (I : Inv X pins σ H s) (hp : H p = some (dnO X.prog X.w p xs)) (hk : ∀ x ∈ xs, KeyOk X.K H x.1 x.2.1) (hq : KeyOk X.K H k q) (hv : atN xs k = some (a, v)) (h : ∀ w' s', Inv X pins σ H s' → RelV v w' → Q w' s') :
    wpAny (model X.prog X.w) A (getItem (.ref p) (.ref q)) Q E s := by
  obtain ⟨ys, h1, h2, h3, h4⟩ := dn_full I hp hk
  rcases atN_pair (k := k) h1 with ⟨e1, e2⟩ | ⟨a', v', u, e1, e2, r'⟩
  · rw [hv] at e1
    cases e1
  · rw [hv] at e1
    cases e1
    exact wpAny_getItem_heap (by show A.units + 1 + 8 < cLine; omega) (hq.is I) h2 e2 (h u _ (I.tok _) r')
theorem storeN_len {u : Value} (xs : List (NestedKey × Addr × V)) (k : NestedKey) (a : Addr) (v : V) : (storeN xs k a v).length ≤ xs.length + 1 := by
  unfold storeN
  split
  · rw [List.length_map]; omega
  · rw [List.length_append, List.length_singleton]
    exact Nat.le_refl _
theorem map_pair {k : NestedKey} (r1 : RelV v r) : ∀ {xs : List (NestedKey × Addr × V)} {ys : List (NestedKey × Addr × Value)}, Paired PrN xs ys → Paired PrN (xs.map fun x => if x.1 = k then (x.1, x.2.1, v) else x) (ys.map (putAt k r))
  | _, _, .nil => .nil
  | _, _, .cons (a := x) (b := y) h t => by
    obtain ⟨h1, h2, h3⟩ := h
    rw [List.map_cons, List.map_cons]
    refine .cons ?_ (map_pair r1 t)
    unfold putAt
    by_cases e : x.1 = k
    · rw [if_pos e, if_pos (by rw [← h1]; exact e)]
      exact ⟨h1, h2, r1⟩
    · rw [if_neg e, if_neg (by rw [← h1]; exact e)]
      exact ⟨h1, h2, h3⟩
theorem app_pair {c : NestedKey × Addr × V} {d : NestedKey × Addr × Value} (h : PrN c d) : ∀ {xs : List (NestedKey × Addr × V)} {ys : List (NestedKey × Addr × Value)}, Paired PrN xs ys → Paired PrN (xs ++ [c]) (ys ++ [d])
  | _, _, .nil => .cons h .nil
  | _, _, .cons h1 t => .cons h1 (app_pair h t)
theorem store_pair {ys : List (NestedKey × Addr × Value)} (h : Paired PrN xs ys) (r1 : RelV v r) : Paired PrN (storeN xs k q v) (storedH ys k q r) := by
  unfold storeN
  rcases atN_pair (k := k) h with ⟨e1, e2⟩ | ⟨a', v', u, e1, e2, r'⟩
  · rw [e1, storedH_new e2]
    exact app_pair ⟨rfl, rfl, r1⟩ h
  · rw [e1, storedH_old e2]
    exact map_pair r1 h
theorem pairN_len : ∀ {xs : List (NestedKey × Addr × V)} {ys : List (NestedKey × Addr × Value)}, Paired PrN xs ys → xs.length = ys.length
  | _, _, .nil => rfl
  | _, _, .cons _ t => by simp [pairN_len t]
/-- d[k] = v -/
theorem dn_setItem {Q : Unit → Shared → Prop} (hu : A.units + 9 < cLine) (I : Inv X pins σ H s) (hp : H p = some (dnO X.prog X.w p xs)) (hk : ∀ x ∈ xs, KeyOk X.K H x.1 x.2.1) (hq : (nestedKind X.prog X.w).is s.heap k q) (rv : RelV v r) (hl : xs.length < sizeLine) (h : ∀ s', Inv X pins σ (upd H p (dnO X.prog X.w p (storeN xs k q v))) s' → Q () s') :
    wpAny (model X.prog X.w) A (setItem (.ref p) (.ref q) r) Q E s := by
  obtain ⟨ys, h1, h2, h3, h4⟩ := dn_full I hp hk
  refine wpAny_setItem_heap (by show A.units + 1 + 8 < cLine; omega) hq h2 (fun h' hd hs => ?_) (by rw [← pairN_len h1]; exact h4)
  obtain ⟨o, es, ep, ho, he, hdt, hes, hks, hn⟩ := hd
  refine h _ (d_write I (by rw [hp]; exact True.intro) hs ⟨o, ho⟩ (dnO_ok ?_ h3 (store_pair h1 rv) ho he hdt hes hn))
  have := storeN_len (u := r) xs k q v
  omega
/-- d.setdefault(k, x) -/
theorem dn_setd {Q : Value → Shared → Prop} (hu : A.units + 9 < cLine) (I : Inv X pins σ H s) (hp : H p = some (dnO X.prog X.w p xs)) (hk : ∀ x ∈ xs, KeyOk X.K H x.1 x.2.1) (hq : (nestedKind X.prog X.w).is s.heap k q) (rv : RelV v r) (hl : xs.length < sizeLine)
    (h1 : ∀ a v', atN xs k = some (a, v') → ∀ w' s', Inv X pins σ H s' → RelV v' w' → Q w' s') (h2 : atN xs k = none → ∀ s', Inv X pins σ (upd H p (dnO X.prog X.w p (storeN xs k q v))) s' → Q r s') :
    wpAny (model X.prog X.w) A (call (.builtin "dict.setdefault") [.ref p, .ref q, r]) Q E s := by
  obtain ⟨ys, p1, p2, p3, p4⟩ := dn_full I hp hk
  refine call_setdefault_heap (by show A.units + 1 + 8 < cLine; omega) hq p3 p2 (fun pv hpv => ?_) (fun hn h' hd hs => ?_) (by rw [← pairN_len p1]; exact p4)
  · rcases atN_pair (k := k) p1 with ⟨e1, e2⟩ | ⟨a', v', u, e1, e2, r'⟩
    · rw [hpv] at e2
      cases e2
    · rw [hpv] at e2
      cases e2
      exact h1 a' v' e1 _ _ (I.tok _) r'
  · rcases atN_pair (k := k) p1 with ⟨e1, e2⟩ | ⟨a', v', u, e1, e2, r'⟩
    · obtain ⟨o, es, ep, ho, he, hdt, hes, hks, hn'⟩ := hd
      refine h2 e1 _ (d_write I (by rw [hp]; exact True.intro) hs ⟨o, ho⟩ (dnO_ok ?_ p3 (store_pair p1 rv) ho he hdt hes hn'))
      have := storeN_len (u := r) xs k q v
      omega
    · rw [hn] at e2
      cases e2
/-- d.get(k), d.get(k, x) -/
theorem dn_get {Q : Value → Shared → Prop} (hu : A.units + 9 < cLine) (I : Inv X pins σ H s) (hp : H p = some (dnO X.prog X.w p xs)) (hk : ∀ x ∈ xs, KeyOk X.K H x.1 x.2.1) (hq : (nestedKind X.prog X.w).is s.heap k q) (more : List Value) (dv : Value) (hm : (more = [] ∧ dv = .none) ∨ more = [dv])
    (h1 : ∀ a v', atN xs k = some (a, v') → ∀ w' s', Inv X pins σ H s' → RelV v' w' → Q w' s') (h2 : atN xs k = none → ∀ s', Inv X pins σ H s' → Q dv s') :
    wpAny (model X.prog X.w) A (call (.builtin "dict.get") (.ref p :: .ref q :: more)) Q E s := by
  obtain ⟨ys, p1, p2, p3, p4⟩ := dn_full I hp hk
  have fin : ∀ s', Inv X pins σ H s' → Q (((atKey ys k).map (·.2)).getD dv) s' := fun s' I' => by
    rcases atN_pair (k := k) p1 with ⟨e1, e2⟩ | ⟨a', v', u, e1, e2, r'⟩
    · rw [e2]
      exact h2 e1 s' I'
    · rw [e2]
      exact h1 a' v' e1 _ s' I' r'
  rcases hm with ⟨rfl, rfl⟩ | rfl
  · exact call_meetsIn PySem.F.slot_dict_get p2.typeIs PySem.F.entry_dict_get (PySem.F.args_dict_get_2 _ _) (meetsH_dict_get (nestedKind X.prog X.w) p q p3) ⟨by show A.units + 1 + 8 < cLine; omega, k, ys, hq, p2, fin _ (I.tok _)⟩
  · exact call_meetsIn PySem.F.slot_dict_get p2.typeIs PySem.F.entry_dict_get (PySem.F.args_dict_get_3 _ _ _) (meetsH_dict_get_default (nestedKind X.prog X.w) p q p3 dv) ⟨by show A.units + 1 + 8 < cLine; omega, k, ys, hq, p2, fin _ (I.tok _)⟩
end
end DL
namespace DL
open PySem PySem.Spec L2
section
variable {X : Cx} {F0 : Hp} {CX : CXT} {k : Nat} {ps : List Str} {sp : SpD} {Ed : DX} {E : XK} {x m : Str} {p pos apos : Pos} {a b c e o : Expr} {es : List Expr} {ta tb tc te tv : DTE} {t : DTA}
theorem de_chain {op op' : CmpOp} {r r' : DR2} (ho : OpR X (compareOp op) (LR X.K F0 r)) (ho' : OpR X (compareOp op') (LR X.K F0 r')) (ha : DE X F0 a ta) (hb : DE X F0 b tb) (hc : DE X F0 c tc)
    (hm : lastMarks [op, op'] [b, c] = false := by with_unfolding_all rfl) : DE X F0 (.Compare a [op, op'] [b, c] pos) (dChain r r' ta tb tc) :=
  PE_imp (pe_chain ho ho' ha hb hc hm) fun _ _ _ h => lift_chain h
theorem dt_chain {op op' : CmpOp} {r r' : DR2} (ho : OpR X (compareOp op) (LR X.K F0 r)) (ho' : OpR X (compareOp op') (LR X.K F0 r')) (ha : DE X F0 a ta) (hb : DE X F0 b tb) (hc : DE X F0 c tc)
    (hm : lastMarks [op, op'] [b, c] = false := by with_unfolding_all rfl) : DT X F0 (.Compare a [op, op'] [b, c] pos) (dB (dChain r r' ta tb tc)) :=
  PT_imp (pt_chain ho ho' ha hb hc hm) fun σ H Q ⟨σd, M, F, Qd, hF, hR, hS, h, fin⟩ => lift_chain ⟨σd, M, F, _, hF, hR, hS, h, fun x M1 v H1 F1 h1 e1 r1 v1 => by
    split at h1
    · exact ⟨_, rep_bl.mp v1, fin _ _ _ _ h1 e1 r1⟩
    · exact h1.elim⟩
/-- return e: a list that may change stays as it is from here on -/
def frz (d : D) (M : Mp) (Q : DK) : Prop := match d with
  | .obj p => ∃ ds, M p = some (.lst ds) ∧ Q (.lst ds) (remM M p)
  | d => Q d M
def dRetF (te : DTE) : DTS := fun D σ M => te σ M fun d M1 => frz d M1 D.rt
theorem ds_retF (he : DE X F0 e te) : DSt X F0 (.Return (some e) pos) (dRetF te) :=
  PS_imp (ps_ret he) fun D σ H ⟨σd, M, F, Dd, hF, r, hS, h, fin⟩ => ⟨σd, M, F, _, hF, r, hS, h, fun d M1 v H1 F1 q e1 r1 v1 => by
    unfold frz at q
    split at q
    · obtain ⟨ds, hp, q⟩ := q
      obtain ⟨F2, e2, r2, x2⟩ := r1.freeze hp
      cases rep_obj.mp v1
      exact fin.rt _ _ _ _ F2 q (e1.trans e2) r2 x2
    · exact fin.rt _ _ _ _ F1 q e1 r1 v1⟩
/-- a def of the module that may be called -/
def Callee (P : Program) (w : World) (K : PySem.W.Frag) (mg : Str → Option Value) (base : Heap) (CX : CXT) (k : Nat) (x : Str) (ps : List Str) (sp : SpD) : Prop :=
  ∃ f fd, FnOk P w K mg base CX k f fd ps (LSp K sp) ∧ mg x = some (.ref f) ∧ PySem.W.keepIn K (.ref f) = true ∧ Binds K fd ps [] ∧ BindsK fd ps
theorem de_fn (h : Callee X.prog X.w X.K X.mg X.base CX k x ps sp) (hr : Room k X.A) (hg : Gl X x) (hx : Passes CX X E) (hE : FinX X.K F0 Ed E)
    (ha : DA X F0 (e :: es) t) (hdb : (x == ("__debug__" : Str)) = false := by decide) (he : starEach (e :: es) X.env = (false, eval e X.env) :: starEach es X.env := by rfl) (hpl : (backTo pos (starEach es X.env)).any (·.1) = false := by rfl) :
    DE X F0 (.Call (.Name x p) (e :: es) [] pos) (dCall sp Ed t) := by
  obtain ⟨f, fd, F, hm, hk, hb, _⟩ := h
  exact de_call F hr hg hm hk hb hx hE ha hdb he hpl
theorem de_fn0 (h : Callee X.prog X.w X.K X.mg X.base CX k x ps sp) (hr : Room k X.A) (hg : Gl X x) (hx : Passes CX X E) (hE : FinX X.K F0 Ed E)
    (hdb : (x == ("__debug__" : Str)) = false := by decide) : DE X F0 (.Call (.Name x p) [] [] pos) (dCall sp Ed dNil) := by
  obtain ⟨f, fd, F, hm, hk, hb, _⟩ := h
  exact de_call0 F hr hg hm hk hb hx hE hdb
theorem de_fnK {kws : List Keyword} (h : Callee X.prog X.w X.K X.mg X.base CX k x ps sp) (hr : Room k X.A) (hg : Gl X x) (hx : Passes CX X E) (hE : FinX X.K F0 Ed E)
    (hkw : DKw X F0 kws t) (hall : (backToKw pos (keywordEach kws X.env)).all (·.1.isSome) = true := by rfl) (hks : (backToKw pos (keywordEach kws X.env)).filterMap (·.1) = ps := by rfl)
    (hdb : (x == ("__debug__" : Str)) = false := by decide) (hpl : ((backTo pos (starEach [] X.env)).any (·.1) || (backToKw pos (keywordEach kws X.env)).any (·.1.isNone)) = false := by rfl) :
    DE X F0 (.Call (.Name x p) [] kws pos) (dCall sp Ed t) := by
  obtain ⟨f, fd, F, hm, hk, _, hb⟩ := h
  exact de_callK F hr hg hm hk hb hx hE hkw hall hks hdb hpl
theorem Callee.mono {P : Program} {w : World} {K : PySem.W.Frag} {mg : Str → Option Value} {base : Heap} {j : Nat} (h : Callee P w K mg base CX j x ps sp) (hl : j ≤ k) : Callee P w K mg base CX k x ps sp := by
  obtain ⟨f, fd, F, r⟩ := h
  exact ⟨f, fd, F.mono hl, r⟩
/-- a weaker promise -/
theorem Callee.imp {P : Program} {w : World} {K : PySem.W.Frag} {mg : Str → Option Value} {base : Heap} {sp' : SpD} (h : Callee P w K mg base CX k x ps sp) (hs : ∀ ds M Q E, sp' ds M Q E → sp ds M Q E) : Callee P w K mg base CX k x ps sp' := by
  obtain ⟨f, fd, F, r⟩ := h
  exact ⟨f, fd, F.imp fun vs H Q E ⟨ds, M, F, Qd, Ed, h1, h2, h3, h4⟩ => ⟨ds, M, F, Qd, Ed, h1, h2, hs _ _ _ _ h3, h4⟩, r⟩
/-- a tuple of texts, a text, an int of the module -/
def GTup (K : PySem.W.Frag) (mg : Str → Option Value) (x : Str) (xs : List Str) : Prop := ∃ a, mg x = some (.ref a) ∧ ∀ H, SqT K H a (xs.map V.str)
theorem de_gtupS {xs : List Str} (h : GTup X.K X.mg x xs) (hg : Gl X x) (hd : (x == ("__debug__" : Str)) = false := by decide) : DE X F0 (.Name x pos) (dC (.tup (xs.map D.str))) := by
  obtain ⟨a, h1, h2⟩ := h
  exact de_gtup hg h1 h2 (fun F => Reps.strs) hd
theorem de_gstrE {z : Str} (h : ∃ t, X.mg x = some (.str z t)) (hg : Gl X x) (hd : (x == ("__debug__" : Str)) = false := by decide) : DE X F0 (.Name x pos) (dC (.str z)) := by
  obtain ⟨t, h1⟩ := h
  exact de_gstr hg h1 hd
theorem de_gintE {z : Int} (h : ∃ t, X.mg x = some (.int z t)) (hg : Gl X x) (hd : (x == ("__debug__" : Str)) = false := by decide) : DE X F0 (.Name x pos) (dC (.int z)) := by
  obtain ⟨t, h1⟩ := h
  exact de_gint hg h1 hd
end
section
variable {P : Program} {w : World} {K : PySem.W.Frag} {mg : Str → Option Value} {base : Heap} {CX : CXT} {x qual : Str} {params : Arguments} {body : List Stmt} {scope : Scope} {f : Addr} {fd : FuncData} {N ps : List Str} {k : Nat} {sp : SpD}
/-- as fnD, for a def that lets nothing out -/
theorem fnD0 (F : FunD K x qual params body scope [] [] f fd) (S : FnScope N ps scope) (len : ∀ ds M Q E, sp ds M Q E → ds.length = ps.length)
    (hbody : ∀ (cdv : Value) (A : Around) (outer : List Env) (s : Shared) (H : Hp) (E : XK) (F0 : Hp), Room k (A.deeper (PyProof.Rows.envOfC qual scope s.heap.objs.size f cdv)) →
      ∃ τ : DTS, DSs (cxOf CX0 P w K mg base N qual scope f cdv A outer s H E).nox F0 body τ ∧ ∀ ds M Q E, sp ds M Q E → τ { nx := fun _ M' => Wk Q .non M', rt := Wk Q } (startD N ds) M) : FnOk P w K mg base CX0 (k + 1) f fd ps (LSp K sp) :=
  fnD F S len fun cdv A outer s H E F0 Ed hr _ => by
    obtain ⟨τ, h1, h2⟩ := hbody cdv A outer s H E F0 hr
    exact ⟨τ, PSs.nox h1, fun ds M Q h => h2 ds M Q Ed h⟩
/-- slots -/
theorem start_def {N : List Str} {ds : List D} : startD N ds = ds.map some ++ List.replicate (N.length - ds.length) none := rfl
end
end DL
/-! What the readings come to on data of known form. -/
namespace DL
open PySem PySem.Spec L2
section
variable {own : Bool} {M : Mp} {Q : DK} {i j : Int} {a b : Str} {x y z u v w : D} {ds es l : List D} {p : Addr} {ns : List Int}
theorem e_new_f : dNew false ds M Q = Q (.lst ds) M := rfl
theorem e_new_t : dNew true ds M Q = ∀ p, M p = none → Q (.obj p) (updM M p (.lst ds)) := rfl
theorem e_add_int : dAdd own (.int i) (.int j) M Q = Q (.int (i + j)) M := rfl
theorem e_add_str : dAdd own (.str a) (.str b) M Q = (a.length + b.length ≤ sizeLine ∧ Q (.str (a ++ b)) M) := rfl
theorem e_add_tup : dAdd own (.tup ds) (.tup es) M Q = (ds.length + es.length ≤ sizeLine ∧ Q (.tup (ds ++ es)) M) := rfl
theorem e_add_lst : dAdd own (.lst ds) (.lst es) M Q = (ds.length + es.length ≤ sizeLine ∧ dNew own (ds ++ es) M Q) := by
  apply propext
  constructor
  · rintro ⟨a, b, h1, h2, h⟩
    cases h1; cases h2
    exact h
  · exact fun h => ⟨ds, es, rfl, rfl, h⟩
theorem e_add_obj (hp : M p = some (.lst ds)) : dAdd own (.obj p) (.lst es) M Q = (ds.length + es.length ≤ sizeLine ∧ dNew own (ds ++ es) M Q) := by
  apply propext
  constructor
  · rintro ⟨a, b, h1, h2, h⟩
    cases lsD_obj.mp h1 ▸ hp
    cases h2
    exact h
  · exact fun h => ⟨ds, es, lsD_obj.mpr hp, rfl, h⟩
theorem e_sub : dSub (.int i) (.int j) M Q = Q (.int (i - j)) M := rfl
theorem e_mul : dMul own (.int i) (.int j) M Q = (CMul i j ∧ Q (.int (i * j)) M) := rfl
theorem e_mul_str : dMul own (.str a) (.int j) M Q = (MulOk a j ∧ Q (.str (Txt.mul a j)) M) := rfl
theorem e_mul_lst : dMul own (.lst ds) (.int j) M Q = (-(2 ^ 63) ≤ j ∧ j < 2 ^ 63 ∧ ds.length * j.toNat ≤ sizeLine ∧ dNew own (List.replicate j.toNat ds).flatten M Q) := by
  apply propext
  constructor
  · rintro ⟨a, h1, h⟩
    cases h1
    exact h
  · exact fun h => ⟨ds, rfl, h⟩
theorem e_div : dDiv (.int i) (.int j) M Q = ((0 < j ∧ j < 1073741824) ∧ Q (.int (i / j)) M) := rfl
theorem e_mod : dMod (.int i) (.int j) M Q = (0 < j ∧ Q (.int (i % j)) M) := rfl
theorem e_pow : dPow (.int i) (.int j) M Q = ((0 ≤ j ∧ j ≤ 1000000 ∧ i.natAbs < 2 ^ 64) ∧ Q (.int (i ^ j.toNat)) M) := rfl
theorem e_neg : dNeg (.int i) M Q = Q (.int (-i)) M := rfl
theorem e_eq_int {n : Bool} : dEq n (.int i) (.int j) M Q = Q (.bl (n != decide (i = j))) M := rfl
theorem e_eq_str {n : Bool} : dEq n (.str a) (.str b) M Q = Q (.bl (n != decide (a = b))) M := rfl
theorem e_isN_non {n : Bool} : dIsN n .non .non M Q = Q (.bl (n != true)) M := rfl
theorem e_isN_obj {n : Bool} : dIsN n (.obj p) .non M Q = Q (.bl (n != false)) M := rfl
theorem e_isN_tup {n : Bool} : dIsN n (.tup ds) .non M Q = Q (.bl (n != false)) M := rfl
theorem e_isN_lst {n : Bool} : dIsN n (.lst ds) .non M Q = Q (.bl (n != false)) M := rfl
theorem e_lt_int : dLt (.int i) (.int j) M Q = Q (.bl (decide (i < j))) M := rfl
theorem e_lt_str : dLt (.str a) (.str b) M Q = Q (.bl (decide (a.cps.toList < b.cps.toList))) M := rfl
theorem e_le_int : dLe (.int i) (.int j) M Q = Q (.bl (decide (i ≤ j))) M := rfl
theorem e_le_str : dLe (.str a) (.str b) M Q = Q (.bl (!decide (b.cps.toList < a.cps.toList))) M := rfl
theorem e_gt : dGt (.int i) (.int j) M Q = Q (.bl (decide (j < i))) M := rfl
theorem e_ge : dGe (.int i) (.int j) M Q = Q (.bl (decide (j ≤ i))) M := rfl
theorem sqD_tup : sqD M (.tup ds) = some ds := rfl
theorem sqD_lst : sqD M (.lst ds) = some ds := rfl
theorem sqD_rdl : sqD M (.rdl ns) = some (ns.map D.int) := rfl
theorem sqD_obj (hp : M p = some (.lst ds)) : sqD M (.obj p) = some ds := by unfold sqD; dsimp only; rw [hp]
theorem lsD_lst : lsD M (.lst ds) = some ds := rfl
theorem lsD_o (hp : M p = some (.lst ds)) : lsD M (.obj p) = some ds := lsD_obj.mpr hp
theorem e_in_str {n : Bool} : dIn n (.str a) (.str b) M Q = Q (.bl (n != !(Builtin.Str.occurrences b a 0 b.length 1).isEmpty)) M := rfl
theorem e_in {n : Bool} {xs : List Str} (h : y = .tup (xs.map D.str) ∨ y = .lst (xs.map D.str)) (q : Q (.bl (n != decide (a ∈ xs))) M) : dIn n (.str a) y M Q := by
  rcases h with rfl | rfl
  · exact ⟨xs, by rw [sqD_tup]; exact strsD_map xs, q⟩
  · exact ⟨xs, by rw [sqD_lst]; exact strsD_map xs, q⟩
theorem e_in_tup {n : Bool} {xs : List Str} (h : strsD ds = some xs := by rfl) : dIn n (.str a) (.tup ds) M Q = Q (.bl (n != decide (a ∈ xs))) M := by
  apply propext
  constructor
  · rintro ⟨ys, h1, h2⟩
    have h3 : strsD ds = some ys := h1
    rw [h] at h3; cases h3; exact h2
  · exact fun q => ⟨xs, h, q⟩
theorem e_in_lst {n : Bool} {xs : List Str} (h : strsD ds = some xs := by rfl) : dIn n (.str a) (.lst ds) M Q = Q (.bl (n != decide (a ∈ xs))) M := by
  apply propext
  constructor
  · rintro ⟨ys, h1, h2⟩
    have h3 : strsD ds = some ys := h1
    rw [h] at h3; cases h3; exact h2
  · exact fun q => ⟨xs, h, q⟩
/-! items -/
theorem e_ix {n : Nat} (h : sqD M x = some ds) (hd : ds[n]? = some v) (q : Q v M) : dIx x (.int (n : Int)) M Q := by
  have e := atI_nat hd
  cases x with
  | str z => cases h
  | _ => exact ⟨ds, v, h, e, q⟩
theorem e_ix_at {d : D} (h : sqD M x = some ds) (e : atI ds i = some d) : dIx x (.int i) M Q = Q d M := by
  cases x with
  | str z => cases h
  | _ =>
    apply propext
    constructor
    · rintro ⟨ds', d', h1, h2, h3⟩
      rw [h] at h1; cases h1
      rw [e] at h2; cases h2
      exact h3
    · exact fun q => ⟨ds, d, h, e, q⟩
theorem at0 : atI (x :: l) 0 = some x := atI_nat (j := 0) rfl
theorem at1 : atI (x :: y :: l) 1 = some y := atI_nat (j := 1) rfl
theorem at2 : atI (x :: y :: z :: l) 2 = some z := atI_nat (j := 2) rfl
theorem at3 : atI (x :: y :: z :: u :: l) 3 = some u := atI_nat (j := 3) rfl
theorem at4 : atI (x :: y :: z :: u :: v :: l) 4 = some v := atI_nat (j := 4) rfl
theorem at5 : atI (x :: y :: z :: u :: v :: w :: l) 5 = some w := atI_nat (j := 5) rfl
theorem e_t0 : dIx (.tup (x :: l)) (.int 0) M Q = Q x M := e_ix_at rfl at0
theorem e_t1 : dIx (.tup (x :: y :: l)) (.int 1) M Q = Q y M := e_ix_at rfl at1
theorem e_t2 : dIx (.tup (x :: y :: z :: l)) (.int 2) M Q = Q z M := e_ix_at rfl at2
theorem e_t3 : dIx (.tup (x :: y :: z :: u :: l)) (.int 3) M Q = Q u M := e_ix_at rfl at3
theorem e_t4 : dIx (.tup (x :: y :: z :: u :: v :: l)) (.int 4) M Q = Q v M := e_ix_at rfl at4
theorem e_t5 : dIx (.tup (x :: y :: z :: u :: v :: w :: l)) (.int 5) M Q = Q w M := e_ix_at rfl at5
theorem e_l0 : dIx (.lst (x :: l)) (.int 0) M Q = Q x M := e_ix_at rfl at0
theorem e_l1 : dIx (.lst (x :: y :: l)) (.int 1) M Q = Q y M := e_ix_at rfl at1
theorem e_l2 : dIx (.lst (x :: y :: z :: l)) (.int 2) M Q = Q z M := e_ix_at rfl at2
theorem e_l3 : dIx (.lst (x :: y :: z :: u :: l)) (.int 3) M Q = Q u M := e_ix_at rfl at3
theorem e_o0 (h : M p = some (.lst (x :: l))) : dIx (.obj p) (.int 0) M Q = Q x M := e_ix_at (sqD_obj h) at0
theorem e_o1 (h : M p = some (.lst (x :: y :: l))) : dIx (.obj p) (.int 1) M Q = Q y M := e_ix_at (sqD_obj h) at1
theorem e_o2 (h : M p = some (.lst (x :: y :: z :: l))) : dIx (.obj p) (.int 2) M Q = Q z M := e_ix_at (sqD_obj h) at2
theorem e_o3 (h : M p = some (.lst (x :: y :: z :: u :: l))) : dIx (.obj p) (.int 3) M Q = Q u M := e_ix_at (sqD_obj h) at3
theorem e_ix_str {n : Nat} {c : Nat} (hz : a.length ≤ sizeLine) (h : a.cps.toList[n]? = some c) (q : Q (.str ⟨#[c]⟩) M) : dIx (.str a) (.int (n : Int)) M Q := ⟨hz, c, atI_nat h, q⟩
/-! slices, calls -/
theorem e_sl_tup {lo hi : Option Int} : dSl own (.tup ds) lo hi M Q = Q (.tup (cutL ds lo hi)) M := rfl
theorem e_sl_rdl {lo hi : Option Int} : dSl own (.rdl ns) lo hi M Q = dNew own ((cutL ns lo hi).map D.int) M Q := rfl
theorem e_sl_str {lo hi : Option Int} : dSl own (.str a) lo hi M Q = (a.length ≤ sizeLine ∧ Q (.str ⟨(cutL a.cps.toList lo hi).toArray⟩) M) := rfl
theorem e_sl_lst {lo hi : Option Int} : dSl own (.lst ds) lo hi M Q = dNew own (cutL ds lo hi) M Q := by
  apply propext
  constructor
  · rintro ⟨es, h1, h2⟩
    cases h1; exact h2
  · exact fun q => ⟨ds, rfl, q⟩
theorem cut_from {α : Type} {xs : List α} {n : Nat} : cutL xs (some (n : Int)) none = xs.drop n := by
  unfold cutL
  rw [HT.sIx_nat, HT.sIx_none]
  by_cases h : n ≤ xs.length
  · rw [Nat.min_eq_left h, List.take_of_length_le (by rw [List.length_drop]; omega)]
  · rw [Nat.min_eq_right (by omega), List.drop_eq_nil_of_le (Nat.le_refl _), List.drop_eq_nil_of_le (by omega)]; simp
theorem cut_to {α : Type} {xs : List α} {n : Nat} : cutL xs none (some (n : Int)) = xs.take n := by
  unfold cutL
  rw [HT.sIx_nat, HT.sIx_none, List.drop_zero, Nat.sub_zero]
  by_cases h : n ≤ xs.length
  · rw [Nat.min_eq_left h]
  · rw [Nat.min_eq_right (by omega), List.take_of_length_le (Nat.le_refl _), List.take_of_length_le (by omega)]
theorem e_len_str : dLen [.str a] M Q = (a.length ≤ sizeLine ∧ Q (.int a.length) M) := rfl
theorem e_len (h : sqD M x = some ds) : dLen [x] M Q = Q (.int ds.length) M := by
  cases x with
  | str z => cases h
  | _ =>
    apply propext
    constructor
    · rintro ⟨ds', h1, h2⟩
      rw [h] at h1; cases h1
      exact h2
    · exact fun q => ⟨ds, h, q⟩
theorem e_len_lst : dLen [.lst ds] M Q = Q (.int ds.length) M := e_len rfl
theorem e_len_tup : dLen [.tup ds] M Q = Q (.int ds.length) M := e_len rfl
theorem e_len_obj (h : M p = some (.lst ds)) : dLen [.obj p] M Q = Q (.int ds.length) M := e_len (sqD_obj h)
theorem e_int : dIntC [.int i] M Q = Q (.int i) M := rfl
theorem e_tupC_tup : dTupC [.tup ds] M Q = Q (.tup ds) M := rfl
theorem e_tupC_lst : dTupC [.lst ds] M Q = Q (.tup ds) M := by
  apply propext
  constructor
  · rintro ⟨ds', h1, h2⟩
    cases h1; exact h2
  · exact fun q => ⟨ds, rfl, q⟩
theorem e_tupC_obj (h : M p = some (.lst ds)) : dTupC [.obj p] M Q = Q (.tup ds) M := by
  apply propext
  constructor
  · rintro ⟨ds', h1, h2⟩
    cases lsD_obj.mp h1 ▸ h; exact h2
  · exact fun q => ⟨ds, lsD_obj.mpr h, q⟩
theorem e_append (h : M p = some (.lst ds)) : dAppend (.obj p) [y] M Q = (ds.length < sizeLine ∧ Q .non (updM M p (.lst (ds ++ [y])))) := by
  apply propext
  constructor
  · rintro ⟨p', ds', y', h1, h2, h3, h4⟩
    cases h1; cases h2
    rw [h] at h3; cases h3
    exact h4
  · exact fun q => ⟨p, ds, y, rfl, rfl, h, q⟩
theorem e_pop (h : M p = some (.lst (ds ++ [y]))) : dPop (.obj p) [] M Q = Q y (updM M p (.lst ds)) := by
  apply propext
  constructor
  · rintro ⟨p', ds', y', h1, h2, h3, h4, h5⟩
    cases h1
    rw [h] at h3; cases h3
    rw [List.getLast?_append, List.getLast?_singleton] at h4
    cases h4
    rw [List.dropLast_concat] at h5
    exact h5
  · exact fun q => ⟨p, _, y, rfl, rfl, h, by rw [List.getLast?_append, List.getLast?_singleton]; rfl, by rw [List.dropLast_concat]; exact q⟩
theorem e_extend (h : M p = some (.lst ds)) : dExtend (.obj p) [.lst es] M Q = (ds.length + es.length ≤ sizeLine ∧ Q .non (updM M p (.lst (ds ++ es)))) := by
  apply propext
  constructor
  · rintro ⟨p', ds', y', es', h1, h2, h3, h4, h5⟩
    cases h1; cases h2
    rw [h] at h3; cases h3
    cases h4
    exact h5
  · exact fun q => ⟨p, ds, _, es, rfl, rfl, h, rfl, q⟩
theorem e_iadd_int : dIAdd (.int i) (.int j) M Q = Q (.int (i + j)) M := rfl
theorem e_iadd_str : dIAdd (.str a) (.str b) M Q = (a.length + b.length ≤ sizeLine ∧ Q (.str (a ++ b)) M) := rfl
theorem e_iadd_obj (h : M p = some (.lst ds)) (h2 : lsD M y = some es) : dIAdd (.obj p) y M Q = (ds.length + es.length ≤ sizeLine ∧ Q (.obj p) (updM M p (.lst (ds ++ es)))) := by
  apply propext
  constructor
  · rintro ⟨ds', es', h3, h4, h5⟩
    rw [h] at h3; cases h3
    rw [h2] at h4; cases h4
    exact h5
  · exact fun q => ⟨ds, es, h, h2, q⟩
theorem e_isub : dISub (.int i) (.int j) M Q = Q (.int (i - j)) M := rfl
theorem isLst_of (h : M p = some (.lst ds)) : isLst (.obj p) M := ⟨p, ds, rfl, h⟩
theorem e_frz_obj (h : M p = some (.lst ds)) (q : Q (.lst ds) (remM M p)) : frz (.obj p) M Q := ⟨ds, h, q⟩
theorem e_frz_upd (h : M p = none) : frz (.obj p) (updM M p (.lst ds)) Q = Q (.lst ds) M := by
  apply propext
  constructor
  · rintro ⟨es, h1, h2⟩
    rw [updM_same] at h1; cases h1
    rw [remM_upd h] at h2
    exact h2
  · exact fun q => ⟨ds, updM_same, by rw [remM_upd h]; exact q⟩
/-- o[k] = v -/
theorem e_nSub {to ti : DTE} {σ : DS} {Q : DS → Mp → Prop} {d : D} : nSub to ti d σ M Q = to σ M fun o M1 => ti σ M1 fun i M2 => ∃ p ds k j, o = .obj p ∧ i = .int k ∧ M2 p = some (.lst ds) ∧ ixN ds.length k = some j ∧ Q σ (updM M2 p (.lst (ds.set j d))) := rfl
theorem set_at {n : Nat} {Q : List D → Prop} (h : M p = some (.lst ds)) (hn : n < ds.length) (q : Q (ds.set n v)) : ∃ p' ds' k j, D.obj p = .obj p' ∧ D.int (n : Int) = .int k ∧ M p' = some (.lst ds') ∧ ixN ds'.length k = some j ∧ (p = p' → Q (ds'.set j v)) := by
  refine ⟨p, ds, n, n, rfl, rfl, h, ?_, fun _ => q⟩
  unfold ixN
  rw [if_pos (by omega), if_pos (by omega)]
  simp
theorem s_set {n : Nat} {Q : Mp → Prop} (h : M p = some (.lst ds)) (hn : n < ds.length) (q : Q (updM M p (.lst (ds.set n v)))) : ∃ p' ds' k j, D.obj p = .obj p' ∧ D.int (n : Int) = .int k ∧ M p' = some (.lst ds') ∧ ixN ds'.length k = some j ∧ Q (updM M p' (.lst (ds'.set j v))) := by
  refine ⟨p, ds, n, n, rfl, rfl, h, ?_, q⟩
  unfold ixN
  rw [if_pos (by omega), if_pos (by omega)]
  simp
/-- what stands behind a statement is shown once -/
theorem seq_tail {t u : DTS} {E : DEnds} {σ : DS} (W : DS → Mp → Prop) (tail : ∀ σ M, W σ M → u E σ M) (h : ∀ N : DS → Mp → Prop, (∀ σ M, W σ M → N σ M) → t { E with nx := N } σ M) : dSeq t u E σ M := h _ tail
/-- comprehensions: the items are told by Pre; Inv by the items, the turn, what is made so far, M without the new list -/
theorem lc_gen {k : Nat} {wi : DTI} {te : DTE} {σ : DS} (Pre : List D → Mp → Prop) (hwi : ∀ Kd : List D → (Mp → Prop) → Mp → Prop, (∀ ds M1, Pre ds M1 → Kd ds (fun _ => True) M1) → wi σ M Kd) (Inv : List D → Nat → List D → Mp → Prop)
    (hz : ∀ ds M1, Pre ds M1 → ds.length ≤ sizeLine) (h0 : ∀ ds M1, Pre ds M1 → Inv ds 0 [] M1)
    (h : ∀ ds (i : Nat) d acc M p (Q : DK), ds[i]? = some d → Inv ds i acc M → M p = none → acc.length = i → (∀ y M', M' p = none → Inv ds (i + 1) (acc ++ [y]) M' → Q y (updM M' p (.lst acc))) → te (σ.set k (some d)) (updM M p (.lst acc)) Q)
    (q : ∀ ds acc M', acc.length = ds.length → Inv ds ds.length acc M' → dNew own acc M' Q) : dLc own k wi te σ M Q := by
  unfold dLc
  refine hwi _ fun ds M1 hp => ?_
  exact lc_inv (Inv ds) (hz ds M1 hp) (h0 ds M1 hp) (fun _ _ _ _ _ _ _ => trivial) (fun i d acc M p Q hd hI h1 _ hl hq => h ds i d acc M p Q hd hI h1 hl hq) (fun acc M' hl hI => q ds acc M' hl hI)
/-- each element by itself -/
theorem lc_pure {k : Nat} {wi : DTI} {te : DTE} {σ : DS} (ds : List D) (f : D → D) (hwi : ∀ Kd : List D → (Mp → Prop) → Mp → Prop, Kd ds (fun _ => True) M → wi σ M Kd) (hz : ds.length ≤ sizeLine)
    (h : ∀ (i : Nat) d M' (Q : DK), ds[i]? = some d → (∀ a o, M a = some o → M' a = some o) → Q (f d) M' → te (σ.set k (some d)) M' Q) (q : dNew own (ds.map f) M Q) : dLc own k wi te σ M Q := by
  unfold dLc
  exact hwi _ (lc_map f hz (fun _ _ _ => trivial) h q)
/-- loops: the items are told by Pre; W by the items, the turn, the slots, M -/
theorem for_gen {wi : DTI} {g : DTG} {tb : DTS} {E : DEnds} {σ : DS} (Pre : List D → Mp → Prop) (hwi : ∀ Kd : List D → (Mp → Prop) → Mp → Prop, (∀ ds M1, Pre ds M1 → Kd ds (fun _ => True) M1) → wi σ M Kd) (W : List D → Nat → DS → Mp → Prop)
    (h0 : ∀ ds M1, Pre ds M1 → W ds 0 σ M1)
    (h : ∀ ds (i : Nat) d σ M (N : DS → Mp → Prop), ds[i]? = some d → W ds i σ M → (∀ σ M, W ds (i + 1) σ M → N σ M) → g d σ M fun σ2 M2 => tb { E with nx := N, ct := N, bk := E.nx } σ2 M2)
    (q : ∀ ds σ M, W ds ds.length σ M → E.nx σ M) : dFor wi g tb E σ M := by
  unfold dFor
  refine hwi _ fun ds M1 hp => ⟨W ds, h0 ds M1 hp, fun _ _ _ _ _ => trivial, fun i d σ M hd w => ?_, q ds⟩
  exact h ds i d σ M _ hd w fun _ _ z => z
/-- .. over items that are known -/
theorem for_pure {wi : DTI} {g : DTG} {tb : DTS} {E : DEnds} {σ : DS} (ds : List D) (hwi : ∀ Kd : List D → (Mp → Prop) → Mp → Prop, Kd ds (fun _ => True) M → wi σ M Kd) (W : Nat → DS → Mp → Prop) (h0 : W 0 σ M)
    (h : ∀ (i : Nat) d σ M (N : DS → Mp → Prop), ds[i]? = some d → W i σ M → (∀ σ M, W (i + 1) σ M → N σ M) → g d σ M fun σ2 M2 => tb { E with nx := N, ct := N, bk := E.nx } σ2 M2)
    (q : ∀ σ M, W ds.length σ M → E.nx σ M) : dFor wi g tb E σ M := by
  unfold dFor
  refine hwi _ ⟨W, h0, fun _ _ _ _ _ => trivial, fun i d σ M hd w => ?_, q⟩
  exact h i d σ M _ hd w fun _ _ z => z
/-- while, by a word and a number that falls -/
theorem while_gen {c : DTT} {tb : DTS} {E : DEnds} {σ : DS} (W : Nat → DS → Mp → Prop) (m : Nat) (h0 : W m σ M)
    (h : ∀ m σ M (N : DS → Mp → Prop), W m σ M → (∀ m' σ M, m' < m → W m' σ M → N σ M) → c σ M fun b M1 => IfB b (tb { E with nx := N, ct := N, bk := E.nx } σ M1) (E.nx σ M1)) : dWhile c tb E σ M := by
  unfold dWhile
  exact ⟨W, ⟨m, h0⟩, fun m σ M w => h m σ M _ w fun m' σ M hm w => ⟨m', hm, w⟩⟩
theorem upto_get {lo : Int} {n i : Nat} {d : D} (h : (upto lo n)[i]? = some d) : d = .int (lo + (i : Nat)) ∧ i < n := by
  unfold upto at h
  rw [List.getElem?_map] at h
  obtain ⟨k, h1, rfl⟩ := Option.map_eq_some_iff.mp h
  obtain ⟨h2, h3⟩ := List.getElem?_eq_some_iff.mp h1
  rw [List.getElem_range] at h3
  subst h3
  exact ⟨rfl, by simpa using h2⟩
theorem upto_len {lo : Int} {n : Nat} : (upto lo n).length = n := by simp [upto]
theorem sz0 : (([] : List D).length ≤ sizeLine) = True := eq_true (by show 0 ≤ sizeLine; decide)
theorem sz1 {a0 : D} : (([a0] : List D).length ≤ sizeLine) = True := eq_true (by show 1 ≤ sizeLine; decide)
theorem sz2 {a0 a1 : D} : (([a0, a1] : List D).length ≤ sizeLine) = True := eq_true (by show 2 ≤ sizeLine; decide)
theorem sz3 {a0 a1 a2 : D} : (([a0, a1, a2] : List D).length ≤ sizeLine) = True := eq_true (by show 3 ≤ sizeLine; decide)
theorem sz4 {a0 a1 a2 a3 : D} : (([a0, a1, a2, a3] : List D).length ≤ sizeLine) = True := eq_true (by show 4 ≤ sizeLine; decide)
theorem sz5 {a0 a1 a2 a3 a4 : D} : (([a0, a1, a2, a3, a4] : List D).length ≤ sizeLine) = True := eq_true (by show 5 ≤ sizeLine; decide)
theorem sz6 {a0 a1 a2 a3 a4 a5 : D} : (([a0, a1, a2, a3, a4, a5] : List D).length ≤ sizeLine) = True := eq_true (by show 6 ≤ sizeLine; decide)
theorem sz7 {a0 a1 a2 a3 a4 a5 a6 : D} : (([a0, a1, a2, a3, a4, a5, a6] : List D).length ≤ sizeLine) = True := eq_true (by show 7 ≤ sizeLine; decide)
theorem sz8 {a0 a1 a2 a3 a4 a5 a6 a7 : D} : (([a0, a1, a2, a3, a4, a5, a6, a7] : List D).length ≤ sizeLine) = True := eq_true (by show 8 ≤ sizeLine; decide)
theorem ifB_and {b c : Bool} {A B : Prop} : IfB b (IfB c A B) B = IfB (b && c) A B := by cases b <;> cases c <;> rfl
theorem ifB_or {b c : Bool} {A B : Prop} : IfB b A (IfB c A B) = IfB (b || c) A B := by cases b <;> cases c <;> rfl
theorem tru_bl {b : Bool} : truD (.bl b) M = some b := rfl
theorem tru_int : truD (.int i) M = some (i != 0) := rfl
theorem tru_non : truD .non M = some false := rfl
theorem tru_lst : truD (.lst ds) M = some (!ds.isEmpty) := rfl
theorem tru_tup : truD (.tup ds) M = some (!ds.isEmpty) := rfl
theorem tru_obj (h : M p = some (.lst ds)) : truD (.obj p) M = some (!ds.isEmpty) := by
  show (sqD M (.obj p)).map _ = _
  rw [sqD_obj h] <;> rfl
theorem ex_some {α : Type} {a : α} {P : α → Prop} : (∃ b, some a = some b ∧ P b) = P a := propext ⟨fun ⟨b, h, p⟩ => by cases h; exact p, fun p => ⟨a, rfl, p⟩⟩
theorem bne_f (b : Bool) : (false != b) = b := by cases b <;> rfl
theorem bne_t (b : Bool) : (true != b) = !b := by cases b <;> rfl
end
end DL
/-! DL9: enumerate over a tuple. -/
namespace DL
open PySem PySem.Spec PyProof.Rows L2
theorem meets_enumT {v : Value} {o : Obj} {H : Heap → Prop} (B : Begins v o H) :
    Meets (Builtin.«enumerate.__new__» ⟨[.type "enumerate", v], []⟩) (fun _ R s => H s.heap ∧
      R (.ok (.ret (.ref (s.heap.push o).objs.size)))
        { s with heap := (s.heap.push o).push { cls := .type "enumerate", data := .fields #[.none, .bool false, .ref s.heap.objs.size, rawInt 0, .none, .none] } }) :=
  .of_wp fun prog w A R s h => by
    obtain ⟨hp, g, d, tk, os⟩ := s; obtain ⟨h1, h⟩ := h
    have hsub := sub_enumerate
    have q1 : ∀ {A' : Around} {E : Value → Shared → Prop} {Q : Value → Shared → Prop}, Q (.ref hp.objs.size) ⟨(hp.push o), g, d, tk, os⟩ → wpAny (model prog w) A' (pyIter v) Q E ⟨hp, g, d, tk, os⟩ :=
      fun q => B.iter prog w _ _ ⟨hp, g, d, tk, os⟩ _ h1 q
    wp_walk
    refine wpAny_stack_any fun st => wpAny_pure ?_
    split
    · rename_i c _ _ _ _ _
      cases (c == Value.type "enumerate")
      · wp_walk using q1
        exact ⟨_, rfl, h⟩
      · wp_walk using q1
        exact ⟨_, rfl, h⟩
    · wp_walk using q1
      exact ⟨_, rfl, h⟩
theorem call_enumT {prog : Program} {w : World} {A : Around} {E : Value → Shared → Prop} {s : Shared} {v : Value} {o : Obj} {H : Heap → Prop} {Q : Value → Shared → Prop} (B : Begins v o H) (h0 : H s.heap)
    (h : ∀ h', IsEnum h' (s.heap.objs.size + 1) s.heap.objs.size 0 .none → h'.get? s.heap.objs.size = some o → h'.objs.size = s.heap.objs.size + 2 →
      (∀ b o, s.heap.get? b = some o → h'.get? b = some o) → Q (.ref (s.heap.objs.size + 1)) { s with heap := h' }) :
    wpAny (model prog w) A (call (.type "enumerate") [v]) Q E s := by
  refine callType_new F.called_enumerate (by decide) (F.typeCall_enumerate_1 _) (F.newCall_enumerate_1 _) (fun obj => F.args_object_init_2 obj _) F.entry_enumerate_new
    (meets_enumT B) ⟨h0, ?_⟩
  have hz : (s.heap.push o).objs.size = s.heap.objs.size + 1 := Heap.size_push ..
  show _ ∧ _
  rw [hz]
  have he : IsEnum ((s.heap.push o).push { cls := .type "enumerate", data := .fields #[.none, .bool false, .ref s.heap.objs.size, rawInt 0, .none, .none] }) (s.heap.objs.size + 1) s.heap.objs.size 0 .none := by
    have := Heap.get?_push_size (s.heap.push o) (o := { cls := .type "enumerate", data := .fields #[.none, .bool false, .ref s.heap.objs.size, rawInt 0, .none, .none] }) rfl
    rw [hz] at this; exact this
  exact ⟨⟨_, he, rfl⟩, h _ he (Heap.get?_push_of_some _ (Heap.get?_push_size _ B.free)) (by rw [Heap.size_push, hz]) fun b o x => Heap.get?_push_of_some _ (Heap.get?_push_of_some _ x)⟩
/-- the tuple at a, each item in a new pair -/
def Iet (K : PySem.W.Frag) (a : Addr) : It :=
  ⟨fun i H => ∃ (xs : List V) (x : V), SqT K H a xs ∧ xs[i]? = some x, fun i H v H' => ∃ T x, v = .ref T ∧ H T = none ∧ H' = upd H T (.tup [.int (i : Nat), x]) ∧ ∀ xs, SqT K H a xs → xs[i]? = some x, fun i H => ∃ xs : List V, SqT K H a xs ∧ xs.length ≤ i⟩
theorem turn_enumT {P : Program} {w : World} {K : PySem.W.Frag} {elts : List Expr} {kk : Nat} {tpos : Pos} (a e it : Addr) (hai : a ≠ it) (hae : e ≠ a) :
    Turn P w K (.Tuple elts kk tpos) (Iet K a) [e, it] e (fun i h => (∃ old, IsEnum h e it ((i : Nat) : Int) old) ∧ h.IsTupleIter it a i ∧ e ≠ it) where
  mem := by simp
  obj := fun i h st b hb => by
    obtain ⟨⟨old, he⟩, ⟨o, ho, hc, hd⟩, _⟩ := st
    have e' : b = e ∨ b = it := by simpa using hb
    rcases e' with z | z
    · rw [z]; exact ⟨_, he, fun v q => nomatch q⟩
    · rw [z]; exact ⟨o, ho, fun v q => by rw [hd] at q; cases q⟩
  keep := fun i h h' st k => let ⟨⟨old, he⟩, hi, hne⟩ := st; ⟨⟨old, k e (by simp) _ he⟩, hi.at fun o q => k it (by simp) o q, hne⟩
  item := by
    intro X hP hw hK hc i pins s σ H E I hf st hg
    subst hP hw hK
    obtain ⟨⟨old, he⟩, hit, hne⟩ := st
    obtain ⟨xs, x, hq, hx⟩ := hg
    obtain ⟨its, rv, p, hz⟩ := I.tuple hq
    obtain ⟨u, hu, ru⟩ := rv.get hx
    have hel : e < s.heap.objs.size := Heap.lt_size he
    have hil : it < s.heap.objs.size := by obtain ⟨_, q, _⟩ := hit; exact Heap.lt_size q
    have hil2 : i < its.toArray.size := by
      have h1 : its[i]? = some u := hu
      have := (List.getElem?_eq_some_iff.mp h1).1
      simpa using this
    refine wpAny_pyNext_enum_itemD (Draws.tuple (A := X.A.in1) (I.ok.hd hc) it a hai its.toArray) he ⟨hit, (show s.heap.IsTuple a its.toArray from p)⟩ hil2 hne (by simp [hne, hae]) fun y h' tk hy ho hit' hT hsz hk => ?_
    have ey : y = u := by
      have h1 : its[i]? = some u := hu
      have h2 : its[i]? = some y := by simpa using hy
      rw [h1] at h2; cases h2; rfl
    subst ey
    refine ⟨_, rfl, wpAny_letOwnedTupleGo_enum (s := { s with heap := h', toks := tk + 1 }) ho fun h'' he' sb => ?_⟩
    have hT2 : h''.get? s.heap.objs.size = some { cls := .type "tuple", data := .seq #[.int i tk, y] } := (sb.2 _ (Nat.ne_of_gt hel)).trans hT
    have new : ObjOk X.prog X.w (upd H s.heap.objs.size (.tup [.int (i : Nat), x])) h'' s.heap.objs.size (.tup [.int (i : Nat), x]) :=
      ⟨by show 2 ≤ sizeLine; decide, [.int i tk, y], .cons ⟨_, rfl⟩ (.cons ru .nil), ⟨_, hT2, rfl, _, rfl⟩⟩
    have I1 : Inv X pins σ (upd H s.heap.objs.size (.tup [.int (i : Nat), x])) { s with heap := h'', toks := tk + 1 } :=
      I.turnedNew (ch := [e, it]) (fun b ob hb q => (sb.2 b (fun z => hb (by simp [z]))).trans (hk b ob (fun z => hb (by simp [z])) (fun z => hb (by simp [z])) q)) hf (Nat.le_refl _) new
    refine ⟨.ref s.heap.objs.size, _, I1, rfl, ⟨_, x, rfl, I.hok.fresh (Nat.le_refl _), rfl, fun ys hy => by rw [I.tuple_inj hy hq]; exact hx⟩, ⟨⟨y, ?_⟩, hit'.1.at fun o q => (sb.2 it (Ne.symm hne)).trans q, hne⟩, fun b hb => ?_⟩
    · have e1 : ((i + 1 : Nat) : Int) = (i : Int) + 1 := by omega
      rw [e1]; exact he'
    · have hb' : b < s.heap.objs.size := by
        have e' : b = e ∨ b = it := by simpa using hb
        rcases e' with z | z
        · rw [z]; exact hel
        · rw [z]; exact hil
      rw [upd_ne (Nat.ne_of_lt hb')]
      exact (hf b hb).1
  done := by
    intro X hP hw hK hc i pins s σ H E I hf st hg
    subst hP hw hK
    obtain ⟨⟨old, he⟩, hit, hne⟩ := st
    obtain ⟨xs, hq, hx⟩ := hg
    obtain ⟨its, rv, p, hz⟩ := I.tuple hq
    obtain ⟨f0, f1, f2, f3, f4, f5⟩ := hf it (by simp)
    have hl := rv.length
    have hT : s.TypeIs (.ref e) "enumerate" := ⟨_, he, rfl⟩
    unfold pyNext
    refine wpAny_bind (wpAny_attempt (wpAny_callSpecial?_slot (name := Str.ofString "__next__") hT F.slot_enumerate_next
      (wpAny_call_entry F.slot_enumerate_next hT F.entry_enumerate_next ?_ (F.args_enumerate_next_1 _))))
    show wpAny _ _ (field (.ref e) 2 >>= _) _ _ _
    refine wpAny_bind (wpAny_field he rfl (x := .ref it) rfl ?_)
    refine wpAny_bind (wpAny_nextOf_tuple_end (I.ok.hd hc) hit (show s.heap.IsTuple a its.toArray from p) (by simp; omega) fun h' x he' hx' => ?_)
    obtain ⟨o, ho, hc⟩ := hx'
    refine wpAny_bind (wpAny_isInstance (T := "StopIteration") (b := true) ⟨o, ho, hc⟩ isSubtype_stop ?_)
    exact wpAny_pure ⟨rfl, I.turned (t' := s.toks) (fun b o hb q => he' b o hb q) f0 f1 f3 f4 f5⟩
  self := fun A i s Q E st h => let ⟨⟨_, he⟩, _⟩ := st; wpAny_pyIter_enum he h
def iEnumT (K : PySem.W.Frag) (ta : TA) : TI := fun σ H R => ta σ H fun vs H1 => ∃ a xs, vs = [.ref a] ∧ SqT K H1 a xs ∧ R (Iet K a) H1
theorem pi_enumT {X : Cx} {e : Expr} {ta : TA} {p pos tpos : Pos} {elts : List Expr} {kk : Nat} (hg : Gl X "enumerate") (hm : X.mg "enumerate" = none) (ha : PA X [e] ta) (hs : starEach [e] X.env = [(false, eval e X.env)] := by rfl) :
    PI X (.Tuple elts kk tpos) (.Call (.Name "enumerate" p) [e] [] pos) (iEnumT X.K ta) := by
  refine ⟨fun pins s σ H R I h => ?_⟩
  refine Call_ (ld_blt I hg hm boot_enumerate (PyProof.Rows.callWith_type1 (thn (ha.run pos pins s σ H _ I h) fun us s1 ⟨vs, H1, I1, r1, q1⟩ => ?_) hs rfl))
  obtain ⟨a, xs, ex, hq, q⟩ := q1
  subst ex
  cases r1 with
  | cons r rr =>
    cases rr
    cases r
    obtain ⟨its, rv, p', hz⟩ := I1.tuple hq
    have pt : s1.heap.IsTuple a its.toArray := p'
    have hal : a < s1.heap.objs.size := by obtain ⟨o, ho, _⟩ := pt; exact Heap.lt_size ho
    refine call_enumT (begins_tuple a its.toArray) pt fun h' he hit hsz hk => wpAny_pyIter_enum he ?_
    have I2 : Inv X pins σ H1 { s1 with heap := h' } := I1.kept (t' := s1.toks) hk
    refine ⟨s1.heap.objs.size + 1, [s1.heap.objs.size + 1, s1.heap.objs.size], _, _, H1, rfl, I2, turn_enumT a (s1.heap.objs.size + 1) s1.heap.objs.size (Nat.ne_of_lt hal) (Nat.ne_of_gt (Nat.lt_succ_of_lt hal)), ⟨⟨.none, he⟩, ⟨_, hit, rfl, rfl⟩, Nat.succ_ne_self _⟩, fun b hb => ?_, q⟩
    have e' : b = s1.heap.objs.size + 1 ∨ b = s1.heap.objs.size := by simpa using hb
    have hle : s1.heap.objs.size ≤ b := by
      rcases e' with z | z
      · rw [z]; exact Nat.le_add_right _ _
      · rw [z]; exact Nat.le_refl _
    exact I1.fpOk hle (I1.hok.fresh hle)
section
variable {X : Cx} {F0 : Hp} {tr : DTA} {e : Expr}
/-- the items in pairs with their places -/
def pairs (ds : List D) : List D := (List.range ds.length).zipWith (fun i d => .tup [.int (i : Nat), d]) ds
theorem pairs_len {ds : List D} : (pairs ds).length = ds.length := by simp [pairs]
theorem pairs_get {ds : List D} {i : Nat} {d : D} (h : ds[i]? = some d) : (pairs ds)[i]? = some (.tup [.int (i : Nat), d]) := by
  have hi : i < ds.length := (List.getElem?_eq_some_iff.mp h).1
  simp [pairs, List.getElem?_zipWith, hi]
  exact (List.getElem?_eq_some_iff.mp h).2
theorem pairs_of {ds : List D} {i : Nat} {d : D} (h : (pairs ds)[i]? = some d) : ∃ x, ds[i]? = some x ∧ d = .tup [.int (i : Nat), x] := by
  have hi : i < ds.length := by rw [← pairs_len]; exact (List.getElem?_eq_some_iff.mp h).1
  have hx : ds[i]? = some ds[i] := List.getElem?_eq_getElem hi
  rw [pairs_get hx] at h
  cases h
  exact ⟨_, hx, rfl⟩
theorem src_enumT {K : PySem.W.Frag} {F H : Hp} {ds : List D} {St : Mp → Prop} {a : Addr} {vs : List V} (h1 : SqT K F a vs) (h2 : Reps K F ds vs) : Src K F H (pairs ds) St (Iet K a) where
  go := fun i F' H' M' e r s hi => by
    have hi' : i < vs.length := by rw [← h2.length, ← pairs_len]; exact hi
    exact ⟨vs, vs[i], sqT_up r (sqT_mono e h1), by simp [hi']⟩
  yld := fun i F' H' M' x H2 e r s hi ⟨T, y, ex, hT, eH, hy⟩ => by
    subst ex eH
    obtain ⟨d, h3, h4⟩ := (h2.mono e).get (hy vs (sqT_up r (sqT_mono e h1)))
    refine ⟨.tup [.int (i : Nat), d], _, pairs_get h3, same_upd (r.freeF hT), r.newF hT _, rep_tup.mpr ⟨T, [.int (i : Nat), y], rfl, SqT.of upd_same, ?_⟩⟩
    exact .cons (rep_int.mpr rfl) (.cons (h4.mono (same_upd (r.freeF hT))) .nil)
  stop := fun i F' H' M' e r s hi => ⟨vs, sqT_up r (sqT_mono e h1), by rw [← h2.length, ← pairs_len]; exact hi⟩
def dEnum (ta : DTA) : DTI := fun σ M Kd => ta σ M fun vs M1 => match vs with
  | [.tup ds] => Kd (pairs ds) (fun _ => True) M1
  | _ => False
theorem di_enum {p pos tpos : Pos} {elts : List Expr} {kk : Nat} (hg : Gl X "enumerate") (hm : X.mg "enumerate" = none) (ha : DA X F0 [e] tr) (hs : starEach [e] X.env = [(false, eval e X.env)] := by rfl) :
    DI X F0 (.Tuple elts kk tpos) (.Call (.Name "enumerate" p) [e] [] pos) (dEnum tr) :=
  PI_imp (pi_enumT hg hm ha hs) fun σ H Rr ⟨σd, M, F, hF, r, hS, Kd, h, fin⟩ => ⟨σd, M, F, _, hF, r, hS, h, fun x M1 v H1 F1 q e1 r1 v1 => by
    split at q
    · obtain ⟨u, rfl, h1⟩ := v1.one
      obtain ⟨a, vs, rfl, hq, hr⟩ := rep_tup.mp h1
      exact ⟨a, vs, rfl, sqT_up r1 hq, fin _ _ _ _ _ _ q e1 r1 trivial (src_enumT hq hr)⟩
    · exact q.elim⟩
end
end DL
/-! DL10: methods and makers as callees; fields by what they do. -/
namespace DL
open PySem PySem.Spec L2
section
variable {X : Cx} {F0 : Hp} {CX : CXT} {k : Nat} {ps : List Str} {sp : SpD} {Ed : DX} {E : XK} {x m : Str} {p pos apos : Pos} {e o : Expr} {es : List Expr} {ta te tv : DTE} {t : DTA} {C : Addr}
/-- a method of the class at C -/
def Mth (P : Program) (w : World) (K : PySem.W.Frag) (mg : Str → Option Value) (base : Heap) (CX : CXT) (C : Addr) (k : Nat) (m : Str) (ps : List Str) (sp : SpD) : Prop :=
  ∃ f fd, FnOk P w K mg base CX k f fd ps (LSp K sp) ∧ Cls K C ∧ Meth K C m f ∧ Binds K fd ps []
/-- the class x at C is called: its __init__ -/
def Mkr (P : Program) (w : World) (K : PySem.W.Frag) (mg : Str → Option Value) (base : Heap) (CX : CXT) (C : Addr) (k : Nat) (x : Str) (ps : List Str) (sp : SpD) : Prop :=
  ∃ f fd, FnOk P w K mg base CX k f fd ps (LSp K sp) ∧ Mk K C f ∧ mg x = some (.ref C) ∧ Binds K fd ps []
theorem de_mt {pl : Sem Bool} (h : Mth X.prog X.w X.K X.mg X.base CX C k m ps sp) (hr : Room k X.A) (hx : Passes CX X E) (hE : FinX X.K F0 Ed E) (ho : DE X F0 o ta) (ha : DA X F0 (e :: es) t)
    (hst : starEach (e :: es) X.env = (false, eval e X.env) :: starEach es X.env := by rfl) (hpl : (backTo pos (starEach es X.env)).any (·.1) = false := by rfl)
    (ht : eval (.Call (.Attribute o m apos) (e :: es) [] pos) X.env = (do
      let ov ← eval o X.env
      standAt apos.atName
      let (f, first) ← holding [ov] (getMethod ov m pl)
      callWith pos f first (backTo pos (starEach (e :: es) X.env)) (backToKw pos (keywordEach [] X.env))) := by rfl) :
    DE X F0 (.Call (.Attribute o m apos) (e :: es) [] pos) (dMeth C m sp Ed ta t) := by
  obtain ⟨f, fd, F, c, hm, hb⟩ := h
  exact de_meth ho c hm F hr hb hx hE ha hst hpl ht
theorem de_mt0 {pl : Sem Bool} (h : Mth X.prog X.w X.K X.mg X.base CX C k m ps sp) (hr : Room k X.A) (hx : Passes CX X E) (hE : FinX X.K F0 Ed E) (ho : DE X F0 o ta)
    (ht : eval (.Call (.Attribute o m apos) [] [] pos) X.env = (do
      let ov ← eval o X.env
      standAt apos.atName
      let (f, first) ← holding [ov] (getMethod ov m pl)
      callWith pos f first (backTo pos (starEach [] X.env)) (backToKw pos (keywordEach [] X.env))) := by rfl) :
    DE X F0 (.Call (.Attribute o m apos) [] [] pos) (dMeth C m sp Ed ta dNil) := by
  obtain ⟨f, fd, F, c, hm, hb⟩ := h
  exact de_meth0 ho c hm F hr hb hx hE ht
theorem de_new (h : Mkr X.prog X.w X.K X.mg X.base CX C k x ps sp) (hr : Room (k + 1) X.A) (hg : Gl X x) (hx : Passes CX X E) (hE : FinX X.K F0 Ed E)
    (ha : DA X F0 (e :: es) t) (hdb : (x == ("__debug__" : Str)) = false := by decide) (he : starEach (e :: es) X.env = (false, eval e X.env) :: starEach es X.env := by rfl) (hpl : (backTo pos (starEach es X.env)).any (·.1) = false := by rfl) :
    DE X F0 (.Call (.Name x p) (e :: es) [] pos) (dMake C sp Ed t) := by
  obtain ⟨f, fd, F, M, hm, hb⟩ := h
  exact de_make M F hr hg hm hb hx hE ha hdb he hpl
theorem de_new0 (h : Mkr X.prog X.w X.K X.mg X.base CX C k x ps sp) (hr : Room (k + 1) X.A) (hg : Gl X x) (hx : Passes CX X E) (hE : FinX X.K F0 Ed E)
    (hdb : (x == ("__debug__" : Str)) = false := by decide) : DE X F0 (.Call (.Name x p) [] [] pos) (dMake C sp Ed dNil) := by
  obtain ⟨f, fd, F, M, hm, hb⟩ := h
  exact de_make0 M F hr hg hm hb hx hE hdb
end
/-! ### fields, methods: what they do to values -/
def dF (K : PySem.W.Frag) (f : Str) (x : D) (M : Mp) (Q : DK) : Prop := ∃ p C fs v, x = .obj p ∧ M p = some (.ins C fs) ∧ Cls K C ∧ NoAttr K C f ∧ fs.lookup f = some v ∧ Q v M
def dSF (K : PySem.W.Frag) (f : Str) (x y : D) (M : Mp) (N : Mp → Prop) : Prop := ∃ p C fs, x = .obj p ∧ M p = some (.ins C fs) ∧ Cls K C ∧ NoAttr K C f ∧ fs.length < 1000 ∧ N (updM M p (.ins C (putD f y fs)))
def dM (C : Addr) (m : Str) (x : D) (M : Mp) (P : Prop) : Prop := ∃ p fs, x = .obj p ∧ M p = some (.ins C fs) ∧ fs.lookup m = none ∧ P
section
variable {K : PySem.W.Frag} {f m : Str} {te ta tv : DTE} {t : DTA} {σ : DS} {M : Mp} {Q : DK} {E : DEnds} {C p : Addr} {sp : SpD} {Ed : DX} {g : Int → Int → Int} {fs : List (Str × D)} {v y : D} {P : Prop} {N : Mp → Prop}
theorem e_fld : dFld K f te σ M Q = te σ M fun x M1 => dF K f x M1 Q := rfl
theorem e_sfld : dSFld K f ta tv E σ M = tv σ M fun y M1 => ta σ M1 fun x M2 => dSF K f x y M2 (E.nx σ) := rfl
theorem e_meth : dMeth C m sp Ed ta t σ M Q = ta σ M fun x M1 => ∃ p fs, x = .obj p ∧ M1 p = some (.ins C fs) ∧ fs.lookup m = none ∧ t σ M1 fun ds M2 => sp (x :: ds) M2 Q Ed := rfl
theorem f_get (h : M p = some (.ins C fs)) (hc : Cls K C) (hn : NoAttr K C f) (hl : fs.lookup f = some v) : dF K f (.obj p) M Q = Q v M := by
  apply propext
  constructor
  · rintro ⟨p', C', fs', v', h1, h2, _, _, h5, h6⟩
    cases h1
    rw [h] at h2; cases h2
    rw [hl] at h5; cases h5
    exact h6
  · exact fun q => ⟨p, C, fs, v, rfl, h, hc, hn, hl, q⟩
theorem f_set (h : M p = some (.ins C fs)) (hc : Cls K C) (hn : NoAttr K C f) (hl : fs.length < 1000) (q : N (updM M p (.ins C (putD f y fs)))) : dSF K f (.obj p) y M N := ⟨p, C, fs, rfl, h, hc, hn, hl, q⟩
end
/-- while, the test by itself -/
theorem while_two {c : DTT} {tb : DTS} {E : DEnds} {σ : DS} {M : Mp} (W : Nat → DS → Mp → Prop) (m : Nat) (h0 : W m σ M)
    (h : ∀ m σ M (N : DS → Mp → Prop), W m σ M → (∀ m' σ M, m' < m → W m' σ M → N σ M) → ∃ b, (∀ K : Bool → Mp → Prop, K b M → c σ M K) ∧ IfB b (tb { E with nx := N, ct := N, bk := E.nx } σ M) (E.nx σ M)) : dWhile c tb E σ M :=
  while_gen W m h0 fun m σ M N w hN => by
    obtain ⟨b, h1, h2⟩ := h m σ M N w hN
    exact h1 _ h2
theorem cxK {CX : CXT} {P : Program} {w : World} {K : PySem.W.Frag} {mg : Str → Option Value} {base : Heap} {N : List Str} {qual : Str} {scope : Scope} {f : Addr} {cdv : Value} {A : Around} {outer : List Env} {s : Shared} {H : Hp} {E : XK} :
    (cxOf CX P w K mg base N qual scope f cdv A outer s H E).K = K := rfl
end DL
/-! lstrip of given signs. -/
namespace DL
open PySem PySem.Spec L2
section
variable {X : Cx} {F0 : Hp}
def sLstrip : Str → D → Mp → DK → Prop := fun z y M Q => match y with
  | .str b => z.length ≤ sizeLine ∧ Q (.str (Txt.lstripChars z b)) M
  | _ => False
theorem xs_lstrip : MtR X "str.lstrip" (LS1 X.K F0 sLstrip) := MtR_imp mt_lstripChars fun v vs H Q ⟨z, y, u, M, F, Qd, e1, e2, hu, hF, r, h, fin⟩ => by
  unfold sLstrip at h
  split at h
  · cases rep_str.mp hu
    exact ⟨z, _, e1, e2, h.1, fin.go h.2 r (rep_str.mpr rfl)⟩
  · exact h.elim
end
end DL
/-! Dicts over trees: keys all ints and texts, or all tuples. The view of such a dict over the abstract heap; in, d[k], d[k] = v, get, setdefault. -/
namespace DL
open PySem PySem.Spec PyProof.Rows L2
/-- the value at a key -/
def lkD (kvs : List (D × D)) (d : D) : Option D := (kvs.find? fun x => decide (nkN x.1 = nkN d)).map (·.2)
def putDD (kvs : List (D × D)) (d v : D) : List (D × D) :=
  if (lkD kvs d).isSome then kvs.map (fun x => if nkN x.1 = nkN d then (x.1, v) else x) else kvs ++ [(d, v)]
theorem lkD_nil {d : D} : lkD [] d = none := rfl
theorem lkD_cons {kv : D × D} {kvs : List (D × D)} {d : D} : lkD (kv :: kvs) d = if nkN kv.1 = nkN d then some kv.2 else lkD kvs d := by
  unfold lkD
  rw [List.find?_cons]
  by_cases e : nkN kv.1 = nkN d
  · rw [if_pos e, decide_eq_true e] <;> rfl
  · rw [if_neg e, decide_eq_false e]
/-- the key d goes with these keys -/
def Fits (kvs : List (D × D)) (d : D) : Prop := ((∃ k, d = dK k) ∧ ∃ kk : List Key, kvs.map (·.1) = kk.map dK) ∨ (KeyD d ∧ ∀ kv ∈ kvs, KeyD kv.1)
theorem nkN_dK {k : Key} : nkN (dK k) = match k with | .inl i => .num i | .inr x => .text x := by
  cases k <;> rfl
theorem nkN_dK_inj {a b : Key} (h : nkN (dK a) = nkN (dK b)) : a = b := by
  rw [nkN_dK, nkN_dK] at h
  cases a <;> cases b <;> simp at h <;> rw [h]
def EntN (K : PySem.W.Frag) (F : Hp) : List (D × D) → List (NestedKey × Addr × V) → Prop
  | [], [] => True
  | kv :: kvs, x :: xs => x.1 = nkN kv.1 ∧ Rep K F kv.1 (.ref x.2.1) ∧ Rep K F kv.2 x.2.2 ∧ EntN K F kvs xs
  | _, _ => False
def EntK (K : PySem.W.Frag) (F : Hp) : List (D × D) → List (Key × V) → Prop
  | [], [] => True
  | kv :: kvs, x :: xs => kv.1 = dK x.1 ∧ Rep K F kv.2 x.2 ∧ EntK K F kvs xs
  | _, _ => False
section
variable {K : PySem.W.Frag} {F F' H : Hp}
theorem ent_of : ∀ {kvs : List (D × D)} {qs vs : List V}, (∀ x ∈ kvs, KeyD x.1) → Reps K F (kvs.map (·.1)) qs → Reps K F (kvs.map (·.2)) vs → EntN K F kvs (buildN (kvs.map fun x => nkN x.1) qs vs)
  | [], qs, vs, _, h, h' => by
    cases h.nil_inv
    exact trivial
  | kv :: kvs, qs, vs, hk, h, h' => by
    obtain ⟨v1, qs1, rfl, r1, h1⟩ := Reps.consD_inv h
    obtain ⟨v2, vs2, rfl, r2, h2⟩ := Reps.consD_inv h'
    obtain ⟨⟨ds, e⟩, _⟩ := hk kv (List.mem_cons_self ..)
    have r1' : Rep K F kv.1 v1 := r1
    rw [e] at r1'
    obtain ⟨a, us, rfl, _⟩ := rep_tup.mp r1'
    exact ⟨rfl, r1, r2, ent_of (fun x hx => hk x (List.mem_cons_of_mem _ hx)) h1 h2⟩
theorem entK_of : ∀ {kvs : List (D × D)} {kk : List Key} {vs : List V}, kvs.map (·.1) = kk.map dK → Reps K F (kvs.map (·.2)) vs → EntK K F kvs (kk.zip vs)
  | [], kk, vs, e, h' => by
    cases kk with
    | nil => exact trivial
    | cons k kk => cases e
  | kv :: kvs, [], vs, e, h' => by cases e
  | kv :: kvs, k :: kk, vs, e, h' => by
    obtain ⟨v2, vs2, rfl, r2, h2⟩ := Reps.consD_inv h'
    rw [List.map_cons, List.map_cons] at e
    injection e with e1 e2
    exact ⟨e1, r2, entK_of e2 h2⟩
theorem ent_key (hs : Same F H) : ∀ {kvs : List (D × D)} {xs : List (NestedKey × Addr × V)}, (∀ x ∈ kvs, KeyD x.1) → EntN K F kvs xs → ∀ x ∈ xs, KeyOk K H x.1 x.2.1
  | [], [], _, _, x, hx => by cases hx
  | [], _ :: _, _, h, _, _ => h.elim
  | _ :: _, [], _, h, _, _ => h.elim
  | kv :: kvs, y :: xs, hk, h, x, hx => by
    rcases List.mem_cons.mp hx with rfl | hx
    · obtain ⟨_, h2, h3⟩ := hk kv (List.mem_cons_self ..)
      obtain ⟨k, e⟩ := Option.isSome_iff_exists.mp h2
      have en : nkN kv.1 = k := by unfold nkN; rw [e] <;> rfl
      refine ⟨kv.1, F, hs, h.2.1, ?_, ?_⟩
      · rw [h.1, en]
        exact e
      · rw [h.1]
        exact h3
    · exact ent_key hs (fun x hx => hk x (List.mem_cons_of_mem _ hx)) h.2.2.2 x hx
theorem ent_at {d : D} : ∀ {kvs : List (D × D)} {xs : List (NestedKey × Addr × V)}, EntN K F kvs xs → (lkD kvs d = none ∧ atN xs (nkN d) = none) ∨ ∃ e a v, lkD kvs d = some e ∧ atN xs (nkN d) = some (a, v) ∧ Rep K F e v
  | [], [], _ => .inl ⟨rfl, rfl⟩
  | [], _ :: _, h => h.elim
  | _ :: _, [], h => h.elim
  | kv :: kvs, x :: xs, h => by
    obtain ⟨h1, h2, h3, h4⟩ := h
    rw [lkD_cons]
    unfold atN
    rw [List.find?_cons, h1]
    by_cases e : nkN kv.1 = nkN d
    · rw [decide_eq_true e, if_pos e]
      exact .inr ⟨kv.2, x.2.1, x.2.2, rfl, rfl, h3⟩
    · rw [decide_eq_false e, if_neg e]
      exact ent_at h4
theorem entK_at {k : Key} : ∀ {kvs : List (D × D)} {xs : List (Key × V)}, EntK K F kvs xs → (lkD kvs (dK k) = none ∧ valV xs k = none) ∨ ∃ e v, lkD kvs (dK k) = some e ∧ valV xs k = some v ∧ Rep K F e v
  | [], [], _ => .inl ⟨rfl, rfl⟩
  | [], _ :: _, h => h.elim
  | _ :: _, [], h => h.elim
  | kv :: kvs, x :: xs, h => by
    obtain ⟨h1, h3, h4⟩ := h
    rw [lkD_cons, h1]
    by_cases e : x.1 = k
    · rw [valV_pos e, if_pos (by rw [e])]
      exact .inr ⟨kv.2, x.2, rfl, rfl, h3⟩
    · rw [valV_neg e, if_neg (fun q => e (nkN_dK_inj q))]
      exact entK_at h4
theorem EntN.mono (e : Same F F') : ∀ {kvs : List (D × D)} {xs : List (NestedKey × Addr × V)}, EntN K F kvs xs → EntN K F' kvs xs
  | [], [], _ => trivial
  | [], _ :: _, h => h.elim
  | _ :: _, [], h => h.elim
  | _ :: _, _ :: _, h => ⟨h.1, h.2.1.mono e, h.2.2.1.mono e, h.2.2.2.mono e⟩
theorem EntN.len : ∀ {kvs : List (D × D)} {xs : List (NestedKey × Addr × V)}, EntN K F kvs xs → kvs.length = xs.length
  | [], [], _ => rfl
  | [], _ :: _, h => h.elim
  | _ :: _, [], h => h.elim
  | _ :: _, _ :: _, h => by simp [EntN.len h.2.2.2]
theorem EntK.len : ∀ {kvs : List (D × D)} {xs : List (Key × V)}, EntK K F kvs xs → kvs.length = xs.length
  | [], [], _ => rfl
  | [], _ :: _, h => h.elim
  | _ :: _, [], h => h.elim
  | _ :: _, _ :: _, h => by simp [EntK.len h.2.2]
/-- .. and back -/
theorem entN_back : ∀ {kvs : List (D × D)} {xs : List (NestedKey × Addr × V)}, EntN K F kvs xs → ∃ qs vs, xs = buildN (kvs.map fun x => nkN x.1) qs vs ∧ Reps K F (kvs.map (·.1)) qs ∧ Reps K F (kvs.map (·.2)) vs ∧ kvs.length = vs.length
  | [], [], _ => ⟨[], [], rfl, .nil, .nil, rfl⟩
  | [], _ :: _, h => h.elim
  | _ :: _, [], h => h.elim
  | kv :: kvs, x :: xs, h => by
    obtain ⟨qs, vs, e, r1, r2, hl⟩ := entN_back h.2.2.2
    refine ⟨.ref x.2.1 :: qs, x.2.2 :: vs, ?_, .cons h.2.1 r1, .cons h.2.2.1 r2, by simp [hl]⟩
    rw [List.map_cons]
    unfold buildN
    rw [← e, ← h.1]
theorem entK_back : ∀ {kvs : List (D × D)} {xs : List (Key × V)}, EntK K F kvs xs → ∃ (kk : List Key) (vs : List V), xs = kk.zip vs ∧ kvs.map (·.1) = kk.map dK ∧ Reps K F (kvs.map (·.2)) vs ∧ kvs.length = vs.length
  | [], [], _ => ⟨[], [], rfl, rfl, .nil, rfl⟩
  | [], _ :: _, h => h.elim
  | _ :: _, [], h => h.elim
  | kv :: kvs, x :: xs, h => by
    obtain ⟨kk, vs, e, r1, r2, hl⟩ := entK_back h.2.2
    exact ⟨x.1 :: kk, x.2 :: vs, by rw [e] <;> rfl, by rw [List.map_cons, List.map_cons, r1, h.1], .cons h.2.1 r2, by simp [hl]⟩
theorem reps_dK : ∀ {kk : List Key}, Reps K F (kk.map dK) (kk.map kV)
  | [] => .nil
  | k :: kk => .cons rep_dK (reps_dK (kk := kk))
theorem lk_any {kvs : List (D × D)} {d : D} : (lkD kvs d).isSome = kvs.any fun x => decide (nkN x.1 = nkN d) := by
  induction kvs with
  | nil => rfl
  | cons kv kvs ih =>
    rw [lkD_cons, List.any_cons]
    by_cases e : nkN kv.1 = nkN d
    · rw [if_pos e, decide_eq_true e] <;> rfl
    · rw [if_neg e, decide_eq_false e, ih] <;> rfl
theorem entN_repl {d e : D} {v : V} (hv : Rep K F e v) : ∀ {kvs : List (D × D)} {xs : List (NestedKey × Addr × V)}, EntN K F kvs xs → EntN K F (kvs.map fun x => if nkN x.1 = nkN d then (x.1, e) else x) (xs.map fun x => if x.1 = nkN d then (x.1, x.2.1, v) else x)
  | [], [], _ => trivial
  | [], _ :: _, h => h.elim
  | _ :: _, [], h => h.elim
  | kv :: kvs, x :: xs, h => by
    obtain ⟨h1, h2, h3, h4⟩ := h
    rw [List.map_cons, List.map_cons, h1]
    by_cases q : nkN kv.1 = nkN d
    · rw [if_pos q, if_pos q]
      exact ⟨rfl, h2, hv, entN_repl hv h4⟩
    · rw [if_neg q, if_neg q]
      exact ⟨h1, h2, h3, entN_repl hv h4⟩
theorem entN_app {d e : D} {q : Addr} {v : V} (hd : Rep K F d (.ref q)) (hv : Rep K F e v) : ∀ {kvs : List (D × D)} {xs : List (NestedKey × Addr × V)}, EntN K F kvs xs → EntN K F (kvs ++ [(d, e)]) (xs ++ [(nkN d, q, v)])
  | [], [], _ => ⟨rfl, hd, hv, trivial⟩
  | [], _ :: _, h => h.elim
  | _ :: _, [], h => h.elim
  | kv :: kvs, x :: xs, h => ⟨h.1, h.2.1, h.2.2.1, entN_app hd hv h.2.2.2⟩
theorem entN_put {d e : D} {q : Addr} {v : V} (hd : Rep K F d (.ref q)) (hv : Rep K F e v) {kvs : List (D × D)} {xs : List (NestedKey × Addr × V)} (h : EntN K F kvs xs) : EntN K F (putDD kvs d e) (storeN xs (nkN d) q v) := by
  unfold putDD storeN
  rcases ent_at (d := d) h with ⟨e1, e2⟩ | ⟨_, _, _, e1, e2, _⟩
  · rw [e1, e2]
    exact entN_app hd hv h
  · rw [e1, e2]
    exact entN_repl hv h
theorem entK_repl {k : Key} {e : D} {v : V} (hv : Rep K F e v) : ∀ {kvs : List (D × D)} {xs : List (Key × V)}, EntK K F kvs xs → EntK K F (kvs.map fun x => if nkN x.1 = nkN (dK k) then (x.1, e) else x) (xs.map fun x => if x.1 = k then (x.1, v) else x)
  | [], [], _ => trivial
  | [], _ :: _, h => h.elim
  | _ :: _, [], h => h.elim
  | kv :: kvs, x :: xs, h => by
    obtain ⟨h1, h3, h4⟩ := h
    rw [List.map_cons, List.map_cons]
    by_cases q : x.1 = k
    · rw [if_pos (by rw [h1, q]), if_pos q]
      exact ⟨h1, hv, entK_repl hv h4⟩
    · rw [if_neg (fun z => q (nkN_dK_inj (h1 ▸ z))), if_neg q]
      exact ⟨h1, h3, entK_repl hv h4⟩
theorem entK_app {k : Key} {e : D} {v : V} (hv : Rep K F e v) : ∀ {kvs : List (D × D)} {xs : List (Key × V)}, EntK K F kvs xs → EntK K F (kvs ++ [(dK k, e)]) (xs ++ [(k, v)])
  | [], [], _ => ⟨rfl, hv, trivial⟩
  | [], _ :: _, h => h.elim
  | _ :: _, [], h => h.elim
  | kv :: kvs, x :: xs, h => ⟨h.1, h.2.1, entK_app hv h.2.2⟩
theorem entK_put {k : Key} {e : D} {v : V} (hv : Rep K F e v) {kvs : List (D × D)} {xs : List (Key × V)} (h : EntK K F kvs xs) : EntK K F (putDD kvs (dK k) e) (putK xs k v) := by
  unfold putDD putK
  rw [valV_any]
  rcases entK_at (k := k) h with ⟨e1, e2⟩ | ⟨_, _, e1, e2, _⟩
  · rw [e1, e2]
    exact entK_app hv h
  · rw [e1, e2]
    exact entK_repl hv h
theorem putDD_keys {kvs : List (D × D)} {d v : D} : (putDD kvs d v).map (·.1) = kvs.map (·.1) ∨ (putDD kvs d v).map (·.1) = kvs.map (·.1) ++ [d] := by
  unfold putDD
  split
  · left
    rw [List.map_map]
    apply List.map_congr_left
    intro x _
    dsimp only [Function.comp]
    split <;> rfl
  · right
    rw [List.map_append] <;> rfl
theorem putDD_keyD {kvs : List (D × D)} {d v : D} (hd : KeyD d) (hk : ∀ kv ∈ kvs, KeyD kv.1) : ∀ x ∈ (putDD kvs d v), KeyD x.1 := by
  intro x hx
  have hx' : x.1 ∈ (putDD kvs d v).map (·.1) := List.mem_map_of_mem hx
  rcases putDD_keys (kvs := kvs) (d := d) (v := v) with e | e
  · rw [e] at hx'
    obtain ⟨y, hy, e2⟩ := List.mem_map.mp hx'
    rw [← e2]
    exact hk y hy
  · rw [e] at hx'
    rcases List.mem_append.mp hx' with hx' | hx'
    · obtain ⟨y, hy, e2⟩ := List.mem_map.mp hx'
      rw [← e2]
      exact hk y hy
    · rw [List.mem_singleton.mp hx']
      exact hd
end
/-- the dict's two shapes over the abstract heap -/
def DSh (K : PySem.W.Frag) (F H : Hp) (pw : Wd) (a : Addr) (kvs : List (D × D)) : Prop :=
  (∃ xs : List (Key × V), H a = some (.dK xs) ∧ EntK K F kvs xs) ∨ (kvs ≠ [] ∧ (∀ kv ∈ kvs, KeyD kv.1) ∧ ∃ xs : List (NestedKey × Addr × V), H a = some (dnO pw.P pw.w a xs) ∧ EntN K F kvs xs)
/-- .. to be read -/
def DShR (K : PySem.W.Frag) (F H : Hp) (pw : Wd) (a : Addr) (kvs : List (D × D)) : Prop :=
  (∃ xs : List (Key × V), Rd H a (.dK xs) ∧ EntK K F kvs xs) ∨ (kvs ≠ [] ∧ (∀ kv ∈ kvs, KeyD kv.1) ∧ ∃ xs : List (NestedKey × Addr × V), Rd H a (dnO pw.P pw.w a xs) ∧ EntN K F kvs xs)
theorem DSh.rd {K : PySem.W.Frag} {F H : Hp} {pw : Wd} {a : Addr} {kvs : List (D × D)} (h : DSh K F H pw a kvs) : DShR K F H pw a kvs := by
  rcases h with ⟨xs, h1, h2⟩ | ⟨h0, h1, xs, h2, h3⟩
  · exact .inl ⟨xs, .inl h1, h2⟩
  · exact .inr ⟨h0, h1, xs, .inl h2, h3⟩
def DicRep (K : PySem.W.Frag) (F : Hp) (pw : Wd) (a : Addr) (kvs : List (D × D)) (o : Option HO) : Prop := ∃ kl vl, DicHO pw a (kvs.map (·.1)) kl vl o ∧ Reps K F (kvs.map (·.1)) kl ∧ Reps K F (kvs.map (·.2)) vl
theorem sh_of {K : PySem.W.Frag} {F H : Hp} {pw : Wd} {a : Addr} {kvs : List (D × D)} (h : DicRep K F pw a kvs (H a)) : DSh K F H pw a kvs := by
  obtain ⟨kl, vl, ⟨hl, h0⟩, r1, r2⟩ := h
  rcases h0 with ⟨kk, e1, e2⟩ | ⟨hne, hk, e2⟩
  · exact .inl ⟨_, e2, entK_of e1 r2⟩
  · refine .inr ⟨fun e => hne (by rw [e] <;> rfl), fun kv hkv => hk _ (List.mem_map_of_mem hkv), _, e2, ?_⟩
    rw [List.map_map]
    exact ent_of (fun kv hkv => hk _ (List.mem_map_of_mem hkv)) r1 r2
theorem sh_rd {K : PySem.W.Frag} {F H : Hp} {pw : Wd} {a : Addr} {kvs : List (D × D)} {u : HO} (h : DicRep K F pw a kvs (some u)) (hr : Rd H a u) : DShR K F H pw a kvs := by
  obtain ⟨kl, vl, ⟨hl, h0⟩, r1, r2⟩ := h
  rcases h0 with ⟨kk, e1, e2⟩ | ⟨hne, hk, e2⟩
  · cases e2
    exact .inl ⟨_, hr, entK_of e1 r2⟩
  · cases e2
    refine .inr ⟨fun e => hne (by rw [e] <;> rfl), fun kv hkv => hk _ (List.mem_map_of_mem hkv), _, hr, ?_⟩
    rw [List.map_map]
    exact ent_of (fun kv hkv => hk _ (List.mem_map_of_mem hkv)) r1 r2
theorem sh_K {K : PySem.W.Frag} {F : Hp} {pw : Wd} {a : Addr} {kvs : List (D × D)} {xs : List (Key × V)} (h : EntK K F kvs xs) : DicRep K F pw a kvs (some (.dK xs)) := by
  obtain ⟨kk, vs, e, h1, h2, hl⟩ := entK_back h
  exact ⟨kk.map kV, vs, ⟨by rw [List.length_map, hl], .inl ⟨kk, h1, by rw [e]⟩⟩, by rw [h1]; exact reps_dK, h2⟩
theorem sh_N {K : PySem.W.Frag} {F : Hp} {pw : Wd} {a : Addr} {kvs : List (D × D)} {xs : List (NestedKey × Addr × V)} (hne : kvs ≠ []) (hk : ∀ kv ∈ kvs, KeyD kv.1) (h : EntN K F kvs xs) : DicRep K F pw a kvs (some (dnO pw.P pw.w a xs)) := by
  obtain ⟨qs, vs, e, h1, h2, hl⟩ := entN_back h
  refine ⟨qs, vs, ⟨by rw [List.length_map, hl], .inr ⟨fun z => hne (List.map_eq_nil_iff.mp z), fun k hkk => ?_, by rw [e, List.map_map] <;> rfl⟩⟩, h1, h2⟩
  obtain ⟨kv, h3, rfl⟩ := List.mem_map.mp hkk
  exact hk kv h3
section
variable {X : Cx} {pins : List (Addr × Obj)} {σ : L2.St} {H F : Hp} {s : Shared} {a : Addr} {kvs : List (D × D)} {d e : D} {y v : V} {u r : Value} {A : Around} {E : Value → Shared → Prop}
/-- an empty dict, to have tuples as keys -/
theorem toN (I : Inv X pins σ H s) (h : H a = some (.dK [])) : Inv X pins σ (upd H a (dnO X.prog X.w a [])) s := by
  obtain ⟨z, hd, vs, rel, dd⟩ := dk_of I.hok h
  cases rel
  obtain ⟨o, es, ep, h1, h2, h3, h4, h5, h6⟩ := dd
  have e0 : es.toList = [] := by
    generalize es.toList = l at h5
    cases h5
    rfl
  exact d_write (t' := s.toks) I (by rw [h]; exact True.intro) ⟨rfl, fun _ _ => rfl⟩ ⟨o, h1⟩ (dnO_ok (ys := []) (Nat.zero_le _) hd .nil h1 h2 h3 (by rw [e0] <;> rfl) List.nodup_nil)
theorem toK (I : Inv X pins σ (upd H a (dnO X.prog X.w a [])) s) (h : H a = some (.dK [])) : Inv X pins σ H s := by
  obtain ⟨⟨hz, hs, ys, o, es, ep, hp, ho, he, hd, hes, hn⟩, _⟩ := I.hok a _ upd_same
  cases hp
  have e0 : es = #[] := by
    have : es.toList = [] := hes
    cases es
    simpa using this
  have I2 : Inv X pins σ (upd (upd H a (dnO X.prog X.w a [])) a (.dK [])) s :=
    d_write (t' := s.toks) I (by rw [upd_same]; exact True.intro) ⟨rfl, fun _ _ => rfl⟩ ⟨o, ho⟩ (dk_new (kvs := []) (vs := []) (Nat.zero_le _) hs .nil ⟨o, es, ep, ho, he, hd, by rw [e0]; exact fun e he => (by simp at he), by rw [e0]; exact .nil, List.nodup_nil⟩)
  have e1 : upd (upd H a (dnO X.prog X.w a [])) a (.dK []) = H := by
    funext b
    by_cases hb : b = a
    · rw [hb, upd_same, h]
    · rw [upd_ne hb, upd_ne hb]
  rw [e1] at I2
  exact I2
theorem keyOk (hF : Same F H) (hk : KeyD d) (h : Rep X.K F d y) : ∃ q, y = .ref q ∧ KeyOk X.K H (nkN d) q := by
  obtain ⟨⟨ds, e0⟩, h2, h3⟩ := hk
  have h' := h
  rw [e0] at h'
  obtain ⟨q, us, rfl, _⟩ := rep_tup.mp h'
  obtain ⟨k, e⟩ := Option.isSome_iff_exists.mp h2
  have en : nkN d = k := by unfold nkN; rw [e] <;> rfl
  exact ⟨q, rfl, d, F, hF, h, by rw [en]; exact e, h3⟩
theorem fits_K (h : ∃ k, d = dK k) (hs : DSh X.K F H ⟨X.prog, X.w⟩ a kvs) (fit : Fits kvs d) : ∃ xs : List (Key × V), H a = some (.dK xs) ∧ EntK X.K F kvs xs := by
  rcases hs with hs | ⟨hne, hk, xs, h1, h2⟩
  · exact hs
  · exfalso
    obtain ⟨k, rfl⟩ := h
    rcases fit with ⟨_, kk, e⟩ | ⟨hd, _⟩
    · cases kvs with
      | nil => exact hne rfl
      | cons kv kvs =>
        obtain ⟨⟨ds, e2⟩, _⟩ := hk kv (List.mem_cons_self ..)
        cases kk with
        | nil => cases e
        | cons k2 kk =>
          rw [List.map_cons, List.map_cons] at e
          injection e with e3 e4
          rw [e2] at e3
          cases k2 <;> cases e3
    · obtain ⟨⟨ds, e⟩, _⟩ := hd
      cases k <;> cases e
theorem fits_N (h : KeyD d) (hs : DSh X.K F H ⟨X.prog, X.w⟩ a kvs) (fit : Fits kvs d) : (∀ kv ∈ kvs, KeyD kv.1) ∧ ((kvs = [] ∧ H a = some (.dK [])) ∨ (kvs ≠ [] ∧ ∃ xs : List (NestedKey × Addr × V), H a = some (dnO X.prog X.w a xs) ∧ EntN X.K F kvs xs)) := by
  have hall : ∀ kv ∈ kvs, KeyD kv.1 := by
    rcases fit with ⟨⟨k, rfl⟩, _⟩ | ⟨_, hk⟩
    · obtain ⟨⟨ds, e⟩, _⟩ := h
      cases k <;> cases e
    · exact hk
  refine ⟨hall, ?_⟩
  rcases hs with ⟨xs, h1, h2⟩ | ⟨hne, hk, xs, h1, h2⟩
  · cases kvs with
    | nil => cases xs with
      | nil => exact .inl ⟨rfl, h1⟩
      | cons x xs => exact h2.elim
    | cons kv kvs => cases xs with
      | nil => exact h2.elim
      | cons x xs =>
        obtain ⟨⟨ds, e⟩, _⟩ := hall kv (List.mem_cons_self ..)
        rw [h2.1] at e
        cases x with
        | mk k w => cases k <;> cases e
  · exact .inr ⟨hne, xs, h1, h2⟩
theorem fit_or (fit : Fits kvs d) : (∃ k, d = dK k) ∨ KeyD d := by
  rcases fit with ⟨h, _⟩ | ⟨h, _⟩
  · exact .inl h
  · exact .inr h
theorem fits_KR (h : ∃ k, d = dK k) (hs : DShR X.K F H ⟨X.prog, X.w⟩ a kvs) (fit : Fits kvs d) : ∃ xs : List (Key × V), Rd H a (.dK xs) ∧ EntK X.K F kvs xs := by
  rcases hs with hs | ⟨hne, hk, xs, h1, h2⟩
  · exact hs
  · exfalso
    obtain ⟨k, rfl⟩ := h
    rcases fit with ⟨_, kk, e⟩ | ⟨hd, _⟩
    · cases kvs with
      | nil => exact hne rfl
      | cons kv kvs =>
        obtain ⟨⟨ds, e2⟩, _⟩ := hk kv (List.mem_cons_self ..)
        cases kk with
        | nil => cases e
        | cons k2 kk =>
          rw [List.map_cons, List.map_cons] at e
          injection e with e3 e4
          rw [e2] at e3
          cases k2 <;> cases e3
    · obtain ⟨⟨ds, e⟩, _⟩ := hd
      cases k <;> cases e
theorem dn_fullR {p : Addr} {xs : List (NestedKey × Addr × V)} (I : Inv X pins σ H s) (e : Rd H p (dnO X.prog X.w p xs)) (hk : ∀ x ∈ xs, KeyOk X.K H x.1 x.2.1) :
    ∃ ys, Paired PrN xs ys ∧ s.heap.DictOfH (nestedKind X.prog X.w) p ys ∧ (p == sysModules) = false ∧ xs.length ≤ sizeLine := by
  have x := rd_of I.hok e
  obtain ⟨⟨hz, hs, ys, o, es, ep, hp, ho, he, hd, hes, hn⟩, _⟩ := x
  refine ⟨ys, hp, ⟨o, es, ep, ho, he, hd, hes, fun y hy => ?_, hn⟩, hs, hz⟩
  obtain ⟨x, hx, q1, q2, _⟩ := pairN_mem hp y hy
  have := (hk x hx).is I
  rw [q1, q2] at this
  exact this
/-- a dict with tuples as keys, or an empty one, read -/
theorem fits_NR (I : Inv X pins σ H s) (hF : Same F H) (h : KeyD d) (hs : DShR X.K F H ⟨X.prog, X.w⟩ a kvs) (fit : Fits kvs d) : ∃ ys : List (NestedKey × Addr × Value), s.heap.DictOfH (nestedKind X.prog X.w) a ys ∧ (a == sysModules) = false ∧ ((lkD kvs d = none ∧ atKey ys (nkN d) = none) ∨ ∃ e v p, lkD kvs d = some e ∧ atKey ys (nkN d) = some p ∧ Rep X.K F e v ∧ RelV v p.2) := by
  have hall : ∀ kv ∈ kvs, KeyD kv.1 := by
    rcases fit with ⟨⟨k, rfl⟩, _⟩ | ⟨_, hk⟩
    · obtain ⟨⟨ds, e⟩, _⟩ := h
      cases k <;> cases e
    · exact hk
  rcases hs with ⟨xs, h1, h2⟩ | ⟨hne, hk, xs, h1, h2⟩
  · have e0 : kvs = [] ∧ xs = [] := by
      cases kvs with
      | nil => cases xs with
        | nil => exact ⟨rfl, rfl⟩
        | cons x xs => exact h2.elim
      | cons kv kvs => cases xs with
        | nil => exact h2.elim
        | cons x xs =>
          obtain ⟨⟨ds, e⟩, _⟩ := hall kv (List.mem_cons_self ..)
          rw [h2.1] at e
          cases x with
          | mk k w => cases k <;> cases e
    obtain ⟨rfl, rfl⟩ := e0
    obtain ⟨z, hd, vs, rel, dd⟩ := dk_rd I.hok h1
    cases rel
    obtain ⟨o, es, ep, q1, q2, q3, q4, q5, q6⟩ := dd
    have e0 : es.toList = [] := by
      generalize es.toList = l at q5
      cases q5
      rfl
    exact ⟨[], ⟨o, es, ep, q1, q2, q3, by rw [e0] <;> rfl, (fun y hy => by cases hy), List.nodup_nil⟩, hd, .inl ⟨rfl, rfl⟩⟩
  · obtain ⟨ys, p1, p2, p3, p4⟩ := dn_fullR I h1 (ent_key hF hall h2)
    refine ⟨ys, p2, p3, ?_⟩
    rcases ent_at (d := d) h2 with ⟨e1, e2⟩ | ⟨e', b, v, e1, e2, rv⟩
    · rcases atN_pair (k := nkN d) p1 with ⟨e3, e4⟩ | ⟨_, _, _, e3, e4, _⟩
      · exact .inl ⟨e1, e4⟩
      · rw [e2] at e3; cases e3
    · rcases atN_pair (k := nkN d) p1 with ⟨e3, e4⟩ | ⟨b2, v2, u2, e3, e4, r2⟩
      · rw [e2] at e3; cases e3
      · rw [e2] at e3; cases e3
        exact .inr ⟨e', v, _, e1, e4, rv, r2⟩
/-- d[k], there -/
theorem dd_getItem {Q : Value → Shared → Prop} (hu : A.units + 9 < cLine) (I : Inv X pins σ H s) (hF : Same F H) (hs : DShR X.K F H ⟨X.prog, X.w⟩ a kvs) (fit : Fits kvs d) (hy : Rep X.K F d y) (ry : RelV y u) (hv : lkD kvs d = some e)
    (h : ∀ v w' s', Inv X pins σ H s' → Rep X.K F e v → RelV v w' → Q w' s') : wpAny (model X.prog X.w) A (getItem (.ref a) u) Q E s := by
  rcases fit_or fit with hk | hk
  · obtain ⟨xs, h1, h2⟩ := fits_KR hk hs fit
    obtain ⟨k, rfl⟩ := hk
    rcases entK_at (k := k) h2 with ⟨e1, _⟩ | ⟨e', v, e1, e2, rv⟩
    · rw [hv] at e1; cases e1
    · rw [hv] at e1; cases e1
      have hy' : y = kV k := keyD_rep hy (by cases k <;> rfl)
      subst hy'
      refine d_getItem (by omega) I (v := v) ?_ ry fun w' s' I' r' => h v w' s' I' rv r'
      exact .inl ⟨xs, k, h1, rfl, e2.symm⟩
  · obtain ⟨q, rfl, ko⟩ := keyOk hF hk hy
    cases ry
    obtain ⟨ys, p1, p2, p3⟩ := fits_NR I hF hk hs fit
    rcases p3 with ⟨e1, _⟩ | ⟨e', v, p, e1, e2, rv, rp⟩
    · rw [hv] at e1; cases e1
    · rw [hv] at e1; cases e1
      exact wpAny_getItem_heap (by show A.units + 1 + 8 < cLine; omega) (ko.is I) p1 e2 (h v _ _ (I.tok _) rv rp)
theorem dd_in {neg : Bool} {Q : Value → Shared → Prop} (hu : A.units + 9 < cLine) (I : Inv X pins σ H s) (hF : Same F H) (hs : DShR X.K F H ⟨X.prog, X.w⟩ a kvs) (fit : Fits kvs d) (hy : Rep X.K F d y) (ry : RelV y u)
    (h : ∀ s', Inv X pins σ H s' → Q (.bool (neg != (lkD kvs d).isSome)) s') : wpAny (model X.prog X.w) A (compareOp (if neg then .NotIn else .In) u (.ref a)) Q E s := by
  rcases fit_or fit with hk | hk
  · obtain ⟨xs, h1, h2⟩ := fits_KR hk hs fit
    obtain ⟨k, rfl⟩ := hk
    have hy' : y = kV k := keyD_rep hy (by cases k <;> rfl)
    subst hy'
    have eo : (valV xs k).isSome = (lkD kvs (dK k)).isSome := by
      rcases entK_at (k := k) h2 with ⟨e1, e2⟩ | ⟨e', v, e1, e2, rv⟩ <;> rw [e1, e2] <;> rfl
    have dg : DGet H a (kV k) (valV xs k) := .inl ⟨xs, k, h1, rfl, rfl⟩
    cases neg with
    | false =>
      refine d_in (by omega) I dg ry fun s' I' => ?_
      have := h s' I'
      rw [← eo] at this
      simpa using this
    | true =>
      refine d_notIn (by omega) I dg ry fun s' I' => ?_
      have := h s' I'
      rw [← eo] at this
      simpa using this
  · obtain ⟨q, rfl, ko⟩ := keyOk hF hk hy
    cases ry
    obtain ⟨ys, p1, p2, p3⟩ := fits_NR I hF hk hs fit
    have e : (atKey ys (nkN d)).isSome = (lkD kvs d).isSome := by
      rcases p3 with ⟨e1, e2⟩ | ⟨_, _, _, e1, e2, _⟩ <;> rw [e1, e2] <;> rfl
    cases neg with
    | false =>
      refine wpAny_in_heap (by show A.units + 1 + 8 < cLine; omega) (ko.is I) p2 p1 ?_
      rw [e]
      simpa using h _ (I.tok _)
    | true =>
      refine wpAny_notIn_heap (by show A.units + 1 + 8 < cLine; omega) (ko.is I) p2 p1 ?_
      rw [e]
      simpa using h _ (I.tok _)
theorem putDD_ne {kvs : List (D × D)} {d e : D} : putDD kvs d e ≠ [] := by
  unfold putDD
  split
  · intro z
    rw [List.map_eq_nil_iff] at z
    subst z
    rename_i h
    cases h
  · simp
/-- d[k] = v -/
theorem dd_setItem {Q : Unit → Shared → Prop} (hu : A.units + 9 < cLine) (I : Inv X pins σ H s) (hF : Same F H) (hs : DSh X.K F H ⟨X.prog, X.w⟩ a kvs) (fit : Fits kvs d) (hl : kvs.length < sizeLine) (hy : Rep X.K F d y) (ry : RelV y u) (hv : Rep X.K F e v) (rv : RelV v r)
    (h : ∀ o s', Inv X pins σ (upd H a o) s' → DicRep X.K F ⟨X.prog, X.w⟩ a (putDD kvs d e) (some o) → Q () s') : wpAny (model X.prog X.w) A (setItem (.ref a) u r) Q E s := by
  rcases fit_or fit with hk | hk
  · obtain ⟨xs, h1, h2⟩ := fits_K hk hs fit
    obtain ⟨k, rfl⟩ := hk
    have hy' : y = kV k := keyD_rep hy (by cases k <;> rfl)
    subst hy'
    exact d_setItem (by omega) I (DPut.k h1 (by rw [← h2.len]; exact hl)) ry rv fun s' I' => h _ s' I' (sh_K (entK_put hv h2))
  · obtain ⟨hall, h0⟩ := fits_N hk hs fit
    obtain ⟨q, rfl, ko⟩ := keyOk hF hk hy
    cases ry
    rcases h0 with ⟨rfl, h1⟩ | ⟨hne, xs, h1, h2⟩
    · refine dn_setItem hu (toN I h1) upd_same (fun x hx => by cases hx) (ko.is I) rv (by show 0 < sizeLine; decide) fun s' I' => ?_
      rw [upd_upd] at I'
      exact h _ s' I' (sh_N putDD_ne (putDD_keyD hk hall) (entN_put (kvs := []) hy hv trivial))
    · exact dn_setItem hu I h1 (ent_key hF hall h2) (ko.is I) rv (by rw [← h2.len]; exact hl) fun s' I' => h _ s' I' (sh_N putDD_ne (putDD_keyD hk hall) (entN_put hy hv h2))
/-- d.setdefault(k, x) -/
theorem dd_setd {Q : Value → Shared → Prop} (hu : A.units + 9 < cLine) (I : Inv X pins σ H s) (hF : Same F H) (hs : DSh X.K F H ⟨X.prog, X.w⟩ a kvs) (fit : Fits kvs d) (hl : kvs.length < sizeLine) (hy : Rep X.K F d y) (ry : RelV y u) (hv : Rep X.K F e v) (rv : RelV v r)
    (h1 : ∀ e', lkD kvs d = some e' → ∀ v' w' s', Inv X pins σ H s' → Rep X.K F e' v' → RelV v' w' → Q w' s')
    (h2 : lkD kvs d = none → ∀ o w' s', Inv X pins σ (upd H a o) s' → DicRep X.K F ⟨X.prog, X.w⟩ a (putDD kvs d e) (some o) → RelV v w' → Q w' s') : wpAny (model X.prog X.w) A (call (.builtin "dict.setdefault") [.ref a, u, r]) Q E s := by
  rcases fit_or fit with hk | hk
  · obtain ⟨xs, p1, p2⟩ := fits_K hk hs fit
    obtain ⟨k, rfl⟩ := hk
    have hy' : y = kV k := keyD_rep hy (by cases k <;> rfl)
    subst hy'
    rcases entK_at (k := k) p2 with ⟨e1, e2⟩ | ⟨e', v', e1, e2, rv'⟩
    · exact d_setd I p1 ry rv (by rw [← p2.len]; exact hl) (fun v' hv' => by rw [e2] at hv'; cases hv') fun _ w' s' I' r' => h2 e1 _ w' s' I' (sh_K (entK_put hv p2)) r'
    · exact d_setd I p1 ry rv (by rw [← p2.len]; exact hl) (fun v2 hv' w' s' I' r' => by rw [e2] at hv'; cases hv'; exact h1 e' e1 _ w' s' I' rv' r') fun z => by rw [e2] at z; cases z
  · obtain ⟨hall, h0⟩ := fits_N hk hs fit
    obtain ⟨q, rfl, ko⟩ := keyOk hF hk hy
    cases ry
    rcases h0 with ⟨rfl, p1⟩ | ⟨hne, xs, p1, p2⟩
    · refine dn_setd hu (toN I p1) upd_same (fun x hx => by cases hx) (ko.is I) rv (by show 0 < sizeLine; decide) (fun _ _ z => by cases z) fun _ s' I' => ?_
      rw [upd_upd] at I'
      exact h2 rfl _ _ s' I' (sh_N putDD_ne (putDD_keyD hk hall) (entN_put (kvs := []) hy hv trivial)) rv
    · refine dn_setd hu I p1 (ent_key hF hall p2) (ko.is I) rv (by rw [← p2.len]; exact hl) (fun b v' hb w' s' I' r' => ?_) fun hn s' I' => ?_
      · rcases ent_at (d := d) p2 with ⟨e1, e2⟩ | ⟨e', b', v2, e1, e2, rv'⟩
        · rw [hb] at e2; cases e2
        · rw [hb] at e2; cases e2
          exact h1 e' e1 _ w' s' I' rv' r'
      · rcases ent_at (d := d) p2 with ⟨e1, e2⟩ | ⟨e', b', v2, e1, e2, rv'⟩
        · exact h2 e1 _ _ s' I' (sh_N putDD_ne (putDD_keyD hk hall) (entN_put hy hv p2)) rv
        · rw [hn] at e2; cases e2
/-- d.get(k), d.get(k, x) -/
theorem dd_get {Q : Value → Shared → Prop} (hu : A.units + 9 < cLine) (I : Inv X pins σ H s) (hF : Same F H) (hs : DShR X.K F H ⟨X.prog, X.w⟩ a kvs) (fit : Fits kvs d) (hy : Rep X.K F d y) (ry : RelV y u) (more : List Value) (rv : RelV v r) (hm : (more = [] ∧ v = .non) ∨ more = [r])
    (h1 : ∀ e', lkD kvs d = some e' → ∀ v' w' s', Inv X pins σ H s' → Rep X.K F e' v' → RelV v' w' → Q w' s')
    (h2 : lkD kvs d = none → ∀ w' s', Inv X pins σ H s' → RelV v w' → Q w' s') : wpAny (model X.prog X.w) A (call (.builtin "dict.get") (.ref a :: u :: more)) Q E s := by
  rcases fit_or fit with hk | hk
  · obtain ⟨xs, p1, p2⟩ := fits_KR hk hs fit
    obtain ⟨k, rfl⟩ := hk
    have hy' : y = kV k := keyD_rep hy (by cases k <;> rfl)
    subst hy'
    have dg : DGet H a (kV k) (valV xs k) := .inl ⟨xs, k, p1, rfl, rfl⟩
    have fin : ∀ w' s', Inv X pins σ H s' → RelV ((valV xs k).getD v) w' → Q w' s' := fun w' s' I' r' => by
      rcases entK_at (k := k) p2 with ⟨e1, e2⟩ | ⟨e', v', e1, e2, rv'⟩
      · rw [e2] at r'
        exact h2 e1 w' s' I' r'
      · rw [e2] at r'
        exact h1 e' e1 v' w' s' I' rv' r'
    rcases hm with ⟨rfl, rfl⟩ | rfl
    · exact d_get1 (by omega) I dg ry fin
    · exact d_get2 (by omega) I dg ry rv fin
  · obtain ⟨q, rfl, ko⟩ := keyOk hF hk hy
    cases ry
    obtain ⟨ys, p1, p2, p3⟩ := fits_NR I hF hk hs fit
    have fin : ∀ s', Inv X pins σ H s' → Q (((atKey ys (nkN d)).map (·.2)).getD r) s' := fun s' I' => by
      rcases p3 with ⟨e1, e2⟩ | ⟨e', v', p, e1, e2, rv', rp⟩
      · rw [e2]
        exact h2 e1 _ s' I' rv
      · rw [e2]
        exact h1 e' e1 v' _ s' I' rv' rp
    rcases hm with ⟨rfl, rfl⟩ | rfl
    · have er : r = .none := rv
      subst er
      exact call_meetsIn PySem.F.slot_dict_get p1.typeIs PySem.F.entry_dict_get (PySem.F.args_dict_get_2 _ _) (meetsH_dict_get (nestedKind X.prog X.w) a q p2) ⟨by show A.units + 1 + 8 < cLine; omega, nkN d, ys, ko.is I, p1, fin _ (I.tok _)⟩
    · exact call_meetsIn PySem.F.slot_dict_get p1.typeIs PySem.F.entry_dict_get (PySem.F.args_dict_get_3 _ _ _) (meetsH_dict_get_default (nestedKind X.prog X.w) a q p2 r) ⟨by show A.units + 1 + 8 < cLine; omega, nkN d, ys, ko.is I, p1, fin _ (I.tok _)⟩
/-- what a dict is -/
theorem dd_exact (I : Inv X pins σ H s) (hs : DShR X.K F H ⟨X.prog, X.w⟩ a kvs) : ∃ o, s.heap.get? a = some o ∧ o.ExactDict := by
  rcases hs with ⟨xs, h1, _⟩ | ⟨_, _, xs, h1, _⟩
  · obtain ⟨_, _, vs, _, o, _, _, h2, h3, _⟩ := dk_rd I.hok h1
    exact ⟨o, h2, h3⟩
  · obtain ⟨⟨_, _, ys, o, es, ep, hp, ho, he, hd, _⟩, _⟩ := rd_of I.hok h1
    exact ⟨o, ho, he⟩
theorem dd_type (I : Inv X pins σ H s) (hs : DShR X.K F H ⟨X.prog, X.w⟩ a kvs) : s.TypeIs (.ref a) "dict" ∧ (∀ b, Value.ref a = .ref b → ∃ ob, s.heap.get? b = some ob ∧ ob.dict = none) := by
  obtain ⟨o, ho, he⟩ := dd_exact I hs
  refine ⟨⟨o, ho, he.1⟩, fun b q => ?_⟩
  cases q
  exact ⟨o, ho, he.2.1⟩
end
end DL
/-! Dicts over trees, as rules: in, d[k], d[k] = v, get, setdefault, {}, {"a": x, ..}; in over rows of data. -/
namespace DL
open PySem PySem.Spec PyProof.Rows L2
/-- a dict that nobody changes any more -/
def dcD (pw : Wd) (kvs : List (D × D)) : D := .dic pw (kvs.map (·.1)) (kvs.map (·.2))
def DcIs (pw : Wd) (M : Mp) (x : D) (kvs : List (D × D)) : Prop := x = dcD pw kvs ∨ ∃ p, x = .obj p ∧ (M p = some (.dic pw kvs) ∨ ∃ od u, M p = some (.lck od u pw kvs))
theorem kvs_ext : ∀ {a b : List (D × D)}, a.map (·.1) = b.map (·.1) → a.map (·.2) = b.map (·.2) → a = b
  | [], [], _, _ => rfl
  | [], _ :: _, h, _ => by cases h
  | _ :: _, [], h, _ => by cases h
  | x :: a, y :: b, h1, h2 => by
    simp only [List.map_cons, List.cons.injEq] at h1 h2
    rw [kvs_ext h1.2 h2.2, Prod.ext h1.1 h2.1]
theorem dcIs_dcD {pw : Wd} {M : Mp} {kvs kvs' : List (D × D)} (h : DcIs pw M (dcD pw kvs) kvs') : kvs' = kvs := by
  rcases h with h | ⟨p, h, _⟩
  · unfold dcD at h
    injection h with h1 h2 h3
    exact (kvs_ext h2 h3).symm
  · cases h
theorem dcIs_obj {pw : Wd} {M : Mp} {p : Addr} {kvs kvs' : List (D × D)} (hp : M p = some (.dic pw kvs)) (h : DcIs pw M (.obj p) kvs') : kvs' = kvs := by
  rcases h with h | ⟨p', h, h2 | ⟨od, u, h2⟩⟩
  · cases h
  · cases h
    rw [hp] at h2
    cases h2
    rfl
  · cases h
    rw [hp] at h2
    cases h2
theorem dcIs_lck {pw : Wd} {M : Mp} {p : Addr} {od : Obj} {u : HO} {kvs kvs' : List (D × D)} (hp : M p = some (.lck od u pw kvs)) (h : DcIs pw M (.obj p) kvs') : kvs' = kvs := by
  rcases h with h | ⟨p', h, h2 | ⟨od, u, h2⟩⟩
  · cases h
  · cases h
    rw [hp] at h2
    cases h2
  · cases h
    rw [hp] at h2
    cases h2
    rfl
section
variable {K : PySem.W.Frag} {F H : Hp} {M : Mp} {pw : Wd} {x : D} {v : V} {kvs : List (D × D)}
theorem dc_rep (r : R K M F H) (h : Rep K F x v) (e : DcIs pw M x kvs) : ∃ a, v = .ref a ∧ DShR K F H pw a kvs := by
  rcases e with rfl | ⟨p, rfl, hp | ⟨od, u, hp⟩⟩
  · obtain ⟨a, kl, vl, od, u, rfl, h1, h2, h3, h4⟩ := rep_dic.mp h
    exact ⟨a, rfl, sh_rd ⟨kl, vl, h2, h3, h4⟩ (.inr ⟨od, r.fr _ _ h1⟩)⟩
  · obtain ⟨kl, vl, h1, h2, h3⟩ := r.mem p _ hp
    exact ⟨p, rep_obj.mp h, (sh_of ⟨kl, vl, h1, h2, h3⟩).rd⟩
  · obtain ⟨kl, vl, h0, h1, h2, h3⟩ := r.mem p _ hp
    exact ⟨p, rep_obj.mp h, sh_rd ⟨kl, vl, h1, h2, h3⟩ (.inr ⟨od, h0⟩)⟩
theorem dc_put (r : R K M F H) {p : Addr} {kvs' : List (D × D)} {mo : MO} {o : HO} (hp : M p = some mo) (h : DicRep K F pw p kvs' (some o)) : R K (updM M p (.dic pw kvs')) F (upd H p o) :=
  r.setX hp fun H' hH' => by
    obtain ⟨kl, vl, h1, h2, h3⟩ := h
    exact ⟨kl, vl, by rw [hH']; exact h1, h2, h3⟩
end
mutual
theorem plain_py : ∀ (d : D) (y : PyData), pyD d = some y → y.plain = true
  | .non, y, h => by unfold pyD at h; cases h; rfl
  | .bl b, y, h => by unfold pyD at h; cases h; rfl
  | .int i, y, h => by unfold pyD at h; cases h; rfl
  | .str x, y, h => by unfold pyD at h; cases h; rfl
  | .obj _, y, h => by unfold pyD at h; cases h
  | .rdl ns, y, h => by
    unfold pyD at h
    cases h
    show PyData.plainAll (ns.map PyData.int) = true
    induction ns with
    | nil => rfl
    | cons n ns ih => rw [List.map_cons]; unfold PyData.plainAll; rw [ih] <;> rfl
  | .tup ds, y, h => by
    unfold pyD at h
    obtain ⟨ys, e1, rfl⟩ := Option.map_eq_some_iff.mp h
    exact plain_pys ds ys e1
  | .lst ds, y, h => by
    unfold pyD at h
    obtain ⟨ys, e1, rfl⟩ := Option.map_eq_some_iff.mp h
    exact plain_pys ds ys e1
  | .dic _ _ _, y, h => by unfold pyD at h; cases h
  | .fin _ _ _, y, h => by unfold pyD at h; cases h
theorem plain_pys : ∀ (ds : List D) (ys : List PyData), pyDs ds = some ys → PyData.plainAll ys = true
  | [], ys, h => by unfold pyDs at h; cases h; rfl
  | d :: ds, ys, h => by
    unfold pyDs at h
    obtain ⟨y, e1, e2⟩ := Option.bind_eq_some_iff.mp h
    obtain ⟨ys', e3, rfl⟩ := Option.map_eq_some_iff.mp e2
    unfold PyData.plainAll
    rw [plain_py d y e1, plain_pys ds ys' e3] <;> rfl
end
/-- data of no great depth -/
def Shal (d : D) : Prop := (pyD d).isSome = true ∧ (encD d).depth ≤ 20
theorem shal_enc {d : D} (h : Shal d) : pyD d = some (encD d) := by
  obtain ⟨y, hy⟩ := Option.isSome_iff_exists.mp h.1
  unfold encD
  rw [hy] <;> rfl
theorem shals_enc : ∀ {ds : List D}, (∀ d ∈ ds, Shal d) → pyDs ds = some (ds.map encD)
  | [], _ => rfl
  | d :: ds, h => by
    unfold pyDs
    rw [shal_enc (h d (List.mem_cons_self ..)), shals_enc fun x hx => h x (List.mem_cons_of_mem _ hx)] <;> rfl
section
variable {X : Cx} {F0 : Hp}
/-- x in a list or a tuple of data -/
def dInRow (neg : Bool) : DR2 := fun x y M Q => ∃ ds, sqD M y = some ds ∧ Shal x ∧ (∀ z ∈ ds, Shal z) ∧ Q (.bl (neg != ds.any fun z => PyData.eqv (encD z) (encD x))) M
theorem dpAll_each {K : PySem.W.Frag} {F H : Hp} (hf : Same F H) {ds : List D} {vs : List V} (h : Reps K F ds vs) (hs : ∀ z ∈ ds, Shal z) : DpAll K H vs (ds.map encD) := dpAll_of hf ds vs _ h (shals_enc hs)
theorem or_inRow (hu : X.A.units + 64 < cLine) {neg : Bool} : OpR X (compareOp (if neg then .NotIn else .In)) (LR X.K F0 (dInRow neg)) := by
  intro pins s σ H x y v u Q I rx ry ⟨dx, dy, M, F, Qd, hF, r, hx, hy, ⟨ds, e, sx, ss, h⟩, fin⟩
  obtain ⟨a, vs, rfl, hq, hr⟩ := sqD_rep r hy e
  obtain ⟨bs, rdx⟩ := Dp.reads I _ _ _ (dp_of r.fr _ _ _ hx (shal_enc sx)) rx
  have hpl : (encD dx).plain = true := plain_py _ _ (shal_enc sx)
  have hpls : PyData.plainAll (ds.map encD) = true := plain_pys _ _ (shals_enc ss)
  have hd : X.A.units + 1 + min (PyData.depthAll (ds.map encD)) (encD dx).depth < cLine := by
    have := sx.2
    have := Nat.min_le_right (PyData.depthAll (ds.map encD)) (encD dx).depth
    omega
  have ea : (ds.map encD).any (fun z => PyData.eqv z (encD dx)) = ds.any fun z => PyData.eqv (encD z) (encD dx) := by
    rw [List.any_map] <;> rfl
  have q : ∀ b, b = (neg != ds.any fun z => PyData.eqv (encD z) (encD dx)) → EP X pins σ Q (.bool b) s := fun b hb => by
    rw [hb]
    exact ⟨.bl _, H, I, rfl, fin.go h r (rep_bl.mpr rfl)⟩
  rcases hq with hq | hq
  · obtain ⟨as, rdy⟩ := Dp.reads I _ _ _ (.lst hq (dpAll_each r.fr hr ss)) ry
    cases neg with
    | false => exact SeqAt.in_list_data rdy rdx hpls hpl hd (q _ (by rw [ea]; simp))
    | true => exact SeqAt.notIn_list_data rdy rdx hpls hpl hd (q _ (by rw [ea]; simp))
  · obtain ⟨as, rdy⟩ := Dp.reads I _ _ _ (.tup hq (dpAll_each r.fr hr ss)) ry
    cases neg with
    | false => exact SeqAt.in_tuple_data rdy rdx hpls hpl hd (q _ (by rw [ea]; simp))
    | true => exact SeqAt.notIn_tuple_data rdy rdx hpls hpl hd (q _ (by rw [ea]; simp))
def dInDic (pw : Wd) (neg : Bool) : DR2 := fun x y M Q => ∃ kvs, DcIs pw M y kvs ∧ Fits kvs x ∧ Q (.bl (neg != (lkD kvs x).isSome)) M
theorem or_inDic (hu : X.A.units + 9 < cLine) {neg : Bool} : OpR X (compareOp (if neg then .NotIn else .In)) (LR X.K F0 (dInDic ⟨X.prog, X.w⟩ neg)) := by
  intro pins s σ H x y v u Q I rx ry ⟨dx, dy, M, F, Qd, hF, r, hx, hy, ⟨kvs, e, fit, h⟩, fin⟩
  obtain ⟨a, rfl, sh⟩ := dc_rep r hy e
  cases ry
  exact dd_in hu I r.fr sh fit hx rx fun s' I' => ⟨.bl _, H, I', rfl, fin.go h r (rep_bl.mpr rfl)⟩
/-- in: a text in a text, a thing in a row, a key in a dict -/
def dInX (pw : Wd) (neg : Bool) : DR2 := fun x y M Q => dIn neg x y M Q ∨ dInRow neg x y M Q ∨ dInDic pw neg x y M Q
theorem lr_or {K : PySem.W.Frag} {r r' : DR2} {v u : V} {H : Hp} {Q : VK} (h : LR K F0 (fun x y M Q => r x y M Q ∨ r' x y M Q) v u H Q) : LR K F0 r v u H Q ∨ LR K F0 r' v u H Q := by
  obtain ⟨x, y, M, F, Qd, hF, hr, hx, hy, h | h, fin⟩ := h
  · exact .inl ⟨x, y, M, F, Qd, hF, hr, hx, hy, h, fin⟩
  · exact .inr ⟨x, y, M, F, Qd, hF, hr, hx, hy, h, fin⟩
theorem od_inX (hu : X.A.units + 64 < cLine) : OpR X (compareOp .In) (LR X.K F0 (dInX ⟨X.prog, X.w⟩ false)) :=
  OpR_imp (od_in.or ((or_inRow hu (neg := false)).or (or_inDic (by omega) (neg := false)))) fun v u H Q h => (lr_or h).imp id lr_or
theorem od_notInX (hu : X.A.units + 64 < cLine) : OpR X (compareOp .NotIn) (LR X.K F0 (dInX ⟨X.prog, X.w⟩ true)) :=
  OpR_imp (od_notIn.or ((or_inRow hu (neg := true)).or (or_inDic (by omega) (neg := true)))) fun v u H Q h => (lr_or h).imp id lr_or
/-- a[b] -/
def dIxDic (pw : Wd) : DR2 := fun x y M Q => ∃ kvs e, DcIs pw M x kvs ∧ Fits kvs y ∧ lkD kvs y = some e ∧ Q e M
theorem ix_dic (hu : X.A.units + 9 < cLine) : IxR X (LR X.K F0 (dIxDic ⟨X.prog, X.w⟩)) := by
  intro value slice pins s σ H x y v u Q I rx ry ⟨dx, dy, M, F, Qd, hF, r, hx, hy, ⟨kvs, e, hd, fit, hl, h⟩, fin⟩ hs
  obtain ⟨a, rfl, sh⟩ := dc_rep r hx hd
  cases rx
  exact tail_any (dd_type I sh).1 slot_dict_getitem.lookup (dd_getItem hu I r.fr sh fit hy ry hl fun w w' s' I' hw rw' => ⟨w, H, I', rw', fin.go h r hw⟩) hs
def dIxX (pw : Wd) : DR2 := fun x y M Q => dIx x y M Q ∨ dIxDic pw x y M Q
theorem xd_ixX (hu : X.A.units + 9 < cLine) : IxR X (LR X.K F0 (dIxX ⟨X.prog, X.w⟩)) := IxR_imp (xd_ix.or (ix_dic hu)) fun v u H Q h => lr_or h
variable {a b c e o i : Expr} {ta tb te to ti : DTE} {pos : Pos} {es : List Expr} {tr : DTA}
theorem de_ixX (hu : X.A.units + 9 < cLine) (ha : DE X F0 a ta) (hb : DE X F0 b tb) (hs : PlainIx b) : DE X F0 (.Subscript a b pos) (dOp (dIxX ⟨X.prog, X.w⟩) ta tb) := PE_imp (pe_ix (xd_ixX hu) ha hb hs) fun _ _ _ h => lift_op h
/-- o[i] = v -/
theorem PSet.or {t t' : TSet} (h : PSet X t) (h' : PSet X t') : PSet X (fun o i v H Q => t o i v H Q ∨ t' o i v H Q) := by
  intro pins s σ H o i v ov iv u Q I ro ri rv q
  rcases q with q | q
  · exact h pins s σ H o i v ov iv u Q I ro ri rv q
  · exact h' pins s σ H o i v ov iv u Q I ro ri rv q
def dSetDic (pw : Wd) (o i d : D) (M : Mp) (Q : Mp → Prop) : Prop := ∃ p kvs, o = .obj p ∧ M p = some (.dic pw kvs) ∧ Fits kvs i ∧ kvs.length < sizeLine ∧ Q (updM M p (.dic pw (putDD kvs i d)))
def dSetLst (o i d : D) (M : Mp) (Q : Mp → Prop) : Prop := ∃ p ds k j, o = .obj p ∧ i = .int k ∧ M p = some (.lst ds) ∧ ixN ds.length k = some j ∧ Q (updM M p (.lst (ds.set j d)))
def LSet (K : PySem.W.Frag) (r : D → D → D → Mp → (Mp → Prop) → Prop) : TSet := fun o i v H Q => ∃ od id d M F Qd, R K M F H ∧ Rep K F od o ∧ Rep K F id i ∧ Rep K F d v ∧ r od id d M Qd ∧ ∀ M' H', Qd M' → R K M' F H' → Q H'
theorem set_dic (hu : X.A.units + 9 < cLine) : PSet X (LSet X.K (dSetDic ⟨X.prog, X.w⟩)) := by
  intro pins s σ H o i v ov iv u Q I ro ri rv hyp
  obtain ⟨od, id, d, M, F, Qd, r, h1, h2, h3, ⟨p, kvs, rfl, hp, fit, hl, q⟩, fin⟩ := hyp
  cases rep_obj.mp h1
  cases ro
  obtain ⟨kl, vl, q1, q2, q3⟩ := r.mem p _ hp
  exact dd_setItem hu I r.fr (sh_of ⟨kl, vl, q1, q2, q3⟩) fit hl h2 ri h3 rv fun o s' I' dr => ⟨_, I', fin _ _ q (dc_put r hp dr)⟩
theorem set_lstX : PSet X (LSet X.K dSetLst) := by
  intro pins s σ H o i v ov iv u Q I ro ri rv hyp
  obtain ⟨od, id, d, M, F, Qd, r, h1, h2, h3, ⟨p, ds, k, j, rfl, rfl, hp, hj, q⟩, fin⟩ := hyp
  obtain ⟨vs, h4, h5⟩ := r.mem p _ hp
  exact set_list pins s σ H o i v ov iv u Q I ro ri rv ⟨p, vs, k, j, rep_obj.mp h1, rep_int.mp h2, h4, by rw [← h5.length]; exact hj, fin _ _ q (r.setM hp (h5.set j h3))⟩
def nSubX (pw : Wd) (to ti : DTE) : DTG := fun d σ M Q => to σ M fun o M1 => ti σ M1 fun i M2 => dSetLst o i d M2 (Q σ) ∨ dSetDic pw o i d M2 (Q σ)
theorem dg_subX (hu : X.A.units + 9 < cLine) (ho : DE X F0 o to) (hi : DE X F0 i ti)
    (ha : ∀ v, assign (.Subscript o i pos) X.env v = (do
      let ov ← holding [v] (eval o X.env)
      let iv ← holding [v, ov] (eval i X.env)
      standAt pos
      holding [v, ov, iv] (setItem ov iv v)
      release [v, ov, iv] []) := by intro _; rfl) : DG X F0 (.Subscript o i pos) (nSubX ⟨X.prog, X.w⟩ to ti) :=
  PG_imp (pg_sub ho hi (PSet.or set_lstX (set_dic hu)) ha) fun v σ H Q ⟨d, σd, M, F, Qd, hF, r, hv, hS, h, fin⟩ => ⟨σd, M, F, _, hF, r, hS, h, fun ov M1 ou H1 F1 q e1 r1 o1 =>
    ⟨σd, M1, F1, _, hF.trans e1, r1, hS.mono e1, q, fun iv M2 iu H2 F2 q2 e2 r2 i2 => by
      have e12 := e1.trans e2
      rcases q2 with q2 | q2
      · exact .inl ⟨ov, iv, d, M2, F2, _, r2, o1.mono e2, i2, hv.mono e12, q2, fun M3 H3 q3 r3 => fin _ _ _ _ F2 q3 e12 r3 (hS.mono e12)⟩
      · exact .inr ⟨ov, iv, d, M2, F2, _, r2, o1.mono e2, i2, hv.mono e12, q2, fun M3 H3 q3 r3 => fin _ _ _ _ F2 q3 e12 r3 (hS.mono e12)⟩⟩⟩
/-! ### methods -/
theorem pe_bmX {T : String} {id : String} {name : Str} {apos cpos : Pos} {p : V → Hp → Prop} {r : V → List V → Hp → VK → Prop} {o e : Expr} {es : List Expr} {to : TE} {t : TA} (pa : PlainAttrs T) (slot : Slot T name id) (hty : typeOf (.builtin id) = pure (.type "method_descriptor")) (hm : MtR X id r) (ho : PE X o to) (ha : PA X (e :: es) t)
    (hp : ∀ pins s σ H x v, Inv X pins σ H s → RelV x v → p x H → s.TypeIs v T ∧ ∀ b, v = .ref b → ∃ ob, s.heap.get? b = some ob ∧ ob.dict = none)
    (hbase : attributeBase o name X.env (eval o X.env) = eval o X.env)
    (hfew : ((backTo cpos (starEach (e :: es) X.env)).all (fun x => !x.1) && (backToKw cpos (keywordEach [] X.env)).all (fun x => x.1.isSome)
      && decide ((e :: es).length + ([] : List Keyword).length + (if ([] : List Keyword).isEmpty then 0 else 1) < 30)) = true)
    (hline : (apos.endLine == cpos.line) = true) (hs : starEach (e :: es) X.env = (false, eval e X.env) :: starEach es X.env) (hplain : (backTo cpos (starEach es X.env)).any (·.1) = false) :
    PE X (.Call (.Attribute o name apos) (e :: es) [] cpos) (fun σ H Q => to σ H fun x H1 => p x H1 ∧ t σ H1 fun xs H2 => r x xs H2 Q) := by
  refine ⟨fun pins s σ H Q I h => wpAny_Call_method_late hbase hfew hline rfl (thn (ho.run pins s σ H _ I h) fun v s1 ⟨x, H1, I1, r1, ty, q1⟩ => ?_)⟩
  obtain ⟨h1, h2⟩ := hp pins s1 σ H1 x v I1 r1 ty
  refine ⟨T, id, pa, slot, hty, h1, h2, ?_⟩
  have hA := ha.run cpos pins s1 σ H1 _ I1 q1
  rw [hs] at hA ⊢
  exact Calls.callWith_builtin (by show (false || (backTo cpos (starEach es X.env)).any (·.1)) = false; rw [hplain] <;> rfl) (Calls.evalArgs_plain (thn hA fun us s2 ⟨vs, H2, I2, r2, q2⟩ => hm pins s2 σ H2 x vs v us Q I2 r1 r2 q2))
def IsDc (pw : Wd) (x : D) (M : Mp) : Prop := ∃ kvs, DcIs pw M x kvs
def LIsDc (K : PySem.W.Frag) (pw : Wd) : V → Hp → Prop := fun v H => ∃ x M F, R K M F H ∧ Rep K F x v ∧ IsDc pw x M
theorem isDc_ty {pins : List (Addr × Obj)} {s : Shared} {σ : L2.St} {H : Hp} {x : V} {v : Value} (I : Inv X pins σ H s) (rx : RelV x v) (h : LIsDc X.K ⟨X.prog, X.w⟩ x H) : s.TypeIs v "dict" ∧ ∀ b, v = .ref b → ∃ ob, s.heap.get? b = some ob ∧ ob.dict = none := by
  obtain ⟨d, M, F, r, hd, kvs, e⟩ := h
  obtain ⟨a, rfl, sh⟩ := dc_rep r hd e
  cases rx
  exact dd_type I sh
def dDM (pw : Wd) (r : DRM) (to : DTE) (t : DTA) : DTE := fun σ M Q => to σ M fun x M1 => IsDc pw x M1 ∧ t σ M1 fun xs M2 => r x xs M2 Q
theorem de_dm {id : String} {name : Str} {apos cpos : Pos} {r : DRM} {o : Expr} {to : DTE} (slot : Slot "dict" name id) (hty : typeOf (.builtin id) = pure (.type "method_descriptor")) (hm : MtR X id (LRM X.K F0 r)) (ho : DE X F0 o to) (ha : DA X F0 (e :: es) tr)
    (hbase : attributeBase o name X.env (eval o X.env) = eval o X.env := by rfl)
    (hfew : ((backTo cpos (starEach (e :: es) X.env)).all (fun x => !x.1) && (backToKw cpos (keywordEach [] X.env)).all (fun x => x.1.isSome)
      && decide ((e :: es).length + ([] : List Keyword).length + (if ([] : List Keyword).isEmpty then 0 else 1) < 30)) = true := by rfl)
    (hline : (apos.endLine == cpos.line) = true := by rfl) (hs : starEach (e :: es) X.env = (false, eval e X.env) :: starEach es X.env := by rfl) (hplain : (backTo cpos (starEach es X.env)).any (·.1) = false := by rfl) :
    DE X F0 (.Call (.Attribute o name apos) (e :: es) [] cpos) (dDM ⟨X.prog, X.w⟩ r to tr) :=
  PE_imp (pe_bmX (p := LIsDc X.K ⟨X.prog, X.w⟩) PySem.F.plainAttrs_dict slot hty hm ho ha (fun _ _ _ _ _ _ I r h => isDc_ty I r h) hbase hfew hline hs hplain) fun σ H Q ⟨σd, M, F, Qd, hF, hR, hS, h, fin⟩ => ⟨σd, M, F, _, hF, hR, hS, h, fun x M1 v H1 F1 h1 e1 r1 v1 =>
    ⟨⟨x, M1, F1, r1, v1, h1.1⟩, σd, M1, F1, _, hF.trans e1, r1, hS.mono e1, h1.2, fun xs M2 vs H2 F2 h2 e2 r2 vs2 => ⟨x, xs, M2, F2, Qd, (hF.trans e1).trans e2, r2, v1.mono e2, vs2, h2, fin.mono (e1.trans e2)⟩⟩⟩
def dGetM (pw : Wd) : DRM := fun x xs M Q => ∃ kvs y, DcIs pw M x kvs ∧ Fits kvs y ∧ ((xs = [y] ∧ Q ((lkD kvs y).getD .non) M) ∨ ∃ z, xs = [y, z] ∧ Q ((lkD kvs y).getD z) M)
theorem md_get (hu : X.A.units + 9 < cLine) : MtR X "dict.get" (LRM X.K F0 (dGetM ⟨X.prog, X.w⟩)) := by
  intro pins s σ H x xs v us Q I rx rs ⟨d, ds, M, F, Qd, hF, r, hx, hxs, ⟨kvs, y, hd, fit, h⟩, fin⟩
  obtain ⟨a, rfl, sh⟩ := dc_rep r hx hd
  cases rx
  rcases h with ⟨rfl, h⟩ | ⟨z, rfl, h⟩
  · obtain ⟨w, rfl, hw⟩ := hxs.one
    obtain ⟨u, rfl, ru⟩ := Vals.one rs
    refine dd_get hu I r.fr sh fit hw ru [] (v := .non) (r := .none) rfl (.inl ⟨rfl, rfl⟩) (fun e' he v' w' s' I' rv r' => ⟨v', H, I', r', ?_⟩) (fun hn w' s' I' r' => ⟨_, H, I', r', ?_⟩)
    · rw [he] at h
      exact fin.go h r rv
    · rw [hn] at h
      exact fin.go h r (rep_non.mpr rfl)
  · obtain ⟨w, w2, rfl, hw, hw2⟩ := hxs.two
    obtain ⟨u, u2, rfl, ru, ru2⟩ := Vals.two rs
    refine dd_get hu I r.fr sh fit hw ru [u2] (v := w2) (r := u2) ru2 (.inr rfl) (fun e' he v' w' s' I' rv r' => ⟨v', H, I', r', ?_⟩) (fun hn w' s' I' r' => ⟨_, H, I', r', ?_⟩)
    · rw [he] at h
      exact fin.go h r rv
    · rw [hn] at h
      exact fin.go h r hw2
def dSetdM (pw : Wd) : DRM := fun x xs M Q => ∃ p kvs y z, x = .obj p ∧ xs = [y, z] ∧ M p = some (.dic pw kvs) ∧ Fits kvs y ∧ kvs.length < sizeLine ∧ (∀ e, lkD kvs y = some e → Q e M) ∧ (lkD kvs y = none → Q z (updM M p (.dic pw (putDD kvs y z))))
theorem md_setd (hu : X.A.units + 9 < cLine) : MtR X "dict.setdefault" (LRM X.K F0 (dSetdM ⟨X.prog, X.w⟩)) := by
  intro pins s σ H x xs v us Q I rx rs hyp
  obtain ⟨d, ds, M, F, Qd, hF, r, hx, hxs, ⟨p, kvs, y, z, rfl, rfl, hp, fit, hl, q1, q2⟩, fin⟩ := hyp
  cases rep_obj.mp hx
  cases rx
  obtain ⟨w, w2, rfl, hw, hw2⟩ := hxs.two
  obtain ⟨u, u2, rfl, ru, ru2⟩ := Vals.two rs
  obtain ⟨kl, vl, p1, p2, p3⟩ := r.mem p _ hp
  exact dd_setd hu I r.fr (sh_of ⟨kl, vl, p1, p2, p3⟩) fit hl hw ru hw2 ru2 (fun e' he v' w' s' I' rv r' => ⟨v', H, I', r', fin.go (q1 e' he) r rv⟩) fun hn o w' s' I' dr r' => ⟨_, _, I', r', fin.go (q2 hn) (dc_put r hp dr) hw2⟩
/-! ### new dicts -/
def dDNewX (pw : Wd) : DTE := fun _ M Q => ∀ p, M p = none → Q (.obj p) (updM M p (.dic pw []))
theorem de_dnewX : DE X F0 (.Dict [] [] pos) (dDNewX ⟨X.prog, X.w⟩) :=
  PE_imp pe_dnewK fun σ H Q ⟨σd, M, F, Qd, hF, r, hS, h, fin⟩ => fun p hp => fin _ _ _ _ F (h p (r.free hp)) (Same.refl F) (r.newX hp fun H' hH' => ⟨[], [], by rw [hH']; exact ⟨rfl, .inl ⟨[], rfl, rfl⟩⟩, .nil, .nil⟩) (rep_obj.mpr rfl)
end
end DL
/-! What nobody changes any more: dicts, instances, lists, all at once; fields and methods of such instances. -/
namespace DL
open PySem PySem.Spec PyProof.Rows L2
mutual
/-- d stands for a thing of M that is data from here on: d', M' -/
inductive Fz (pw : Wd) : D → Mp → D → Mp → Prop
  | id {d M} : Fz pw d M d M
  | lst {p ds M} : M p = some (.lst ds) → Fz pw (.obj p) M (.lst ds) (remM M p)
  | dic {p kvs M} : M p = some (.dic pw kvs) → Fz pw (.obj p) M (dcD pw kvs) (remM M p)
  | ins {p C ns vs ds M M'} : M p = some (.ins C (List.zip ns vs)) → ns.length = vs.length → Fzs pw vs (remM M p) ds M' → Fz pw (.obj p) M (.fin C ns ds) M'
inductive Fzs (pw : Wd) : List D → Mp → List D → Mp → Prop
  | nil {M} : Fzs pw [] M [] M
  | cons {d d' ds ds' M M1 M2} : Fz pw d M d' M1 → Fzs pw ds M1 ds' M2 → Fzs pw (d :: ds) M (d' :: ds') M2
end
section
variable {K : PySem.W.Frag} {F H : Hp} {M : Mp}
/-- a thing of M stays as it is: its object is moved to the frozen part, changed to what is known of it -/
theorem R.move (r : R K M F H) {p : Addr} {mo : MO} {o : HO} (hp : M p = some mo) : Same F (upd F p o) ∧ R K (remM M p) (upd F p o) (upd H p o) := by
  have e := same_upd (o := o) (r.ap p _ hp)
  refine ⟨e, fun b u q => ?_, fun a mo q => ?_, fun a mo q => ?_⟩
  · by_cases hb : b = p
    · subst hb
      rw [upd_same] at q ⊢
      exact q
    · rw [upd_ne hb] at q ⊢
      exact r.fr b u q
  · have ha : a ≠ p := fun z => by subst z; unfold remM at q; rw [if_pos rfl] at q; cases q
    unfold remM at q; rw [if_neg ha] at q
    rw [upd_ne ha]; exact r.ap a mo q
  · have ha : a ≠ p := fun z => by subst z; unfold remM at q; rw [if_pos rfl] at q; cases q
    unfold remM at q; rw [if_neg ha] at q
    exact (r.mem a mo q).mono e (upd_ne ha)
theorem upd_self {H : Hp} {p : Addr} {o : HO} (h : H p = some o) : upd H p o = H := by
  funext b
  by_cases e : b = p
  · rw [e, upd_same, h]
  · rw [upd_ne e]
theorem freps_zip : ∀ {ns : List Str} {ds : List D} {gs : List (Str × V)}, ns.length = ds.length → FReps K F (ns.zip ds) gs → ∃ vs, gs = ns.zip vs ∧ ns.length = vs.length ∧ Reps K F ds vs
  | [], [], [], _, _ => ⟨[], rfl, rfl, .nil⟩
  | [], [], _ :: _, _, h => h.elim
  | [], _ :: _, _, e, _ => by cases e
  | _ :: _, [], _, e, _ => by cases e
  | n :: ns, d :: ds, [], _, h => h.elim
  | n :: ns, d :: ds, g :: gs, e, h => by
    obtain ⟨e1, h1, h2⟩ := h
    obtain ⟨vs, rfl, el, hr⟩ := freps_zip (by simpa using e) h2
    have e1' : n = g.1 := e1
    exact ⟨g.2 :: vs, by rw [List.zip_cons_cons, e1'], by simp [el], .cons h1 hr⟩
theorem freps_unzip : ∀ {ns : List Str} {ds : List D} {vs : List V}, Reps K F ds vs → FReps K F (ns.zip ds) (ns.zip vs)
  | [], _, _, _ => trivial
  | n :: ns, [], vs, h => by
    cases h.nil_inv
    exact trivial
  | n :: ns, d :: ds, vs, h => by
    obtain ⟨v, vs', rfl, h1, h2⟩ := h.consD_inv
    exact ⟨rfl, h1, freps_unzip h2⟩
end
section
variable {X : Cx} {pins : List (Addr × Obj)} {σ : L2.St} {s : Shared}
mutual
theorem fz_ok : ∀ {d : D} {M : Mp} {d' : D} {M' : Mp}, Fz ⟨X.prog, X.w⟩ d M d' M' → ∀ {H F : Hp} {v : V}, Inv X pins σ H s → R X.K M F H → Rep X.K F d v → ∃ H' F', Inv X pins σ H' s ∧ Same F F' ∧ R X.K M' F' H' ∧ Rep X.K F' d' v
  | _, _, _, _, .id, H, F, v, I, r, hv => ⟨H, F, I, Same.refl F, r, hv⟩
  | _, _, _, _, .lst hp, H, F, v, I, r, hv => by
    obtain ⟨F2, e2, r2, x2⟩ := r.freeze hp
    cases rep_obj.mp hv
    exact ⟨H, F2, I, e2, r2, x2⟩
  | _, _, _, _, .dic (p := p) (kvs := kvs) (M := M) hp, H, F, v, I, r, hv => by
    cases rep_obj.mp hv
    obtain ⟨kl, vl, h1, h2, h3⟩ := r.mem p _ hp
    obtain ⟨u, hu⟩ := h1.there
    have mu : Mut (some u) := by
      rw [hu] at h1
      obtain ⟨_, ⟨kk, _, e⟩ | ⟨_, _, e⟩⟩ := h1
      · cases e; exact trivial
      · cases e; exact trivial
    obtain ⟨od, I2⟩ := I.lock hu mu
    obtain ⟨e2, r2⟩ := r.move (o := .frz od u) hp
    rw [hu] at h1
    exact ⟨_, _, I2, e2, r2, rep_dic.mpr ⟨p, kl, vl, od, u, rfl, upd_same, h1, h2.mono e2, h3.mono e2⟩⟩
  | _, _, _, _, .ins (p := p) (C := C) (ns := ns) (vs := vs) (ds := ds) (M := M) hp hl hs, H, F, v, I, r, hv => by
    cases rep_obj.mp hv
    obtain ⟨dx, gs, h1, h2, h3⟩ := r.mem p _ hp
    obtain ⟨ws, rfl, hl2, hr⟩ := freps_zip hl h3
    obtain ⟨e2, r2⟩ := r.move (o := .ins C dx (ns.zip ws)) hp
    rw [upd_self h1] at r2
    obtain ⟨H', F', I', e3, r3, hr3⟩ := fzs_ok hs I r2 (hr.mono e2)
    refine ⟨H', F', I', e2.trans e3, r3, rep_fin.mpr ⟨p, dx, ws, rfl, e3 _ _ upd_same, e3 _ _ (e2 _ _ h2), hl2, hr3⟩⟩
theorem fzs_ok : ∀ {ds : List D} {M : Mp} {ds' : List D} {M' : Mp}, Fzs ⟨X.prog, X.w⟩ ds M ds' M' → ∀ {H F : Hp} {vs : List V}, Inv X pins σ H s → R X.K M F H → Reps X.K F ds vs → ∃ H' F', Inv X pins σ H' s ∧ Same F F' ∧ R X.K M' F' H' ∧ Reps X.K F' ds' vs
  | _, _, _, _, .nil, H, F, vs, I, r, hv => ⟨H, F, I, Same.refl F, r, hv⟩
  | _, _, _, _, .cons h1 h2, H, F, vs, I, r, hv => by
    obtain ⟨v, vs', rfl, q1, q2⟩ := hv.consD_inv
    obtain ⟨H1, F1, I1, e1, r1, x1⟩ := fz_ok h1 I r q1
    obtain ⟨H2, F2, I2, e2, r2, x2⟩ := fzs_ok h2 I1 r1 (q2.mono e1)
    exact ⟨H2, F2, I2, e1.trans e2, r2, .cons (x1.mono e2) x2⟩
end
end
section
variable {X : Cx} {F0 : Hp} {a b e o : Expr} {ta tb te tv : DTE} {pos : Pos}
/-- the value of e is data from here on -/
def dFz (pw : Wd) (te : DTE) : DTE := fun σ M Q => te σ M fun d M1 => ∃ d' M2 M3, Fz pw d M1 d' M2 ∧ (∀ a o, M3 a = some o → M2 a = some o) ∧ Q d' M3
theorem de_fz (he : DE X F0 e te) : DE X F0 e (dFz ⟨X.prog, X.w⟩ te) := by
  refine ⟨fun pins s σ H Q I h => ?_⟩
  obtain ⟨σd, M, F, Qd, hF, r, hS, h, fin⟩ := h
  refine thn (he.run pins s σ H (fun v H1 => ∃ d M1 F1, Same F F1 ∧ R X.K M1 F1 H1 ∧ Rep X.K F1 d v ∧ ∃ d' M2 M3, Fz ⟨X.prog, X.w⟩ d M1 d' M2 ∧ (∀ a o, M3 a = some o → M2 a = some o) ∧ Qd d' M3) I ⟨σd, M, F, _, hF, r, hS, h, fun d M1 v H1 F1 q e1 r1 v1 => ⟨d, M1, F1, e1, r1, v1, q⟩⟩) ?_
  rintro u s1 ⟨v, H1, I1, ru, d, M1, F1, e1, r1, v1, d', M2, M3, hz, hw, q⟩
  obtain ⟨H2, F2, I2, e2, r2, v2⟩ := fz_ok hz I1 r1 v1
  exact ⟨v, H2, I2, ru, fin _ _ _ _ F2 q (e1.trans e2) (r2.weak hw) v2⟩
/-! ### instances, fields, methods -/
def InsIs (M : Mp) (x : D) (C : Addr) (fs : List (Str × D)) : Prop := (∃ ns ds, x = .fin C ns ds ∧ fs = ns.zip ds) ∨ ∃ p, x = .obj p ∧ M p = some (.ins C fs)
theorem ins_rep {K : PySem.W.Frag} {M : Mp} {F H : Hp} {x : D} {v : V} {C : Addr} {fs : List (Str × D)} (r : R K M F H) (h : Rep K F x v) (e : InsIs M x C fs) : ∃ p dx gs, v = .ref p ∧ H p = some (.ins C dx gs) ∧ FReps K F fs gs := by
  rcases e with ⟨ns, ds, rfl, rfl⟩ | ⟨p, rfl, hp⟩
  · obtain ⟨a, dx, vl, rfl, h1, h2, h3, h4⟩ := rep_fin.mp h
    exact ⟨a, dx, _, rfl, r.fr _ _ h1, freps_unzip h4⟩
  · obtain ⟨dx, gs, h1, h2, h3⟩ := r.mem p _ hp
    exact ⟨p, dx, gs, rep_obj.mp h, h1, h3⟩
def dFX (K : PySem.W.Frag) (f : Str) (x : D) (M : Mp) (Q : DK) : Prop := ∃ C fs v, InsIs M x C fs ∧ Cls K C ∧ NoAttr K C f ∧ fs.lookup f = some v ∧ Q v M
def dFldX (K : PySem.W.Frag) (f : Str) (te : DTE) : DTE := fun σ M Q => te σ M fun x M1 => dFX K f x M1 Q
theorem de_fldX {f : Str} (he : DE X F0 e te) (hb : attributeBase e f X.env (eval e X.env) = eval e X.env) : DE X F0 (.Attribute e f pos) (dFldX X.K f te) :=
  PE_imp (pe_fld he hb) fun σ H Q ⟨σd, M, F, Qd, hF, r, hS, h, fin⟩ => ⟨σd, M, F, _, hF, r, hS, h, fun d M1 v H1 F1 q e1 r1 v1 => by
    obtain ⟨C, fs, y, hi, hc, hn, hl, q⟩ := q
    obtain ⟨p, dx, gs, rfl, h1, h3⟩ := ins_rep r1 v1 hi
    obtain ⟨u, h4, h5⟩ := (FReps.lookup h3).1 _ hl
    exact ⟨p, C, dx, gs, u, rfl, h1, hc, hn, h4, fin _ _ _ _ F1 q e1 r1 h5⟩⟩
variable {CX : CXT} {k : Nat} {f C : Addr} {fd : FuncData} {ps : List Str} {sp : SpD} {Ed : DX} {E : XK} {x m : Str} {p apos : Pos} {es : List Expr} {t : DTA}
def dMethX (C : Addr) (m : Str) (sp : SpD) (Ed : DX) (ta : DTE) (t : DTA) : DTE := fun σ M Q => ta σ M fun x M1 => ∃ fs, InsIs M1 x C fs ∧ fs.lookup m = none ∧ t σ M1 fun ds M2 => sp (x :: ds) M2 Q Ed
theorem lift_methX {K : PySem.W.Frag} {σ : L2.St} {H : Hp} {Q : VK} (hE : FinX K F0 Ed E) (h : LE K F0 (dMethX C m sp Ed ta t) σ H Q) : tMeth C m (LSp K sp) [] E (LE K F0 ta) (LA K F0 t) σ H Q := by
  obtain ⟨σd, M, F, Qd, hF, r, hS, h, fin⟩ := h
  refine ⟨σd, M, F, _, hF, r, hS, h, fun d M1 v H1 F1 q e1 r1 v1 => ?_⟩
  obtain ⟨fs, hi, hl, q⟩ := q
  obtain ⟨p, dx, gs, rfl, h1, h3⟩ := ins_rep r1 v1 hi
  refine ⟨p, dx, gs, rfl, h1, (FReps.lookup h3).2 hl, σd, M1, F1, _, hF.trans e1, r1, hS.mono e1, q, fun ds M2 vs H2 F2 q2 e2 r2 v2 => ?_⟩
  dsimp only
  rw [List.append_nil]
  exact ⟨_, M2, F2, Qd, Ed, r2, .cons (v1.mono e2) v2, q2, fin.mono (e1.trans e2), hE.mono ((hF.trans e1).trans e2)⟩
theorem de_mtX {pl : Sem Bool} (h : Mth X.prog X.w X.K X.mg X.base CX C k m ps sp) (hr : Room k X.A) (hx : Passes CX X E) (hE : FinX X.K F0 Ed E) (ho : DE X F0 o ta) (ha : DA X F0 (e :: es) t)
    (hst : starEach (e :: es) X.env = (false, eval e X.env) :: starEach es X.env := by rfl) (hpl : (backTo pos (starEach es X.env)).any (·.1) = false := by rfl)
    (ht : eval (.Call (.Attribute o m apos) (e :: es) [] pos) X.env = (do
      let ov ← eval o X.env
      standAt apos.atName
      let (f, first) ← holding [ov] (getMethod ov m pl)
      callWith pos f first (backTo pos (starEach (e :: es) X.env)) (backToKw pos (keywordEach [] X.env))) := by rfl) :
    DE X F0 (.Call (.Attribute o m apos) (e :: es) [] pos) (dMethX C m sp Ed ta t) := by
  obtain ⟨f, fd, F, c, hm, hb⟩ := h
  exact PE_imp (pe_meth ho c hm F hr hb .nil hx ha hst hpl ht) fun _ _ _ h => lift_methX hE h
theorem de_mt0X {pl : Sem Bool} (h : Mth X.prog X.w X.K X.mg X.base CX C k m ps sp) (hr : Room k X.A) (hx : Passes CX X E) (hE : FinX X.K F0 Ed E) (ho : DE X F0 o ta)
    (ht : eval (.Call (.Attribute o m apos) [] [] pos) X.env = (do
      let ov ← eval o X.env
      standAt apos.atName
      let (f, first) ← holding [ov] (getMethod ov m pl)
      callWith pos f first (backTo pos (starEach [] X.env)) (backToKw pos (keywordEach [] X.env))) := by rfl) :
    DE X F0 (.Call (.Attribute o m apos) [] [] pos) (dMethX C m sp Ed ta dNil) := by
  obtain ⟨f, fd, F, c, hm, hb⟩ := h
  refine PE_imp (pe_meth0 ho c hm F hr hb .nil hx ht) fun σ H Q ⟨σd, M, F1, Qd, hF, r, hS, h, fin⟩ => ⟨σd, M, F1, _, hF, r, hS, h, fun d M1 v H1 F2 q e1 r1 v1 => ?_⟩
  obtain ⟨fs, hi, hl, q⟩ := q
  obtain ⟨p, dx, gs, rfl, h1, h3⟩ := ins_rep r1 v1 hi
  exact ⟨p, dx, gs, rfl, h1, (FReps.lookup h3).2 hl, _, M1, F2, Qd, Ed, r1, .cons v1 .nil, q, fin.mono e1, hE.mono (hF.trans e1)⟩
end
/-- an instance as data -/
def finD (C : Addr) (fs : List (Str × D)) : D := .fin C (fs.map (·.1)) (fs.map (·.2))
theorem zip_maps : ∀ fs : List (Str × D), (fs.map (·.1)).zip (fs.map (·.2)) = fs
  | [] => rfl
  | x :: fs => by simp only [List.map_cons, List.zip_cons_cons]; rw [zip_maps fs]
section
variable {K : PySem.W.Frag} {f m : Str} {M : Mp} {Q : DK} {C p : Addr} {fs : List (Str × D)} {v y : D} {te ta tv : DTE} {σ : DS} {t : DTA} {sp : SpD} {Ed : DX}
theorem insIs_fin {C' : Addr} {fs' : List (Str × D)} (h : InsIs M (finD C fs) C' fs') : C' = C ∧ fs' = fs := by
  rcases h with ⟨ns, ds, h, rfl⟩ | ⟨p, h, _⟩
  · unfold finD at h
    injection h with h1 h2 h3
    subst h1 h2 h3
    exact ⟨rfl, zip_maps fs⟩
  · cases h
theorem is_fin : InsIs M (finD C fs) C fs := .inl ⟨_, _, rfl, (zip_maps fs).symm⟩
theorem is_obj (h : M p = some (.ins C fs)) : InsIs M (.obj p) C fs := .inr ⟨p, rfl, h⟩
theorem z_get (hc : Cls K C) (hn : NoAttr K C f) (hl : fs.lookup f = some v) : dFX K f (finD C fs) M Q = Q v M := by
  apply propext
  constructor
  · rintro ⟨C', fs', v', h1, _, _, h5, h6⟩
    obtain ⟨rfl, rfl⟩ := insIs_fin h1
    rw [hl] at h5; cases h5
    exact h6
  · exact fun q => ⟨C, fs, v, is_fin, hc, hn, hl, q⟩
theorem x_get (h : M p = some (.ins C fs)) (hc : Cls K C) (hn : NoAttr K C f) (hl : fs.lookup f = some v) : dFX K f (.obj p) M Q = Q v M := by
  apply propext
  constructor
  · rintro ⟨C', fs', v', h1, _, _, h5, h6⟩
    rcases h1 with ⟨ns, ds, h1, _⟩ | ⟨p', h1, h2⟩
    · cases h1
    · cases h1
      rw [h] at h2; cases h2
      rw [hl] at h5; cases h5
      exact h6
  · exact fun q => ⟨C, fs, v, is_obj h, hc, hn, hl, q⟩
theorem e_fldX : dFldX K f te σ M Q = te σ M fun x M1 => dFX K f x M1 Q := rfl
theorem e_methX : dMethX C m sp Ed ta t σ M Q = ta σ M fun x M1 => ∃ fs, InsIs M1 x C fs ∧ fs.lookup m = none ∧ t σ M1 fun ds M2 => sp (x :: ds) M2 Q Ed := rfl
end
end DL
/-! Loops over dicts over trees: their keys, their pairs, their values; list(d), sorted(d), len(d). -/
namespace DL
open PySem PySem.Spec PyProof.Rows L2
/-- what a dict's object holds: keys all ints and texts, or all tuples -/
inductive DX2 where
  | kd (xs : List (Key × V)) | nd (xs : List (NestedKey × Addr × V))
def DX2.ho (pw : Wd) (a : Addr) : DX2 → HO
  | .kd xs => .dK xs
  | .nd xs => dnO pw.P pw.w a xs
def DX2.len : DX2 → Nat
  | .kd xs => xs.length
  | .nd xs => xs.length
def DX2.at_ : DX2 → Nat → V → V → Prop
  | .kd xs, i, k, v => ∃ kk, xs[i]? = some (kk, v) ∧ k = kV kk
  | .nd xs, i, k, v => ∃ kk q, xs[i]? = some (kk, q, v) ∧ k = .ref q
def DX2.Ent (K : PySem.W.Frag) (F : Hp) (kvs : List (D × D)) : DX2 → Prop
  | .kd xs => EntK K F kvs xs
  | .nd xs => EntN K F kvs xs
section
variable {K : PySem.W.Frag} {F F' : Hp}
theorem entK_get : ∀ {kvs : List (D × D)} {xs : List (Key × V)}, EntK K F kvs xs → ∀ {i : Nat} {x : Key × V}, xs[i]? = some x → ∃ kv, kvs[i]? = some kv ∧ kv.1 = dK x.1 ∧ Rep K F kv.2 x.2
  | [], [], _, i, x, h => by simp at h
  | [], _ :: _, h, _, _, _ => h.elim
  | _ :: _, [], h, _, _, _ => h.elim
  | kv :: kvs, y :: xs, h, 0, x, e => by
    simp at e; subst e
    exact ⟨kv, rfl, h.1, h.2.1⟩
  | kv :: kvs, y :: xs, h, i + 1, x, e => by
    obtain ⟨kv', h1, h2⟩ := entK_get h.2.2 (i := i) (by simpa using e)
    exact ⟨kv', by simpa using h1, h2⟩
theorem entN_get : ∀ {kvs : List (D × D)} {xs : List (NestedKey × Addr × V)}, EntN K F kvs xs → ∀ {i : Nat} {x : NestedKey × Addr × V}, xs[i]? = some x → ∃ kv, kvs[i]? = some kv ∧ Rep K F kv.1 (.ref x.2.1) ∧ Rep K F kv.2 x.2.2
  | [], [], _, i, x, h => by simp at h
  | [], _ :: _, h, _, _, _ => h.elim
  | _ :: _, [], h, _, _, _ => h.elim
  | kv :: kvs, y :: xs, h, 0, x, e => by
    simp at e; subst e
    exact ⟨kv, rfl, h.2.1, h.2.2.1⟩
  | kv :: kvs, y :: xs, h, i + 1, x, e => by
    obtain ⟨kv', h1, h2⟩ := entN_get h.2.2.2 (i := i) (by simpa using e)
    exact ⟨kv', by simpa using h1, h2⟩
theorem EntK.mono (e : Same F F') : ∀ {kvs : List (D × D)} {xs : List (Key × V)}, EntK K F kvs xs → EntK K F' kvs xs
  | [], [], _ => trivial
  | [], _ :: _, h => h.elim
  | _ :: _, [], h => h.elim
  | _ :: _, _ :: _, h => ⟨h.1, h.2.1.mono e, h.2.2.mono e⟩
theorem DX2.Ent.mono (e : Same F F') {kvs : List (D × D)} {u : DX2} (h : u.Ent K F kvs) : u.Ent K F' kvs := by
  cases u with
  | kd xs => exact EntK.mono e h
  | nd xs => exact EntN.mono e h
theorem ent_get {kvs : List (D × D)} {u : DX2} (h : u.Ent K F kvs) {i : Nat} {k v : V} (hu : u.at_ i k v) : ∃ kv, kvs[i]? = some kv ∧ Rep K F kv.1 k ∧ Rep K F kv.2 v := by
  cases u with
  | kd xs =>
    obtain ⟨kk, h1, rfl⟩ := hu
    obtain ⟨kv, h2, h3, h4⟩ := entK_get h h1
    exact ⟨kv, h2, by rw [h3]; exact rep_dK, h4⟩
  | nd xs =>
    obtain ⟨kk, q, h1, rfl⟩ := hu
    obtain ⟨kv, h2, h3, h4⟩ := entN_get h h1
    exact ⟨kv, h2, h3, h4⟩
theorem ent_len {kvs : List (D × D)} {u : DX2} (h : u.Ent K F kvs) : kvs.length = u.len := by
  cases u with
  | kd xs => exact EntK.len h
  | nd xs => exact EntN.len h
/-- a dict that is known, as such -/
theorem x2_of {pw : Wd} {a : Addr} {kvs : List (D × D)} {u : HO} (h : DicRep K F pw a kvs (some u)) : ∃ x : DX2, u = x.ho pw a ∧ x.Ent K F kvs := by
  obtain ⟨kl, vl, ⟨hl, h0⟩, r1, r2⟩ := h
  rcases h0 with ⟨kk, e1, e2⟩ | ⟨hne, hk, e2⟩
  · cases e2
    exact ⟨.kd _, rfl, entK_of e1 r2⟩
  · cases e2
    refine ⟨.nd _, rfl, ?_⟩
    have := ent_of (fun kv hkv => hk _ (List.mem_map_of_mem hkv)) r1 r2
    rw [List.map_map]
    exact this
end
section
variable {X : Cx} {pins : List (Addr × Obj)} {σ : L2.St} {H : Hp} {s : Shared} {d : Addr} {o : Obj} {u : DX2}
/-- the entries of the dict at d -/
structure EntsOf (u : DX2) (es : Array DictEntry) : Prop where
  size : es.size = u.len
  at_ : ∀ i en, es[i]? = some en → ∃ k v, u.at_ i k v ∧ RelV k en.key ∧ RelV v en.val
theorem pairsAt {P : Program} {w : World} : ∀ {es : List DictEntry} {vs : List (Key × Value)}, Pairs (mixKind P w) es vs → ∀ {i : Nat} {en : DictEntry}, es[i]? = some en → ∃ kv, vs[i]? = some kv ∧ keyIs kv.1 en.key = true ∧ en.val = kv.2
  | _, _, .nil, i, en, h => by simp at h
  | _, _, .cons (kv := kv) h1 h2 t, 0, en, h => by
    simp at h; subst h
    exact ⟨kv, rfl, h1, h2⟩
  | _, _, .cons h1 h2 t, i + 1, en, h => by
    obtain ⟨kv', q1, q2⟩ := pairsAt t (i := i) (by simpa using h)
    exact ⟨kv', by simpa using q1, q2⟩
theorem pairN_get : ∀ {xs : List (NestedKey × Addr × V)} {ys : List (NestedKey × Addr × Value)}, Paired PrN xs ys → ∀ {i : Nat} {y}, ys[i]? = some y → ∃ x, xs[i]? = some x ∧ PrN x y
  | _, _, .nil, i, y, h => by simp at h
  | _, _, .cons (a := x) h t, 0, y, e => by
    simp at e; subst e
    exact ⟨x, rfl, h⟩
  | _, _, .cons h t, i + 1, y, e => by
    obtain ⟨x', q1, q2⟩ := pairN_get t (i := i) (by simpa using e)
    exact ⟨x', by simpa using q1, q2⟩
theorem pair_get {α β : Type} {G : α → β → Prop} : ∀ {l₁ : List α} {l₂ : List β}, Paired G l₁ l₂ → ∀ {j : Nat} {x : β}, l₂[j]? = some x → ∃ y, l₁[j]? = some y ∧ G y x
  | _, _, .nil, j, x, h => by simp at h
  | _, _, .cons (a := a) h t, 0, x, e => by
    simp at e; subst e
    exact ⟨a, rfl, h⟩
  | _, _, .cons h t, j + 1, x, e => by
    obtain ⟨y, q1, q2⟩ := pair_get t (j := j) (by simpa using e)
    exact ⟨y, by simpa using q1, q2⟩
theorem pair_len {α β : Type} {G : α → β → Prop} : ∀ {xs : List α} {ys : List β}, Paired G xs ys → xs.length = ys.length
  | _, _, .nil => rfl
  | _, _, .cons _ t => by simp [pair_len t]
theorem ents_ok (z : ObjOk X.prog X.w H s.heap d (u.ho ⟨X.prog, X.w⟩ d)) : (d == sysModules) = false ∧ u.len ≤ sizeLine ∧ ∃ ob es ep, s.heap.get? d = some ob ∧ ob.ExactDict ∧ ob.data = .dict es ep ∧ EntsOf u es := by
  cases u with
  | kd xs =>
    obtain ⟨hz, hs, vs, kv, ob, es, ep, ho, hx, hd, hk, hp, hn⟩ := z
    have l1 : xs.length = vs.length := pair_len kv
    have l2 : es.toList.length = vs.length := hp.length
    refine ⟨hs, hz, ob, es, ep, ho, hx, hd, ?_, fun i en he => ?_⟩
    · show es.size = xs.length
      rw [l1, ← l2, Array.length_toList]
    · obtain ⟨kv', h1, h2, h3⟩ := pairsAt hp (i := i) (en := en) (by rw [Array.getElem?_toList]; exact he)
      obtain ⟨⟨k, v⟩, h4, h5, h6⟩ := pair_get kv h1
      exact ⟨kV k, v, ⟨k, h4, rfl⟩, relV_key (by rw [show k = kv'.1 from h5]; exact h2), by rw [h3]; exact h6⟩
  | nd xs =>
    obtain ⟨⟨hz, hs, ys, ob, es, ep, hp, ho, hx, hd, hes, hn⟩, _⟩ := z
    have l1 : xs.length = ys.length := pairN_len hp
    refine ⟨hs, hz, ob, es, ep, ho, hx, hd, ?_, fun i en he => ?_⟩
    · show es.size = xs.length
      rw [l1, ← Array.length_toList, hes, List.length_map]
    · have e1 : es.toList[i]? = some en := by rw [Array.getElem?_toList]; exact he
      rw [hes, List.getElem?_map] at e1
      obtain ⟨y, h1, rfl⟩ := Option.map_eq_some_iff.mp e1
      obtain ⟨x, h2, h3, h4, h5⟩ := pairN_get hp h1
      exact ⟨.ref x.2.1, x.2.2, ⟨x.1, x.2.1, h2, rfl⟩, by show Value.ref y.2.1 = Value.ref x.2.1; rw [h4], h5⟩
theorem frz_ents (I : Inv X pins σ H s) (h : H d = some (.frz o (u.ho ⟨X.prog, X.w⟩ d))) : (d == sysModules) = false ∧ s.heap.get? d = some o ∧ o.ExactDict ∧ ∃ es ep, o.data = .dict es ep ∧ EntsOf u es := by
  obtain ⟨h1, h2⟩ := (show ObjOk X.prog X.w H s.heap d (.frz o (u.ho ⟨X.prog, X.w⟩ d)) from I.hok d _ h)
  obtain ⟨q1, q2, ob, es, ep, q3, q4, q5, q6⟩ := ents_ok h2
  rw [h1] at q3
  cases q3
  exact ⟨q1, h1, q4, es, ep, q5, q6⟩
end
/-- the keys of the known dict at d; its pairs, each a new tuple; its values -/
def Ikx (pw : Wd) (d : Addr) (o : Obj) (u : DX2) : It :=
  ⟨fun i H => H d = some (.frz o (u.ho pw d)) ∧ i < u.len, fun i H x H' => H' = H ∧ ∃ v, u.at_ i x v, fun i H => H d = some (.frz o (u.ho pw d)) ∧ u.len ≤ i⟩
def Iix (pw : Wd) (d : Addr) (o : Obj) (u : DX2) : It :=
  ⟨fun i H => H d = some (.frz o (u.ho pw d)) ∧ i < u.len, fun i H x H' => ∃ T k v, u.at_ i k v ∧ x = .ref T ∧ H T = none ∧ H' = upd H T (.tup [k, v]), fun i H => H d = some (.frz o (u.ho pw d)) ∧ u.len ≤ i⟩
section
variable {P : Program} {w : World} {K : PySem.W.Frag} {tg : Expr} {d : Addr} {o : Obj} {u : DX2} {es : Array DictEntry} {ep : Nat}
theorem turn_kx (it : Addr) (hod : o.data = .dict es ep) (he : EntsOf u es) : Turn P w K tg (Ikx ⟨P, w⟩ d o u) [it] it (fun i h => h.IsKeyIter it d i u.len ep) where
  mem := by simp
  obj := fun i h st b hb => by
    have e : b = it := by simpa using hb
    obtain ⟨oi, q, c, dd⟩ := st
    rw [e]
    exact ⟨oi, q, fun v z => by rw [dd] at z; cases z⟩
  keep := fun i h h' st k => st.at fun oi e => k it (by simp) oi e
  item := by
    intro X hP hw hK hc i pins s σ H E I hf st hg
    subst hP hw hK
    obtain ⟨hd, hi⟩ := hg
    obtain ⟨f0, f1, f2, f3, f4, f5⟩ := hf it (by simp)
    have hgd := (frz_ents I hd).2.1
    have hi2 : i < es.size := by rw [he.size]; exact hi
    have hen : es[i]? = some es[i] := Array.getElem?_eq_getElem hi2
    obtain ⟨k, v, ha, rk, rv⟩ := he.at_ i _ hen
    refine next_key_item st hgd hod he.size hen fun h' st' sb => ?_
    have I1 : Inv X pins σ H { s with heap := h' } := I.turned (t' := s.toks) (fun b ob hb e => (sb.2 b hb).trans e) f0 f1 f3 f4 f5
    obtain ⟨oi, e, c, dd⟩ := id st'
    exact ⟨_, rfl, go_of (s := { s with heap := h' }) e c dd (by decide) ⟨k, H, I1, rk, ⟨rfl, v, ha⟩, st', fun b hb => (hf b hb).1⟩⟩
  done := by
    intro X hP hw hK hc i pins s σ H E I hf st hg
    subst hP hw hK
    obtain ⟨hd, hi⟩ := hg
    obtain ⟨f0, f1, f2, f3, f4, f5⟩ := hf it (by simp)
    exact next_key_end (I.ok.hd hc) st (frz_ents I hd).2.1 hod he.size hi fun h' eb => ⟨rfl, I.turned (t' := s.toks) (fun b ob hb e => eb b ob hb e) f0 f1 f3 f4 f5⟩
  self := fun A i s Q E st h => wpAny_pyIter_keyiter st h
theorem turn_ix {elts : List Expr} {kk : Nat} {tpos : Pos} (it : Addr) (hx : o.ExactDict) (hod : o.data = .dict es ep) (he : EntsOf u es) : Turn P w K (.Tuple elts kk tpos) (Iix ⟨P, w⟩ d o u) [it] it (fun i h => ∃ ok ov, IsItemIter h it d i u.len ep ok ov) where
  mem := by simp
  obj := fun i h st b hb => by
    have e : b = it := by simpa using hb
    obtain ⟨ok, ov, q⟩ := st
    rw [e]
    exact ⟨_, q, fun v z => nomatch z⟩
  keep := fun i h h' st k => let ⟨ok, ov, e⟩ := st; ⟨ok, ov, k it (by simp) _ e⟩
  item := by
    intro X hP hw hK hc i pins s σ H E I hf st hg
    subst hP hw hK
    obtain ⟨hd, hi⟩ := hg
    have hgd := (frz_ents I hd).2.1
    have hi2 : i < es.size := by rw [he.size]; exact hi
    obtain ⟨k, v, ha, rk, rv⟩ := he.at_ i _ (Array.getElem?_eq_getElem hi2)
    obtain ⟨ok, ov, hit⟩ := st
    rw [← he.size] at hit
    have hlt : it < s.heap.objs.size := Heap.lt_size hit
    refine wpAny_pyNext_items_item_raw hit ⟨o, hgd, hx, hod⟩ hi2 fun h' ho hT hz hk => ?_
    refine ⟨_, rfl, wpAny_letOwnedTupleGo_items (s := { s with heap := h' }) ho fun h'' he' sb => ?_⟩
    have hT2 : h''.get? s.heap.objs.size = some { cls := .type "tuple", data := .seq #[es[i].key, es[i].val] } := (sb.2 _ (Nat.ne_of_gt hlt)).trans hT
    have new : ObjOk X.prog X.w (upd H s.heap.objs.size (.tup [k, v])) h'' s.heap.objs.size (.tup [k, v]) :=
      ⟨by show 2 ≤ sizeLine; decide, [es[i].key, es[i].val], .cons rk (.cons rv .nil), ⟨_, hT2, rfl, _, rfl⟩⟩
    have I1 : Inv X pins σ (upd H s.heap.objs.size (.tup [k, v])) { s with heap := h'' } :=
      I.turnedNew (t' := s.toks) (ch := [it]) (fun b ob hb e => (sb.2 b (by simpa using hb)).trans (hk b ob (by simpa using hb) e)) hf (Nat.le_refl _) new
    refine ⟨.ref s.heap.objs.size, _, I1, rfl, ⟨_, k, v, ha, rfl, I.hok.fresh (Nat.le_refl _), rfl⟩, ⟨es[i].key, es[i].val, ?_⟩, fun b hb => ?_⟩
    · rw [← he.size]; exact he'
    · have e : b = it := by simpa using hb
      rw [e, upd_ne (Nat.ne_of_lt hlt)]
      exact (hf it (by simp)).1
  done := by
    intro X hP hw hK hc i pins s σ H E I hf st hg
    subst hP hw hK
    obtain ⟨hd, hi⟩ := hg
    obtain ⟨f0, f1, f2, f3, f4, f5⟩ := hf it (by simp)
    obtain ⟨ok, ov, hit⟩ := st
    rw [← he.size] at hit
    exact wpAny_pyNext_items_end_raw (I.ok.hd hc) hit ⟨o, (frz_ents I hd).2.1, hx, hod⟩ (by rw [he.size]; exact hi) fun h' eb => ⟨rfl, I.turned (t' := s.toks) (fun b ob hb e => eb b ob hb e) f0 f1 f3 f4 f5⟩
  self := fun A i s Q E st h => let ⟨_, _, e⟩ := st; PySem.W.kcp_self e h
end
/-- for k in d -/
def iKx (pw : Wd) (td : TE) : TI := fun σ H R => td σ H fun x H1 => ∃ d o u, x = .ref d ∧ H1 d = some (.frz o (DX2.ho pw d u)) ∧ R (Ikx pw d o u) H1
/-- for k, v in d.items() -/
def iIx (pw : Wd) (td : TE) : TI := fun σ H R => td σ H fun x H1 => ∃ d o u, x = .ref d ∧ H1 d = some (.frz o (DX2.ho pw d u)) ∧ R (Iix pw d o u) H1
section
variable {X : Cx} {tg e : Expr} {td : TE} {apos cpos : Pos}
theorem pi_kx (he : PE X e td) : PI X tg e (iKx ⟨X.prog, X.w⟩ td) := by
  refine ⟨fun pins s σ H R I h => thn (he.run pins s σ H _ I h) fun u s1 ⟨x, H1, I1, rx, d, o, du, ex, hd, q⟩ => ?_⟩
  subst ex
  obtain rfl : u = Value.ref d := rx
  obtain ⟨hs, hgd, hx, es, ep, hod, he⟩ := frz_ents I1 hd
  refine iter_keys hs hgd hx hod (pi_one (tk := s1.toks) I1 _ (turn_kx _ hod he) ⟨_, Heap.get?_push_size _ rfl, rfl, ?_⟩ q)
  rw [he.size] <;> rfl
theorem pi_ix {elts : List Expr} {kk : Nat} {tpos : Pos} (he : PE X e td) (hbase : attributeBase e "items" X.env (eval e X.env) = eval e X.env := by rfl) (hline : (apos.endLine == cpos.line) = true := by rfl) :
    PI X (.Tuple elts kk tpos) (.Call (.Attribute e "items" apos) [] [] cpos) (iIx ⟨X.prog, X.w⟩ td) := by
  refine ⟨fun pins s σ H R I h => ?_⟩
  refine wpAny_Call_method (T := "dict") (id := "dict.items") hbase rfl hline F.plainAttrs_dict F.slot_dict_items F.type_dict_items (thn (he.run pins s σ H _ I h) fun u s1 ⟨x, H1, I1, rx, d, o, du, ex, hd, q⟩ => ?_)
  subst ex
  obtain rfl : u = Value.ref d := rx
  obtain ⟨hs, hgd, hx, es, ep, hod, he⟩ := frz_ents I1 hd
  have raw : s1.heap.DictRaw d es ep := ⟨o, hgd, hx, hod⟩
  refine ⟨raw.typeIs, fun b eb => by cases eb; exact ⟨o, hgd, hx.2.1⟩, ?_⟩
  have I2 : Inv X pins σ H1 { s1 with heap := s1.heap.push { cls := .type "dict_items", data := .fields #[.ref d] } } := I1.kept (t' := s1.toks) fun b ob q => Heap.get?_push_of_some _ q
  have fin : wpAny (model X.prog X.w) X.A (pyIter (.ref s1.heap.objs.size)) (PIE X pins σ (.Tuple elts kk tpos) R) X.xe { s1 with heap := s1.heap.push { cls := .type "dict_items", data := .fields #[.ref d] } } := by
    refine wpAny_pyIter_items_raw (d := d) (es := es) (ep := ep) ⟨_, Heap.get?_push_size _ rfl, rfl, rfl⟩ (raw.at fun _ q => Heap.get?_push_of_some _ q) (pi_one (tk := s1.toks) I2 _ (turn_ix _ hx hod he) ⟨.none, .none, ?_⟩ q)
    rw [← he.size]
    exact Heap.get?_push_size _ rfl
  show wpAny _ _ (callWith cpos (.builtin "dict.items") [.ref d] [] []) _ X.xe s1
  exact method_meetsIn F.slot_dict_items F.entry_dict_items rfl (PySem.evalArgs_none ⟨rfl, raw.typeIs, F.args_dict_items_1 _, _, meets_dict_items_raw d hs, ⟨es, ep, raw⟩, fin⟩)
end
section
variable {X : Cx} {F0 : Hp} {e : Expr} {te : DTE} {tg : Expr} {apos cpos : Pos}
/-- a dict that is known: nobody changes it any more, or it is locked -/
def DcLk (pw : Wd) (M : Mp) (x : D) (kvs : List (D × D)) (St : Mp → Prop) : Prop := (x = dcD pw kvs ∧ St = fun _ => True) ∨ ∃ p od u, x = .obj p ∧ M p = some (.lck od u pw kvs) ∧ St = fun M' => M' p = some (.lck od u pw kvs)
theorem lk_rep {K : PySem.W.Frag} {M : Mp} {F H : Hp} {pw : Wd} {x : D} {v : V} {kvs : List (D × D)} {St : Mp → Prop} (r : R K M F H) (h : Rep K F x v) (e : DcLk pw M x kvs St) : St M ∧ ∃ d o u, v = .ref d ∧ u.Ent K F kvs ∧ (∀ F' H' M', Same F F' → R K M' F' H' → St M' → H' d = some (.frz o (DX2.ho pw d u))) := by
  rcases e with ⟨rfl, rfl⟩ | ⟨p, od, u, rfl, hp, rfl⟩
  · obtain ⟨a, kl, vl, od, u, rfl, h1, h2, h3, h4⟩ := rep_dic.mp h
    obtain ⟨x, rfl, hx⟩ := x2_of (F := F) (K := K) (kvs := kvs) ⟨kl, vl, h2, h3, h4⟩
    exact ⟨trivial, a, od, x, rfl, hx, fun F' H' M' e r' _ => r'.fr _ _ (e _ _ h1)⟩
  · obtain ⟨kl, vl, h0, h1, h2, h3⟩ := r.mem p _ hp
    obtain ⟨x, rfl, hx⟩ := x2_of (F := F) (K := K) (kvs := kvs) ⟨kl, vl, h1, h2, h3⟩
    refine ⟨hp, p, od, x, rep_obj.mp h, hx, fun F' H' M' e r' hs => ?_⟩
    obtain ⟨kl', vl', g0, _⟩ := r'.mem p _ hs
    exact g0
theorem src_kx {K : PySem.W.Frag} {pw : Wd} {F H : Hp} {kvs : List (D × D)} {St : Mp → Prop} {d : Addr} {o : Obj} {u : DX2} (hu : u.Ent K F kvs) (hk : ∀ F' H' M', Same F F' → R K M' F' H' → St M' → H' d = some (.frz o (DX2.ho pw d u))) : Src K F H (kvs.map (·.1)) St (Ikx pw d o u) where
  go := fun i F' H' M' e r s hi => ⟨hk F' H' M' e r s, by rw [← ent_len hu]; simpa using hi⟩
  yld := fun i F' H' M' x H2 e r s hi ⟨e2, v, ha⟩ => by
    subst e2
    obtain ⟨kv, h1, h2, h3⟩ := ent_get (hu.mono e) ha
    exact ⟨kv.1, F', by rw [List.getElem?_map, h1] <;> rfl, Same.refl _, r, h2⟩
  stop := fun i F' H' M' e r s hi => ⟨hk F' H' M' e r s, by rw [← ent_len hu]; simpa using hi⟩
/-- the pairs of a dict -/
def prs (kvs : List (D × D)) : List D := kvs.map fun kv => .tup [kv.1, kv.2]
theorem src_ix {K : PySem.W.Frag} {pw : Wd} {F H : Hp} {kvs : List (D × D)} {St : Mp → Prop} {d : Addr} {o : Obj} {u : DX2} (hu : u.Ent K F kvs) (hk : ∀ F' H' M', Same F F' → R K M' F' H' → St M' → H' d = some (.frz o (DX2.ho pw d u))) : Src K F H (prs kvs) St (Iix pw d o u) where
  go := fun i F' H' M' e r s hi => ⟨hk F' H' M' e r s, by rw [← ent_len hu]; simpa [prs] using hi⟩
  yld := fun i F' H' M' x H2 e r s hi ⟨T, k, v, ha, ex, hT, eH⟩ => by
    subst ex eH
    obtain ⟨kv, h1, h2, h3⟩ := ent_get (hu.mono e) ha
    have es := same_upd (o := HO.tup [k, v]) (r.freeF hT)
    refine ⟨.tup [kv.1, kv.2], _, by unfold prs; rw [List.getElem?_map, h1] <;> rfl, es, r.newF hT _, rep_tup.mpr ⟨T, [k, v], rfl, SqT.of upd_same, .cons (h2.mono es) (.cons (h3.mono es) .nil)⟩⟩
  stop := fun i F' H' M' e r s hi => ⟨hk F' H' M' e r s, by rw [← ent_len hu]; simpa [prs] using hi⟩
def dKeysX (pw : Wd) (te : DTE) : DTI := fun σ M Kd => te σ M fun x M1 => ∃ kvs St, DcLk pw M1 x kvs St ∧ Kd (kvs.map (·.1)) St M1
theorem di_keysX (he : DE X F0 e te) : DI X F0 tg e (dKeysX ⟨X.prog, X.w⟩ te) :=
  PI_imp (pi_kx he) fun σ H Rr ⟨σd, M, F, hF, r, hS, Kd, h, fin⟩ => ⟨σd, M, F, _, hF, r, hS, h, fun x M1 v H1 F1 q e1 r1 v1 => by
    obtain ⟨kvs, St, lk, q⟩ := q
    obtain ⟨hst, d, o, u, rfl, hu, hk⟩ := lk_rep r1 v1 lk
    exact ⟨d, o, u, rfl, hk F1 _ M1 (Same.refl F1) r1 hst, fin _ _ _ _ _ _ q e1 r1 hst (src_kx hu hk)⟩⟩
def dItemsX (pw : Wd) (te : DTE) : DTI := fun σ M Kd => te σ M fun x M1 => ∃ kvs St, DcLk pw M1 x kvs St ∧ Kd (prs kvs) St M1
theorem di_itemsX {elts : List Expr} {kk : Nat} {tpos : Pos} (he : DE X F0 e te) (hbase : attributeBase e "items" X.env (eval e X.env) = eval e X.env := by rfl) (hline : (apos.endLine == cpos.line) = true := by rfl) :
    DI X F0 (.Tuple elts kk tpos) (.Call (.Attribute e "items" apos) [] [] cpos) (dItemsX ⟨X.prog, X.w⟩ te) :=
  PI_imp (pi_ix he hbase hline) fun σ H Rr ⟨σd, M, F, hF, r, hS, Kd, h, fin⟩ => ⟨σd, M, F, _, hF, r, hS, h, fun x M1 v H1 F1 q e1 r1 v1 => by
    obtain ⟨kvs, St, lk, q⟩ := q
    obtain ⟨hst, d, o, u, rfl, hu, hk⟩ := lk_rep r1 v1 lk
    exact ⟨d, o, u, rfl, hk F1 _ M1 (Same.refl F1) r1 hst, fin _ _ _ _ _ _ q e1 r1 hst (src_ix hu hk)⟩⟩
/-- while e is worked out the dict at p is locked -/
def dLockE (pw : Wd) (te : DTE) : DTE := fun σ M Q => ∃ p kvs, M p = some (.dic pw kvs) ∧ ∀ od u, te σ (updM M p (.lck od u pw kvs)) fun v M' => M' p = some (.lck od u pw kvs) ∧ Q v (updM M' p (.dic pw kvs))
end
end DL
/-! list(d), sorted(d), len(d), d.values() for dicts over trees; the dict locked while an expression is worked out. -/
namespace DL
open PySem PySem.Spec PyProof.Rows L2
section
variable {X : Cx} {F0 : Hp} {own : Bool}
/-- the object of a dict that is read -/
theorem sh_x2 {K : PySem.W.Frag} {F H : Hp} {pw : Wd} {a : Addr} {kvs : List (D × D)} (h : DShR K F H pw a kvs) : ∃ u : DX2, Rd H a (u.ho pw a) ∧ u.Ent K F kvs := by
  rcases h with ⟨xs, h1, h2⟩ | ⟨_, _, xs, h1, h2⟩
  · exact ⟨.kd xs, h1, h2⟩
  · exact ⟨.nd xs, h1, h2⟩
/-- the items by their places -/
theorem vals_each {K : PySem.W.Frag} {F : Hp} {R' : V → D → Prop} : ∀ {us : List Value} {ds : List D}, us.length = ds.length → (∀ (j : Nat) (u : Value), us[j]? = some u → ∃ v d, ds[j]? = some d ∧ RelV v u ∧ Rep K F d v) → ∃ vs, Vals vs us ∧ Reps K F ds vs
  | [], [], _, _ => ⟨[], .nil, .nil⟩
  | [], _ :: _, h, _ => by cases h
  | _ :: _, [], h, _ => by cases h
  | u :: us, d :: ds, hl, h => by
    obtain ⟨v, d', h1, h2, h3⟩ := h 0 u rfl
    cases h1
    obtain ⟨vs, h4, h5⟩ := vals_each (R' := R') (us := us) (ds := ds) (by simpa using hl) fun j u' hu => by
      obtain ⟨v', d', q1, q2⟩ := h (j + 1) u' (by simpa using hu)
      exact ⟨v', d', by simpa using q1, q2⟩
    exact ⟨v :: vs, .cons h2 h4, .cons h3 h5⟩
def dListX (pw : Wd) (own : Bool) : DRC := fun xs M Q => ∃ x kvs, xs = [x] ∧ DcIs pw M x kvs ∧ dNew own (kvs.map (·.1)) M Q
theorem keys_each {K : PySem.W.Frag} {F : Hp} {kvs : List (D × D)} {u : DX2} {es : Array DictEntry} (he : EntsOf u es) (hu : u.Ent K F kvs) {us : List Value} (hl : us.length = es.size) (h : ∀ (j : Nat) (w : Value), us[j]? = some w → ∃ en : DictEntry, es[j]? = some en ∧ w = en.key) : ∃ vs, Vals vs us ∧ Reps K F (kvs.map (·.1)) vs :=
  vals_each (R' := fun _ _ => True) (by rw [hl, he.size, List.length_map, ent_len hu]) fun j w hw => by
    obtain ⟨en, h1, rfl⟩ := h j w hw
    obtain ⟨k, v, h2, h3, _⟩ := he.at_ j en h1
    obtain ⟨kv, h4, h5, _⟩ := ent_get hu h2
    exact ⟨k, kv.1, by rw [List.getElem?_map, h4] <;> rfl, h3, h5⟩
theorem cd_listX (hc : X.calm = true) : CallR X (.type "list") (LRC X.K F0 (dListX ⟨X.prog, X.w⟩ own)) := by
  intro pins s σ H vs us Q I rr hyp
  obtain ⟨xs, M, F, Qd, hF, r, hx, ⟨x, kvs, rfl, hd, h⟩, fin⟩ := hyp
  obtain ⟨v, rfl, h1⟩ := hx.one
  obtain ⟨a, rfl, sh⟩ := dc_rep r h1 hd
  obtain ⟨u, hr, hu⟩ := sh_x2 sh
  obtain ⟨q1, q2, ob, es, ep, q3, q4, q5, he⟩ := ents_ok (rd_of I.hok hr)
  rw [Vals.ref1 rr]
  refine PySem.W.kdl_call (kdl_raw q1 q4 q5) (I.ok.hd hc) q3 (by rw [he.size]; exact q2) fun h' tk acc c' hk hD hacc => ?_
  obtain ⟨zs, z1, z2⟩ := keys_each he hu (us := acc.toList) (by rw [Array.length_toList]; exact hacc.1) fun j w hw => hacc.2 j w (by rw [← Array.getElem?_toList]; exact hw)
  refine ⟨.ref _, upd H s.heap.objs.size (.lst zs), I.laid (t' := tk) hk (Nat.le_refl _) ⟨?_, acc.toList, c', z1, by rw [Array.toArray_toList]; exact hD⟩, rfl, dNew_fin r z2 h fin (I.hok.fresh (Nat.le_refl _))⟩
  rw [z1.length, Array.length_toList, hacc.1, he.size]
  exact q2
/-- what can be sorted: data, alike, of no great depth -/
def SortOk (A : Around) (ds : List D) : Prop := (∀ d ∈ ds, (pyD d).isSome = true ∧ A.units + 2 + (encD d).depth < cLine) ∧ PySem.W.AllAlike (ds.map encD) ∧ PySem.W.Sortable (ds.map encD) ∧ ds.length ≤ sizeLine
/-- .. in the list's own order -/
def srt (ds : List D) : List D := ds.mergeSort (PySem.W.dataLe false encD)
def dSortX (pw : Wd) (A : Around) (own : Bool) : DRC := fun xs M Q => ∃ x kvs, xs = [x] ∧ DcIs pw M x kvs ∧ SortOk A (kvs.map (·.1)) ∧ dNew own (srt (kvs.map (·.1))) M Q
theorem cd_sortedX (hc : X.calm = true) : CallR X (.builtin "sorted") (LRC X.K F0 (dSortX ⟨X.prog, X.w⟩ X.A own)) := by
  intro pins s σ H vs us Q I rr hyp
  obtain ⟨xs, M, F, Qd, hF, r, hx, ⟨x, kvs, rfl, hd, ⟨hpy, hal, hk, hz⟩, h⟩, fin⟩ := hyp
  obtain ⟨v, rfl, h1⟩ := hx.one
  obtain ⟨a, rfl, sh⟩ := dc_rep r h1 hd
  obtain ⟨u, hr, hu⟩ := sh_x2 sh
  obtain ⟨q1, q2, ob, es, ep, q3, q4, q5, he⟩ := ents_ok (rd_of I.hok hr)
  rw [Vals.ref1 rr]
  refine Calls.call_function_entry PyProof.Rows.kind_sorted PyProof.Rows.plain_sorted PyProof.Rows.entry_sorted (PyProof.Rows.args_sorted1 _) ?_
  unfold Builtin.«sorted»
  refine wpAny_bind (m := checkCount "sorted" 1 1 _) (wpAny_pure ?_)
  refine wpAny_bind (PySem.W.kdu_collect (A := X.A.in1) (kdl_raw q1 q4 q5) (I.ok.hd hc) q3 (by rw [he.size]; exact q2) fun h' tk acc hkp hacc => ?_)
  obtain ⟨zs, z1, z2⟩ := keys_each he hu (us := acc.toList) (by rw [Array.length_toList]; exact hacc.1) fun j w hw => hacc.2 j w (by rw [← Array.getElem?_toList]; exact hw)
  have I1 : Inv X pins σ H { s with heap := h', toks := tk } := I.kept hkp
  have hal2 : acc.toList.length ≤ sizeLine := by
    rw [Array.length_toList, hacc.1, he.size]
    exact q2
  refine wpAny_bind (wpAny_newList ?_ hal2)
  have hoL : (h'.push (seqObj "list" acc.toList.toArray 0)).get? h'.objs.size = some (seqObj "list" acc.toList.toArray 0) := Heap.get?_push_size _ rfl
  have I2 : Inv X pins σ H { s with heap := h'.push (seqObj "list" acc.toList.toArray 0), toks := tk } := I1.kept (t' := tk) fun b o q => Heap.get?_push_of_some _ q
  have e := each_in (R' := fun (u : Value) (d : D) => ∃ v, RelV v u ∧ Rep X.K F d v) z1 z2 fun d _ u v h1 h2 => ⟨v, h1, h2⟩
  have er := each_in (R' := fun (u : Value) (d : D) => ∃ as, Reads h' u (encD d) as) z1 z2 fun d hd u v h1 h2 => by
    obtain ⟨y, hy⟩ := Option.isSome_iff_exists.mp (hpy d hd).1
    have ey : encD d = y := by unfold encD; rw [hy] <;> rfl
    rw [ey]
    exact Dp.reads I1 y v u (dp_of r.fr _ _ _ h2 hy) h1
  have er2 : PySem.W.EachIs (fun (u : Value) (d : D) => ∃ as, Reads (h'.push (seqObj "list" acc.toList.toArray 0)) u (encD d) as ∧ h'.objs.size ∉ as) acc.toList (kvs.map (·.1)) := er.mono fun u d ⟨as, q⟩ => ⟨as, PyProof.Rows.Reads.keeps (fun _ _ z => Heap.get?_push_of_some _ z) q, fun z => by
    obtain ⟨o, ho⟩ := PyProof.On.reads_mem_get q _ z
    exact absurd (Heap.lt_size ho) (Nat.lt_irrefl _)⟩
  · show wpAny _ _ _ _ _ { s with heap := h'.push (seqObj "list" acc.toList.toArray 0), toks := tk }
    refine wpAny_bind (wpAny_holding (PySem.W.list_sort_data (s := { s with heap := h'.push (seqObj "list" acc.toList.toArray 0), toks := tk }) hoL e er2 hal hk hz (fun b hb => by have := (hpy b hb).2; show X.A.units + 1 + 1 + _ < _; omega) fun out ho eo => ?_))
    obtain ⟨ws, w1, w2⟩ := each_out eo
    obtain ⟨c, hcc⟩ := PyProof.Rows.sortedHeap_at (vs := acc.toList) (out := out.toArray) hoL
    have hlen : ws.length ≤ sizeLine := by rw [w1.length, ho]; exact hz
    refine wpAny_pure ⟨_, rfl, .ref h'.objs.size, upd H h'.objs.size (.lst ws), I1.laid (t' := tk) (fun b u e => ?_) (Nat.le_refl _) ⟨hlen, out, c, w1, hcc⟩, rfl, dNew_fin r w2 h fin (I1.hok.fresh (Nat.le_refl _))⟩
    have hb : b < h'.objs.size := Heap.lt_size e
    rw [PyProof.Rows.sortedHeap_old (Nat.ne_of_lt hb) (by rw [size_push']; exact Nat.lt_succ_of_lt hb)]
    exact Heap.get?_push_of_some _ e
end
end DL
/-! xs += t (a tuple), x *= y; range with a step; the dict locked; comprehensions with a test, with two names. -/
namespace PySem.AutoSeq1
theorem iadd_tup (l : Addr) (items : Array Value) (n : Nat) (b : Addr) (items2 : Array Value) (n2 : Nat) (dd : Option Addr) (sl : Array (Option Value)) (hs0 : ¬(!items.isEmpty && Builtin.List.listTooLong (items.size + items2.size)) = true) (hs1 : items.size ≤ sizeLine) (hs2 : items.size + items2.size ≤ sizeLine + 1) :
    Meets (Builtin.«list.__iadd__» ⟨[.ref l, .ref b], []⟩) (fun _ R s => s.heap.get? l = some { cls := .type "list", dict := none, data := .seq items n, slots := #[] } ∧ s.heap.get? b = some { cls := .type "tuple", dict := dd, data := .seq items2 n2, slots := sl } ∧
      R (.ok (.ret (Value.ref l))) { s with heap := s.heap.update l (Obj.mapSeq fun x => x ++ items2), toks := s.toks }) :=
  .of_wp fun prog w A R s h => by
    obtain ⟨hp, g, d, tk, os⟩ := s
    obtain ⟨hl, hb, h⟩ := h
    have f1 := idx_int
    have f2 := sub_tuple_tuple
    have f3 := sub_list_list
    have f4 := sub_tuple_list
    have f5 := sub_list_tuple
    have hz' : (items ++ items2).size ≤ sizeLine + 1 := by
      rw [Array.size_append]
      exact hs2
    wp_walk using (wpAny_updateSeq hl rfl (hz := hs1) (_hz' := hz')), wpAny_loadPart' hl, wpAny_loadPart' hb
    exact ⟨_, rfl, h⟩
end PySem.AutoSeq1
namespace DL
open PySem PySem.Spec PyProof.Rows L2
theorem noAdd2 {M : Model} {A : Around} {E : Value → Shared → Prop} {s : Shared} {a b : Value} {Q : Option Value → Shared → Prop} (ha : s.TypeIs a "list") (hb : s.TypeIs b "tuple") (h : Q none s) : wpAny M A (binaryOp1 "add" a b) Q E s := by
  have e : (Value.type "list" == Value.type "tuple") = false := by decide
  simp only [binaryOp1]
  refine wpAny_bind (wpAny_typeOf ha (wpAny_bind (wpAny_typeOf hb (wpAny_bind (wpAny_of_eq noFill_list_add ?_)))))
  simp only [e, Bool.false_eq_true, if_false]
  refine wpAny_bind (wpAny_of_eq noFill_tuple_add ?_)
  simp only [pure_bind, Bool.false_and, Bool.false_eq_true, if_false, Bool.and_false, Bool.and_self]
  exact wpAny_pure h
theorem iaddT_road {M : Model} {A : Around} {E : Value → Shared → Prop} {s : Shared} {a b : Value} {Q : Value → Shared → Prop} (ha : s.TypeIs a "list") (hb : s.TypeIs b "tuple") (hc : wpAny M A (call (.builtin "list.__iadd__") [a, b]) Q E s) : wpAny M A (inplaceOp .Add a b) Q E s := by
  have hsl : typeLookup (.type "list") (dunderI "add") = pure (some (.builtin "list.__iadd__")) := PySem.F.slot_list_iadd.lookup
  have hsq : isSeqSlot (some (.builtin "list.__iadd__")) = true := by decide +kernel
  have hfi : fillsInplaceSlot (.type "list") "add" (Operator.Add == .Add) = pure false := by
    show (typeLookup (.type "list") (dunderI "add") >>= fun fi => pure (fi.isSome && !isSeqSlot fi)) = pure false
    rw [hsl]
    show (pure (true && !isSeqSlot (some (.builtin "list.__iadd__"))) : Sem Bool) = pure false
    rw [hsq] <;> rfl
  unfold inplaceOp
  refine wpAny_holding (wpAny_bind (wpAny_typeOf ha (wpAny_bind (wpAny_of_eq hfi ?_))))
  show wpAny M A (if false = true then _ else _) Q E s
  rw [if_neg Bool.false_ne_true]
  refine wpAny_bind (noAdd2 ha hb ?_)
  exact wpAny_bind (wpAny_of_eq (PySem.seqSlot_of hsl hsq) (wpAny_bind (wpAny_rule hc)))
section
variable {X : Cx} {F0 : Hp}
theorem iop_extT : OpR X (inplaceOp .Add) (fun x y H Q => ∃ l b xs zs, x = .ref l ∧ y = .ref b ∧ H l = some (.lst xs) ∧ SqT X.K H b zs ∧ xs.length + zs.length ≤ sizeLine ∧ Q (.ref l) (upd H l (.lst (xs ++ zs)))) := by
  intro pins s σ H x y v u Q I rx ry h
  obtain ⟨l, b, xs, zs, rfl, rfl, hH, hB, hz, q⟩ := h
  cases rx
  cases ry
  obtain ⟨z, its, n, r, hl, e⟩ := I.lstM hH
  obtain ⟨its2, r2, ⟨o, e2, ec, n2, ed⟩, z2⟩ := I.tuple hB
  have hl2 := r2.length
  have hsz : its.toArray.size + its2.toArray.size ≤ sizeLine := by rw [List.size_toArray, List.size_toArray]; omega
  have hlong : ¬ (!its.toArray.isEmpty && Builtin.List.listTooLong (its.toArray.size + its2.toArray.size)) = true := by
    rw [notLongL hsz, Bool.and_false]
    exact Bool.false_ne_true
  have eo : s.heap.get? b = some { cls := .type "tuple", dict := o.dict, data := .seq its2.toArray n2, slots := o.slots } := by
    rw [e2, ← ec, ← ed]
  refine iaddT_road ⟨_, e, rfl⟩ ⟨_, e2, ec⟩ (call_meets PySem.F.slot_list_iadd ⟨_, e, rfl⟩ PySem.F.entry_list_iadd (PySem.F.args_list_iadd_2 _ _)
    (AutoSeq1.iadd_tup l its.toArray n b its2.toArray n2 o.dict o.slots hlong (by rw [List.size_toArray]; omega) (by omega)) ⟨e, eo, ?_⟩)
  refine ⟨.ref l, _, I.lset (its' := its ++ its2) (t' := s.toks) hH e (by simp) (r.append r2) ?_, rfl, q⟩
  rw [List.length_append]
  omega
/-- += of ints, texts; of a list that may change by a list or a tuple -/
def dIAddX : DR2 := fun x y M Q => dIAdd x y M Q ∨ ∃ p ds es, x = .obj p ∧ y = .tup es ∧ M p = some (.lst ds) ∧ ds.length + es.length ≤ sizeLine ∧ Q (.obj p) (updM M p (.lst (ds ++ es)))
theorem od_iaddX : OpR X (inplaceOp .Add) (LR X.K F0 dIAddX) := by
  refine OpR_imp ((od_iadd (F0 := F0)).or iop_extT) fun v u H Q h => ?_
  rcases lr_or h with h | ⟨x, y, M, F, Qd, hF, r, hx, hy, ⟨p, ds, es, rfl, rfl, hp, hz, h9⟩, fin⟩
  · exact .inl h
  · obtain ⟨vs, h1, h2⟩ := r.mem _ _ hp
    obtain ⟨b, us, rfl, hq, hr⟩ := rep_tup.mp hy
    exact .inr ⟨p, b, vs, us, rep_obj.mp hx, rfl, h1, sqT_up r hq, by rw [← h2.length, ← hr.length]; exact hz, fin.go h9 (r.setM hp (h2.append hr)) (rep_obj.mpr rfl)⟩
def dIMul : DR2 := fun x y M Q => match x, y with
  | .int i, .int j => CMul i j ∧ Q (.int (i * j)) M
  | _, _ => False
theorem od_imul : OpR X (inplaceOp .Mult) (LR X.K F0 dIMul) := by
  refine OpR_imp iop_mul fun v u H Q ⟨x, y, M, F, Qd, hF, r, hx, hy, h, fin⟩ => ?_
  unfold dIMul at h
  split at h
  · exact ⟨_, _, rep_int.mp hx, rep_int.mp hy, h.1, fin.go h.2 r (rep_int.mpr rfl)⟩
  · exact h.elim
variable {a b c e : Expr} {ta tb tc te : DTE} {pos : Pos} {tr : DTA} {tg : Expr}
/-- range(i, j, c) -/
def stepped (lo c : Int) (n : Nat) : List D := (List.range n).map fun i => .int (lo + (i : Nat) * c)
theorem src_stepped {K : PySem.W.Frag} {F H : Hp} {St : Mp → Prop} {lo c : Int} {n : Nat} : Src K F H (stepped lo c n) St (Itc lo c n) where
  go := fun i F' H' M' e r s hi => by
    have : (stepped lo c n).length = n := by simp [stepped]
    rw [this] at hi
    exact hi
  yld := fun i F' H' M' x H2 e r s hi ⟨e2, h⟩ => by
    subst e2
    have : (stepped lo c n).length = n := by simp [stepped]
    rw [this] at hi
    exact ⟨.int (lo + (i : Nat) * c), F', by simp [stepped, hi], Same.refl _, r, rep_int.mpr h⟩
  stop := fun i F' H' M' e r s hi => by
    have : (stepped lo c n).length = n := by simp [stepped]
    rw [this] at hi
    exact hi
def dRange3 (ta : DTA) : DTI := fun σ M Kd => ta σ M fun vs M1 => match vs with
  | [.int i, .int j, .int c] => c = -1 ∧ (-(2 ^ 62) ≤ i ∧ i < 2 ^ 62 ∧ -(2 ^ 62) ≤ j ∧ j < 2 ^ 62) ∧ Kd (stepped i (-1) (i - j).toNat) (fun _ => True) M1
  | _ => False
theorem di_range3 {p : Pos} (hg : Gl X "range") (hm : X.mg "range" = none) (ha : DA X F0 [a, b, c] tr)
    (hs : starEach [a, b, c] X.env = (false, eval a X.env) :: starEach [b, c] X.env := by rfl) (hpl : (backTo pos (starEach [b, c] X.env)).any (·.1) = false := by rfl) : DI X F0 tg (.Call (.Name "range" p) [a, b, c] [] pos) (dRange3 tr) :=
  PI_imp (pi_range3 hg hm ha hs hpl) fun σ H Rr ⟨σd, M, F, hF, r, hS, Kd, h, fin⟩ => ⟨σd, M, F, _, hF, r, hS, h, fun x M1 v H1 F1 q e1 r1 v1 => by
    split at q
    · obtain ⟨rfl, ⟨h1, h2, h3, h4⟩, q⟩ := q
      obtain ⟨u1, us, rfl, g1, v2⟩ := v1.consD_inv
      obtain ⟨u2, u3, rfl, g2, g3⟩ := v2.two
      cases rep_int.mp g1; cases rep_int.mp g2; cases rep_int.mp g3
      exact ⟨_, _, _, _, rfl, RgC.neg h1 h2 h3 h4, fin _ _ _ _ _ _ q e1 r1 trivial src_stepped⟩
    · exact q.elim⟩
/-- the dict is locked while e is worked out -/
theorem de_lock (he : DE X F0 e te) : DE X F0 e (dLockE ⟨X.prog, X.w⟩ te) :=
  PE_imp (pe_lock he) fun σ H Q ⟨σd, M, F, Qd, hF, r, hS, ⟨p, kvs, hp, h⟩, fin⟩ => by
    obtain ⟨kl, vl, h1, h2, h3⟩ := r.mem p _ hp
    obtain ⟨u, hu⟩ := h1.there
    have mu : Mut (some u) := by
      rw [hu] at h1
      obtain ⟨_, ⟨kk, _, e⟩ | ⟨_, _, e⟩⟩ := h1
      · cases e; exact trivial
      · cases e; exact trivial
    rw [hu] at h1
    refine ⟨p, u, hu, mu, fun od => ⟨σd, _, F, _, hF, r.setX (mo2 := .lck od u ⟨X.prog, X.w⟩ kvs) hp fun H' hH' => ⟨kl, vl, hH', h1, h2, h3⟩, hS, h od u, fun d M1 v H1 F1 q e1 r1 v1 => ?_⟩⟩
    obtain ⟨q1, q2⟩ := q
    obtain ⟨kl', vl', g0, g1, g2, g3⟩ := r1.mem p _ q1
    exact ⟨g0, fin _ _ _ _ F1 q2 e1 (r1.setX q1 fun H' hH' => ⟨kl', vl', by rw [hH']; exact g1, g2, g3⟩) v1⟩
/-! ### comprehensions with a test -/
def dYes : DTT := fun _ M Q => Q true M
structure DTs (X : Cx) (F0 : Hp) (ifs : List Expr) (tt : DTT) : Prop where
  run : PTs X ifs (LT X.K F0 tt)
theorem dts_nil : DTs X F0 [] dYes := ⟨⟨fun pins s σ H Q I ⟨σd, M, F, Qd, hF, r, hS, h, fin⟩ => pts_nil.run pins s σ H Q I (fin _ _ _ F h (Same.refl F) r)⟩⟩
theorem dts_one {c : Expr} {t : DTT} (h : DT X F0 c t) : DTs X F0 [c] t := ⟨pts_one h⟩
/-- one turn -/
def lcTurn (p : Addr) (St : Mp → Prop) (ds : List D) (W : Nat → Mp → Prop) (put : D → DS → Option DS) (tt : DTT) (te : DTE) (σ : DS) : Prop :=
  (∀ i M, W i M → i ≤ ds.length → St M) ∧ ∀ i d M, ds[i]? = some d → W i M → ∃ σ2, put d σ = some σ2 ∧ tt σ2 M fun b M3 => IfB b (te σ2 M3 fun y M4 => ∃ acc, M4 p = some (.lst acc) ∧ acc.length < sizeLine ∧ W (i + 1) (updM M4 p (.lst (acc ++ [y])))) (W (i + 1) M3)
def dLcG (own : Bool) (put : D → DS → Option DS) (wi : DTI) (tt : DTT) (te : DTE) : DTE := fun σ M Q => wi σ M fun ds St M1 => ∀ p, M1 p = none → ∃ W : Nat → Mp → Prop, W 0 (updM M1 p (.lst [])) ∧ lcTurn p St ds W put tt te σ ∧ ∀ M, W ds.length M → dLcQ own p M Q
/-- the item goes to one name, to two -/
def put1 (j : Nat) (d : D) (σ : DS) : Option DS := some (σ.set j (some d))
def put2 (i j : Nat) (d : D) (σ : DS) : Option DS := match d with
  | .tup [x, y] => some ((σ.set i (some x)).set j (some y))
  | _ => none
/-- what a target does to the slots -/
structure PutOk (K : PySem.W.Frag) (g : TG) (vs : List Nat) (put : D → DS → Option DS) : Prop where
  ok : ∀ {F H : Hp} {M : Mp} {d : D} {v : V} {σ : L2.St} {σd σ2 : DS} {Q : L2.St → Hp → Prop}, R K M F H → Rep K F d v → SRep K F σd σ → put d σd = some σ2 → (∀ σv, wipe σv vs = wipe σ vs → SRep K F σ2 σv → Q σv H) → g v (wipe σ vs) H Q
theorem put1_ok {K : PySem.W.Frag} {j : Nat} : PutOk K (gName j) [j] (put1 j) := ⟨fun {F H M d v σ σd σ2 Q} r hd hS e h => by
  unfold put1 at e
  cases e
  show Q ((σ.set j none).set j (some v)) H
  refine h _ ?_ ?_
  · show ((σ.set j none).set j (some v)).set j none = σ.set j none
    rw [List.set_set, List.set_set]
  · rw [List.set_set]
    exact hS.set j hd⟩
theorem put2_ok {K : PySem.W.Frag} {i j : Nat} (hij : i ≠ j) : PutOk K (gTup K 2 (gCons (gName i) (gCons (gName j) gNil))) [i, j] (put2 i j) := ⟨fun {F H M d v σ σd σ2 Q} r hd hS e h => by
  unfold put2 at e
  split at e
  · cases e
    obtain ⟨a, vs, rfl, hq, hr⟩ := rep_tup.mp hd
    obtain ⟨v1, v2, rfl, r1, r2⟩ := hr.two
    refine ⟨a, _, rfl, sqT_up r hq, rfl, v1, [v2], rfl, v2, [], rfl, rfl, ?_⟩
    have e1 : ((wipe σ [i, j]).set i (some v1)).set j (some v2) = (σ.set i (some v1)).set j (some v2) := by
      show ((((σ.set j none).set i none).set i (some v1)).set j (some v2)) = _
      rw [List.set_set, List.set_comm _ _ (Ne.symm hij), List.set_set, List.set_comm _ _ hij]
    rw [e1]
    refine h _ ?_ ((hS.set i r1).set j r2)
    show ((((σ.set i (some v1)).set j (some v2)).set j none).set i none) = (σ.set j none).set i none
    rw [List.set_set, List.set_comm _ _ hij, List.set_set]
  · cases e⟩
theorem lift_lcG {own : Bool} {put : D → DS → Option DS} {g : TG} {vs : List Nat} {wi : DTI} {tt : DTT} {te : DTE} {σ : L2.St} {H : Hp} {Q : VK} (hp : PutOk X.K g vs put) (h : LE X.K F0 (dLcG own put wi tt te) σ H Q) : tLc (LI X.K F0 wi) g (LT X.K F0 tt) (LE X.K F0 te) vs σ H Q := by
  obtain ⟨σd, M, F, Qd, hF, r, hS, h, fin⟩ := h
  refine ⟨σd, M, F, hF, r, hS, _, h, ?_⟩
  intro ds St M1 J F1 H1 hd e1 r1 st1 src D hD
  obtain ⟨W, w0, ⟨hst, hstep⟩, hend⟩ := hd D (r1.free hD)
  refine ⟨fun i m H => ∃ M F2, m = ds.length - i ∧ i ≤ ds.length ∧ Same F1 F2 ∧ R X.K M F2 H ∧ W i M, ⟨ds.length, _, F1, by simp, Nat.zero_le _, Same.refl _, r1.newM hD .nil, w0⟩, ?_⟩
  rintro i m H2 ⟨M2, F2, rfl, hi, e2, r2, w2⟩
  have e12 := e1.trans e2
  have st2 := hst i M2 w2 hi
  by_cases hlt : i < ds.length
  · refine .inr ⟨src.go i F2 H2 M2 e2 r2 st2 hlt, fun H' => ∃ M F3, Same F2 F3 ∧ R X.K M F3 H' ∧ W (i + 1) M, ?_, ?_⟩
    · rintro H' ⟨M3, F3, e3, r3, w3⟩
      exact ⟨ds.length - (i + 1), by omega, M3, F3, rfl, hlt, e2.trans e3, r3, w3⟩
    · intro x H3 y
      obtain ⟨d, F3, hd', e3, r3, x3⟩ := src.yld i F2 H2 M2 x H3 e2 r2 st2 hlt y
      have e13 := e12.trans e3
      obtain ⟨σ2, hput, hw⟩ := hstep i d M2 hd' w2
      refine hp.ok r3 x3 (hS.mono e13) hput fun σv ew hs2 => ⟨ew, σ2, M2, F3, _, hF.trans e13, r3, hs2, hw, fun b M4 H4 F4 q e4 r4 => ?_⟩
      cases b with
      | true =>
        refine iteT ⟨σ2, M4, F4, _, hF.trans (e13.trans e4), r4, hs2.mono e4, q, fun yv M5 v H5 F5 q5 e5 r5 v5 => ?_⟩
        obtain ⟨acc, hp, hz, w4⟩ := q5
        obtain ⟨vs, h1, h2⟩ := r5.mem _ _ hp
        exact ⟨vs, h1, by rw [← h2.length]; exact hz, _, F5, (e3.trans e4).trans e5, r5.setM hp (h2.append (.cons v5 .nil)), w4⟩
      | false => exact iteF ⟨M4, F4, e3.trans e4, r4, q⟩
  · have e : i = ds.length := by omega
    subst e
    refine .inl ⟨src.stop _ F2 H2 M2 e2 r2 st2 (Nat.le_refl _), ?_⟩
    have q := hend M2 w2
    cases own with
    | true => exact fin _ _ _ _ F2 q e12 r2 (rep_obj.mpr rfl)
    | false =>
      obtain ⟨acc, hp, q⟩ := q
      obtain ⟨F3, e3, r3, x3⟩ := r2.freeze hp
      exact fin _ _ _ _ F3 q (e12.trans e3) r3 x3
theorem de_lcG {own : Bool} {put : D → DS → Option DS} {g : TG} {elt iter : Expr} {ifs : List Expr} {scope : Scope} {ow : List (Str × Nat)} {wi : DTI} {tt : DTT} (hp : PutOk X.K g (ow.map (·.2)) put) (hc : X.calm = true) (hN : X.N.Nodup) (hi : DI X F0 tg iter wi) (ok : BlkOk X.N X.env.scope scope ow)
    (hg : ∀ (s : Shared) (H : Hp) (C : Addr) (cl : List (Str × Addr)) (fp : List Addr), PG (X.blk s H scope (compEnvC scope cl C X.env) fp) tg g)
    (ht : ∀ (s : Shared) (H : Hp) (C : Addr) (cl : List (Str × Addr)) (fp : List Addr), DTs (X.blk s H scope (compEnvC scope cl C X.env) fp) F0 ifs tt)
    (he : ∀ (s : Shared) (H : Hp) (C : Addr) (cl : List (Str × Addr)) (fp : List Addr), DE (X.blk s H scope (compEnvC scope cl C X.env) fp) F0 elt te) (hs : ∀ x, foldedSetIterable iter X.env x = pure x := by intro _; rfl) :
    DE X F0 (.ListComp elt [⟨tg, iter, ifs, 0⟩] scope pos) (dLcG own put wi tt te) :=
  PE_imp (pe_lc (own := ow) hc hN hi ok hg (fun s H C cl fp => (ht s H C cl fp).run) he hs) fun _ _ _ h => lift_lcG hp h
theorem ds_setLcG {own : Bool} {put : D → DS → Option DS} {g : TG} {i : Nat} {y : Str} {py spos : Pos} {elt iter : Expr} {ifs : List Expr} {scope : Scope} {ow : List (Str × Nat)} {wi : DTI} {tt : DTT} (hp : PutOk X.K g (ow.map (·.2)) put) (hc : X.calm = true) (hN : X.N.Nodup) (hy : X.N[i]? = some y) (hyl : X.env.scope.names.lookup y = some .local)
    (hsw : swapsWith (.ListComp elt [⟨tg, iter, ifs, 0⟩] scope pos) (some (.Name y py)) spos.line X.env = pure true) (hi : DI X F0 tg iter wi) (ok : BlkOk X.N X.env.scope scope ow)
    (hg : ∀ (s : Shared) (H : Hp) (C : Addr) (cl : List (Str × Addr)) (fp : List Addr), PG (X.blk s H scope (compEnvC scope cl C X.env) fp) tg g)
    (ht : ∀ (s : Shared) (H : Hp) (C : Addr) (cl : List (Str × Addr)) (fp : List Addr), DTs (X.blk s H scope (compEnvC scope cl C X.env) fp) F0 ifs tt)
    (he : ∀ (s : Shared) (H : Hp) (C : Addr) (cl : List (Str × Addr)) (fp : List Addr), DE (X.blk s H scope (compEnvC scope cl C X.env) fp) F0 elt te) (hs : ∀ x, foldedSetIterable iter X.env x = pure x := by intro _; rfl) :
    DSt X F0 (.Assign [.Name y py] (.ListComp elt [⟨tg, iter, ifs, 0⟩] scope pos) spos) (dAsg (dLcG own put wi tt te) (nGm i)) :=
  PS_imp (ps_setLc (own := ow) hc hN hy hyl hsw hi ok hg (fun s H C cl fp => (ht s H C cl fp).run) he hs) fun D σ H ⟨σd, M, F, Dd, hF, r, hS, h, fin⟩ =>
    lift_lcG (Q := fun v H1 => D.nx (σ.set i (some v)) H1) hp ⟨σd, M, F, _, hF, r, hS, h, fun d M1 v H1 F1 q e1 r1 v1 => fin.nx _ _ _ _ F1 q e1 r1 ((hS.mono e1).set i v1)⟩
end
/-- each item by itself, nothing changed: those with p, as f -/
theorem lcg_pure {own : Bool} {put : D → DS → Option DS} {wi : DTI} {tt : DTT} {te : DTE} {σ : DS} {M : Mp} {Q : DK} (ds : List D) (St : Mp → Prop) (p : D → Bool) (f : D → D) (hwi : ∀ Kd : List D → (Mp → Prop) → Mp → Prop, Kd ds St M → wi σ M Kd) (hz : ds.length ≤ sizeLine) (hst : ∀ a o, M a = none → St (updM M a o))
    (h : ∀ d ∈ ds, ∃ σ2, put d σ = some σ2 ∧ ∀ M', (∀ a o, M a = some o → M' a = some o) → (∀ Q' : Bool → Mp → Prop, Q' (p d) M' → tt σ2 M' Q') ∧ (p d = true → ∀ Q' : DK, Q' (f d) M' → te σ2 M' Q')) (q : dNew own ((ds.filter p).map f) M Q) : dLcG own put wi tt te σ M Q := by
  refine hwi _ fun a ha => ?_
  refine ⟨fun i M' => M' = updM M a (.lst (((ds.take i).filter p).map f)), by simp, ⟨fun i M' w _ => ?_, fun i d M' hd w => ?_⟩, fun M' w => ?_⟩
  · dsimp only at w
    rw [w]
    exact hst a _ ha
  · dsimp only at w
    have hi : i < ds.length := (List.getElem?_eq_some_iff.mp hd).1
    obtain ⟨σ2, hp, hk⟩ := h d (List.mem_of_getElem? hd)
    obtain ⟨k1, k2⟩ := hk M' fun b o hb => by rw [w, updM_ne (neM hb ha)]; exact hb
    refine ⟨σ2, hp, k1 _ ?_⟩
    have et : ds.take (i + 1) = ds.take i ++ [d] := by rw [List.take_add_one, hd] <;> rfl
    refine ifB (fun hb => k2 hb _ ?_) (fun hb => ?_)
    · refine ⟨((ds.take i).filter p).map f, by rw [w, updM_same], ?_, ?_⟩
      · have h1 := List.length_filter_le p (ds.take i)
        rw [List.length_map]
        rw [List.length_take] at h1
        omega
      · dsimp only
        rw [w, updM_updM, et, List.filter_append, List.map_append]
        simp [List.filter_cons, hb]
    · dsimp only
      rw [w, et, List.filter_append]
      simp [List.filter_cons, hb]
  · dsimp only at w
    rw [List.take_length] at w
    cases own with
    | true => rw [w]; exact q a ha
    | false => exact ⟨_, by rw [w, updM_same], by rw [w, remM_upd ha]; exact q⟩
end DL
/-! Sets whose members are nested tuples (fewer than 64): set(xs), sorted(set(xs)). Over the library's facts of the table (TabOk, go_spec, relaid_ok). -/
namespace NS
open PySem PySem.Spec PyProof.Rows L2
abbrev NK (P : Program) (w : World) := nestedKind P w
section
variable {P : Program} {w : World} {A : Around} {E : Value → Shared → Prop} {s : Shared}
/-! what the model asks of a member ahead of a search -/
mutual
theorem cls_key : ∀ (k : NestedKey) (n : Nat) (v : Value) (Q : Bool → Shared → Prop), NestedIs s.heap k v → k.depth ≤ n → Q false s → wpAny (model P w) A (ofAClassStatement n v) Q E s
  | .none, n, _, Q, x, _, h => by
    cases x
    cases n <;> exact wpAny_pure h
  | .num i, n, _, Q, x, _, h => by
    cases x <;> cases n <;> exact wpAny_pure h
  | .text x, n, _, Q, y, _, h => by
    cases y
    cases n <;> exact wpAny_pure h
  | .tup ks, 0, _, Q, x, hd, h => by
    unfold NestedKey.depth at hd
    omega
  | .tup ks, n + 1, _, Q, x, hd, h => by
    cases x with
    | @tup a o vs m _ hg hc hdt hk =>
      unfold ofAClassStatement
      refine wpAny_bind (wpAny_typeOf (T := "tuple") ⟨o, hg, hc⟩ ?_)
      dsimp only
      rw [if_pos (show (("tuple" : String) == "tuple") = true by decide)]
      refine wpAny_bind (wpAny_pure ?_)
      rw [if_neg (by decide)]
      try refine wpAny_bind (wpAny_pure ?_)
      show wpAny _ _ (seqItems? (.ref a) >>= _) _ _ s
      refine wpAny_bind (wpAny_seqItems hg hdt ?_)
      dsimp only
      refine wpAny_bind ?_
      rw [← Array.forIn_toList]
      refine cls_keys ks n vs.toList _ hk (by unfold NestedKey.depth at hd; omega) ?_
      exact wpAny_pure h
theorem cls_keys : ∀ (ks : List NestedKey) (n : Nat) (vs : List Value) (Q : Option Bool × Unit → Shared → Prop), NestedAll s.heap ks vs → NestedKey.depthAll ks ≤ n → Q (none, ()) s →
    wpAny (model P w) A (forIn vs ((none, ()) : Option Bool × Unit) fun y __s => do
      let r ← ofAClassStatement n y
      if r = true then pure (ForInStep.done (some true, ())) else pure (ForInStep.yield (none, ()))) Q E s
  | [], n, _, Q, x, _, h => by
    cases x
    exact wpAny_pure h
  | k :: ks, n, _, Q, x, hd, h => by
    unfold NestedKey.depthAll at hd
    cases x with
    | cons x1 x2 =>
      rw [List.forIn_cons]
      refine wpAny_bind (wpAny_bind (cls_key k n _ _ x1 (by omega) ?_))
      rw [if_neg Bool.false_ne_true]
      refine wpAny_pure ?_
      exact cls_keys ks n _ Q x2 (by omega) h
end
/-! whether a hash is by value: some answer, nothing changed -/
mutual
theorem hby_key : ∀ (k : NestedKey) (n : Nat) (v : Value) (Q : Bool → Shared → Prop), NestedIs s.heap k v → (∀ b, Q b s) → wpAny (model P w) A (hashByValue n v) Q E s
  | .none, n, _, Q, x, h => by
    cases x
    cases n <;> exact wpAny_pure (h _)
  | .num i, n, _, Q, x, h => by
    cases x <;> cases n <;> exact wpAny_pure (h _)
  | .text x, n, _, Q, y, h => by
    cases y
    cases n <;> exact wpAny_pure (h _)
  | .tup ks, 0, _, Q, x, h => by
    cases x with
    | tup _ _ _ _ => exact wpAny_pure (h _)
  | .tup ks, n + 1, _, Q, x, h => by
    cases x with
    | @tup a o vs m _ hg hc hdt hk =>
      unfold hashByValue
      refine wpAny_bind (wpAny_specialOf (T := "tuple") ⟨o, hg, hc⟩ F.slot_tuple_hash.lookup ?_)
      show wpAny _ _ (seqItems? (.ref a) >>= _) _ _ s
      refine wpAny_bind (wpAny_seqItems hg hdt ?_)
      refine wpAny_bind ?_
      show wpAny _ _ (forIn vs _ _) _ _ s
      rw [← Array.forIn_toList]
      refine hby_keys ks n vs.toList _ hk fun r hr => ?_
      rcases hr with rfl | ⟨b, rfl⟩
      · exact wpAny_pure (h _)
      · exact wpAny_pure (h _)
theorem hby_keys : ∀ (ks : List NestedKey) (n : Nat) (vs : List Value) (Q : Option Bool × Unit → Shared → Prop), NestedAll s.heap ks vs → (∀ r : Option Bool × Unit, (r = (none, ()) ∨ ∃ b, r = (some b, ())) → Q r s) →
    wpAny (model P w) A (forIn vs ((none, ()) : Option Bool × Unit) fun y __s => do
      let r ← hashByValue n y
      if (!r) = true then pure (ForInStep.done (some false, ())) else pure (ForInStep.yield (none, ()))) Q E s
  | [], n, _, Q, x, h => by
    cases x
    exact wpAny_pure (h _ (.inl rfl))
  | k :: ks, n, _, Q, x, h => by
    cases x with
    | cons x1 x2 =>
      rw [List.forIn_cons]
      refine wpAny_bind (wpAny_bind (hby_key k n _ _ x1 fun b => ?_))
      cases b with
      | false =>
        rw [if_pos (by rfl)]
        refine wpAny_pure ?_
        exact wpAny_pure (h _ (.inr ⟨false, rfl⟩))
      | true =>
        rw [if_neg (by decide)]
        refine wpAny_pure ?_
        exact hby_keys ks n _ Q x2 h
end
/-- asking for a member shows nothing -/
theorem seen_no {k : NestedKey} {b : Addr} {Q : Bool → Shared → Prop} (hk : (NK P w).is s.heap k b) : ∀ {ys : List Value}, (∀ y ∈ ys, ∃ k' c, y = Value.ref c ∧ (NK P w).is s.heap k' c) → Q false s → wpAny (model P w) A (searchCouldBeSeen (.ref b) ys) Q E s := by
  intro ys hy h
  unfold searchCouldBeSeen
  refine wpAny_bind ?_
  refine wpAny_forIn_list _ (fun rest r s' => r.1 = none ∧ s' = s ∧ ∀ y ∈ rest, ∃ k' c, y = Value.ref c ∧ (NK P w).is s.heap k' c) _ ?_ ?_ _ _ ⟨rfl, rfl, hy⟩
  · rintro v rest r s' ⟨hr, rfl, hall⟩
    obtain ⟨k', c, rfl, hc⟩ := hall v List.mem_cons_self
    have more := fun u hu' => hall u (List.mem_cons_of_mem _ hu')
    dsimp only
    by_cases hv : (b == c || (carriedByValue (.ref b) && carriedByValue (.ref c))) = true
    · exact wp_if_pos hv (wpAny_pure ⟨rfl, rfl, more⟩)
    · refine wp_if_neg hv (wpAny_bind ((NK P w).quiet hk ?_))
      rw [if_neg (by decide)]
      refine wpAny_bind ((NK P w).quiet hc ?_)
      rw [if_neg (by decide)]
      refine wpAny_bind (cls_key k 8 _ _ hk.1 hk.2 ?_)
      rw [if_neg (by decide)]
      refine wpAny_bind (cls_key k' 8 _ _ hc.1 hc.2 ?_)
      rw [if_neg (by decide)]
      exact wpAny_pure ⟨rfl, rfl, more⟩
  · rintro ⟨r1, r2⟩ s' ⟨hr, rfl, _⟩
    simp only at hr
    subst hr
    exact wpAny_pure h
end
/-! the table's way from a hash -/
def prb (m : Nat) (h : Int) (c : Nat) : SetTable.Probe := nth m (runAt m (SetTable.bits h % (m + 1)) (SetTable.bits h)) c
theorem prb_j {m : Nat} {h : Int} {c : Nat} : (prb m h c).j = way m h c := rfl
theorem prb_go {m : Nat} {h : Int} {c q : Nat} : nth m (prb m h c) q = prb m h (c + q) := (nth_add m c _ q).symm
theorem nth_dm {m : Nat} : ∀ (n : Nat) (p : SetTable.Probe), p.dummy = none → (nth m p n).dummy = none
  | 0, p, h => h
  | n + 1, p, h => by
    refine nth_dm n (adv m p) ?_
    unfold adv
    split <;> exact h
theorem prb_dm {m : Nat} {h : Int} {c : Nat} : (prb m h c).dummy = none := nth_dm c _ rfl
/-- a member as a row of the set's table -/
def rw_ (w : World) (p : Addr × NestedKey) : Int × Value := (p.2.hash w, .ref p.1)
/-- at a: the set of the nested tuples L -/
structure NSet (P : Program) (w : World) (h : Heap) (a : Addr) (L : List (Addr × NestedKey)) (es : Array (Int × Value)) (ep : Nat) (t : SetTable) : Prop where
  ob : ∃ o, h.get? a = some o ∧ o.ExactSet ∧ o.data = .set es ep t
  rows : es.toList = L.map (rw_ w)
  tab : TabOk t (L.map fun p => p.2.hash w)
  nd : (L.map (·.2)).Nodup
  key : ∀ p ∈ L, (NK P w).is h p.2 p.1
  led : w.params.followText "set-order" = true ∨ t.led = true
  room : L.length * 5 < t.mask * 3
  few : L.length < 64
section
variable {P : Program} {w : World} {A : Around} {E : Value → Shared → Prop} {s : Shared} {a : Addr} {L : List (Addr × NestedKey)} {es : Array (Int × Value)} {ep : Nat} {t : SetTable}
theorem rows_size (h : es.toList = L.map (rw_ w)) : es.size = L.length := by
  rw [← Array.length_toList, h, List.length_map]
theorem fits_of (T : TabOk t (L.map fun p => p.2.hash w)) (h : es.toList = L.map (rw_ w)) (hl : L.length ≤ t.mask) : t.fits es.size = true := by
  have h1 := T.sz
  rw [List.length_map] at h1
  have h2 := rows_size h
  unfold SetTable.fits SetTable.fill
  rw [T.dm, Bool.and_eq_true, beq_iff_eq, decide_eq_true_eq]
  show t.place.size = es.size ∧ t.place.size + 0 ≤ t.mask
  omega
theorem NSet.fits (S : NSet P w s.heap a L es ep t) : t.fits es.size = true := fits_of S.tab S.rows (by have := S.room; omega)
theorem row_at (h : es.toList = L.map (rw_ w)) {i : Nat} {p : Addr × NestedKey} (hp : L[i]? = some p) : es[i]? = some (p.2.hash w, .ref p.1) := by
  rw [← Array.getElem?_toList, h, List.getElem?_map, hp] <;> rfl
/-- the place of a member's row -/
theorem NSet.has (S : NSet P w s.heap a L es ep t) {i j : Nat} (hi : t.place.toList[i]? = some j) : ∃ p, L[i]? = some p := by
  have h1 : i < t.place.toList.length := (List.getElem?_eq_some_iff.mp hi).1
  have h2 := S.tab.sz
  rw [List.length_map] at h2
  rw [Array.length_toList] at h1
  exact ⟨L[i]'(by omega), List.getElem?_eq_getElem _⟩
/-- where a search for k stands: c steps on its way, no row with k behind it -/
structure Stand (S : NSet P w s.heap a L es ep t) (k : NestedKey) (K c : Nat) : Prop where
  le : c ≤ K
  ahead : ∀ (i : Nat) p, L[i]? = some p → p.2 = k → ∃ c', c ≤ c' ∧ c' < K ∧ t.place.toList[i]? = some (way t.mask (k.hash w) c')
theorem find_go (S : NSet P w s.heap a L es ep t) {x : Addr} {k : NestedKey} (hx : (NK P w).is s.heap k x) (hu : A.units + 8 < cLine) {K : Nat} (hKf : K < 10 * SetTable.turns t.mask)
    (hK : way t.mask (k.hash w) K ∉ t.place.toList) (hKb : ∀ c, c < K → way t.mask (k.hash w) c ∈ t.place.toList) {Q : SetFound → Shared → Prop}
    (hin : k ∈ L.map (·.2) → Q (.there none) s) (hout : k ∉ L.map (·.2) → Q (.free (way t.mask (k.hash w) K) false) s) :
    ∀ (f c : Nat) (stand : Option SetTable.Probe), stand.getD (t.probeStart (k.hash w)) = prb t.mask (k.hash w) c → Stand S k K c → K - c < f → wpAny (model P w) A (setSearchFrom a (.ref x) (k.hash w) true f stand) Q E s
  | 0, c, stand, _, _, hf => absurd hf (Nat.not_lt_zero _)
  | f + 1, c, stand, hst, st, hf => by
    obtain ⟨o, ho, hex, hd⟩ := S.ob
    have hc := st.le
    rw [setSearchFrom_succ]
    refine wpAny_bind (wpAny_setState_of ho hd S.fits ?_)
    dsimp only
    refine wp_if_neg (by unfold SetTable.gaveWay; rw [mask_odd S.tab.mok]; decide) ?_
    try refine wpAny_bind (wpAny_pure ?_)
    have hashAt : ∀ (i : Nat) p, L[i]? = some p → (fun i => (es[i]?.map (·.1)).getD 0) i = p.2.hash w := fun i p hp => by
      show (es[i]?.map (·.1)).getD 0 = _
      rw [row_at S.rows hp] <;> rfl
    have ej : ∀ q, (nth t.mask (prb t.mask (k.hash w) c) q).j = way t.mask (k.hash w) (c + q) := fun q => by rw [prb_go] <;> rfl
    have spec := go_spec t S.tab.ris S.tab.dm (fun i => (es[i]?.map (·.1)).getD 0) (k.hash w) (10 * SetTable.turns t.mask) (K - c) (prb t.mask (k.hash w) c) prb_dm (by omega)
      (fun q hq => by rw [ej]; exact hKb _ (by omega)) (by rw [ej, show c + (K - c) = K by omega]; exact hK)
    rcases spec with ⟨q, i, hq, hi, hh, hno, hpr⟩ | ⟨hno, hpr⟩
    · have e2 : t.probe (fun i => (es[i]?.map (·.1)).getD 0) (k.hash w) (stand.getD (t.probeStart (k.hash w))) = some (.candidate (way t.mask (k.hash w) (c + q)) i (prb t.mask (k.hash w) (c + (q + 1)))) := by
        rw [hst, ← ej, ← prb_go]
        exact hpr
      rw [e2]
      dsimp only
      rw [ej] at hi
      obtain ⟨p, hp⟩ := S.has hi
      have hmem : p ∈ L := List.mem_of_getElem? hp
      have hsl : t.slot (way t.mask (k.hash w) (c + q)) = .live i := slot_live S.tab.ris hi
      have rest : wpAny (model P w) A (searchRest a (.ref x) (k.hash w) true f es t (way t.mask (k.hash w) (c + q)) i (prb t.mask (k.hash w) (c + (q + 1)))) Q E s := by
        unfold searchRest
        rw [row_at S.rows hp]
        dsimp only
        refine wpAny_bind (wpAny_holding ((NK P w).eqBool hu (S.key p hmem) hx ?_))
        refine wpAny_bind (wpAny_setState_of ho hd S.fits ?_)
        dsimp only
        by_cases hkk : p.2 = k
        · refine wp_if_pos (by simp [hkk]) (wpAny_pure (hin ?_))
          exact List.mem_map.mpr ⟨p, hmem, hkk⟩
        · refine wp_if_neg (by simp [hkk]) ?_
          try refine wpAny_bind (wpAny_pure ?_)
          rw [show t.sameMemory t.moves t.mask = some true from sameMem t]
          dsimp only
          simp only [if_true, hsl, row_at S.rows hp]
          refine wpAny_bind (wpAny_isSame_ref_self (wpAny_bind (wpAny_pure ?_)))
          simp only [if_true]
          refine wp_if_neg (by simp [hkk]) ?_
          refine find_go S hx hu hKf hK hKb hin hout f (c + (q + 1)) _ rfl ⟨by omega, fun i0 p0 h0 hk0 => ?_⟩ (by omega)
          obtain ⟨c', a1, a2, a3⟩ := st.ahead i0 p0 h0 hk0
          refine ⟨c', ?_, a2, a3⟩
          apply Classical.byContradiction
          intro hlt
          rcases Nat.lt_or_ge c' (c + q) with z | z
          · refine hno (c' - c) i0 (by omega) (by rw [ej, show c + (c' - c) = c' by omega]; exact a3) ?_
            exact (hashAt i0 p0 h0).trans (by rw [hk0])
          · have ec : c' = c + q := by omega
            rw [ec] at a3
            have s0 := slot_live S.tab.ris a3
            rw [hsl] at s0
            injection s0 with s0
            rw [← s0, hp] at h0
            cases h0
            exact hkk hk0
      by_cases hl : t.led = true
      · refine wp_if_neg (by simp [hl]) ?_
        try refine wpAny_bind (wpAny_pure ?_)
        exact rest
      · refine wp_if_pos (by simp [hl]) ?_
        refine wpAny_bind (seen_no hx (fun y hy => ?_) ?_)
        · obtain ⟨e, he, ee⟩ := List.mem_map.mp hy
          have he1 : e ∈ es.toList := by
            have : e ∈ es ∧ e.1 = k.hash w := by simpa using he
            simpa using this.1
          rw [S.rows] at he1
          obtain ⟨p2, hp2, e2⟩ := List.mem_map.mp he1
          exact ⟨p2.2, p2.1, by rw [← ee, ← e2] <;> rfl, S.key p2 hp2⟩
        · refine wp_if_neg (by decide) ?_
          try refine wpAny_bind (wpAny_pure ?_)
          exact rest
    · have e2 : t.probe (fun i => (es[i]?.map (·.1)).getD 0) (k.hash w) (stand.getD (t.probeStart (k.hash w))) = some (.empty (way t.mask (k.hash w) K) none) := by
        have e3 : way t.mask (k.hash w) K = (nth t.mask (prb t.mask (k.hash w) c) (K - c)).j := by rw [ej, show c + (K - c) = K by omega]
        rw [hst, e3]
        exact hpr
      rw [e2]
      dsimp only
      refine wpAny_pure (hout fun hm => ?_)
      obtain ⟨p0, h0, hk0⟩ := List.mem_map.mp hm
      obtain ⟨i0, h00⟩ := List.mem_iff_getElem?.mp h0
      obtain ⟨c', a1, a2, a3⟩ := st.ahead i0 p0 h00 hk0
      refine hno (c' - c) i0 (by omega) (by rw [ej, show c + (c' - c) = c' by omega]; exact a3) ?_
      exact (hashAt i0 p0 h00).trans (by rw [hk0])
/-- the search that adding asks for -/
theorem find_at (S : NSet P w s.heap a L es ep t) {x : Addr} {k : NestedKey} (hx : (NK P w).is s.heap k x) (hu : A.units + 8 < cLine) {Q : SetFound → Shared → Prop} (hin : k ∈ L.map (·.2) → Q (.there none) s)
    (hout : ∀ K, k ∉ L.map (·.2) → way t.mask (k.hash w) K ∉ t.place.toList → (∀ c, c < K → way t.mask (k.hash w) c ∈ t.place.toList) → Q (.free (way t.mask (k.hash w) K) false) s) :
    wpAny (model P w) A (setSearch a (.ref x) (k.hash w) true) Q E s := by
  obtain ⟨K, hKf, hK, hKb⟩ := S.tab.first (by rw [List.length_map]; have := S.room; omega) (k.hash w)
  have hbig : K < 100000 := by
    have : 10 * SetTable.turns t.mask ≤ 1420 := by
      unfold SetTable.turns
      rcases S.tab.mok with e | e | e <;> omega
    omega
  unfold setSearch
  refine find_go S hx hu hKf hK hKb hin (fun hn => hout K hn hK hKb) 100000 0 none rfl ⟨Nat.zero_le _, fun i p hp hk => ?_⟩ (by omega)
  have hi : (L.map fun p => p.2.hash w)[i]? = some (k.hash w) := by rw [List.getElem?_map, hp, ← hk] <;> rfl
  have h1 : i < L.length := (List.getElem?_eq_some_iff.mp hp).1
  have h2 := S.tab.sz
  rw [List.length_map] at h2
  have hil : i < t.place.toList.length := by rw [Array.length_toList]; omega
  have hj := List.getElem?_eq_getElem hil
  obtain ⟨c, hc, e⟩ := S.tab.before hK hi hj
  exact ⟨c, Nat.zero_le _, hc, by rw [hj, e]⟩
theorem key_same {h h' : Heap} {k : NestedKey} {b : Addr} {o : Obj} (hb : (NK P w).is h k b) (ho : h.get? a = some o) (hd : o.data = .set es ep t) (hs : Heap.SameBut a h h') : (NK P w).is h' k b :=
  ⟨NestedIs.at (fun c ob vs n hc hv => (hs.2 c fun e => by rw [e, ho] at hc; cases hc; rw [hd] at hv; cases hv).trans hc) k _ hb.1, hb.2⟩
theorem key_keep {h h' : Heap} {k : NestedKey} {b : Addr} (hb : (NK P w).is h k b) (hk : ∀ c o, h.get? c = some o → h'.get? c = some o) : (NK P w).is h' k b :=
  ⟨NestedIs.at (fun c ob vs n hc _ => hk c ob hc) k _ hb.1, hb.2⟩
/-- the rows in the order that a table laid anew has them -/
theorem in_order (order : Array Nat) (hr : es.toList = L.map (rw_ w)) (hp : order.toList.Perm (List.range L.length)) :
    ∃ L2 : List (Addr × NestedKey), (order.filterMap (es[·]?)).toList = L2.map (rw_ w) ∧ L2.Perm L ∧ (L2.map fun p => p.2.hash w) = order.toList.map fun i => (es.map (·.1)).getD i 0 := by
  have hsz := rows_size hr
  have key : ∀ l : List Nat, (∀ i ∈ l, i < L.length) → l.filterMap (fun i => es[i]?) = (l.filterMap fun i => L[i]?).map (rw_ w) ∧ ((l.filterMap fun i => L[i]?).map fun p => p.2.hash w) = l.map fun i => (es.map (·.1)).getD i 0 := by
    intro l
    induction l with
    | nil => exact fun _ => ⟨rfl, rfl⟩
    | cons i l ih =>
      intro hl
      have hi := hl i List.mem_cons_self
      obtain ⟨e1, e2⟩ := ih fun j hj => hl j (List.mem_cons_of_mem _ hj)
      have hL := List.getElem?_eq_getElem hi
      have he := row_at hr hL
      constructor
      · rw [List.filterMap_cons_some he, List.filterMap_cons_some hL, e1] <;> rfl
      · rw [List.filterMap_cons_some hL, List.map_cons, List.map_cons, e2]
        have e4 : (es.map (·.1)).getD i 0 = (L[i]).2.hash w := by
          have e5 : (es.map (·.1))[i]? = some ((L[i]).2.hash w) := by rw [Array.getElem?_map, he] <;> rfl
          simp [Array.getD_eq_getD_getElem?, e5]
        rw [e4]
  obtain ⟨e1, e2⟩ := key order.toList fun i hi => List.mem_range.mp (hp.mem_iff.mp hi)
  refine ⟨_, by first | (rw [Array.toList_filterMap]; exact e1) | simpa using e1, ?_, e2⟩
  have h2 : (List.range L.length).filterMap (fun i => L[i]?) = L := by
    apply List.ext_getElem?
    intro i
    have : ∀ n, n ≤ L.length → (List.range n).filterMap (fun i => L[i]?) = L.take n := by
      intro n
      induction n with
      | zero => exact fun _ => rfl
      | succ n ih =>
        intro hn
        have hlt : n < L.length := hn
        rw [List.range_succ, List.filterMap_append, ih (Nat.le_of_lt hlt), List.take_succ, List.getElem?_eq_getElem hlt, List.filterMap_cons_some (List.getElem?_eq_getElem hlt)] <;> rfl
    rw [this L.length (Nat.le_refl _), List.take_length]
  have h1 := hp.filterMap fun i => L[i]?
  rw [h2] at h1
  exact h1
/-- the table grows -/
theorem grow_at {o : Obj} (ho : s.heap.get? a = some o) (hex : o.ExactSet) (hd : o.data = .set es ep t) (hr : es.toList = L.map (rw_ w)) (T : TabOk t (L.map fun p => p.2.hash w)) (hfl : L.length ≤ t.mask) (nd : (L.map (·.2)).Nodup) (hk : ∀ p ∈ L, (NK P w).is s.heap p.2 p.1)
    (ld : w.params.followText "set-order" = true ∨ t.led = true) (few : L.length < 64) {wanted M : Nat} (hw : SetTable.sizeAbove wanted - 1 = M) (hM : MaskOk M) (hw2 : SetTable.sizeAbove wanted ≤ 128) (hn : L.length * 5 < M * 3) {Q : Unit → Shared → Prop}
    (hQ : ∀ h' L' es' ep' t', Heap.SameBut a s.heap h' → NSet P w h' a L' es' ep' t' → L'.Perm L → Q () { s with heap := h' }) : wpAny (model P w) A (setRelay a wanted) Q E s := by
  have hsl := rows_size hr
  obtain ⟨t', order, e, hp, T', em, el, _, ed⟩ := relaid_ok t (hs := es.map (·.1)) (wanted := wanted) hw hM (by rw [Array.size_map, hsl]; omega)
  rw [Array.size_map, hsl] at hp
  obtain ⟨L2, r1, r2, r3⟩ := in_order order hr hp
  rw [← r3] at T'
  have hs2 : (order.filterMap (es[·]?)).size = es.size := by rw [rows_size r1, r2.length_eq, hsl]
  rw [setRelay_eq]
  refine wpAny_bind (wpAny_setState_of ho hd (fits_of T hr hfl) ?_)
  dsimp only
  refine wp_if_neg (by rw [sizeLine_eq]; omega) ?_
  try refine wpAny_bind (wpAny_pure ?_)
  rw [e]
  dsimp only
  refine wpAny_bind ?_
  refine wp_if_neg (by rw [hs2]; simp) ?_
  try refine wpAny_bind (wpAny_pure ?_)
  refine wpAny_pure ?_
  dsimp only
  refine wpAny_storeSet_of ho hd ?_ (by rw [hs2, hsl, sizeLine_eq]; omega)
  have sb : Heap.SameBut a s.heap (s.heap.update a (Obj.putSet (order.filterMap (es[·]?)) t')) := Heap.SameBut.update ..
  exact hQ _ L2 _ (ep + 1) t' sb ⟨⟨_, store_at ho hd, ⟨hex.1, hex.2.1, hex.2.2⟩, rfl⟩, r1, T', (r2.map (·.2)).nodup_iff.mpr nd, fun p hpm => key_same (hk p (r2.mem_iff.mp hpm)) ho hd sb, by rw [el]; exact ld, by rw [r2.length_eq, em]; exact hn, by rw [r2.length_eq]; exact few⟩ r2
theorem tab_plain {t : SetTable} {hs : List Int} {b : Bool} (T : TabOk t hs) : TabOk { t with plain := b } hs := ⟨T.ris, T.dm, T.sz, T.mok, T.bd, T.reach⟩
/-- a member is added -/
theorem add_key (S : NSet P w s.heap a L es ep t) {x : Addr} {k : NestedKey} (hx : (NK P w).is s.heap k x) (hu : A.units + 8 < cLine) (hfew : L.length + 1 < 64) {Q : Bool → Shared → Prop}
    (hQ : ∀ b h' L' es' ep' t', Heap.SameBut a s.heap h' → NSet P w h' a L' es' ep' t' → (k ∈ L.map (·.2) → L' = L) → (k ∉ L.map (·.2) → L'.Perm ((x, k) :: L)) → Q b { s with heap := h' }) :
    wpAny (model P w) A (setAddHashed a (.ref x) (k.hash w)) Q E s := by
  obtain ⟨o, ho, hex, hd⟩ := S.ob
  have hsl := rows_size S.rows
  have hroom := S.room
  unfold setAddHashed
  refine wpAny_holding ?_
  rw [show (100000 : Nat) = 99999 + 1 from rfl, setAddHashedIn_succ]
  refine wpAny_bind (wpAny_setState_of ho hd S.fits ?_)
  dsimp only
  refine wp_if_neg (by simp [byScan, Value.scannable]) ?_
  try refine wpAny_bind (wpAny_pure ?_)
  refine wpAny_bind (find_at S hx hu (fun hm => ?_) fun K hm hK hb => ?_)
  · exact wpAny_pure (hQ false s.heap L es ep t (Heap.SameBut.refl a s.heap) S (fun _ => rfl) fun z => absurd hm z)
  · dsimp only
    refine wpAny_bind (wpAny_setState_of ho hd S.fits ?_)
    dsimp only
    obtain ⟨q1, q2, q3, q4, q5, _, _, _, q9⟩ := S.tab.put hK hb
    generalize hpt : t.put (way t.mask (k.hash w) K) = pt at q1 q3 q4 q5 q9 ⊢
    obtain ⟨t1, p⟩ := pt
    dsimp only at q1 q3 q4 q5 q9 ⊢
    subst q1
    have hin : (SetTable.insertAt es (SetTable.below t.place (way t.mask (k.hash w) K)) (k.hash w, Value.ref x)).toList = (L.take (SetTable.below t.place (way t.mask (k.hash w) K)) ++ (x, k) :: L.drop (SetTable.below t.place (way t.mask (k.hash w) K))).map (rw_ w) := by
      rw [SetTable.toList_insertAt, S.rows, List.map_append, List.map_cons, List.map_take, List.map_drop] <;> rfl
    generalize hpp : SetTable.below t.place (way t.mask (k.hash w) K) = p at q2 q3 hin ⊢
    have pm := put_perm L p (x, k)
    have hlen : (L.take p ++ (x, k) :: L.drop p).length = L.length + 1 := pm.length_eq
    have hhs : (L.take p ++ (x, k) :: L.drop p).map (fun p => p.2.hash w) = (L.map fun p => p.2.hash w).take p ++ k.hash w :: (L.map fun p => p.2.hash w).drop p := by
      rw [List.map_append, List.map_cons, List.map_take, List.map_drop]
    rw [← hhs] at q3
    have nd1 : ((L.take p ++ (x, k) :: L.drop p).map (·.2)).Nodup := by
      refine (pm.map (·.2)).nodup_iff.mpr ?_
      rw [List.map_cons]
      exact List.nodup_cons.mpr ⟨hm, S.nd⟩
    have hes := rows_size hin
    rw [hlen] at hes
    generalize SetTable.insertAt es p (k.hash w, Value.ref x) = es1 at hin hes ⊢
    generalize L.take p ++ (x, k) :: L.drop p = L1 at pm hlen q3 nd1 hin
    -- behind the question by value
    have go : ∀ t2 : SetTable, TabOk t2 (L1.map fun p => p.2.hash w) → t2.mask = t.mask → t2.led = t.led → t2.fill = L.length + 1 →
        wpAny (model P w) A (do storeSet a es1 t2; if (!false && t2.tooFull) = true then do setRelay a (SetTable.grown (es.size + 1)); pure true else pure true) Q E s := by
      intro t2 T2 m2 l2 f2
      refine wpAny_bind (wpAny_storeSet_of ho hd ?_ (by rw [hes, sizeLine_eq]; omega))
      have sb : Heap.SameBut a s.heap (s.heap.update a (Obj.putSet es1 t2)) := Heap.SameBut.update ..
      have ho1 := store_at (es' := es1) (t' := t2) ho hd
      generalize s.heap.update a (Obj.putSet es1 t2) = h1 at sb ho1 ⊢
      have key1 : ∀ p ∈ L1, (NK P w).is h1 p.2 p.1 := fun p hp => by
        rcases List.mem_cons.mp (pm.mem_iff.mp hp) with e | hp
        · rw [e]; exact key_same hx ho hd sb
        · exact key_same (S.key p hp) ho hd sb
      have ld1 : w.params.followText "set-order" = true ∨ t2.led = true := by rw [l2]; exact S.led
      by_cases hf : t2.tooFull = true
      · refine wp_if_pos (by simp [hf]) (wpAny_bind ?_)
        have hfull : (L.length + 1) * 5 ≥ t2.mask * 3 := by
          have h := hf
          unfold SetTable.tooFull at h
          rw [decide_eq_true_eq, f2] at h
          exact h
        rw [hsl]
        have two : (t.mask = 7 ∧ L.length = 4) ∨ (t.mask = 31 ∧ L.length = 18) := by
          rcases S.tab.mok with e | e | e
          · left; rw [m2, e] at hfull; rw [e] at hroom; exact ⟨e, by omega⟩
          · right; rw [m2, e] at hfull; rw [e] at hroom; exact ⟨e, by omega⟩
          · exfalso; rw [m2, e] at hfull; omega
        have grow : ∀ M, SetTable.sizeAbove (SetTable.grown (L.length + 1)) - 1 = M → MaskOk M → SetTable.sizeAbove (SetTable.grown (L.length + 1)) ≤ 128 → (L.length + 1) * 5 < M * 3 →
            wpAny (model P w) A (setRelay a (SetTable.grown (L.length + 1))) (fun _ s' => wpAny (model P w) A (pure true) Q E s') E { s with heap := h1 } := fun M g1 g2 g3 g4 => by
          refine grow_at (s := { s with heap := h1 }) ho1 ⟨hex.1, hex.2.1, hex.2.2⟩ rfl hin T2 (by rw [hlen, m2]; rcases two with ⟨e, e2⟩ | ⟨e, e2⟩ <;> omega) nd1 key1 ld1 (by rw [hlen]; exact hfew) g1 g2 g3 (by rw [hlen]; exact g4) ?_
          intro h2 L2 es2 ep2 t3 sb2 R2 pm2
          exact wpAny_pure (hQ true h2 L2 es2 ep2 t3 (sb.trans sb2) R2 (fun z => absurd z hm) fun _ => pm2.trans pm)
        rcases two with ⟨_, e2⟩ | ⟨_, e2⟩
        · exact grow 31 (by rw [e2, size_20]) (.inr (.inl rfl)) (by rw [e2, size_20]; decide) (by omega)
        · exact grow 127 (by rw [e2, size_76]) (.inr (.inr rfl)) (by rw [e2, size_76]; decide) (by omega)
      · refine wp_if_neg (by simp [hf]) ?_
        refine wpAny_pure (hQ true h1 L1 es1 (ep + 1) t2 sb ⟨⟨_, ho1, ⟨hex.1, hex.2.1, hex.2.2⟩, rfl⟩, hin, T2, nd1, key1, ld1, ?_, by rw [hlen]; exact hfew⟩ (fun z => absurd z hm) fun _ => pm)
        have h := hf
        unfold SetTable.tooFull at h
        rw [decide_eq_true_eq, f2] at h
        rw [hlen]
        omega
    have hfill : t1.fill = L.length + 1 := by rw [q9, List.length_map]
    by_cases hpl : t1.plain = true
    · refine wp_if_pos hpl (wpAny_bind (hby_key k 8 _ _ hx.1 fun b => ?_))
      cases b with
      | true => exact go t1 q3 q4 q5 hfill
      | false => exact go { t1 with plain := false } (tab_plain q3) q4 q5 hfill
    · refine wp_if_neg hpl (wpAny_bind (wpAny_pure ?_))
      exact go t1 q3 q4 q5 hfill
end
/-- what the set has got of the first i things -/
structure Got (ks : List (Addr × NestedKey)) (i : Nat) (L : List (Addr × NestedKey)) : Prop where
  sub : ∀ p ∈ L, p ∈ ks.take i
  all : ∀ p ∈ ks.take i, p.2 ∈ L.map (·.2)
  len : L.length ≤ i
theorem got_one {ks L L' : List (Addr × NestedKey)} {i : Nat} {x : Addr × NestedKey} (g : Got ks i L) (h : ks[i]? = some x) (h1 : x.2 ∈ L.map (·.2) → L' = L) (h2 : x.2 ∉ L.map (·.2) → L'.Perm (x :: L)) : Got ks (i + 1) L' := by
  have et : ks.take (i + 1) = ks.take i ++ [x] := by rw [List.take_add_one, h] <;> rfl
  rcases Classical.em (x.2 ∈ L.map (·.2)) with c | c
  · rw [h1 c]
    refine ⟨fun p hp => by rw [et]; exact List.mem_append_left _ (g.sub p hp), fun p hp => ?_, Nat.le_succ_of_le g.len⟩
    rw [et] at hp
    rcases List.mem_append.mp hp with z | z
    · exact g.all p z
    · rw [List.mem_singleton.mp z]; exact c
  · have pm := h2 c
    refine ⟨fun p hp => ?_, fun p hp => ?_, by rw [pm.length_eq]; exact Nat.succ_le_succ g.len⟩
    · rw [et]
      rcases List.mem_cons.mp (pm.mem_iff.mp hp) with e | z
      · rw [e]; exact List.mem_append_right _ (List.mem_singleton.mpr rfl)
      · exact List.mem_append_left _ (g.sub p z)
    · rw [(pm.map (·.2)).mem_iff, List.map_cons]
      rw [et] at hp
      rcases List.mem_append.mp hp with z | z
      · exact List.mem_cons_of_mem _ (g.all p z)
      · rw [List.mem_singleton.mp z]; exact List.mem_cons_self
section
variable {P : Program} {w : World} {A : Around} {E : Value → Shared → Prop} {s : Shared}
theorem NSet.keep {h h' : Heap} {a : Addr} {L : List (Addr × NestedKey)} {es : Array (Int × Value)} {ep : Nat} {t : SetTable} (S : NSet P w h a L es ep t) (ha : ∀ o, h.get? a = some o → h'.get? a = some o) (hk : ∀ p ∈ L, (NK P w).is h' p.2 p.1) : NSet P w h' a L es ep t := by
  obtain ⟨o, ho, r⟩ := S.ob
  exact ⟨⟨o, ha o ho, r⟩, S.rows, S.tab, S.nd, hk, S.led, S.room, S.few⟩
/-- an empty set's object -/
abbrev newO (w : World) : Obj := { cls := .type "set", dict := none, data := .set #[] 0 (.fresh 0 0 (!w.params.followText "set-order")) }
theorem nset_new {h : Heap} {a : Addr} (ho : h.get? a = some (newO w)) : NSet P w h a [] #[] 0 (.fresh 0 0 (!w.params.followText "set-order")) where
  ob := ⟨_, ho, ⟨rfl, rfl, rfl⟩, rfl⟩
  rows := rfl
  tab := ⟨List.Pairwise.nil, rfl, rfl, .inl rfl, fun x hx => (by cases hx), fun i h j hi => (by simp at hi)⟩
  nd := List.nodup_nil
  key := fun p hp => (by cases hp)
  led := by
    show _ ∨ (!w.params.followText "set-order") = true
    cases w.params.followText "set-order"
    · exact .inr rfl
    · exact .inl rfl
  room := by
    show 0 * 5 < 7 * 3
    decide
  few := by
    show 0 < 64
    decide
/-- all things of an iterator are added -/
theorem fill_loop {I : Addr} {fp wr : List Addr} {G : Array GenState → Array GenState → Prop} {n : Nat} {Pv : Nat → Value → Prop} {St : Nat → Shared → Prop} {R : Result → Shared → Prop}
    (W : WalksS P w A.in1 I fp wr G n Pv St) (S : Addr) (hSf : S ∉ fp) (ks : List (Addr × NestedKey)) (hn : n = ks.length) (hfew : ks.length < 64) (hval : ∀ i v, Pv i v → ∃ p, ks[i]? = some p ∧ v = .ref p.1)
    (h0 : Heap) (hk : ∀ p ∈ ks, (NK P w).is h0 p.2 p.1) (hS0 : h0.get? S = none) (hw0 : ∀ b ∈ wr, h0.get? b = none) (hu : A.units + 12 < cLine) :
    ∀ (k i : Nat) (s : Shared), n - i = k → i ≤ n → St i s → (∀ b o, h0.get? b = some o → s.heap.get? b = some o) → (∃ L es ep t, NSet P w s.heap S L es ep t ∧ Got ks i L) →
      (∀ s' L es ep t, Moved (S :: wr) G s s' → NSet P w s'.heap S L es ep t → Got ks n L → (∀ b o, h0.get? b = some o → s'.heap.get? b = some o) → R (.ok (.ret .none)) s') →
      codeAny (model P w) A (.builtin "set.update.loop" ⟨[.ref S, .ref I], []⟩) R s := by
  have hSw : S ∉ wr := fun h => hSf (W.sub _ h)
  have hsub : ∀ b ∈ wr, b ∈ S :: wr := fun b hb => List.mem_cons_of_mem _ hb
  have keepM : ∀ {s s' : Shared}, Moved wr G s s' → (∀ b o, h0.get? b = some o → s.heap.get? b = some o) → ∀ b o, h0.get? b = some o → s'.heap.get? b = some o := fun hm hkp b o e =>
    hm.heap b o (fun hb => by rw [hw0 b hb] at e; cases e) (hkp b o e)
  intro k
  induction k with
  | zero =>
    intro i s hk' hi hst hkp ⟨L, es, ep, t, hS, g⟩ hR
    obtain rfl : i = n := by omega
    refine codeAny_builtin F.entry_set_update_loop ?_
    rw [Around.under_plainId F.plain_set_update_loop _]
    show wpAny _ A.in1 (pyNext (.ref I) >>= _) _ _ s
    refine wpAny_bind (W.done s _ _ hst fun s' hm => ?_)
    have hkp' := keepM hm hkp
    exact wpAny_pure (hR s' L es ep t (hm.mono hsub) (hS.keep (fun o e => hm.heap S o hSw e) fun p hp => key_keep (hk p (List.mem_of_mem_take (g.sub p hp))) hkp') g hkp')
  | succ k ih =>
    intro i s hk' hi hst hkp ⟨L, es, ep, t, hS, g⟩ hR
    have hlt : i < n := by omega
    refine codeAny_builtin F.entry_set_update_loop ?_
    rw [Around.under_plainId F.plain_set_update_loop _]
    show wpAny _ A.in1 (pyNext (.ref I) >>= _) _ _ s
    refine wpAny_bind (W.item i s _ _ hlt hst fun v s' hP hst' hm => ?_)
    obtain ⟨p, hp, rfl⟩ := hval i v hP
    have hkp' := keepM hm hkp
    have hS' := hS.keep (fun o e => hm.heap S o hSw e) fun q hq => key_keep (hk q (List.mem_of_mem_take (g.sub q hq))) hkp'
    have hx := key_keep (hk p (List.mem_of_getElem? hp)) hkp'
    show wpAny _ A.in1 (holding [Value.ref p.1] (setAdd S (.ref p.1)) >>= _) _ _ s'
    refine wpAny_bind (wpAny_holding ?_)
    unfold setAdd
    refine wpAny_holding ?_
    refine wpAny_bind ((NK P w).pyHash (by show A.in1.units + 8 < cLine; simp only [Around.in1_units]; omega) hx ?_)
    refine add_key (s := { s' with toks := s'.toks + (NK P w).draws p.2 }) hS' hx (by simp only [Around.in1_units]; omega) (by have := g.len; omega) fun b h' L' es' ep' t' hsb hS2 c1 c2 => ?_
    have g' := got_one g hp c1 c2
    have hkp2 : ∀ b o, h0.get? b = some o → h'.get? b = some o := fun b o e => (hsb.2 b (fun z => by rw [z, hS0] at e; cases e)).trans (hkp' b o e)
    refine wpAny_pure ⟨plainId_quiet F.plain_set_update_loop _, ih (i + 1) _ (by omega) hlt (W.frame _ s' _ _ hst' (Nat.le_add_right _ _) fun b hb o e => ?_) hkp2 ⟨L', es', ep', t', hS2, g'⟩ fun s'' L2 es2 ep2 t2 hm'' hS'' g'' hkp'' => ?_⟩
    · rw [hsb.2 b (fun h : b = S => hSf (by rw [← h]; exact hb))]; exact e
    · refine hR s'' L2 es2 ep2 t2 (Moved.trans W.gtrans ((hm.mono hsub).then_heap (Nat.le_add_right _ _) fun b o hb e => ?_) hm'') hS'' g'' hkp''
      rw [hsb.2 b (fun h : b = S => hb (by rw [h]; exact List.mem_cons_self))]; exact e
end
end NS
/-! set(xs), sorted(set(xs)) as rules. -/
namespace NS
open PySem PySem.Spec PyProof.Rows L2
section
variable {P : Program} {w : World} {A : Around} {E : Value → Shared → Prop} {s : Shared}
/-- set(xs) of a list -/
theorem call_setN {l : Addr} {items : Array Value} (ks : List (Addr × NestedKey)) {Q : Value → Shared → Prop} (hh : A.handled = none) (hl : s.heap.IsList l items) (hit : items.toList = ks.map fun p => Value.ref p.1)
    (hk : ∀ p ∈ ks, (NK P w).is s.heap p.2 p.1) (hfew : ks.length < 64) (hu : A.units + 16 < cLine)
    (h : ∀ (h' : Heap) (tk : Nat) L es ep t, NSet P w h' s.heap.objs.size L es ep t → Got ks ks.length L → (∀ b o, s.heap.get? b = some o → h'.get? b = some o) → Q (.ref s.heap.objs.size) { s with heap := h', toks := tk }) :
    wpAny (model P w) A (call (.type "set") [.ref l]) Q E s := by
  have hisz : items.size = ks.length := by rw [← Array.length_toList, hit, List.length_map]
  obtain ⟨c, tl, hmro⟩ := F.called_set.mro
  have hmade := F.called_set.made
  have hsub := F.called_set.sub
  refine wpAny_call (codeAny_of_tree ?_)
  show wpAny _ _ (callAny (.type "set") _) _ _ _
  refine wpAny_pure ⟨Code.quiet_builtin _ (by decide +kernel), codeAny_builtin F.entry_type_call ?_⟩
  rw [Around.under_plain (weight_type_call_type "set" [.ref l] []) rfl]
  have h1 := F.called_set.notType
  have h2 := F.called_set.canCreate
  have hct := F.typeCall_set_1 (.ref l)
  repeat (any_goals (first | assumption | wp_step))
  refine codeAny_mono (code_set_led1 (.ref l) (E := E) (Q₁ := fun obj s₁ => obj = .ref s.heap.objs.size ∧ s₁ = { s with heap := s.heap.push (newO w) }) ⟨rfl, rfl⟩) fun r s₁ hr => ?_
  cases r with
  | error e => exact hr
  | ok fl =>
    cases fl with
    | ret obj =>
      obtain ⟨rfl, rfl⟩ := hr
      have hS : (s.heap.push (newO w)).get? s.heap.objs.size = some (newO w) := Heap.get?_push_size _ rfl
      have hT : Shared.TypeIs { s with heap := s.heap.push (newO w) } (.ref s.heap.objs.size) "set" := ⟨_, hS, rfl⟩
      have hli := F.called_set.init.lookup
      have hbi := F.called_set.init.bind (.ref s.heap.objs.size)
      repeat (any_goals (first | assumption | wp_step))
      refine codeAny_mono (codeAny_call_builtin (R := wants (fun r s₂ => r = .none ∧ ∃ h' tk L es ep t, s₂ = { s with heap := h', toks := tk } ∧ NSet P w h' s.heap.objs.size L es ep t ∧ Got ks ks.length L ∧
          (∀ b o, s.heap.get? b = some o → h'.get? b = some o)) E) F.called_set.init.plain F.entry_set_init (check_set_init_1 hT ?_)) fun r₂ s₂ hr₂ => ?_
      · obtain ⟨ol, hol, hcl, nl, hdl⟩ := hl
        obtain ⟨ocls, odict, odata, oslots⟩ := ol
        simp only at hcl hdl
        subst hcl; subst hdl
        have hol' : (s.heap.push (newO w)).get? l = some { cls := .type "list", dict := odict, data := .seq items nl, slots := oslots } := Heap.get?_push_of_some _ hol
        have hsls := F.sub_list_set
        have hslf := F.sub_list_frozenset
        have hne : (Value.type "list" == Value.type "dict") = false := by decide
        have hl1 : (s.heap.push (newO w)).IsList l items := ⟨_, hol', rfl, nl, rfl⟩
        unfold Builtin.«set.__init__» noKeywords Builtin.Frozenset.updateFrom
        generalize hPI : pyIter = PI
        wp_walk
        subst hPI
        refine wpAny_pyIter_list hl1 (wpAny_bind (wpAny_runValue ?_))
        have hlS : l < s.heap.objs.size := Heap.lt_size hol
        have hz1 : (s.heap.push (newO w)).objs.size = s.heap.objs.size + 1 := Heap.size_push ..
        have none_of : ∀ b, s.heap.objs.size ≤ b → s.heap.get? b = none := fun b hb => by
          cases q : s.heap.get? b with
          | none => rfl
          | some o => exact absurd (Nat.lt_of_lt_of_le (Heap.lt_size q) hb) (Nat.lt_irrefl _)
        have hneI : l ≠ (s.heap.push (newO w)).objs.size := by rw [hz1]; exact Nat.ne_of_lt (Nat.lt_succ_of_lt hlS)
        have hSf : s.heap.objs.size ∉ [(s.heap.push (newO w)).objs.size, l] := by
          rw [hz1]
          simp only [List.mem_cons, List.not_mem_nil, or_false, not_or]
          exact ⟨Nat.ne_of_lt (Nat.lt_succ_self _), Nat.ne_of_gt hlS⟩
        refine fill_loop ((Walks.list (by simp [hh]) _ l hneI items).toS) s.heap.objs.size hSf ks hisz hfew (fun i v hv => ?_) s.heap hk (none_of _ (Nat.le_refl _)) (fun b hb => none_of b (by
            rw [List.mem_singleton.mp hb, hz1]
            omega)) (by simp only [Around.in1_units]; omega) (items.size - 0) 0 _ (by omega) (Nat.zero_le _)
          ⟨⟨_, Heap.get?_push_size _ rfl, rfl, rfl⟩, (hl1.push _)⟩ (fun b o e => Heap.get?_push_of_some _ (Heap.get?_push_of_some _ e)) ?_ ?_
        · have q : items.toList[i]? = some v := by rw [Array.getElem?_toList]; exact hv
          rw [hit, List.getElem?_map] at q
          obtain ⟨p, hq, e⟩ := Option.map_eq_some_iff.mp q
          exact ⟨p, hq, e.symm⟩
        · exact ⟨[], #[], 0, _, nset_new (Heap.get?_push_of_some _ hS), ⟨fun p h => (by cases h), fun p h => (by simp at h), Nat.le_refl _⟩⟩
        · intro s' L es ep t hm hS' g' hkp
          obtain ⟨h', g2, d', tk', os'⟩ := s'
          have eg : g2 = s.gens := hm.gens
          have ed : d' = s.drawn := hm.drawn
          have eo : os' = s.os := hm.os
          subst eg ed eo
          show wpAny _ _ _ _ _ _
          refine wpAny_pure ?_
          show wpAny _ _ (ret Value.none) _ _ _
          rw [hisz] at g'
          exact wpAny_pure ⟨rfl, h', tk', L, es, ep, t, rfl, hS', g', hkp⟩
      · cases r₂ with
        | error e => exact hr₂
        | ok fl₂ =>
          cases fl₂ with
          | ret r =>
            obtain ⟨rfl, h', tk, L, es, ep, t, rfl, hS', g', hk'⟩ := hr₂
            repeat (any_goals (first | assumption | wp_step))
            exact h _ _ _ _ _ _ hS' g' hk'
          | _ => exact hr₂.elim
    | _ => exact hr.elim
/-- a permutation of images is the image of a permutation -/
theorem perm_img {α β : Type} {f : α → β} {l m : List β} (h : l.Perm m) : ∀ L : List α, m = L.map f → ∃ L1 : List α, L1.Perm L ∧ l = L1.map f := by
  induction h with
  | nil =>
    intro L e
    cases L with
    | nil => exact ⟨[], .nil, rfl⟩
    | cons x L => cases e
  | cons x h ih =>
    intro L e
    cases L with
    | nil => cases e
    | cons y L =>
      rw [List.map_cons] at e
      injection e with e1 e2
      obtain ⟨L1, h1, h2⟩ := ih L e2
      exact ⟨y :: L1, h1.cons y, by rw [List.map_cons, e1, h2]⟩
  | swap x y l =>
    intro L e
    match L, e with
    | a :: b :: L, e =>
      simp only [List.map_cons] at e
      injection e with e1 e2
      injection e2 with e2 e3
      exact ⟨b :: a :: L, .swap .., by simp only [List.map_cons]; rw [e1, e2, e3]⟩
  | trans h1 h2 ih1 ih2 =>
    intro L e
    obtain ⟨L1, p1, e1⟩ := ih2 L e
    obtain ⟨L2, p2, e2⟩ := ih1 L1 e1
    exact ⟨L2, p2.trans p1, e2⟩
end
/-- a set's object -/
def setHO (P : Program) (w : World) (a : Addr) (L : List (Addr × NestedKey)) : HO := .ext fun h => ∃ (es : Array (Int × Value)) (ep : Nat) (t : SetTable), (∃ o, h.get? a = some o ∧ o.ExactSet ∧ o.data = .set es ep t) ∧ es.toList = L.map (rw_ w) ∧ TabOk t (L.map fun p => p.2.hash w) ∧ (L.map (·.2)).Nodup ∧
  (w.params.followText "set-order" = true ∨ t.led = true) ∧ L.length * 5 < t.mask * 3 ∧ L.length < 64
theorem setHO_ok {P : Program} {w : World} {H : Hp} {h : Heap} {a : Addr} {L : List (Addr × NestedKey)} {es : Array (Int × Value)} {ep : Nat} {t : SetTable} (S : NSet P w h a L es ep t) : ObjOk P w H h a (setHO P w a L) := by
  obtain ⟨o, ho, r⟩ := S.ob
  refine ⟨⟨es, ep, t, ⟨o, ho, r⟩, S.rows, S.tab, S.nd, S.led, S.room, S.few⟩, ⟨o, ho⟩, fun h1 h2 p k => ?_⟩
  obtain ⟨es', ep', t', ⟨o', ho', r'⟩, q'⟩ := p
  exact ⟨es', ep', t', ⟨o', k o' ho', r'⟩, q'⟩
def mkL : List V → List NestedKey → List (Addr × NestedKey)
  | .ref q :: vs, k :: ks => (q, k) :: mkL vs ks
  | _, _ => []
end NS
namespace DL
open PySem PySem.Spec PyProof.Rows L2 NS
/-- a set of the trees ks at p -/
def setM (pw : Wd) (p : Addr) (ks : List D) : MO := .raw (fun vs => setHO pw.P pw.w p (mkL vs (ks.map nkN))) ks
/-- ks: the trees of ds, each once -/
structure Once (ds ks : List D) : Prop where
  sub : ∀ k ∈ ks, k ∈ ds
  all : ∀ d ∈ ds, ∃ k ∈ ks, nkN k = nkN d
  nd : (ks.map nkN).Nodup
section
variable {K : PySem.W.Frag} {F H : Hp}
theorem mkL_refs : ∀ {ds : List D} {us : List V}, (∀ d ∈ ds, KeyD d) → Reps K F ds us → us = (mkL us (ds.map nkN)).map (fun p => V.ref p.1) ∧ (mkL us (ds.map nkN)).map (·.2) = ds.map nkN
  | [], us, _, h => by
    cases h.nil_inv
    exact ⟨rfl, rfl⟩
  | d :: ds, us, hk, h => by
    obtain ⟨u, us', rfl, h1, h2⟩ := h.consD_inv
    obtain ⟨⟨es, e⟩, _⟩ := hk d (List.mem_cons_self ..)
    rw [e] at h1
    obtain ⟨a, vs, rfl, _⟩ := rep_tup.mp h1
    obtain ⟨i1, i2⟩ := mkL_refs (fun x hx => hk x (List.mem_cons_of_mem _ hx)) h2
    constructor
    · show V.ref a :: us' = V.ref a :: (mkL us' (ds.map nkN)).map _
      rw [← i1]
    · show nkN d :: (mkL us' (ds.map nkN)).map (·.2) = _
      rw [i2] <;> rfl
theorem mkL_mem : ∀ {ds : List D} {us : List V}, Reps K F ds us → ∀ p ∈ mkL us (ds.map nkN), ∃ d ∈ ds, Rep K F d (.ref p.1) ∧ p.2 = nkN d
  | [], us, h, p, hp => by
    cases h.nil_inv
    cases hp
  | d :: ds, us, h, p, hp => by
    obtain ⟨u, us', rfl, h1, h2⟩ := h.consD_inv
    cases u with
    | ref a =>
      rcases List.mem_cons.mp hp with rfl | hp
      · exact ⟨d, List.mem_cons_self .., h1, rfl⟩
      · obtain ⟨d', h3, h4⟩ := mkL_mem h2 p hp
        exact ⟨d', List.mem_cons_of_mem _ h3, h4⟩
    | _ => cases hp
/-- what stands in a set, as trees -/
theorem trees_of {ds : List D} : ∀ {L : List (Addr × NestedKey)}, (∀ p ∈ L, ∃ d ∈ ds, Rep K F d (.ref p.1) ∧ p.2 = nkN d) → ∃ ks : List D, L = mkL (L.map fun p => V.ref p.1) (ks.map nkN) ∧ Reps K F ks (L.map fun p => V.ref p.1) ∧ (∀ k ∈ ks, k ∈ ds) ∧ ks.map nkN = L.map (·.2)
  | [], _ => ⟨[], rfl, .nil, (fun k hk => by cases hk), rfl⟩
  | p :: L, h => by
    obtain ⟨d, h1, h2, h3⟩ := h p (List.mem_cons_self ..)
    obtain ⟨ks, e1, e2, e3, e4⟩ := trees_of fun q hq => h q (List.mem_cons_of_mem _ hq)
    refine ⟨d :: ks, ?_, .cons h2 e2, fun k hk => ?_, by rw [List.map_cons, List.map_cons, e4, h3]⟩
    · show p :: L = (p.1, nkN d) :: mkL (L.map fun p => V.ref p.1) (ks.map nkN)
      rw [← e1, ← h3]
    · rcases List.mem_cons.mp hk with rfl | hk
      · exact h1
      · exact e3 k hk
end
theorem nodup_inj {α β : Type} {f : α → β} : ∀ {l : List α}, (l.map f).Nodup → ∀ {a b : α}, a ∈ l → b ∈ l → f a = f b → a = b
  | [], _, a, b, h, _, _ => by cases h
  | x :: l, hn, a, b, ha, hb, e => by
    rw [List.map_cons, List.nodup_cons] at hn
    rcases List.mem_cons.mp ha with e1 | h1 <;> rcases List.mem_cons.mp hb with e2 | h2
    · rw [e1, e2]
    · exact absurd (by rw [← e1, e]; exact List.mem_map_of_mem h2) hn.1
    · exact absurd (by rw [← e2, ← e]; exact List.mem_map_of_mem h1) hn.1
    · exact nodup_inj hn.2 h1 h2 e
theorem _root_.List.Nodup.of_map {α β : Type} {f : α → β} {l : List α} (h : (l.map f).Nodup) : l.Nodup := List.Pairwise.of_map f (fun _ _ hne e => hne (congrArg f e)) h
section
variable {X : Cx} {F0 : Hp}
theorem refs_val : ∀ {ks : List (Addr × NestedKey)} {us : List Value}, Vals (ks.map fun p => V.ref p.1) us → us = ks.map fun p => Value.ref p.1
  | [], _, .nil => rfl
  | p :: ks, _, .cons r t => by
    cases r
    rw [refs_val t] <;> rfl
/-- set(xs) -/
def dSetC (pw : Wd) : DRC := fun xs M Q => ∃ x ds, xs = [x] ∧ lsD M x = some ds ∧ (∀ d ∈ ds, KeyD d) ∧ ds.length < 64 ∧ ∀ p ks, M p = none → Once ds ks → Q (.obj p) (updM M p (setM pw p ks))
theorem cd_set (hc : X.calm = true) (hu : X.A.units + 64 < cLine) : CallR X (.type "set") (LRC X.K F0 (dSetC ⟨X.prog, X.w⟩)) := by
  intro pins s σ H vs us Q I rr hyp
  obtain ⟨xs, M, F, Qd, hF, r, hx, ⟨x, ds, rfl, hd, hk, hl, h⟩, fin⟩ := hyp
  obtain ⟨v, rfl, h1⟩ := hx.one
  obtain ⟨a, ws, rfl, hH, hr⟩ := lsD_rep r h1 hd
  obtain ⟨its, rv, pl, _⟩ := I.list (SqL.of hH)
  rw [Vals.ref1 rr]
  obtain ⟨e1, e2⟩ := mkL_refs hk hr
  have hmem := mkL_mem hr
  have hlen : (mkL ws (ds.map nkN)).length = ds.length := by
    have := congrArg List.length e2
    simpa using this
  rw [e1] at rv
  have hn := I.hok.fresh (Nat.le_refl s.heap.objs.size)
  refine call_setN (P := X.prog) (w := X.w) (mkL ws (ds.map nkN)) (I.ok.hd hc) pl.isList (by simpa using refs_val rv) (fun p hp => ?_) (by rw [hlen]; exact hl) (by omega) fun h' tk L es ep t S g k => ?_
  · obtain ⟨d, hd', hrd, ek⟩ := hmem p hp
    obtain ⟨q, eq, ko⟩ := keyOk r.fr (hk d hd') hrd
    cases eq
    rw [ek]
    exact ko.is I
  · have hL : ∀ p ∈ L, ∃ d ∈ ds, Rep X.K F d (.ref p.1) ∧ p.2 = nkN d := fun p hp => hmem p (List.mem_of_mem_take (g.sub p hp))
    obtain ⟨ks, k1, k2, k3, k4⟩ := trees_of hL
    refine ⟨.ref s.heap.objs.size, upd H s.heap.objs.size (setHO X.prog X.w s.heap.objs.size L), I.laid (t' := tk) k (Nat.le_refl _) (setHO_ok S), rfl, ?_⟩
    refine fin _ _ _ _ F (h s.heap.objs.size ks (r.free hn) ⟨k3, fun d hd' => ?_, by rw [k4]; exact S.nd⟩) (Same.refl F) (r.newX hn fun H' hH' => ⟨_, by rw [hH']; dsimp only; rw [← k1], k2⟩) (rep_obj.mpr rfl)
    have hin : nkN d ∈ (mkL ws (ds.map nkN)).map (·.2) := by rw [e2]; exact List.mem_map_of_mem hd'
    obtain ⟨p, hp, ep'⟩ := List.mem_map.mp hin
    have := g.all p (by rw [List.take_length]; exact hp)
    rw [← k4, ep'] at this
    obtain ⟨kk, h3, h4⟩ := List.mem_map.mp this
    exact ⟨kk, h3, h4⟩
/-- sorted(s), s a set -/
def dSortSet (pw : Wd) (A : Around) (own : Bool) : DRC := fun xs M Q => ∃ p ks, xs = [.obj p] ∧ M p = some (setM pw p ks) ∧ (∀ d ∈ ks, KeyD d) ∧ SortOk A ks ∧ ∀ ks' : List D, ks'.Perm ks → dNew own (srt ks') M Q
theorem cd_sortSet {own : Bool} (hc : X.calm = true) : CallR X (.builtin "sorted") (LRC X.K F0 (dSortSet ⟨X.prog, X.w⟩ X.A own)) := by
  intro pins s σ H vs us Q I rr hyp
  obtain ⟨xs, M, F, Qd, hF, r, hx, ⟨p, ks, rfl, hp, hkd, ⟨hpy, hal, hk, hz⟩, h⟩, fin⟩ := hyp
  obtain ⟨v, rfl, h1⟩ := hx.one
  cases rep_obj.mp h1
  obtain ⟨ws, hH, hr⟩ := r.mem p _ hp
  rw [Vals.ref1 rr]
  obtain ⟨e1, e2⟩ := mkL_refs hkd hr
  obtain ⟨⟨es, ep, t, ⟨o, ho, hex, hd⟩, hrows, tab, nd, led, room, few⟩, _⟩ := (show ObjOk X.prog X.w H s.heap p (setHO X.prog X.w p (mkL ws (ks.map nkN))) from I.hok p _ hH)
  refine Calls.call_function_entry PyProof.Rows.kind_sorted PyProof.Rows.plain_sorted PyProof.Rows.entry_sorted (PyProof.Rows.args_sorted1 _) ?_
  unfold Builtin.«sorted»
  refine wpAny_bind (m := checkCount "sorted" 1 1 _) (wpAny_pure ?_)
  refine wpAny_bind (collect_set (A := X.A.in1) (I.ok.hd hc) ⟨o, ho, hex.1, hd⟩ (fits_of tab hrows (by omega)) (by rw [rows_size hrows]; unfold scanBound; omega) tab.ris led fun s1 out k1 hz1 g1 o1 pm => ?_)
  have hes : es.toList.map (·.2) = (mkL ws (ks.map nkN)).map fun q => Value.ref q.1 := by
    rw [hrows, List.map_map] <;> rfl
  rw [hes] at pm
  obtain ⟨L1, p1, rfl⟩ := perm_img pm _ rfl
  have hL1 : ∀ q ∈ L1, ∃ d ∈ ks, Rep X.K F d (.ref q.1) ∧ q.2 = nkN d := fun q hq => mkL_mem hr q (p1.mem_iff.mp hq)
  obtain ⟨ks', t1, t2, t3, t4⟩ := trees_of hL1
  have hperm : ks'.Perm ks := by
    have q1 : (ks'.map nkN).Perm (ks.map nkN) := by
      rw [t4, ← e2]
      exact p1.map _
    have n1 : (ks.map nkN).Nodup := by rw [← e2]; exact nd
    have nk : ks.Nodup := n1.of_map
    have nk' : ks'.Nodup := (q1.nodup_iff.mpr n1).of_map
    refine (List.perm_ext_iff_of_nodup nk' nk).mpr fun d => ⟨t3 d, fun hd' => ?_⟩
    obtain ⟨d2, h2, h3⟩ := List.mem_map.mp (q1.mem_iff.mpr (List.mem_map_of_mem hd'))
    rw [← nodup_inj n1 (t3 d2 h2) hd' h3]
    exact h2
  have hlen : (L1.map fun q => Value.ref q.1).length ≤ sizeLine := by
    rw [List.length_map, p1.length_eq, sizeLine_eq]
    omega
  have z1 : Vals (L1.map fun q => V.ref q.1) (L1.map fun q => Value.ref q.1) := by
    generalize L1 = l
    induction l with
    | nil => exact .nil
    | cons q l ih => exact .cons rfl ih
  have hk1 : ∀ b u, H b = some u → ∃ o, s1.heap.get? b = some o → True := fun _ _ _ => ⟨o, fun _ => trivial⟩
  refine wpAny_bind (wpAny_newList ?_ hlen)
  have hoL : (s1.heap.push (seqObj "list" (L1.map fun q => Value.ref q.1).toArray 0)).get? s1.heap.objs.size = some (seqObj "list" (L1.map fun q => Value.ref q.1).toArray 0) := Heap.get?_push_size _ rfl
  have e := each_in (R' := fun (u : Value) (d : D) => ∃ v, RelV v u ∧ Rep X.K F d v) z1 t2 fun d _ u v h1 h2 => ⟨v, h1, h2⟩
  have er := each_in (R' := fun (u : Value) (d : D) => ∃ as, Reads s.heap u (encD d) as) z1 t2 fun d hd u v h1 h2 => by
    obtain ⟨y, hy⟩ := Option.isSome_iff_exists.mp (hpy d (t3 d hd)).1
    have ey : encD d = y := by unfold encD; rw [hy] <;> rfl
    rw [ey]
    exact Dp.reads I y v u (dp_of r.fr _ _ _ h2 hy) h1
  have er2 : PySem.W.EachIs (fun (u : Value) (d : D) => ∃ as, Reads (s1.heap.push (seqObj "list" (L1.map fun q => Value.ref q.1).toArray 0)) u (encD d) as ∧ s1.heap.objs.size ∉ as) (L1.map fun q => Value.ref q.1) ks' := er.mono fun u d ⟨as, q⟩ => ⟨as, PyProof.Rows.Reads.keeps (fun _ _ z => Heap.get?_push_of_some _ (k1 _ _ z)) q, fun z => by
    obtain ⟨o, ho⟩ := PyProof.On.reads_mem_get q _ z
    exact absurd (Nat.lt_of_lt_of_le (Heap.lt_size ho) hz1) (Nat.lt_irrefl _)⟩
  have sub : ∀ d ∈ ks'.map encD, d ∈ ks.map encD := fun d hd => by
    obtain ⟨d', h1, rfl⟩ := List.mem_map.mp hd
    exact List.mem_map_of_mem (t3 d' h1)
  refine wpAny_bind (wpAny_holding (PySem.W.list_sort_data (s := { s1 with heap := s1.heap.push (seqObj "list" (L1.map fun q => Value.ref q.1).toArray 0) }) hoL e er2 (fun d hd d' hd' => hal d (sub d hd) d' (sub d' hd')) (hk.imp (fun z d hd => z d (sub d hd)) (fun z d hd => z d (sub d hd))) (by rw [hperm.length_eq]; exact hz) (fun b hb => by have := (hpy b (t3 b hb)).2; show X.A.units + 1 + 1 + _ < _; omega) fun out ho eo => ?_))
  obtain ⟨ws', w1, w2⟩ := each_out eo
  obtain ⟨c, hcc⟩ := PyProof.Rows.sortedHeap_at (vs := L1.map fun q => Value.ref q.1) (out := out.toArray) hoL
  have hlen2 : ws'.length ≤ sizeLine := by rw [w1.length, ho, hperm.length_eq]; exact hz
  have hn : H s1.heap.objs.size = none := I.hok.fresh hz1
  have keep : ∀ b u, s.heap.get? b = some u → (PyProof.Rows.sortedHeap (s1.heap.push (seqObj "list" (L1.map fun q => Value.ref q.1).toArray 0)) s1.heap.objs.size (L1.map fun q => Value.ref q.1) out.toArray).get? b = some u := fun b u hb => by
    have q := k1 b u hb
    have hlt := Heap.lt_size q
    rw [PyProof.Rows.sortedHeap_old (Nat.ne_of_lt hlt) (by rw [size_push']; exact Nat.lt_succ_of_lt hlt)]
    exact Heap.get?_push_of_some _ q
  have J : Inv X pins σ (upd H s1.heap.objs.size (.lst ws')) { s with heap := PyProof.Rows.sortedHeap (s1.heap.push (seqObj "list" (L1.map fun q => Value.ref q.1).toArray 0)) s1.heap.objs.size (L1.map fun q => Value.ref q.1) out.toArray, gens := s1.gens, drawn := s1.drawn, toks := s1.toks } :=
    I.call (ch := []) (Un.laid keep hz1 hn) (I.hok.laid keep hz1 ⟨hlen2, out, c, w1, hcc⟩) (by rw [g1]; exact I.bare) (fun _ z => nomatch z)
  refine wpAny_pure ⟨_, rfl, .ref s1.heap.objs.size, upd H s1.heap.objs.size (.lst ws'), ?_, rfl, dNew_fin r w2 (h ks' hperm) fin hn⟩
  cases s1
  cases s
  cases o1
  exact J
end
end DL
/-! Displays {"a": x, ..}, dict(d), list(d.values()); sorted, list of any of these. -/
namespace DL
open PySem PySem.Spec PyProof.Rows L2
theorem _root_.L2.Room.u9 {k : Nat} {A : Around} (r : Room k A) : A.units + 9 < cLine := by have := r.un; omega
section
variable {X : Cx} {F0 : Hp} {pos : Pos} {own : Bool}
def dPairs : List (DTE × DTE) → DS → Mp → (List (D × D) → Mp → Prop) → Prop
  | [], _, M, Q => Q [] M
  | (tk, tv) :: r, σ, M, Q => tk σ M fun x M1 => tv σ M1 fun y M2 => dPairs r σ M2 fun ps M3 => Q ((x, y) :: ps) M3
structure DPs (X : Cx) (F0 : Hp) (pos : Pos) (keys : List (Option Expr)) (values : List Expr) (trs : List (DTE × DTE)) : Prop where
  run : PPs X pos keys values (trs.map fun t => (LE X.K F0 t.1, LE X.K F0 t.2))
theorem dps_nil : DPs X F0 pos [] [] [] := ⟨pps_nil⟩
theorem dps_cons {k v : Expr} {ks : List (Option Expr)} {vs : List Expr} {tk tv : DTE} {trs : List (DTE × DTE)} (hk : DE X F0 k tk) (hv : DE X F0 v tv) (hr : DPs X F0 pos ks vs trs) : DPs X F0 pos (some k :: ks) (v :: vs) ((tk, tv) :: trs) := ⟨pps_cons hk hv hr.run⟩
theorem lift_pairs {K : PySem.W.Frag} : ∀ {trs : List (DTE × DTE)} {σ : L2.St} {H : Hp} {σd : DS} {M : Mp} {F : Hp} {Q : List (V × V) → Hp → Prop} {Qd : List (D × D) → Mp → Prop}, Same F0 F → R K M F H → SRep K F σd σ → dPairs trs σd M Qd →
    (∀ ps M' vs H' F', Qd ps M' → Same F F' → R K M' F' H' → Reps K F' (ps.map (·.1)) (vs.map (·.1)) → Reps K F' (ps.map (·.2)) (vs.map (·.2)) → Q vs H') → tPairs (trs.map fun t => (LE K F0 t.1, LE K F0 t.2)) σ H Q
  | [], σ, H, σd, M, F, Q, Qd, hF, r, hS, h, fin => fin [] M [] H F h (Same.refl F) r .nil .nil
  | (tk, tv) :: trs, σ, H, σd, M, F, Q, Qd, hF, r, hS, h, fin => by
    refine ⟨σd, M, F, _, hF, r, hS, h, fun x M1 v H1 F1 q e1 r1 v1 => ?_⟩
    refine ⟨σd, M1, F1, _, hF.trans e1, r1, hS.mono e1, q, fun y M2 w H2 F2 q2 e2 r2 w2 => ?_⟩
    refine lift_pairs (hF.trans (e1.trans e2)) r2 (hS.mono (e1.trans e2)) q2 fun ps M3 vs H3 F3 q3 e3 r3 p1 p2 => ?_
    exact fin _ _ _ _ F3 q3 ((e1.trans e2).trans e3) r3 (.cons (v1.mono (e2.trans e3)) p1) (.cons (w2.mono e3) p2)
/-- {"a": x, ..}: the pairs one behind the other -/
def putAll (ps : List (D × D)) : List (D × D) := ps.foldl (fun acc kv => putDD acc kv.1 kv.2) []
def dDisp (pw : Wd) (trs : List (DTE × DTE)) : DTE := fun σ M Q => ∀ p, M p = none → dPairs trs σ (updM M p (.dic pw [])) fun ps M2 => M2 p = some (.dic pw []) ∧ (∃ kk : List Key, ps.map (·.1) = kk.map dK) ∧ ps.length ≤ 15 ∧ Q (.obj p) (updM M2 p (.dic pw (putAll ps)))
theorem entK_all {K : PySem.W.Frag} {F : Hp} : ∀ {more : List (Key × V)} {ms : List (D × D)} {xs : List (Key × V)} {kvs : List (D × D)}, EntK K F ms more → EntK K F kvs xs → EntK K F (ms.foldl (fun acc kv => putDD acc kv.1 kv.2) kvs) (mergeK xs more)
  | [], [], xs, kvs, _, h => h
  | [], _ :: _, _, _, h, _ => h.elim
  | _ :: _, [], _, _, h, _ => h.elim
  | m :: more, d :: ms, xs, kvs, h, h2 => by
    obtain ⟨e1, r1, h1⟩ := h
    show EntK K F (ms.foldl _ (putDD kvs d.1 d.2)) (mergeK (putK xs m.1 m.2) more)
    rw [e1]
    exact entK_all h1 (entK_put r1 h2)
theorem de_disp {keys : List (Option Expr)} {values : List Expr} {trs : List (DTE × DTE)} (h : DPs X F0 pos keys values trs) (hall : keys.all (·.isSome) = true := by rfl) (hl : keys.length = values.length := by rfl) (h0 : keys ≠ [] := by simp)
    (h15 : keys.length ≤ 15 := by decide) : DE X F0 (.Dict keys values pos) (dDisp ⟨X.prog, X.w⟩ trs) :=
  PE_imp (pe_disp h.run hall hl h0 h15) fun σ H Q ⟨σd, M, F, Qd, hF, r, hS, h, fin⟩ => fun p hp => by
    have hM := r.free hp
    have r1 : R X.K (updM M p (.dic ⟨X.prog, X.w⟩ [])) F (upd H p (.dK [])) := r.newX hp fun H' hH' => ⟨[], [], by rw [hH']; exact ⟨rfl, .inl ⟨[], rfl, rfl⟩⟩, .nil, .nil⟩
    refine lift_pairs hF r1 hS (h p hM) fun ps M2 vs H2 F2 ⟨q0, ⟨kk, ek⟩, hz, q⟩ e2 r2 p1 p2 => ?_
    obtain ⟨kl, vl, hd, g1, g2⟩ := r2.mem p _ q0
    cases g1.nil_inv
    cases g2.nil_inv
    have hH2 : H2 p = some (.dK []) := by
      obtain ⟨_, ⟨kk0, e0, e1⟩ | ⟨hne, _⟩⟩ := hd
      · cases kk0 with
        | nil => exact e1
        | cons _ _ => cases e0
      · exact absurd rfl hne
    have ekv : vs.map (·.1) = kk.map kV := by
      have : ∀ {kk : List Key} {us : List V}, Reps X.K F2 (kk.map dK) us → us = kk.map kV := by
        intro kk
        induction kk with
        | nil => intro us h; exact h.nil_inv
        | cons k kk ih =>
          intro us h
          obtain ⟨u, us', rfl, h1, h2⟩ := Reps.consD_inv h
          rw [ih h2, keyD_rep h1 (show keyD (dK k) = some k by cases k <;> rfl)] <;> rfl
      exact this (by rw [← ek]; exact p1)
    have hlen : kk.length = vs.length := by
      have := congrArg List.length ekv
      simpa using this.symm
    have evs : vs = (kk.zip (vs.map (·.2))).map fun kv => (kV kv.1, kv.2) := by
      clear ek p1 p2
      revert kk
      induction vs with
      | nil =>
        intro kk e h
        cases kk with
        | nil => rfl
        | cons _ _ => cases h
      | cons v vs ih =>
        intro kk e h
        cases kk with
        | nil => cases h
        | cons k kk =>
          simp only [List.map_cons, List.cons.injEq] at e
          simp only [List.map_cons, List.zip_cons_cons]
          rw [← e.1]
          have := ih kk e.2 (by simpa using h)
          rw [← this]
    have hent : EntK X.K F2 ps (kk.zip (vs.map (·.2))) := entK_of ek p2
    refine ⟨hH2, kk.zip (vs.map (·.2)), evs, ?_, fin _ _ _ _ F2 q e2 (r2.setX q0 fun H' hH' => ?_) (rep_obj.mpr rfl)⟩
    · rw [← hent.len]
      exact hz
    · have := sh_K (pw := ⟨X.prog, X.w⟩) (a := p) (entK_all hent (kvs := []) (xs := []) trivial)
      obtain ⟨kl, vl, h1, h2, h3⟩ := this
      exact ⟨kl, vl, by rw [hH']; exact h1, h2, h3⟩
/-- dict(d), the keys ints and texts -/
def dDictC (pw : Wd) : DRC := fun xs M Q => ∃ x kvs, xs = [x] ∧ DcIs pw M x kvs ∧ (∃ kk : List Key, kvs.map (·.1) = kk.map dK) ∧ ∀ p, M p = none → Q (.obj p) (updM M p (.dic pw kvs))
theorem cd_dict : CallR X (.type "dict") (LRC X.K F0 (dDictC ⟨X.prog, X.w⟩)) := by
  refine CallR_imp call_dictD fun vs H Q ⟨xs, M, F, Qd, hF, r, hx, ⟨x, kvs, exs, hd, ⟨kk, ek⟩, h⟩, fin⟩ => ?_
  subst exs
  obtain ⟨v, rfl, h1⟩ := hx.one
  obtain ⟨a, rfl, sh⟩ := dc_rep r h1 hd
  have hk : ∃ xs : List (Key × V), Rd H a (.dK xs) ∧ EntK X.K F kvs xs := by
    rcases sh with sh | ⟨hne, hkd, _⟩
    · exact sh
    · exfalso
      cases kvs with
      | nil => exact hne rfl
      | cons kv kvs =>
        obtain ⟨⟨ds, e2⟩, _⟩ := hkd kv (List.mem_cons_self ..)
        cases kk with
        | nil => cases ek
        | cons k2 kk =>
          rw [List.map_cons, List.map_cons] at ek
          injection ek with e3 e4
          rw [e2] at e3
          cases k2 <;> cases e3
  obtain ⟨xs, p1, p2⟩ := hk
  refine ⟨a, xs, rfl, p1, fun p hp => ?_⟩
  obtain ⟨kl, vl, q1, q2, q3⟩ := sh_K (pw := ⟨X.prog, X.w⟩) (a := p) p2
  exact fin _ _ _ _ F (h p (r.free hp)) (Same.refl F) (r.newX hp fun H' hH' => ⟨kl, vl, by rw [hH']; exact q1, q2, q3⟩) (rep_obj.mpr rfl)
/-- sorted of a row, a dict, a set; list of a row, a dict -/
def dSortAny (pw : Wd) (A : Around) (own : Bool) : DRC := fun xs M Q => dSortD A own xs M Q ∨ dSortX pw A own xs M Q ∨ dSortSet pw A own xs M Q
theorem lrc_or {K : PySem.W.Frag} {r r' : DRC} {vs : List V} {H : Hp} {Q : VK} (h : LRC K F0 (fun xs M Q => r xs M Q ∨ r' xs M Q) vs H Q) : LRC K F0 r vs H Q ∨ LRC K F0 r' vs H Q := by
  obtain ⟨xs, M, F, Qd, hF, hr, hx, h | h, fin⟩ := h
  · exact .inl ⟨xs, M, F, Qd, hF, hr, hx, h, fin⟩
  · exact .inr ⟨xs, M, F, Qd, hF, hr, hx, h, fin⟩
theorem CallR_or {f : Value} {r r' : List V → Hp → VK → Prop} (h : CallR X f r) (h' : CallR X f r') : CallR X f (fun x H Q => r x H Q ∨ r' x H Q) := fun pins s σ H x us Q I rx q => q.elim (h pins s σ H x us Q I rx) (h' pins s σ H x us Q I rx)
theorem cd_sortAny (hc : X.calm = true) : CallR X (.builtin "sorted") (LRC X.K F0 (dSortAny ⟨X.prog, X.w⟩ X.A own)) :=
  CallR_imp (CallR_or cd_sortD (CallR_or (cd_sortedX hc) (cd_sortSet hc))) fun vs H Q h => (lrc_or h).imp id lrc_or
def dListAny (pw : Wd) (own : Bool) : DRC := fun xs M Q => dListC own xs M Q ∨ dListX pw own xs M Q
theorem cd_listAny (hc : X.calm = true) : CallR X (.type "list") (LRC X.K F0 (dListAny ⟨X.prog, X.w⟩ own)) :=
  CallR_imp (CallR_or cd_list (cd_listX hc)) fun vs H Q h => lrc_or h
end
end DL
/-! list(d.values()). -/
namespace DL
open PySem PySem.Spec PyProof.Rows L2 PySem.W
section
variable {X : Cx} {F0 : Hp} {own : Bool}
/-- a view of values of the dict at d -/
def vwO (r d : Addr) : HO := .ext fun h => h.IsValuesView r d
theorem vw_ok {P : Program} {w : World} {H : Hp} {h : Heap} {r d : Addr} (v : h.get? r = some { cls := .type "dict_values", data := .fields #[.ref d] }) : ObjOk P w H h r (vwO r d) :=
  ⟨⟨_, v, rfl, rfl⟩, ⟨_, v⟩, fun h1 h2 ⟨o, e, q⟩ k => ⟨o, k o e, q⟩⟩
/-- d.values() -/
def tVw (pw : Wd) (td : TE) : TE := fun σ H Q => td σ H fun x H1 => ∃ (d : Addr) (u : DX2), x = V.ref d ∧ Rd H1 d (u.ho pw d) ∧ ∀ r, H1 r = none → Q (.ref r) (upd H1 r (vwO r d))
theorem pe_values {e : Expr} {apos mpos : Pos} {td : TE} (he : PE X e td) (hbase : attributeBase e "values" X.env (eval e X.env) = eval e X.env := by rfl) (hline : (apos.endLine == mpos.line) = true := by rfl) :
    PE X (.Call (.Attribute e "values" apos) [] [] mpos) (tVw ⟨X.prog, X.w⟩ td) := by
  refine ⟨fun pins s σ H Q I h => ?_⟩
  refine wpAny_Call_method0_late hbase hline (thn (he.run pins s σ H _ I h) fun v s1 ⟨x, H1, I1, r1, d, u, ex, hd, q⟩ => ?_)
  subst ex
  obtain rfl : v = Value.ref d := r1
  obtain ⟨hs, hz, ob, es, ep, ho, hx, hdt, he2⟩ := ents_ok (rd_of I1.hok hd)
  refine ⟨"dict", "dict.values", F.plainAttrs_dict, F.slot_dict_values, F.type_dict_values, ⟨ob, ho, hx.1⟩, fun b e => ?_, Calls.callWith_builtin rfl (PySem.evalArgs_none ?_)⟩
  · cases e
    exact ⟨ob, ho, hx.2.1⟩
  refine call_meetsIn F.slot_dict_values ⟨ob, ho, hx.1⟩ F.entry_dict_values (F.args_dict_values_1 _) (meets_dict_values_raw (prog := X.prog) (w := X.w) d hs) ⟨⟨es, ep, ob, ho, hx, hdt⟩, ?_⟩
  exact ⟨.ref s1.heap.objs.size, upd H1 s1.heap.objs.size (vwO s1.heap.objs.size d), I1.laid (t' := s1.toks) (fun b o e => Heap.get?_push_of_some _ e) (Nat.le_refl _) (vw_ok (Heap.get?_push_size _ rfl)), rfl, q _ (I1.hok.fresh (Nat.le_refl _))⟩
/-- list of such a view -/
theorem call_listVw (hc : X.calm = true) : CallR X (.type "list") (fun xs H Q => ∃ (r d : Addr) (u : DX2), xs = [V.ref r] ∧ H r = some (vwO r d) ∧ Rd H d (u.ho ⟨X.prog, X.w⟩ d) ∧
    ∀ p vs, H p = none → vs.length = u.len → (∀ i v, vs[i]? = some v → ∃ k, u.at_ i k v) → Q (.ref p) (upd H p (.lst vs))) := by
  intro pins s σ H xs us Q I rr h
  obtain ⟨r, d, u, rfl, hv, hd, q⟩ := h
  obtain ⟨u0, rfl, rx⟩ := rr.one
  cases rx
  obtain ⟨hs, hz, ob, es, ep, ho, hx, hdt, he⟩ := ents_ok (rd_of I.hok hd)
  have hvv : s.heap.IsValuesView r d := (show ObjOk X.prog X.w H s.heap r (vwO r d) from I.hok r _ hv).1
  refine PySem.W.kdl_call (KdlSrc.rawValues (prog := X.prog) (w := X.w) (r := r) (d := d) (es := es) (ep := ep)) (I.ok.hd hc) ⟨hvv, ob, ho, hx, hdt⟩ (by rw [he.size]; exact hz) fun h' tk acc c' hk hD hacc => ?_
  obtain ⟨zs, z1, z2⟩ : ∃ zs : List V, Vals zs acc.toList ∧ ∀ i v, zs[i]? = some v → ∃ k, u.at_ i k v := by
    have key : ∀ (us : List Value) (n : Nat), (∀ (j : Nat) (w : Value), us[j]? = some w → ∃ k v, u.at_ (n + j) k v ∧ RelV v w) → ∃ zs : List V, Vals zs us ∧ ∀ i v, zs[i]? = some v → ∃ k, u.at_ (n + i) k v := by
      intro us
      induction us with
      | nil => exact fun n _ => ⟨[], .nil, by simp⟩
      | cons w us ih =>
        intro n h
        obtain ⟨k, v, h1, h2⟩ := h 0 w rfl
        obtain ⟨zs, h3, h4⟩ := ih (n + 1) fun j w' hj => by
          obtain ⟨k', v', q1, q2⟩ := h (j + 1) w' (by simpa using hj)
          exact ⟨k', v', by rw [show n + 1 + j = n + (j + 1) by omega]; exact q1, q2⟩
        refine ⟨v :: zs, .cons h2 h3, fun i x hx => ?_⟩
        cases i with
        | zero =>
          simp at hx
          subst hx
          exact ⟨k, h1⟩
        | succ i =>
          obtain ⟨k', q1⟩ := h4 i x (by simpa using hx)
          exact ⟨k', by rw [show n + (i + 1) = n + 1 + i by omega]; exact q1⟩
    obtain ⟨zs, h1, h2⟩ := key acc.toList 0 fun j w hj => by
      obtain ⟨hi, e⟩ := hacc.2 j w (by rw [← Array.getElem?_toList]; exact hj)
      obtain ⟨k, v, q1, q2, q3⟩ := he.at_ j es[j] (Array.getElem?_eq_getElem hi)
      exact ⟨k, v, by rw [Nat.zero_add]; exact q1, by rw [e]; exact q3⟩
    exact ⟨zs, h1, fun i v hv => by obtain ⟨k, hk⟩ := h2 i v hv; rw [Nat.zero_add] at hk; exact ⟨k, hk⟩⟩
  have hzl : zs.length = u.len := by rw [z1.length, Array.length_toList, hacc.1, he.size]
  refine ⟨.ref _, upd H s.heap.objs.size (.lst zs), I.laid (t' := tk) hk (Nat.le_refl _) ⟨?_, acc.toList, c', z1, by rw [Array.toArray_toList]; exact hD⟩, rfl, q _ _ (I.hok.fresh (Nat.le_refl _)) hzl z2⟩
  rw [hzl]
  exact hz
theorem ent_vals {K : PySem.W.Frag} {F : Hp} {u : DX2} {kvs : List (D × D)} (h : u.Ent K F kvs) {vs : List V} (hl : vs.length = u.len) (hv : ∀ i v, vs[i]? = some v → ∃ k, u.at_ i k v) : Reps K F (kvs.map (·.2)) vs := by
  have hlen : vs.length = (kvs.map (·.2)).length := by rw [hl, List.length_map, ent_len h]
  have hev : ∀ (i : Nat) (v : V), vs[i]? = some v → ∃ d, (kvs.map (·.2))[i]? = some d ∧ Rep K F d v := fun i v hi => by
    obtain ⟨k, hk⟩ := hv i v hi
    obtain ⟨kv, h1, _, h3⟩ := ent_get h hk
    exact ⟨kv.2, by rw [List.getElem?_map, h1] <;> rfl, h3⟩
  generalize kvs.map (·.2) = ds at hlen hev
  clear hl hv
  induction vs generalizing ds with
  | nil =>
    cases ds with
    | nil => exact .nil
    | cons _ _ => simp at hlen
  | cons v vs ih =>
    cases ds with
    | nil => simp at hlen
    | cons d ds =>
      obtain ⟨d', h1, h2⟩ := hev 0 v rfl
      simp at h1
      subst h1
      exact .cons h2 (ih ds (by simpa using hlen) fun i v' hi => by
        obtain ⟨d', q1, q2⟩ := hev (i + 1) v' (by simpa using hi)
        exact ⟨d', by simpa using q1, q2⟩)
def dListV (pw : Wd) (own : Bool) (te : DTE) : DTE := fun σ M Q => te σ M fun x M1 => ∃ kvs, DcIs pw M1 x kvs ∧ dNew own (kvs.map (·.2)) M1 Q
theorem de_listV {e : Expr} {te : DTE} {p pos apos mpos : Pos} (hc : X.calm = true) (hg : Gl X "list") (hm : X.mg "list" = none) (he : DE X F0 e te) (hbase : attributeBase e "values" X.env (eval e X.env) = eval e X.env := by rfl) (hline : (apos.endLine == mpos.line) = true := by rfl)
    (na : starEach [Expr.Call (.Attribute e "values" apos) [] [] mpos] X.env = (false, eval (Expr.Call (.Attribute e "values" apos) [] [] mpos) X.env) :: starEach [] X.env := by rfl) :
    DE X F0 (.Call (.Name "list" p) [.Call (.Attribute e "values" apos) [] [] mpos] [] pos) (dListV ⟨X.prog, X.w⟩ own te) :=
  PE_imp (pe_callTy (call_listVw hc) hg hm (by decide +kernel) (pa_cons (pe_values he hbase hline) pa_nil na) (he := na)) fun σ H Q ⟨σd, M, F, Qd, hF, r, hS, h, fin⟩ => by
    refine ⟨σd, M, F, _, hF, r, hS, h, fun x M1 v H1 F1 ⟨kvs, hd, q⟩ e1 r1 v1 => ?_⟩
    obtain ⟨a, rfl, sh⟩ := dc_rep r1 v1 hd
    obtain ⟨u, hr, hu⟩ := sh_x2 sh
    refine ⟨a, u, rfl, hr, fun r' hr' => ?_⟩
    have e2 := same_upd (o := vwO r' a) (r1.freeF hr')
    have hr2 := r1.newF hr' (vwO r' a)
    refine ⟨r', a, u, rfl, upd_same, ?_, fun p vs hp hl hv => ?_⟩
    · rcases hr with hr | ⟨o, hr⟩
      · exact .inl (by rw [upd_ne (fun e => by rw [e, hr'] at hr; cases hr)]; exact hr)
      · exact .inr ⟨o, by rw [upd_ne (fun e => by rw [e, hr'] at hr; cases hr)]; exact hr⟩
    · exact dNew_fin hr2 (ent_vals hu hl hv |>.mono e2) q (fun x M' v H' F' q' e' r'' v'' => fin x M' v H' F' q' ((e1.trans e2).trans e') r'' v'') hp
theorem de_listVP {pw : Wd} {e : Expr} {te : DTE} {p pos apos mpos : Pos} (ep : pw = ⟨X.prog, X.w⟩) (hc : X.calm = true) (hg : Gl X "list") (hm : X.mg "list" = none) (he : DE X F0 e te) (hbase : attributeBase e "values" X.env (eval e X.env) = eval e X.env := by rfl) (hline : (apos.endLine == mpos.line) = true := by rfl)
    (na : starEach [Expr.Call (.Attribute e "values" apos) [] [] mpos] X.env = (false, eval (Expr.Call (.Attribute e "values" apos) [] [] mpos) X.env) :: starEach [] X.env := by rfl) :
    DE X F0 (.Call (.Name "list" p) [.Call (.Attribute e "values" apos) [] [] mpos] [] pos) (dListV pw own te) := by
  subst ep
  exact de_listV hc hg hm he hbase hline na
/-- the dict is locked while a statement runs that goes on behind -/
def dLockS (pw : Wd) (t : DTS) : DTS := fun D σ M => ∃ p kvs, M p = some (.dic pw kvs) ∧ ∀ od u, t { nx := fun σ' M' => M' p = some (.lck od u pw kvs) ∧ D.nx σ' (updM M' p (.dic pw kvs)), rt := fun _ _ => False } σ (updM M p (.lck od u pw kvs))
theorem ds_lock {st : Stmt} {t : DTS} (h : DSt X F0 st t) : DSt X F0 st (dLockS ⟨X.prog, X.w⟩ t) :=
  PS_imp (ps_lock h) fun D σ H ⟨σd, M, F, Dd, hF, r, hS, ⟨p, kvs, hp, h⟩, fin⟩ => by
    obtain ⟨kl, vl, h1, h2, h3⟩ := r.mem p _ hp
    obtain ⟨u, hu⟩ := h1.there
    have mu : Mut (some u) := by
      rw [hu] at h1
      obtain ⟨_, ⟨kk, _, e⟩ | ⟨_, _, e⟩⟩ := h1
      · cases e; exact trivial
      · cases e; exact trivial
    rw [hu] at h1
    refine ⟨p, u, hu, mu, fun od => ⟨σd, _, F, _, hF, r.setX (mo2 := .lck od u ⟨X.prog, X.w⟩ kvs) hp fun H' hH' => ⟨kl, vl, hH', h1, h2, h3⟩, hS, h od u, ⟨fun σ2 M1 σ3 H1 F1 q e1 r1 s1 => ?_, fun _ _ _ _ _ q => q.elim, fun _ _ _ _ _ q => q.elim, fun _ _ _ _ _ q => q.elim⟩⟩⟩
    obtain ⟨q1, q2⟩ := q
    obtain ⟨kl', vl', g0, g1, g2, g3⟩ := r1.mem p _ q1
    exact ⟨g0, fin.nx _ _ _ _ F1 q2 e1 (r1.setX q1 fun H' hH' => ⟨kl', vl', by rw [hH']; exact g1, g2, g3⟩) s1⟩
/-- len of a dict -/
theorem meets_len_raw {P : Program} {w : World} (d : Addr) (hd : (d == sysModules) = false) :
    MeetsIn P w (Builtin.«dict.__len__» ⟨[.ref d], []⟩) (fun _ R s => ∃ o es ep, s.heap.get? d = some o ∧ o.data = .dict es ep ∧ R (.ok (.ret (.int es.size s.toks))) { s with toks := s.toks + 1 }) :=
  .of_wp fun A R s ⟨o, es, ep, ho, hdat, h⟩ => by
    show wpAny _ _ (dictSize d >>= _) _ _ s
    unfold dictSize
    refine wpAny_bind (wpAny_bind (wpAny_dictEntries ho hdat (wpAny_pure ?_)))
    show wpAny _ _ (Builtin.Dict.pendingCount d >>= _) _ _ s
    refine wpAny_bind (wpAny_pendingCount_other hd ?_)
    refine wpAny_ret_mkInt ?_
    rw [Nat.add_zero]; exact h
theorem len_body_raw {P : Program} {w : World} {A : Around} {E : Value → Shared → Prop} {s : Shared} {d : Addr} {o : Obj} {es : Array DictEntry} {ep : Nat} {Q : Value → Shared → Prop} (hd : (d == sysModules) = false) (ho : s.heap.get? d = some o) (hx : o.ExactDict) (hdat : o.data = .dict es ep) (hfit : (es.size : Int) < 2 ^ 63)
    (h : Q (.int es.size (s.toks + 1)) { s with toks := s.toks + 1 + 1 }) : wpAny (model P w) A (Builtin.«len» ⟨[.ref d], []⟩) (fun fin s' => ∃ r, fin = .done (.ret r) ∧ Q r s') E s := by
  unfold Builtin.«len»
  refine wpAny_bind (m := oneArg "len" _) (wpAny_pure ?_)
  refine wpAny_bind (m := callSpecial? (.ref d) (Str.ofString "__len__")) (wpAny_callSpecial?_slot (name := Str.ofString "__len__") (T := "dict") ⟨o, ho, hx.1⟩ F.slot_dict_len
    (call_meetsIn F.slot_dict_len ⟨o, ho, hx.1⟩ F.entry_dict_len (F.args_dict_len_1 _) (meets_len_raw d hd) ⟨o, es, ep, ho, hdat, ?_⟩))
  show wpAny _ _ _ _ _ { s with toks := s.toks + 1 }
  refine wpAny_bind (wpAny_holding (wpAny_pure ?_))
  refine wpAny_bind (wpAny_letGo ?_)
  show wpAny _ _ (if ((es.size : Nat) : Int) < 0 then _ else _) _ _ _
  rw [if_neg (by omega)]
  show wpAny _ _ (if ((es.size : Nat) : Int) ≥ 2 ^ 63 then _ else _) _ _ _
  rw [if_neg (by omega)]
  exact wpAny_bind (wpAny_mkInt (wpAny_pure ⟨_, rfl, h⟩))
def dLenX (pw : Wd) : DRC := fun xs M Q => ∃ x kvs, xs = [x] ∧ DcIs pw M x kvs ∧ Q (.int ((kvs.length : Nat) : Int)) M
theorem cd_lenX : CallR X (.builtin "len") (LRC X.K F0 (dLenX ⟨X.prog, X.w⟩)) := by
  intro pins s σ H vs us Q I rr hyp
  obtain ⟨xs, M, F, Qd, hF, r, hx, ⟨x, kvs, rfl, hd, h⟩, fin⟩ := hyp
  obtain ⟨v, rfl, h1⟩ := hx.one
  obtain ⟨a, rfl, sh⟩ := dc_rep r h1 hd
  obtain ⟨u, hr, hu⟩ := sh_x2 sh
  obtain ⟨q1, q2, ob, es, ep, q3, q4, q5, he⟩ := ents_ok (rd_of I.hok hr)
  rw [Vals.ref1 rr]
  have hl := line63
  have hs : sizeLine = 16777216 := sizeLine_eq
  have hz := he.size
  refine Calls.call_function_entry kind_len plain_len entry_len (args_len1 _) (len_body_raw q1 q3 q4 q5 (by rw [hz]; omega) ?_)
  rw [hz, ← ent_len hu]
  exact ⟨.int ((kvs.length : Nat) : Int), H, I.tok _, ⟨_, rfl⟩, fin _ _ _ _ F h (Same.refl F) r (rep_int.mpr rfl)⟩
/-- max(xs), xs a list of ints that nobody changes any more -/
def dMaxL : DRC := fun xs M Q => ∃ ns : List Int, xs = [.lst (ns.map D.int)] ∧ 0 < ns.length ∧ ∀ m, m ∈ ns → (∀ y, y ∈ ns → y ≤ m) → Q (.int m) M
theorem reps_ints {K : PySem.W.Frag} {F : Hp} : ∀ {ns : List Int} {vs : List V}, Reps K F (ns.map D.int) vs → vs = ns.map V.int
  | [], vs, h => h.nil_inv
  | n :: ns, vs, h => by
    obtain ⟨v, vs', rfl, h1, h2⟩ := h.consD_inv
    cases rep_int.mp h1
    rw [reps_ints h2] <;> rfl
theorem cd_maxL (hc : X.calm = true) : CallR X (.builtin "max") (LRC X.K F0 dMaxL) := by
  refine CallR_imp (cr_max hc) fun vs H Q ⟨xs, M, F, Qd, hF, r, hx, ⟨ns, exs, hn, h⟩, fin⟩ => ?_
  subst exs
  obtain ⟨v, rfl, h1⟩ := hx.one
  obtain ⟨a, us, rfl, ha, hr⟩ := rep_lst.mp h1
  have e := reps_ints hr
  subst e
  exact ⟨a, ns, rfl, SqL.of (r.fr _ _ ha), hn, fun m h2 h3 => fin.go (h m h2 h3) r (rep_int.mpr rfl)⟩
end
/-- each item by its place, nothing changed: where g gives something, this -/
theorem lcg_idx {own : Bool} {put : D → DS → Option DS} {wi : DTI} {tt : DTT} {te : DTE} {σ : DS} {M : Mp} {Q : DK} (ds : List D) (St : Mp → Prop) (g : Nat → Option D) (hwi : ∀ Kd : List D → (Mp → Prop) → Mp → Prop, Kd ds St M → wi σ M Kd) (hz : ds.length ≤ sizeLine) (hst : ∀ a o, M a = none → St (updM M a o))
    (h : ∀ i d, ds[i]? = some d → ∃ σ2, put d σ = some σ2 ∧ ∀ M', (∀ a o, M a = some o → M' a = some o) → (∀ Q' : Bool → Mp → Prop, Q' (g i).isSome M' → tt σ2 M' Q') ∧ (∀ y, g i = some y → ∀ Q' : DK, Q' y M' → te σ2 M' Q')) (q : dNew own ((List.range ds.length).filterMap g) M Q) : dLcG own put wi tt te σ M Q := by
  refine hwi _ fun a ha => ?_
  refine ⟨fun i M' => M' = updM M a (.lst ((List.range i).filterMap g)), by simp, ⟨fun i M' w _ => ?_, fun i d M' hd w => ?_⟩, fun M' w => ?_⟩
  · dsimp only at w
    rw [w]
    exact hst a _ ha
  · dsimp only at w
    have hi : i < ds.length := (List.getElem?_eq_some_iff.mp hd).1
    obtain ⟨σ2, hp, hk⟩ := h i d hd
    obtain ⟨k1, k2⟩ := hk M' fun b o hb => by rw [w, updM_ne (neM hb ha)]; exact hb
    refine ⟨σ2, hp, k1 _ ?_⟩
    have et : (List.range (i + 1)).filterMap g = (List.range i).filterMap g ++ (g i).toList := by
      rw [List.range_succ, List.filterMap_append]
      cases e : g i <;> simp [e]
    refine ifB (fun hb => ?_) (fun hb => ?_)
    · obtain ⟨y, hy⟩ := Option.isSome_iff_exists.mp hb
      refine k2 y hy _ ⟨(List.range i).filterMap g, by rw [w, updM_same], ?_, ?_⟩
      · have h1 := List.length_filterMap_le g (List.range i)
        rw [List.length_range] at h1
        omega
      · dsimp only
        rw [w, updM_updM, et, hy] <;> rfl
    · have hn : g i = none := by simpa using hb
      dsimp only
      rw [w, et, hn]
      simp
  · dsimp only at w
    cases own with
    | true => rw [w]; exact q a ha
    | false => exact ⟨_, by rw [w, updM_same], by rw [w, remM_upd ha]; exact q⟩
end DL
/-! HeadX: the head's Hook with a further Bool; defs as Callees. -/
namespace DL
open PySem PySem.Spec PyProof.Rows L2
abbrev AlP : Type := He.AlD × Bool
def obsP (n : Nat) (fa : List He.Fa) (fn : List He.DefD) (ex : PySem.W.Frag → Bool) (g : Addr → Option Obj) : AlP := (He.obsD fa fn (He.frG g (He.asD g n)), ex (He.frG g (He.asD g n)))
def hookP (n : Nat) (fa : List He.Fa) (fn : List He.DefD) (ex : PySem.W.Frag → Bool) : PySem.W.Hook where
  α := AlP
  obs := fun s => obsP n fa fn ex s.heap.get?
  val := fun _ => (He.valD fn, true)
  says := fun _ h => ∃ K : PySem.W.Frag, K.In h ∧ He.SaysD fa fn K ∧ ex K = true
  of := fun _ _ e => ⟨_, He.frG_in, congrArg (fun z : AlP => z.1) e, congrArg (fun z : AlP => z.2) e⟩
  keeps := fun _ _ _ ⟨K, hK, c⟩ k => ⟨K, PySem.W.Frag.In.keeps hK k, c⟩
theorem obsP_eq {n : Nat} {fa : List He.Fa} {fn : List He.DefD} {ex : PySem.W.Frag → Bool} {g : Addr → Option Obj} {s : Shared} (h : ∀ a, g a = s.heap.get? a) : obsP n fa fn ex g = (hookP n fa fn ex).obs s := by
  have e : g = s.heap.get? := funext h
  rw [e] <;> rfl
theorem gtup_of {K : PySem.W.Frag} {h : Heap} {mg : Str → Option Value} (X : K.In h) (G : h.Ns mainGlobals mg) {x : Str} {ws : List Str} (c : (He.Fa.glo x).ok K = true) (t : He.tupB K x (ws.map He.Dv.str) = true) : GTup K mg x ws :=
  ⟨He.ga K x, He.glo_ok X G c, fun H => by
    have := He.tupB_ok t H
    rw [List.map_map] at this
    exact this⟩
section
variable {P : Program} {w : World} {K : PySem.W.Frag} {mg : Str → Option Value} {base : Heap} {CX : CXT} {x : Str} {params : Arguments} {body : List Stmt} {scope : Scope} {f : Addr} {fd : FuncData} {ps : List Str} {k : Nat} {sp : SpD}
theorem callee_of (F : FunD K x x params body scope [] [] f fd) (ok : FnOk P w K mg base CX k f fd ps (LSp K sp)) (hm : mg x = some (.ref f))
    (h : ∀ (kV doc pm : Value) (an : Option Addr) (cdv ct : Value) (us : List Value), us.length = ps.length → bindArgs (PySem.W.fnOf x x params body scope .none kV doc pm an cdv ct) ⟨us, []⟩ = pure (ps.zip us))
    (hk : ∀ (kV doc pm : Value) (an : Option Addr) (cdv ct : Value) (us : List Value), us.length = ps.length → bindArgs (PySem.W.fnOf x x params body scope .none kV doc pm an cdv ct) ⟨[], ps.zip us⟩ = pure (ps.zip us)) : Callee P w K mg base CX k x ps sp := by
  refine ⟨f, fd, ok, hm, F.kp, F.bindsN h, ?_⟩
  obtain ⟨oc, od, dV, kV, doc, pm, an, cdv, ct, osl, rfl, lk, hcd, hD, hK⟩ := F.ex
  rcases hD with ⟨_, rfl⟩ | ⟨e, _⟩
  · exact hk kV doc pm an cdv ct
  · exact absurd rfl e
theorem fnok_no (h : ∀ ds M Q E, ¬ sp ds M Q E) : FnOk P w K mg base CX k f fd ps (LSp K sp) :=
  ⟨fun vs H Q E ⟨_, _, _, _, _, _, _, q, _⟩ => (h _ _ _ _ q).elim, fun A outer s H args us vs Q E hr he hb hv ⟨_, _, _, _, _, _, _, q, _⟩ => (h _ _ _ _ q).elim⟩
theorem law_sp {ns : List Int} {H : Hp} {a : Addr} (hl : ns.length ≤ 63) (hS : SqL K H a (ns.map V.int)) (hsp : ∀ M (Q : DK) E, (∀ M', Q (.bl true) M') → sp [.rdl ns] M Q E) : LSp K sp [.ref a] H (fun v _ => v = .bl true) fun _ _ _ => False :=
  ⟨[.rdl ns], fun _ => none, H, fun d _ => d = .bl true, X0, ⟨Same.refl _, fun _ _ h => (nomatch h), fun _ _ h => (nomatch h)⟩, .cons (rep_rdl.mpr ⟨a, rfl, hS⟩) .nil, hsp _ _ _ fun _ => rfl, fun d M v H F' e _ _ r => by
    subst e
    exact rep_bl.mp r, finX0⟩
end
end DL
/-! The law's own state of draws; programs as typed trees. -/
namespace Syn
open PySem L2 DL
/-! ### the draws -/
def DrawO (o : List D) : Prop := ∃ (cells : List Int) (at_ big mix : Int), o = [.lst (cells.map D.int), .int at_, .int big, .int mix] ∧ 0 ≤ at_
def DrawAt (M : Mp) (a : Addr) : Prop := ∃ o, M a = some (.lst o) ∧ DrawO o
/-- draws were done: the state at a alone has changed -/
def DrN (a : Addr) (M M' : Mp) : Prop := ∃ o, M' = updM M a (.lst o) ∧ DrawO o
theorem DrN.refl {a : Addr} {M : Mp} (h : DrawAt M a) : DrN a M M := by
  obtain ⟨o, h1, h2⟩ := h
  exact ⟨o, (updM_self h1).symm, h2⟩
theorem DrN.trans {a : Addr} {M M1 M2 : Mp} (h : DrN a M M1) (h' : DrN a M1 M2) : DrN a M M2 := by
  obtain ⟨o, rfl, _⟩ := h
  obtain ⟨o', rfl, h2⟩ := h'
  exact ⟨o', by rw [updM_updM], h2⟩
theorem DrN.at {a : Addr} {M M' : Mp} (h : DrN a M M') : DrawAt M' a := by
  obtain ⟨o, rfl, h2⟩ := h
  exact ⟨o, updM_same, h2⟩
theorem DrawAt.upd {a p : Addr} {M : Mp} {o : MO} (h : DrawAt M a) (hp : M p = none) : DrawAt (updM M p o) a := by
  obtain ⟨o', h1, h2⟩ := h
  exact ⟨o', by rw [updM_ne (neM h1 hp)]; exact h1, h2⟩
theorem DrawAt.upd' {a p : Addr} {M : Mp} {o : MO} (h : DrawAt M a) (hp : a ≠ p) : DrawAt (updM M p o) a := by
  obtain ⟨o', h1, h2⟩ := h
  exact ⟨o', by rw [updM_ne hp]; exact h1, h2⟩
theorem DrawAt.ne {a p : Addr} {M : Mp} (h : DrawAt M a) (hp : M p = none) : a ≠ p := by
  obtain ⟨o', h1, h2⟩ := h
  exact neM h1 hp
/-- the same draws with a further object -/
theorem DrN.upd {a p : Addr} {M M' : Mp} {o : MO} (h : DrN a M M') (hp : a ≠ p) : DrN a (updM M p o) (updM M' p o) := by
  obtain ⟨o', rfl, h2⟩ := h
  exact ⟨o', updM_comm hp, h2⟩
theorem DrN.none {a p : Addr} {M M' : Mp} (h : DrN a M M') (ha : DrawAt M a) (hp : M p = none) : M' p = none := by
  obtain ⟨o', rfl, h2⟩ := h
  rw [updM_ne (ha.ne hp).symm]; exact hp
theorem DrN.keep {a p : Addr} {M M' : Mp} {mo : MO} (h : DrN a M M') (ha : a ≠ p) (hp : M p = some mo) : M' p = some mo := by
  obtain ⟨o', rfl, h2⟩ := h
  rw [updM_ne ha.symm]; exact hp
/-- draws with a further object on the way: the result said of the map without it -/
theorem DrN.off {a p : Addr} {M M' : Mp} {o : MO} (h : DrN a (updM M p o) M') (ha : a ≠ p) : ∃ M2, M' = updM M2 p o ∧ DrN a M M2 := by
  obtain ⟨o', rfl, h2⟩ := h
  exact ⟨updM M a (.lst o'), (updM_comm ha).symm, o', rfl, h2⟩

/-! ### names -/
def WORDS : List Str := ["kind", "var", "make", "act", "if", "then", "else", "do", "answer", "and", "or", "not"]
def smallC (c : Nat) : Bool := 97 ≤ c && c ≤ 122
def greatC (c : Nat) : Bool := 65 ≤ c && c ≤ 90
def rowC (c : Nat) : Bool := smallC c || greatC c || (48 ≤ c && c ≤ 57) || c == 95
/-- a name (great: a Name): its first sign, its signs, at most 12 -/
structure NameOk (great : Bool) (s : Str) : Prop where
  hd : ∃ c r, s.cps.toList = c :: r ∧ (if great then greatC c else smallC c) = true
  all : ∀ c ∈ s.cps.toList, rowC c = true
  len : s.length ≤ 12
  nw : s ∉ WORDS

/-! ### programs -/
inductive Atom where
  | nm (s : Str) | vl (s : Str)
inductive Tst where
  | same (a b : Atom) | neg (t : Tst) | con (l r : Tst) | dis (l r : Tst)
inductive Val where
  | at (a : Atom) | ite (t : Tst) (x y : Val)
inductive Deed where
  | set (n : Str) (v : Val) | doo (n f : Str) (vs : List Val) | ite (t : Tst) (xs ys : List Deed)
abbrev Vr := Str × Str × Val
abbrev Giv := Str × Str
inductive Part where
  | make (n : Str) (gs : List Giv) (vs : List Vr) (ps : List Part) | act (n : Str) (gs : List Giv) (k : Str) (ds : List Deed) (v : Val)
structure Prg where
  kinds : List (Str × List Str)
  vars : List Vr
  parts : List Part
def Atom.s : Atom → Str
  | .nm s => s
  | .vl s => s
def Atom.d : Atom → D
  | .nm s => .tup [.str "name", .str s]
  | .vl s => .tup [.str "value", .str s]
def Tst.d : Tst → D
  | .same a b => .tup [.str "same", a.d, b.d]
  | .neg t => .tup [.str "not", t.d]
  | .con l r => .tup [.str "and", l.d, r.d]
  | .dis l r => .tup [.str "or", l.d, r.d]
def Val.d : Val → D
  | .at a => a.d
  | .ite t x y => .tup [.str "if", t.d, x.d, y.d]
mutual
def Deed.d : Deed → D
  | .set n v => .tup [.str "set", .str n, v.d]
  | .doo n f vs => .tup [.str "do", .str n, .str f, .tup (vs.map Val.d)]
  | .ite t xs ys => .tup [.str "if", t.d, .tup (deedsD xs), .tup (deedsD ys)]
def deedsD : List Deed → List D
  | [] => []
  | x :: xs => x.d :: deedsD xs
end
theorem deedsD_map : ∀ xs : List Deed, deedsD xs = xs.map Deed.d
  | [] => by unfold deedsD; rfl
  | x :: xs => by unfold deedsD; rw [deedsD_map xs]; rfl
def givD (g : Giv) : D := .tup [.str g.1, .str g.2]
def vrD (v : Vr) : D := .tup [.str v.1, .str v.2.1, v.2.2.d]
mutual
def Part.d : Part → D
  | .make n gs vs ps => .tup [.str "make", .str n, .tup (gs.map givD), .tup (vs.map vrD), .tup (partsD ps)]
  | .act n gs k ds v => .tup [.str "act", .str n, .tup (gs.map givD), .str k, .tup (deedsD ds), v.d]
def partsD : List Part → List D
  | [] => []
  | x :: xs => x.d :: partsD xs
end
theorem partsD_map : ∀ xs : List Part, partsD xs = xs.map Part.d
  | [] => by unfold partsD; rfl
  | x :: xs => by unfold partsD; rw [partsD_map xs]; rfl
def kindD (k : Str × List Str) : D := .tup [.str k.1, .tup (k.2.map D.str)]
def Prg.d (p : Prg) : D := .tup [.str "program", .tup (p.kinds.map kindD), .tup (p.vars.map vrD), .tup (partsD p.parts)]
/-! ### what is drawn -/
def Atom.ok : Atom → Prop
  | .nm s => NameOk false s
  | .vl s => NameOk true s
def Tst.ok : Nat → Tst → Prop
  | _, .same a b => a.ok ∧ b.ok
  | d + 1, .neg t => Tst.ok d t
  | d + 1, .con l r => Tst.ok d l ∧ Tst.ok d r
  | d + 1, .dis l r => Tst.ok d l ∧ Tst.ok d r
  | 0, _ => False
def Val.ok : Nat → Val → Prop
  | _, .at a => a.ok
  | d + 1, .ite t x y => t.ok (d + 1) ∧ Val.ok d x ∧ Val.ok d y
  | 0, _ => False
def Deed.ok : Nat → Deed → Prop
  | _, .set n v => NameOk false n ∧ v.ok 2
  | _, .doo n f vs => NameOk false n ∧ NameOk false f ∧ vs.length ≤ 3 ∧ ∀ v ∈ vs, Val.ok 1 v
  | d + 1, .ite t xs ys => t.ok 2 ∧ xs.length ≤ 2 ∧ (∀ x ∈ xs, Deed.ok d x) ∧ ys.length ≤ 1 ∧ ∀ y ∈ ys, Deed.ok d y
  | 0, _ => False
def GivOk (gs : List Giv) : Prop := gs.length ≤ 3 ∧ ∀ g ∈ gs, NameOk false g.1 ∧ NameOk true g.2
def VrOk (v : Vr) : Prop := NameOk false v.1 ∧ NameOk true v.2.1 ∧ v.2.2.ok 2
def Part.ok : Nat → Part → Prop
  | _, .act n gs k ds v => NameOk false n ∧ GivOk gs ∧ NameOk true k ∧ ds.length ≤ 3 ∧ (∀ x ∈ ds, Deed.ok 2 x) ∧ v.ok 2
  | d + 1, .make n gs vs ps => NameOk true n ∧ GivOk gs ∧ vs.length ≤ 2 ∧ (∀ v ∈ vs, VrOk v) ∧ ps.length ≤ 2 ∧ ∀ p ∈ ps, Part.ok d p
  | 0, _ => False
structure Prg.ok (p : Prg) : Prop where
  kn : p.kinds.length ≤ 3
  ks : ∀ k ∈ p.kinds, NameOk true k.1 ∧ 1 ≤ k.2.length ∧ k.2.length ≤ 5 ∧ ∀ x ∈ k.2, NameOk true x
  vn : p.vars.length ≤ 3
  vs : ∀ v ∈ p.vars, VrOk v
  pn : p.parts.length ≤ 3
  ps : ∀ q ∈ p.parts, Part.ok 3 q
end Syn
namespace Syn
open PySem L2 DL
def LOW : Str := "abcdefghijklmnopqrstuvwxyz"
def UP : Str := "ABCDEFGHIJKLMNOPQRSTUVWXYZ"
def SIG : Str := LOW ++ UP ++ "_0123456789"
theorem up_low : Txt.upper LOW = UP := by decide +kernel
theorem low_small : ∀ c ∈ LOW.cps.toList, smallC c = true := by decide +kernel
theorem up_great : ∀ c ∈ UP.cps.toList, greatC c = true := by decide +kernel
theorem sig_row : ∀ c ∈ SIG.cps.toList, rowC c = true := by decide +kernel
theorem words_row : ∀ x ∈ WORDS, ∃ c r, x.cps.toList = c :: r ∧ smallC c = true ∧ (∀ c ∈ x.cps.toList, rowC c = true) ∧ x.length ≤ 6 := by
  have h : ∀ x ∈ WORDS, (match x.cps.toList with | c :: r => smallC c && ((c :: r).all rowC && decide (x.length ≤ 6)) | [] => false) = true := by decide +kernel
  intro x hx
  have q := h x hx
  cases e : x.cps.toList with
  | nil => rw [e] at q; cases q
  | cons c r =>
    rw [e] at q
    simp only [Bool.and_eq_true, decide_eq_true_eq] at q
    exact ⟨c, r, rfl, q.1, List.all_eq_true.mp q.2.1, q.2.2⟩
theorem words_no95 : ∀ x ∈ WORDS, 95 ∉ x.cps.toList := by decide +kernel
theorem tl_app (a b : Str) : (a ++ b).cps.toList = a.cps.toList ++ b.cps.toList := TL.tl_append a b
theorem len_app (a b : Str) : (a ++ b).length = a.length + b.length := by
  rw [TL.len_tl, TL.len_tl, TL.len_tl, TL.tl_append, List.length_append]
theorem len_one (c : Nat) : (⟨#[c]⟩ : Str).length = 1 := rfl
/-- a name on the way -/
structure Txt0 (g : Bool) (n : Nat) (s : Str) : Prop where
  hd : ∃ c r, s.cps.toList = c :: r ∧ (if g then greatC c else smallC c) = true
  all : ∀ c ∈ s.cps.toList, rowC c = true
  len : s.length ≤ n
theorem small_row {c : Nat} (h : smallC c = true) : rowC c = true := by unfold rowC; rw [h]; rfl
theorem great_row {c : Nat} (h : greatC c = true) : rowC c = true := by unfold rowC; rw [h, Bool.or_true]; rfl
theorem Txt0.one {g : Bool} {c : Nat} (h : (if g then greatC c else smallC c) = true) : Txt0 g 1 ⟨#[c]⟩ := by
  refine ⟨⟨c, [], rfl, h⟩, fun d hd => ?_, Nat.le_refl _⟩
  have e : d = c := by simpa using hd
  subst e
  cases g with
  | true => exact great_row h
  | false => exact small_row h
theorem Txt0.mono {g : Bool} {n m : Nat} {s : Str} (h : Txt0 g n s) (hn : n ≤ m) : Txt0 g m s := ⟨h.hd, h.all, Nat.le_trans h.len hn⟩
theorem Txt0.app {g : Bool} {n : Nat} {s : Str} {c : Nat} (h : Txt0 g n s) (hc : rowC c = true) : Txt0 g (n + 1) (s ++ ⟨#[c]⟩) := by
  obtain ⟨d, r, e, hd⟩ := h.hd
  refine ⟨⟨d, r ++ [c], by rw [tl_app, e]; rfl, hd⟩, fun x hx => ?_, by rw [len_app, len_one]; exact Nat.add_le_add_right h.len 1⟩
  rw [tl_app] at hx
  rcases List.mem_append.mp hx with hx | hx
  · exact h.all x hx
  · have e : x = c := by simpa using hx
    subst e; exact hc
theorem Txt0.word {x : Str} (h : x ∈ WORDS) : Txt0 false 6 x := by
  obtain ⟨c, r, h1, h2, h3, h4⟩ := words_row x h
  exact ⟨⟨c, r, h1, h2⟩, h3, h4⟩
theorem Txt0.name {g : Bool} {s : Str} (h : Txt0 g 12 s) (hn : s ∉ WORDS) : NameOk g s := ⟨h.hd, h.all, h.len, hn⟩
theorem Txt0.name_ {g : Bool} {s : Str} (h : Txt0 g 11 s) : NameOk g (s ++ "_") := by
  have e : ("_" : Str) = ⟨#[95]⟩ := by decide +kernel
  rw [e]
  refine (h.app (c := 95) (by decide)).name fun hw => words_no95 _ hw ?_
  rw [tl_app]
  exact List.mem_append_right _ (by simp)
end Syn
/-! Rows that are drawn. -/
namespace Syn
open PySem L2 DL
section
variable {σ : DS} {M : Mp} {a p : Addr} {own : Bool} {Q : DK} {E : DEnds}
theorem lc_draw {k : Nat} {wi : DTI} {te : DTE} (N : Nat → Prop) (P : D → Prop) (hN : ∀ m, N m → m ≤ sizeLine)
    (hwi : ∀ Kd : List D → (Mp → Prop) → Mp → Prop, (∀ m M1, N m → DrN a M M1 → Kd (upto 0 m) (fun _ => True) M1) → wi σ M Kd)
    (h : ∀ d M1 (Q : DK), DrawAt M1 a → (∀ y M2, P y → DrN a M1 M2 → Q y M2) → te (σ.set k (some d)) M1 Q)
    (q : ∀ acc M2, (∀ y ∈ acc, P y) → N acc.length → DrN a M M2 → dNew own acc M2 Q) : dLc own k wi te σ M Q := by
  refine lc_gen (fun ds M1 => ∃ m, N m ∧ ds = upto 0 m ∧ DrN a M M1) (fun Kd hk => hwi Kd fun m M1 hm hn => hk _ _ ⟨m, hm, rfl, hn⟩) (fun ds i acc M1 => N ds.length ∧ (∀ y ∈ acc, P y) ∧ DrN a M M1) ?_ ?_ ?_ ?_
  · rintro ds M1 ⟨m, hm, rfl, hn⟩
    rw [upto_len]; exact hN m hm
  · rintro ds M1 ⟨m, hm, rfl, hn⟩
    exact ⟨by rw [upto_len]; exact hm, fun y hy => (List.not_mem_nil hy).elim, hn⟩
  · rintro ds i d acc M1 p Q' hd ⟨hm, ha, hn⟩ hp hl hq
    refine h d _ Q' (hn.at.upd hp) fun y M2 hy hn2 => ?_
    obtain ⟨M3, rfl, hn3⟩ := hn2.off (hn.at.ne hp)
    refine hq y M3 (hn3.none hn.at hp) ⟨hm, fun z hz => ?_, hn.trans hn3⟩
    rcases List.mem_append.mp hz with hz | hz
    · exact ha z hz
    · rw [List.mem_singleton.mp hz]; exact hy
  · rintro ds acc M' hl ⟨hm, ha, hn⟩
    exact q acc M' ha (by rw [hl]; exact hm) hn
theorem for_draw {wi : DTI} {g : DTG} {tb : DTS} (N : Nat → Prop) (P : D → Prop) (S : DS → Prop) (hN : ∀ m, N m → m ≤ sizeLine) (hD : DrawAt M a) (hp : M p = none) (hσ : S σ)
    (hwi : ∀ Kd : List D → (Mp → Prop) → Mp → Prop, (∀ m M1, N m → DrN a M M1 → Kd (upto 0 m) (fun _ => True) (updM M1 p (.lst []))) → wi σ (updM M p (.lst [])) Kd)
    (h : ∀ d σ M1 acc (N' : DS → Mp → Prop), S σ → M1 p = some (.lst acc) → DrawAt M1 a → acc.length < sizeLine → (∀ σ' y M2, S σ' → P y → DrN a M1 M2 → N' σ' (updM M2 p (.lst (acc ++ [y])))) → g d σ M1 fun σ2 M2 => tb { E with nx := N', ct := N', bk := E.nx } σ2 M2)
    (q : ∀ σ acc M2, S σ → (∀ y ∈ acc, P y) → N acc.length → DrN a M M2 → M2 p = none → E.nx σ (updM M2 p (.lst acc))) : dFor wi g tb E σ (updM M p (.lst [])) := by
  have ne := hD.ne hp
  refine for_gen (fun ds M' => ∃ m M1, N m ∧ ds = upto 0 m ∧ DrN a M M1 ∧ M' = updM M1 p (.lst [])) (fun Kd hk => hwi Kd fun m M1 hm hn => hk _ _ ⟨m, M1, hm, rfl, hn, rfl⟩) (fun ds i σ M' => ∃ acc M1, N ds.length ∧ S σ ∧ acc.length = i ∧ (∀ y ∈ acc, P y) ∧ DrN a M M1 ∧ M' = updM M1 p (.lst acc)) ?_ ?_ ?_
  · rintro ds M' ⟨m, M1, hm, rfl, hn, rfl⟩
    exact ⟨[], M1, by rw [upto_len]; exact hm, hσ, rfl, fun y hy => (List.not_mem_nil hy).elim, hn, rfl⟩
  · rintro ds i d σ M' N' hd ⟨acc, M1, hm, hS, hl, ha, hn, rfl⟩ hN'
    have h1 := hn.none hD hp
    have hi : i < ds.length := (List.getElem?_eq_some_iff.mp hd).1
    have h2 := hN _ hm
    refine h d σ _ acc N' hS updM_same (hn.at.upd h1) (by omega) fun σ' y M2 hS' hy hn2 => ?_
    obtain ⟨M3, rfl, hn3⟩ := hn2.off ne
    rw [updM_updM]
    refine hN' _ _ ⟨acc ++ [y], M3, hm, hS', by rw [List.length_append, hl]; rfl, fun z hz => ?_, hn.trans hn3, rfl⟩
    rcases List.mem_append.mp hz with hz | hz
    · exact ha z hz
    · rw [List.mem_singleton.mp hz]; exact hy
  · rintro ds σ M' ⟨acc, M1, hm, hS, hl, ha, hn, rfl⟩
    exact q σ acc M1 hS ha (by rw [hl]; exact hm) hn (hn.none hD hp)
end
/-- rows of data that stand for rows of things -/
theorem row_of {α : Type} {f : α → D} {P : α → Prop} : ∀ {acc : List D}, (∀ y ∈ acc, ∃ x, y = f x ∧ P x) → ∃ xs : List α, acc = xs.map f ∧ ∀ x ∈ xs, P x
  | [], _ => ⟨[], rfl, fun x hx => (List.not_mem_nil hx).elim⟩
  | y :: acc, h => by
    obtain ⟨x, rfl, hx⟩ := h y (List.mem_cons_self ..)
    obtain ⟨xs, rfl, hs⟩ := row_of fun z hz => h z (List.mem_cons_of_mem _ hz)
    refine ⟨x :: xs, rfl, fun z hz => ?_⟩
    rcases List.mem_cons.mp hz with rfl | hz
    · exact hx
    · exact hs z hz
end Syn
/-! Dicts with typed keys and values: what the rules do to them. -/
namespace DL
open PySem PySem.Spec L2
section
variable {κ α : Type} [DecidableEq κ]
def tget (l : List (κ × α)) (k : κ) : Option α := (l.find? fun x => decide (x.1 = k)).map (·.2)
def tput (l : List (κ × α)) (k : κ) (v : α) : List (κ × α) := if (tget l k).isSome then l.map (fun x => if x.1 = k then (x.1, v) else x) else l ++ [(k, v)]
def tset (l : List (κ × α)) (k : κ) (v : α) : List (κ × α) := if (tget l k).isSome then l else l ++ [(k, v)]
theorem tget_nil {k : κ} : tget ([] : List (κ × α)) k = none := rfl
theorem tget_cons {x : κ × α} {l : List (κ × α)} {k : κ} : tget (x :: l) k = if x.1 = k then some x.2 else tget l k := by
  unfold tget
  rw [List.find?_cons]
  by_cases e : x.1 = k
  · rw [if_pos e, decide_eq_true e] <;> rfl
  · rw [if_neg e, decide_eq_false e]
theorem tget_mem {l : List (κ × α)} {k : κ} {v : α} (h : tget l k = some v) : (k, v) ∈ l := by
  induction l with
  | nil => cases h
  | cons x l ih =>
    rw [tget_cons] at h
    by_cases e : x.1 = k
    · rw [if_pos e] at h
      cases h
      rw [← e]
      exact List.mem_cons_self ..
    · rw [if_neg e] at h
      exact List.mem_cons_of_mem _ (ih h)
theorem tget_isSome {l : List (κ × α)} {k : κ} : (tget l k).isSome = true ↔ k ∈ l.map (·.1) := by
  induction l with
  | nil => simp [tget_nil]
  | cons x l ih =>
    rw [tget_cons, List.map_cons, List.mem_cons]
    by_cases e : x.1 = k
    · rw [if_pos e]
      simp [e]
    · rw [if_neg e, ih]
      constructor
      · exact .inr
      · rintro (h | h)
        · exact absurd h.symm e
        · exact h
theorem tget_none {l : List (κ × α)} {k : κ} : tget l k = none ↔ k ∉ l.map (·.1) := by
  rw [← tget_isSome]
  cases tget l k <;> simp
theorem tget_app {l m : List (κ × α)} {k : κ} : tget (l ++ m) k = (tget l k).or (tget m k) := by
  induction l with
  | nil => rfl
  | cons x l ih =>
    rw [List.cons_append, tget_cons, tget_cons, ih]
    by_cases e : x.1 = k
    · rw [if_pos e, if_pos e] <;> rfl
    · rw [if_neg e, if_neg e]
theorem tput_new {l : List (κ × α)} {k : κ} {v : α} (h : tget l k = none) : tput l k v = l ++ [(k, v)] := by unfold tput; rw [h] <;> rfl
theorem tset_new {l : List (κ × α)} {k : κ} {v : α} (h : tget l k = none) : tset l k v = l ++ [(k, v)] := by unfold tset; rw [h] <;> rfl
theorem tset_old {l : List (κ × α)} {k : κ} {v w : α} (h : tget l k = some w) : tset l k v = l := by unfold tset; rw [h] <;> rfl
theorem tput_len {l : List (κ × α)} {k : κ} {v : α} : (tput l k v).length ≤ l.length + 1 := by
  unfold tput
  split
  · rw [List.length_map]; omega
  · rw [List.length_append] <;> exact Nat.le_refl _
theorem tset_len {l : List (κ × α)} {k : κ} {v : α} : (tset l k v).length ≤ l.length + 1 := by
  unfold tset
  split
  · omega
  · rw [List.length_append] <;> exact Nat.le_refl _
theorem tget_map {l : List (κ × α)} {k j : κ} {v : α} : tget (l.map fun x => if x.1 = k then (x.1, v) else x) j = (tget l j).map fun y => if j = k then v else y := by
  induction l with
  | nil => rfl
  | cons x l ih =>
    rw [List.map_cons, tget_cons, tget_cons, ih]
    by_cases e : x.1 = k
    · rw [if_pos e]
      by_cases e2 : x.1 = j
      · rw [if_pos e2, if_pos e2]
        simp [← e2, e]
      · rw [if_neg e2, if_neg e2]
    · rw [if_neg e]
      by_cases e2 : x.1 = j
      · rw [if_pos e2, if_pos e2]
        simp [← e2, e]
      · rw [if_neg e2, if_neg e2]
theorem tget_put {l : List (κ × α)} {k j : κ} {v : α} : tget (tput l k v) j = if k = j then some v else tget l j := by
  unfold tput
  cases h : tget l k with
  | none =>
    rw [Option.isSome_none, if_neg Bool.false_ne_true, tget_app, tget_cons, tget_nil]
    by_cases e : k = j
    · subst e
      rw [h, if_pos rfl] <;> rfl
    · rw [if_neg e, if_neg e, Option.or_none]
  | some w =>
    rw [Option.isSome_some, if_pos rfl, tget_map]
    by_cases e : k = j
    · subst e
      rw [h, if_pos rfl] <;> simp
    · rw [if_neg e]
      have e' : ¬ j = k := fun z => e z.symm
      cases tget l j <;> simp [e']
theorem tget_set {l : List (κ × α)} {k j : κ} {v : α} : tget (tset l k v) j = (tget l j).or (if k = j then some v else none) := by
  unfold tset
  cases h : tget l k with
  | none => rw [Option.isSome_none, if_neg Bool.false_ne_true, tget_app, tget_cons, tget_nil]
  | some w =>
    rw [Option.isSome_some, if_pos rfl]
    by_cases e : k = j
    · subst e
      rw [h] <;> rfl
    · rw [if_neg e, Option.or_none]
end
/-- keys as trees -/
class KEnc {κ : Type} (enc : κ → D) : Prop where
  inj : ∀ a b, nkN (enc a) = nkN (enc b) → a = b
  fit : (∀ a, ∃ k, enc a = dK k) ∨ ∀ a, KeyD (enc a)
instance : KEnc D.str where
  inj := fun a b h => by
    have : NestedKey.text a = NestedKey.text b := h
    injection this
  fit := .inl fun a => ⟨.inr a, rfl⟩
/-- a place, a path -/
def plD (p : List Nat) : D := .tup (p.map fun i => .int ((i : Nat) : Int))
def pthD (p : List Str) : D := .tup (p.map D.str)
theorem pyDs_pl : ∀ p : List Nat, pyDs (p.map fun i => D.int ((i : Nat) : Int)) = some (p.map fun i => PyData.int ((i : Nat) : Int))
  | [] => rfl
  | i :: p => by
    rw [List.map_cons]
    unfold pyDs
    rw [pyDs_pl p] <;> rfl
theorem pyD_pl (p : List Nat) : pyD (plD p) = some (.tuple (p.map fun i => .int ((i : Nat) : Int))) := by
  unfold plD pyD
  rw [pyDs_pl] <;> rfl
theorem nkPs_pl : ∀ p : List Nat, nkPs (p.map fun i => PyData.int ((i : Nat) : Int)) = some (p.map fun i => NestedKey.num ((i : Nat) : Int))
  | [] => rfl
  | i :: p => by
    rw [List.map_cons]
    unfold nkPs nkP
    rw [nkPs_pl p] <;> rfl
theorem nkD_pl (p : List Nat) : nkD (plD p) = some (.tup (p.map fun i => .num ((i : Nat) : Int))) := by
  unfold nkD
  rw [pyD_pl]
  show nkP _ = _
  unfold nkP
  rw [nkPs_pl] <;> rfl
theorem depth_pl : ∀ p : List Nat, NestedKey.depthAll (p.map fun i => NestedKey.num ((i : Nat) : Int)) = 0
  | [] => rfl
  | i :: p => by
    rw [List.map_cons]
    unfold NestedKey.depthAll
    rw [depth_pl p] <;> rfl
instance : KEnc plD where
  inj := fun a b h => by
    unfold nkN at h
    rw [nkD_pl, nkD_pl] at h
    have h2 : (a.map fun i => NestedKey.num ((i : Nat) : Int)) = b.map fun i => NestedKey.num ((i : Nat) : Int) := by
      have : NestedKey.tup (a.map fun i => NestedKey.num ((i : Nat) : Int)) = NestedKey.tup (b.map fun i => NestedKey.num ((i : Nat) : Int)) := h
      injection this
    clear h
    revert b
    induction a with
    | nil =>
      intro b h
      cases b with
      | nil => rfl
      | cons _ _ => cases h
    | cons x a ih =>
      intro b h
      cases b with
      | nil => cases h
      | cons y b =>
        rw [List.map_cons, List.map_cons] at h
        injection h with h1 h2
        injection h1 with h1
        rw [ih b h2]
        congr 1
        omega
  fit := .inr fun a => ⟨⟨_, rfl⟩, by rw [nkD_pl] <;> rfl, by
    unfold nkN
    rw [nkD_pl]
    show NestedKey.depth (.tup _) ≤ 8
    unfold NestedKey.depth
    rw [depth_pl]
    decide⟩
section
variable {κ α : Type} [DecidableEq κ] {eK : κ → D} [KEnc eK] {eV : α → D} {pw : Wd} {M : Mp} {Q : DK} {l : List (κ × α)} {k : κ} {v : α} {x : D} {p : Addr}
/-- a typed dict -/
def tdc (eK : κ → D) (eV : α → D) (l : List (κ × α)) : List (D × D) := l.map fun x => (eK x.1, eV x.2)
theorem tdc_len : (tdc eK eV l).length = l.length := List.length_map ..
theorem tdc_fits : Fits (tdc eK eV l) (eK k) := by
  rcases KEnc.fit (enc := eK) with h | h
  · refine .inl ⟨h k, ?_⟩
    induction l with
    | nil => exact ⟨[], rfl⟩
    | cons x l ih =>
      obtain ⟨kk, e⟩ := ih
      obtain ⟨y, hy⟩ := h x.1
      exact ⟨y :: kk, by unfold tdc at e ⊢; rw [List.map_cons, List.map_cons, List.map_cons, e, ← hy]⟩
  · refine .inr ⟨h k, fun kv hkv => ?_⟩
    obtain ⟨x, _, rfl⟩ := List.mem_map.mp hkv
    exact h x.1
theorem tdc_lk : lkD (tdc eK eV l) (eK k) = (tget l k).map eV := by
  induction l with
  | nil => rfl
  | cons x l ih =>
    show lkD ((eK x.1, eV x.2) :: tdc eK eV l) (eK k) = _
    rw [lkD_cons, tget_cons, ih]
    by_cases e : x.1 = k
    · rw [if_pos e, if_pos (by rw [e])] <;> rfl
    · rw [if_neg e, if_neg fun z => e (KEnc.inj _ _ z)]
theorem tdc_put : putDD (tdc eK eV l) (eK k) (eV v) = tdc eK eV (tput l k v) := by
  unfold putDD tput
  rw [tdc_lk, Option.isSome_map]
  split
  · unfold tdc
    rw [List.map_map, List.map_map]
    apply List.map_congr_left
    intro x _
    dsimp only [Function.comp]
    by_cases e : x.1 = k
    · rw [if_pos e, if_pos (by rw [e])]
    · rw [if_neg e, if_neg fun z => e (KEnc.inj _ _ z)]
  · unfold tdc
    rw [List.map_append] <;> rfl
theorem t_in {n : Bool} (h : DcIs pw M x (tdc eK eV l)) (q : Q (.bl (n != (tget l k).isSome)) M) : dInX pw n (eK k) x M Q := by
  refine .inr (.inr ⟨_, h, tdc_fits, ?_⟩)
  rw [tdc_lk, Option.isSome_map]
  exact q
theorem t_ix (h : DcIs pw M x (tdc eK eV l)) (e : tget l k = some v) (q : Q (eV v) M) : dIxX pw x (eK k) M Q := by
  refine .inr ⟨_, eV v, h, tdc_fits, ?_, q⟩
  rw [tdc_lk, e] <;> rfl
theorem t_get {z : D} (h : DcIs pw M x (tdc eK eV l)) (q : Q (((tget l k).map eV).getD z) M) : dGetM pw x [eK k, z] M Q := by
  refine ⟨_, eK k, h, tdc_fits, .inr ⟨z, rfl, ?_⟩⟩
  rw [tdc_lk]
  exact q
theorem t_set {N : Mp → Prop} (hp : M p = some (.dic pw (tdc eK eV l))) (hl : l.length < sizeLine) (q : N (updM M p (.dic pw (tdc eK eV (tput l k v))))) : dSetDic pw (.obj p) (eK k) (eV v) M N := by
  refine ⟨p, _, rfl, hp, tdc_fits, by rw [tdc_len]; exact hl, ?_⟩
  rw [tdc_put]
  exact q
theorem t_setd (hp : M p = some (.dic pw (tdc eK eV l))) (hl : l.length < sizeLine) (q : ∀ y, Q y (updM M p (.dic pw (tdc eK eV (tset l k v))))) : dSetdM pw (.obj p) [eK k, eV v] M Q := by
  refine ⟨p, _, eK k, eV v, rfl, rfl, hp, tdc_fits, by rw [tdc_len]; exact hl, fun e he => ?_, fun he => ?_⟩
  · rw [tdc_lk] at he
    obtain ⟨w, hw, rfl⟩ := Option.map_eq_some_iff.mp he
    have := q (eV w)
    rw [tset_old hw, updM_self hp] at this
    exact this
  · rw [tdc_lk, Option.map_eq_none_iff] at he
    have := q (eV v)
    rw [tset_new he, ← tput_new he, ← tdc_put] at this
    exact this
theorem is_dcD {kvs : List (D × D)} : DcIs pw M (dcD pw kvs) kvs := .inl rfl
theorem is_dic {kvs : List (D × D)} (h : M p = some (.dic pw kvs)) : DcIs pw M (.obj p) kvs := .inr ⟨p, rfl, .inl h⟩
end
end DL
/-! What the rules do to data that is at hand: indices, in, +=, in equations. -/
namespace DL
open PySem PySem.Spec L2
section
variable {pw : Wd} {M : Mp} {Q : DK} {ds es : List D} {x y z : D} {i j : Int} {a b : Str} {p : Addr} {n : Bool} {N : Mp → Prop}
theorem no_dc_tup {kvs : List (D × D)} (h : DcIs pw M (.tup ds) kvs) : False := by
  rcases h with h | ⟨p, h, _⟩ <;> cases h
theorem no_dc_lst {kvs : List (D × D)} (h : DcIs pw M (.lst ds) kvs) : False := by
  rcases h with h | ⟨p, h, _⟩ <;> cases h
theorem no_dc_str {kvs : List (D × D)} (h : DcIs pw M (.str a) kvs) : False := by
  rcases h with h | ⟨p, h, _⟩ <;> cases h
theorem no_dc_obj {kvs : List (D × D)} (hp : M p = some (.lst ds)) (h : DcIs pw M (.obj p) kvs) : False := by
  rcases h with h | ⟨p', h, h2 | ⟨od, u, h2⟩⟩
  · cases h
  · cases h
    rw [hp] at h2
    cases h2
  · cases h
    rw [hp] at h2
    cases h2
theorem ixX_tup : dIxX pw (.tup ds) y M Q = dIx (.tup ds) y M Q := propext ⟨fun h => h.elim id fun ⟨kvs, e, h, _⟩ => (no_dc_tup h).elim, .inl⟩
theorem ixX_lst : dIxX pw (.lst ds) y M Q = dIx (.lst ds) y M Q := propext ⟨fun h => h.elim id fun ⟨kvs, e, h, _⟩ => (no_dc_lst h).elim, .inl⟩
theorem ixX_str : dIxX pw (.str a) y M Q = dIx (.str a) y M Q := propext ⟨fun h => h.elim id fun ⟨kvs, e, h, _⟩ => (no_dc_str h).elim, .inl⟩
theorem ixX_obj (hp : M p = some (.lst ds)) : dIxX pw (.obj p) y M Q = dIx (.obj p) y M Q := propext ⟨fun h => h.elim id fun ⟨kvs, e, h, _⟩ => (no_dc_obj hp h).elim, .inl⟩
theorem iaddX_int : dIAddX (.int i) (.int j) M Q = Q (.int (i + j)) M := propext ⟨fun h => h.elim id fun ⟨p, ds, es, h, _⟩ => (by cases h), .inl⟩
theorem iaddX_str : dIAddX (.str a) (.str b) M Q = (a.length + b.length ≤ sizeLine ∧ Q (.str (a ++ b)) M) := propext ⟨fun h => h.elim id fun ⟨p, ds, es, h, _⟩ => (by cases h), .inl⟩
theorem iaddX_tup (hp : M p = some (.lst ds)) (hz : ds.length + es.length ≤ sizeLine) (q : Q (.obj p) (updM M p (.lst (ds ++ es)))) : dIAddX (.obj p) (.tup es) M Q := .inr ⟨p, ds, es, rfl, rfl, hp, hz, q⟩
theorem iaddX_lst (hp : M p = some (.lst ds)) (hz : ds.length + es.length ≤ sizeLine) (q : Q (.obj p) (updM M p (.lst (ds ++ es)))) : dIAddX (.obj p) (.lst es) M Q := .inl ⟨ds, es, hp, rfl, hz, q⟩
theorem imul_int : dIMul (.int i) (.int j) M Q = (CMul i j ∧ Q (.int (i * j)) M) := rfl
theorem in_strs {xs : List Str} (h : strsD ds = some xs) (q : Q (.bl (n != decide (a ∈ xs))) M) : dInX pw n (.str a) (.lst ds) M Q := .inl ⟨xs, h, q⟩
theorem in_strsT {xs : List Str} (h : strsD ds = some xs) (q : Q (.bl (n != decide (a ∈ xs))) M) : dInX pw n (.str a) (.tup ds) M Q := .inl ⟨xs, h, q⟩
theorem in_strsO {xs : List Str} (hp : M p = some (.lst ds)) (h : strsD ds = some xs) (q : Q (.bl (n != decide (a ∈ xs))) M) : dInX pw n (.str a) (.obj p) M Q := .inl ⟨xs, by rw [sqD_obj hp]; exact h, q⟩
theorem e_isN_str : dIsN n (.str a) .non M Q = Q (.bl (n != false)) M := rfl
theorem e_isN_int : dIsN n (.int i) .non M Q = Q (.bl (n != false)) M := rfl
theorem listAny_tup (own : Bool) (q : dNew own ds M Q) : dListAny pw own [.tup ds] M Q := .inl ⟨ds, rfl, q⟩
theorem listAny_lst (own : Bool) (q : dNew own ds M Q) : dListAny pw own [.lst ds] M Q := .inl ⟨ds, rfl, q⟩
end
end DL
/-! The rules of dicts with the program told: for what stands in comprehensions. -/
namespace DL
open PySem PySem.Spec L2
section
variable {X : Cx} {F0 : Hp} {a b : Expr} {ta tb : DTE} {pos : Pos} {pw : Wd}
theorem de_ixP (e : pw = ⟨X.prog, X.w⟩) (hu : X.A.units + 9 < cLine) (ha : DE X F0 a ta) (hb : DE X F0 b tb) (hs : PlainIx b) : DE X F0 (.Subscript a b pos) (dOp (dIxX pw) ta tb) := by
  subst e; exact de_ixX hu ha hb hs
theorem od_inP (e : pw = ⟨X.prog, X.w⟩) (hu : X.A.units + 64 < cLine) : OpR X (compareOp .In) (LR X.K F0 (dInX pw false)) := by
  subst e; exact od_inX hu
theorem od_notInP (e : pw = ⟨X.prog, X.w⟩) (hu : X.A.units + 64 < cLine) : OpR X (compareOp .NotIn) (LR X.K F0 (dInX pw true)) := by
  subst e; exact od_notInX hu
end
end DL
namespace DL
open PySem PySem.Spec L2
section
variable {CX : CXT} {P : Program} {w : World} {K : PySem.W.Frag} {mg : Str → Option Value} {base : Heap} {N : List Str} {qual : Str} {scope : Scope} {f : Addr} {cdv : Value} {A : Around} {outer : List Env} {s : Shared} {H : Hp} {E : XK}
theorem cxP : (cxOf CX P w K mg base N qual scope f cdv A outer s H E).prog = P := rfl
theorem cxW : (cxOf CX P w K mg base N qual scope f cdv A outer s H E).w = w := rfl
end
end DL
namespace DL
open PySem PySem.Spec L2
theorem lc_st {own : Bool} {k : Nat} {wi : DTI} {te : DTE} {σ : DS} {M : Mp} {Q : DK} (ds : List D) (St : Mp → Prop) (f : D → D) (hwi : ∀ Kd : List D → (Mp → Prop) → Mp → Prop, Kd ds St M → wi σ M Kd) (hz : ds.length ≤ sizeLine) (hst : ∀ p o, M p = none → St (updM M p o))
    (h : ∀ (i : Nat) d M' (Q : DK), ds[i]? = some d → (∀ a o, M a = some o → M' a = some o) → Q (f d) M' → te (σ.set k (some d)) M' Q) (q : dNew own (ds.map f) M Q) : dLc own k wi te σ M Q := by
  unfold dLc
  exact hwi _ (lc_map f hz hst h q)
end DL
/-! zip(xs, ys) of two lists that nobody changes any more. -/
namespace DL
open PySem PySem.Spec L2
section
variable {X : Cx} {F0 : Hp} {tr : DTA} {e e2 : Expr}
def zips (xs ys : List D) : List D := xs.zipWith (fun a b => .tup [a, b]) ys
theorem src_zip {K : PySem.W.Frag} {F H : Hp} {xs ys : List D} {St : Mp → Prop} {a b : Addr} {vs us : List V} (h1 : F a = some (.lst vs)) (h2 : Reps K F xs vs) (h3 : F b = some (.lst us)) (h4 : Reps K F ys us) : Src K F H (zips xs ys) St (Itz K a b) where
  go := fun i F' H' M' e r s hi => by
    have hi' : i < min xs.length ys.length := by rw [← List.length_zipWith]; exact hi
    have hx : i < vs.length := by rw [← h2.length]; omega
    have hy : i < us.length := by rw [← h4.length]; omega
    exact ⟨vs, us, vs[i], us[i], SqL.of (r.fr _ _ (e _ _ h1)), SqL.of (r.fr _ _ (e _ _ h3)), by simp [hx], by simp [hy]⟩
  yld := fun i F' H' M' x H2 e r s hi ⟨T, u, v, ex, hT, eH, hu, hv⟩ => by
    subst ex eH
    obtain ⟨d, q1, q2⟩ := (h2.mono e).get (hu vs (SqL.of (r.fr _ _ (e _ _ h1))))
    obtain ⟨d', q3, q4⟩ := (h4.mono e).get (hv us (SqL.of (r.fr _ _ (e _ _ h3))))
    refine ⟨.tup [d, d'], _, by unfold zips; rw [List.getElem?_zipWith, q1, q3], same_upd (r.freeF hT), r.newF hT _, rep_tup.mpr ⟨T, [u, v], rfl, SqT.of upd_same, ?_⟩⟩
    exact .cons (q2.mono (same_upd (r.freeF hT))) (.cons (q4.mono (same_upd (r.freeF hT))) .nil)
  stop := fun i F' H' M' e r s hi => by
    have hi' : min xs.length ys.length ≤ i := by rw [← List.length_zipWith]; exact hi
    rw [h2.length, h4.length] at hi'
    exact ⟨vs, us, SqL.of (r.fr _ _ (e _ _ h1)), SqL.of (r.fr _ _ (e _ _ h3)), by omega⟩
def dZip (ta : DTA) : DTI := fun σ M Kd => ta σ M fun vs M1 => match vs with
  | [.lst xs, .lst ys] => Kd (zips xs ys) (fun _ => True) M1
  | _ => False
theorem di_zip {p pos tpos : Pos} {elts : List Expr} {kk : Nat} (hg : Gl X "zip") (hm : X.mg "zip" = none) (ha : DA X F0 [e, e2] tr)
    (hs : starEach [e, e2] X.env = (false, eval e X.env) :: starEach [e2] X.env := by rfl) (hpl : (backTo pos (starEach [e2] X.env)).any (·.1) = false := by rfl) :
    DI X F0 (.Tuple elts kk tpos) (.Call (.Name "zip" p) [e, e2] [] pos) (dZip tr) :=
  PI_imp (pi_zip hg hm ha hs hpl) fun σ H Rr ⟨σd, M, F, hF, r, hS, Kd, h, fin⟩ => ⟨σd, M, F, _, hF, r, hS, h, fun x M1 v H1 F1 q e1 r1 v1 => by
    split at q
    · obtain ⟨u, u2, rfl, g1, g2⟩ := v1.two
      obtain ⟨a, vs, rfl, ha, hr⟩ := rep_lst.mp g1
      obtain ⟨b, us, rfl, hb, hr2⟩ := rep_lst.mp g2
      exact ⟨a, b, vs, us, rfl, SqL.of (r1.fr _ _ ha), SqL.of (r1.fr _ _ hb), fin _ _ _ _ _ _ q e1 r1 trivial (src_zip ha hr hb hr2)⟩
    · exact q.elim⟩
end
end DL
/-! The mistakes of a program, in plain words: what is seen where, and the rows that are told. -/
namespace Mi
open PySem L2 DL Syn
abbrev Pla := List Nat
structure Mk where
  n : Str
  gs : List Giv
  vs : List Vr
  ps : List Part
structure Ac where
  n : Str
  gs : List Giv
  k : Str
  ds : List Deed
  v : Val
def Mk.d (m : Mk) : D := .tup [.str "make", .str m.n, .tup (m.gs.map givD), .tup (m.vs.map vrD), .tup (partsD m.ps)]
def Ac.d (a : Ac) : D := .tup [.str "act", .str a.n, .tup (a.gs.map givD), .str a.k, .tup (deedsD a.ds), a.v.d]
/-- all pairs put in, one behind the other -/
def putL {κ α : Type} [DecidableEq κ] (l : List (κ × α)) : List (κ × α) := l.foldl (fun acc x => tput acc x.1 x.2) []
def setL {κ α : Type} [DecidableEq κ] (l : List (κ × α)) : List (κ × α) := l.foldl (fun acc x => tset acc x.1 x.2) []
theorem putL_snoc {κ α : Type} [DecidableEq κ] {l : List (κ × α)} {x : κ × α} : putL (l ++ [x]) = tput (putL l) x.1 x.2 := by
  unfold putL
  rw [List.foldl_append] <;> rfl
theorem setL_snoc {κ α : Type} [DecidableEq κ] {l : List (κ × α)} {x : κ × α} : setL (l ++ [x]) = tset (setL l) x.1 x.2 := by
  unfold setL
  rw [List.foldl_append] <;> rfl
theorem setL_mem {κ α : Type} [DecidableEq κ] (l : List (κ × α)) : ∀ x ∈ setL l, x ∈ l := by
  have key : ∀ (l acc : List (κ × α)) x, x ∈ l.foldl (fun acc x => tset acc x.1 x.2) acc → x ∈ acc ∨ x ∈ l := by
    intro l
    induction l with
    | nil => intro acc x h; exact .inl h
    | cons y l ih =>
      intro acc x h
      rcases ih _ x h with h | h
      · unfold tset at h
        dsimp only at h
        split at h
        · exact .inl h
        · rcases List.mem_append.mp h with h | h
          · exact .inl h
          · exact .inr (by rw [List.mem_singleton.mp h]; exact List.mem_cons_self ..)
      · exact .inr (List.mem_cons_of_mem _ h)
  intro x h
  rcases key l [] x h with h | h
  · cases h
  · exact h
/-! ### what stands where -/
def KSL (p : Prg) : List (Str × List Str) := ("Truth", ["No", "Yes"]) :: p.kinds
def OWL (p : Prg) : List (Str × Str) := ("No", "Truth") :: ("Yes", "Truth") :: p.kinds.flatMap fun k => k.2.map fun w => (w, k.1)
def rowsM (m : Mk) : List (Str × Str) := m.gs ++ m.vs.map fun v => (v.1, v.2.1)
/-- items with their places -/
def rooms (rs : List (Str × Str)) : List (Str × Nat × Str) := setL (rs.zipIdx.map fun x => (x.1.1, x.2, x.1.2))
def actP : Part × Nat → Option (Str × Nat × Ac)
  | (.act n gs k ds v, i) => some (n, i, ⟨n, gs, k, ds, v⟩)
  | _ => none
def makP (pl : Pla) : Part × Nat → Option (Str × Pla × Mk)
  | (.make n gs vs ps, i) => some (n, pl ++ [i], ⟨n, gs, vs, ps⟩)
  | _ => none
def seats (ps : List Part) : List (Str × Nat × Ac) := setL (ps.zipIdx.filterMap actP)
def inner (pl : Pla) (ps : List Part) : List (Str × Pla × Mk) := setL (ps.zipIdx.filterMap (makP pl))
def actsAt (pl : Pla) (ps : List Part) : List (Pla × Ac) := (seats ps).map fun x => (pl ++ [x.2.1], x.2.2)
theorem inner_size {pl : Pla} {ps : List Part} {x : Str × Pla × Mk} (h : x ∈ inner pl ps) : sizeOf x.2.2.ps < sizeOf ps := by
  have := setL_mem _ _ h
  obtain ⟨y, hy, e⟩ := List.mem_filterMap.mp this
  obtain ⟨q, i⟩ := y
  have hq : q ∈ ps := by
    have := List.mem_zipIdx hy
    obtain ⟨_, h2, h3⟩ := this
    rw [h3]
    exact List.getElem_mem _
  have hs := List.sizeOf_lt_of_mem hq
  cases q with
  | make n gs vs qs =>
    cases e
    show sizeOf qs < sizeOf ps
    have : sizeOf qs < sizeOf (Part.make n gs vs qs) := by
      simp
      omega
    omega
  | act => cases e
def mks (pl : Pla) (m : Mk) : List (Pla × Mk) := (pl, m) :: (inner pl m.ps).attach.flatMap fun x => mks x.1.2.1 x.1.2.2
termination_by sizeOf m.ps
decreasing_by exact inner_size x.2
theorem mks_eq (pl : Pla) (m : Mk) : mks pl m = (pl, m) :: (inner pl m.ps).flatMap fun x => mks x.2.1 x.2.2 := by
  rw [mks]
  congr 1
  have : ∀ (l : List (Str × Pla × Mk)), l.attach.flatMap (fun x => mks x.1.2.1 x.1.2.2) = l.flatMap fun x => mks x.2.1 x.2.2 := by
    intro l
    conv => rhs; rw [← List.attach_map_subtype_val l]
    rw [List.flatMap_map]
  exact this _
def top (p : Prg) : Mk := ⟨"program", [], p.vars, p.parts⟩
def MKL (p : Prg) : List (Pla × Mk) := mks [] (top p)
structure Nm where
  kinds : List (Str × List Str)
  owners : List (Str × Str)
  mkrs : List (Pla × Mk)
  acts : List (Pla × Ac)
  rooms : List (Pla × List (Str × Nat × Str))
  seats : List (Pla × List (Str × Nat × Ac))
def nmOf (K : List (Str × List Str)) (O : List (Str × Str)) (l : List (Pla × Mk)) : Nm :=
  ⟨setL K, setL O, putL l, putL (l.flatMap fun x => actsAt x.1 x.2.ps), putL (l.map fun x => (x.1, rooms (rowsM x.2))), putL (l.map fun x => (x.1, seats x.2.ps))⟩
def nm (p : Prg) : Nm := nmOf (KSL p) (OWL p) (MKL p)
def strsT (xs : List Str) : D := .tup (xs.map D.str)
def rmD (x : Nat × Str) : D := .tup [.int ((x.1 : Nat) : Int), .str x.2]
def stD (x : Nat × Ac) : D := .int ((x.1 : Nat) : Int)
def nmFs (pw : Wd) (N : Nm) : List (Str × D) := [("kinds", dcD pw (tdc D.str strsT N.kinds)), ("owners", dcD pw (tdc D.str D.str N.owners)), ("makers", dcD pw (tdc plD Mk.d N.mkrs)), ("acts", dcD pw (tdc plD Ac.d N.acts)),
  ("rooms", dcD pw (tdc plD (fun r => dcD pw (tdc D.str rmD r)) N.rooms)), ("seats", dcD pw (tdc plD (fun r => dcD pw (tdc D.str stD r)) N.seats))]
def nmD (pw : Wd) (C : Addr) (N : Nm) : D := finD C (nmFs pw N)
/-! ### what is seen -/
/-- the act of this name that is seen from a place; the levels below n -/
def seenA (N : Nm) (pl : Pla) (name : Str) : Nat → Option Pla
  | 0 => none
  | n + 1 => let at_ := ((tget ((tget N.seats (pl.take n)).getD []) name).map (·.1)).getD (pl.getD n 0)
    if at_ < pl.getD n 0 then some (pl.take n ++ [at_]) else seenA N pl name n
def actSeen (N : Nm) (pl : Pla) (name : Str) : Option Pla := seenA N pl name pl.length
inductive Sp where
  | giv (i : Nat) (k : Str) | room (lv i : Nat) (k : Str)
def Sp.k : Sp → Str
  | .giv _ k => k
  | .room _ _ k => k
def Sp.d : Sp → D
  | .giv i k => .tup [.str "given", .int ((i : Nat) : Int), .str k]
  | .room lv i k => .tup [.str "room", .int ((lv : Nat) : Int), .int ((i : Nat) : Int), .str k]
structure Std where
  pl : Pla
  lim : Option Nat
  gs : List Giv
def inGivs (gs : List Giv) (name : Str) : Option Sp := ((gs.zipIdx.find? fun x => decide (x.1.1 = name))).map fun x => .giv x.2 x.1.2
/-- the levels below n -/
def inRooms (N : Nm) (s : Std) (name : Str) : Nat → Option Sp
  | 0 => none
  | n + 1 => match tget ((tget N.rooms (s.pl.take n)).getD []) name with
    | some (i, k) => if (decide (n < s.pl.length) || (match s.lim with | none => true | some l => decide (i < l))) = true then some (.room n i k) else inRooms N s name n
    | none => inRooms N s name n
end Mi
/-! The Names of a program while they are made. -/
namespace Mi
open PySem PySem.Spec L2 DL Syn
structure NmF (K : PySem.W.Frag) (C : Addr) : Prop where
  cls : Cls K C
  kinds : NoAttr K C "kinds"
  owners : NoAttr K C "owners"
  makers : NoAttr K C "makers"
  acts : NoAttr K C "acts"
  rooms : NoAttr K C "rooms"
  seats : NoAttr K C "seats"
structure NA where
  s : Addr
  k : Addr
  o : Addr
  m : Addr
  a : Addr
  r : Addr
  t : Addr
def NA.l (b : NA) : List Addr := [b.s, b.k, b.o, b.m, b.a, b.r, b.t]
def NA.fs (b : NA) : List (Str × D) := [("kinds", .obj b.k), ("owners", .obj b.o), ("makers", .obj b.m), ("acts", .obj b.a), ("rooms", .obj b.r), ("seats", .obj b.t)]
def roomsD (pw : Wd) (r : List (Str × Nat × Str)) : D := dcD pw (tdc D.str rmD r)
def seatsD (pw : Wd) (r : List (Str × Nat × Ac)) : D := dcD pw (tdc D.str stD r)
structure NmAt (pw : Wd) (C : Addr) (b : NA) (B : Mp) (N : Nm) (M : Mp) : Prop where
  s : M b.s = some (.ins C b.fs)
  k : M b.k = some (.dic pw (tdc D.str strsT N.kinds))
  o : M b.o = some (.dic pw (tdc D.str D.str N.owners))
  m : M b.m = some (.dic pw (tdc plD Mk.d N.mkrs))
  a : M b.a = some (.dic pw (tdc plD Ac.d N.acts))
  r : M b.r = some (.dic pw (tdc plD (roomsD pw) N.rooms))
  t : M b.t = some (.dic pw (tdc plD (seatsD pw) N.seats))
  nd : b.l.Nodup
  fr : ∀ q ∈ b.l, B q = none
  kp : ∀ q o, B q = some o → M q = some o
section
variable {pw : Wd} {C : Addr} {b : NA} {B M : Mp} {N : Nm} {p : Addr}
theorem NmAt.mem (h : NmAt pw C b B N M) : ∀ q ∈ b.l, ∃ o, M q = some o := by
  intro q hq
  unfold NA.l at hq
  simp only [List.mem_cons, List.not_mem_nil, or_false] at hq
  rcases hq with rfl | rfl | rfl | rfl | rfl | rfl | rfl
  · exact ⟨_, h.s⟩
  · exact ⟨_, h.k⟩
  · exact ⟨_, h.o⟩
  · exact ⟨_, h.m⟩
  · exact ⟨_, h.a⟩
  · exact ⟨_, h.r⟩
  · exact ⟨_, h.t⟩
/-- what stands beside -/
theorem NmAt.other (h : NmAt pw C b B N M) {x : MO} (hp : p ∉ b.l) : NmAt pw C b (updM B p x) N (updM M p x) := by
  have ne : ∀ q ∈ b.l, q ≠ p := fun q hq e => hp (e ▸ hq)
  have f := fun q (hq : q ∈ b.l) => updM_ne (M := M) (o := x) (ne q hq)
  refine ⟨?_, ?_, ?_, ?_, ?_, ?_, ?_, h.nd, fun q hq => ?_, fun q o hq => ?_⟩
  · rw [f _ (by simp [NA.l])]; exact h.s
  · rw [f _ (by simp [NA.l])]; exact h.k
  · rw [f _ (by simp [NA.l])]; exact h.o
  · rw [f _ (by simp [NA.l])]; exact h.m
  · rw [f _ (by simp [NA.l])]; exact h.a
  · rw [f _ (by simp [NA.l])]; exact h.r
  · rw [f _ (by simp [NA.l])]; exact h.t
  · rw [updM_ne (ne q hq)]; exact h.fr q hq
  · by_cases e : q = p
    · subst e
      rw [updM_same] at hq ⊢
      exact hq
    · rw [updM_ne e] at hq ⊢
      exact h.kp q o hq
theorem NmAt.new (h : NmAt pw C b B N M) {p : Addr} (hp : M p = none) : p ∉ b.l := fun hq => by
  obtain ⟨o, e⟩ := h.mem p hq
  rw [hp] at e; cases e
theorem NmAt.old (h : NmAt pw C b B N M) {p : Addr} {o : MO} (hp : B p = some o) : p ∉ b.l := fun hq => by
  rw [h.fr p hq] at hp; cases hp
/-- less of the rest -/
theorem NmAt.base (h : NmAt pw C b B N M) {B' : Mp} (hb : ∀ q o, B' q = some o → B q = some o) : NmAt pw C b B' N M :=
  ⟨h.s, h.k, h.o, h.m, h.a, h.r, h.t, h.nd, fun q hq => (by
    cases e : B' q with
    | none => rfl
    | some o => have := hb q o e; rw [h.fr q hq] at this; cases this), fun q o hq => h.kp q o (hb q o hq)⟩
theorem NmAt.rem (h : NmAt pw C b B N M) (hp : p ∉ b.l) : NmAt pw C b (remM B p) N (remM M p) := by
  have ne : ∀ q ∈ b.l, q ≠ p := fun q hq e => hp (e ▸ hq)
  have f := fun q (hq : q ∈ b.l) => show remM M p q = M q from if_neg (ne q hq)
  refine ⟨?_, ?_, ?_, ?_, ?_, ?_, ?_, h.nd, fun q hq => ?_, fun q o hq => ?_⟩
  · rw [f _ (by simp [NA.l])]; exact h.s
  · rw [f _ (by simp [NA.l])]; exact h.k
  · rw [f _ (by simp [NA.l])]; exact h.o
  · rw [f _ (by simp [NA.l])]; exact h.m
  · rw [f _ (by simp [NA.l])]; exact h.a
  · rw [f _ (by simp [NA.l])]; exact h.r
  · rw [f _ (by simp [NA.l])]; exact h.t
  · unfold remM
    rw [if_neg (ne q hq)]; exact h.fr q hq
  · unfold remM at hq ⊢
    by_cases e : q = p
    · rw [if_pos e] at hq; cases hq
    · rw [if_neg e] at hq ⊢
      exact h.kp q o hq
end
section
variable {pw : Wd} {C : Addr} {b : NA} {B M : Mp} {N : Nm} {p : Addr}
theorem NmAt.kp' (h : NmAt pw C b B N M) {q : Addr} {x : MO} (hq : q ∈ b.l) : ∀ p o, B p = some o → updM M q x p = some o := fun p o hp => by
  have e : p ≠ q := fun e => by rw [e, h.fr q hq] at hp; cases hp
  rw [updM_ne e]
  exact h.kp p o hp
theorem NmAt.setK (h : NmAt pw C b B N M) (l) : NmAt pw C b B { N with kinds := l } (updM M b.k (.dic pw (tdc D.str strsT l))) := by
  have nd := h.nd
  unfold NA.l at nd
  simp only [List.nodup_cons, List.mem_cons, List.not_mem_nil, or_false, not_or] at nd
  obtain ⟨⟨n1, n2, n3, n4, n5, n6⟩, ⟨n7, n8, n9, n10, n11⟩, ⟨n12, n13, n14, n15⟩, ⟨n16, n17, n18⟩, ⟨n19, n20⟩, n21, _⟩ := nd
  refine ⟨?_, ?_, ?_, ?_, ?_, ?_, ?_, h.nd, h.fr, h.kp' (by simp [NA.l])⟩ <;>
  first
  | exact updM_same
  | (rw [updM_ne (by first | assumption | (apply Ne.symm; assumption))]; first | exact h.s | exact h.k | exact h.o | exact h.m | exact h.a | exact h.r | exact h.t)
theorem NmAt.setO (h : NmAt pw C b B N M) (l) : NmAt pw C b B { N with owners := l } (updM M b.o (.dic pw (tdc D.str D.str l))) := by
  have nd := h.nd
  unfold NA.l at nd
  simp only [List.nodup_cons, List.mem_cons, List.not_mem_nil, or_false, not_or] at nd
  obtain ⟨⟨n1, n2, n3, n4, n5, n6⟩, ⟨n7, n8, n9, n10, n11⟩, ⟨n12, n13, n14, n15⟩, ⟨n16, n17, n18⟩, ⟨n19, n20⟩, n21, _⟩ := nd
  refine ⟨?_, ?_, ?_, ?_, ?_, ?_, ?_, h.nd, h.fr, h.kp' (by simp [NA.l])⟩ <;>
  first
  | exact updM_same
  | (rw [updM_ne (by first | assumption | (apply Ne.symm; assumption))]; first | exact h.s | exact h.k | exact h.o | exact h.m | exact h.a | exact h.r | exact h.t)
theorem NmAt.setM (h : NmAt pw C b B N M) (l) : NmAt pw C b B { N with mkrs := l } (updM M b.m (.dic pw (tdc plD Mk.d l))) := by
  have nd := h.nd
  unfold NA.l at nd
  simp only [List.nodup_cons, List.mem_cons, List.not_mem_nil, or_false, not_or] at nd
  obtain ⟨⟨n1, n2, n3, n4, n5, n6⟩, ⟨n7, n8, n9, n10, n11⟩, ⟨n12, n13, n14, n15⟩, ⟨n16, n17, n18⟩, ⟨n19, n20⟩, n21, _⟩ := nd
  refine ⟨?_, ?_, ?_, ?_, ?_, ?_, ?_, h.nd, h.fr, h.kp' (by simp [NA.l])⟩ <;>
  first
  | exact updM_same
  | (rw [updM_ne (by first | assumption | (apply Ne.symm; assumption))]; first | exact h.s | exact h.k | exact h.o | exact h.m | exact h.a | exact h.r | exact h.t)
theorem NmAt.setA (h : NmAt pw C b B N M) (l) : NmAt pw C b B { N with acts := l } (updM M b.a (.dic pw (tdc plD Ac.d l))) := by
  have nd := h.nd
  unfold NA.l at nd
  simp only [List.nodup_cons, List.mem_cons, List.not_mem_nil, or_false, not_or] at nd
  obtain ⟨⟨n1, n2, n3, n4, n5, n6⟩, ⟨n7, n8, n9, n10, n11⟩, ⟨n12, n13, n14, n15⟩, ⟨n16, n17, n18⟩, ⟨n19, n20⟩, n21, _⟩ := nd
  refine ⟨?_, ?_, ?_, ?_, ?_, ?_, ?_, h.nd, h.fr, h.kp' (by simp [NA.l])⟩ <;>
  first
  | exact updM_same
  | (rw [updM_ne (by first | assumption | (apply Ne.symm; assumption))]; first | exact h.s | exact h.k | exact h.o | exact h.m | exact h.a | exact h.r | exact h.t)
theorem NmAt.setR (h : NmAt pw C b B N M) (l) : NmAt pw C b B { N with rooms := l } (updM M b.r (.dic pw (tdc plD (roomsD pw) l))) := by
  have nd := h.nd
  unfold NA.l at nd
  simp only [List.nodup_cons, List.mem_cons, List.not_mem_nil, or_false, not_or] at nd
  obtain ⟨⟨n1, n2, n3, n4, n5, n6⟩, ⟨n7, n8, n9, n10, n11⟩, ⟨n12, n13, n14, n15⟩, ⟨n16, n17, n18⟩, ⟨n19, n20⟩, n21, _⟩ := nd
  refine ⟨?_, ?_, ?_, ?_, ?_, ?_, ?_, h.nd, h.fr, h.kp' (by simp [NA.l])⟩ <;>
  first
  | exact updM_same
  | (rw [updM_ne (by first | assumption | (apply Ne.symm; assumption))]; first | exact h.s | exact h.k | exact h.o | exact h.m | exact h.a | exact h.r | exact h.t)
theorem NmAt.setT (h : NmAt pw C b B N M) (l) : NmAt pw C b B { N with seats := l } (updM M b.t (.dic pw (tdc plD (seatsD pw) l))) := by
  have nd := h.nd
  unfold NA.l at nd
  simp only [List.nodup_cons, List.mem_cons, List.not_mem_nil, or_false, not_or] at nd
  obtain ⟨⟨n1, n2, n3, n4, n5, n6⟩, ⟨n7, n8, n9, n10, n11⟩, ⟨n12, n13, n14, n15⟩, ⟨n16, n17, n18⟩, ⟨n19, n20⟩, n21, _⟩ := nd
  refine ⟨?_, ?_, ?_, ?_, ?_, ?_, ?_, h.nd, h.fr, h.kp' (by simp [NA.l])⟩ <;>
  first
  | exact updM_same
  | (rw [updM_ne (by first | assumption | (apply Ne.symm; assumption))]; first | exact h.s | exact h.k | exact h.o | exact h.m | exact h.a | exact h.r | exact h.t)
/-- the whole as data -/
theorem NmAt.frz (h : NmAt pw C b B N M) : ∃ M2, Fz pw (.obj b.s) M (nmD pw C N) M2 ∧ ∀ q o, B q = some o → M2 q = some o := by
  have nd := h.nd
  unfold NA.l at nd
  simp only [List.nodup_cons, List.mem_cons, List.not_mem_nil, or_false, not_or] at nd
  obtain ⟨⟨n1, n2, n3, n4, n5, n6⟩, ⟨n7, n8, n9, n10, n11⟩, ⟨n12, n13, n14, n15⟩, ⟨n16, n17, n18⟩, ⟨n19, n20⟩, n21, _⟩ := nd
  have rm : ∀ {M : Mp} {p q : Addr}, q ≠ p → remM M p q = M q := fun e => if_neg e
  refine ⟨remM (remM (remM (remM (remM (remM (remM M b.s) b.k) b.o) b.m) b.a) b.r) b.t, .ins (vs := [.obj b.k, .obj b.o, .obj b.m, .obj b.a, .obj b.r, .obj b.t]) (h.s.trans rfl) rfl (.cons (.dic ?_) (.cons (.dic ?_) (.cons (.dic ?_) (.cons (.dic ?_) (.cons (.dic ?_) (.cons (.dic ?_) .nil)))))), fun q o hq => ?_⟩
  · rw [rm (Ne.symm n1)]; exact h.k
  · rw [rm (Ne.symm n7), rm (Ne.symm n2)]; exact h.o
  · rw [rm (Ne.symm n12), rm (Ne.symm n8), rm (Ne.symm n3)]; exact h.m
  · rw [rm (Ne.symm n16), rm (Ne.symm n13), rm (Ne.symm n9), rm (Ne.symm n4)]; exact h.a
  · rw [rm (Ne.symm n19), rm (Ne.symm n17), rm (Ne.symm n14), rm (Ne.symm n10), rm (Ne.symm n5)]; exact h.r
  · rw [rm (Ne.symm n21), rm (Ne.symm n20), rm (Ne.symm n18), rm (Ne.symm n15), rm (Ne.symm n11), rm (Ne.symm n6)]; exact h.t
  · have ne : ∀ x ∈ b.l, q ≠ x := fun x hx e => by rw [e, h.fr x hx] at hq; cases hq
    unfold NA.l at ne
    rw [rm (ne _ (by simp)), rm (ne _ (by simp)), rm (ne _ (by simp)), rm (ne _ (by simp)), rm (ne _ (by simp)), rm (ne _ (by simp)), rm (ne _ (by simp))]
    exact h.kp q o hq
theorem nf_kinds : b.fs.lookup ("kinds" : Str) = some (D.obj b.k) := rfl
theorem nf_owners : b.fs.lookup ("owners" : Str) = some (D.obj b.o) := rfl
theorem nf_makers : b.fs.lookup ("makers" : Str) = some (D.obj b.m) := rfl
theorem nf_acts : b.fs.lookup ("acts" : Str) = some (D.obj b.a) := rfl
theorem nf_rooms : b.fs.lookup ("rooms" : Str) = some (D.obj b.r) := rfl
theorem nf_seats : b.fs.lookup ("seats" : Str) = some (D.obj b.t) := rfl
end
def tputs {κ α : Type} [DecidableEq κ] (a l : List (κ × α)) : List (κ × α) := l.foldl (fun acc x => tput acc x.1 x.2) a
theorem tputs_len {κ α : Type} [DecidableEq κ] : ∀ (l a : List (κ × α)), (tputs a l).length ≤ a.length + l.length
  | [], a => by simp [tputs]
  | x :: l, a => by
    have h1 := tputs_len l (tput a x.1 x.2)
    have h2 : (tput a x.1 x.2).length ≤ a.length + 1 := tput_len
    have : tputs a (x :: l) = tputs (tput a x.1 x.2) l := rfl
    rw [this, List.length_cons]
    omega
theorem putL_app {κ α : Type} [DecidableEq κ] {l m : List (κ × α)} : putL (l ++ m) = tputs (putL l) m := by
  unfold putL tputs
  rw [List.foldl_append]
theorem putL_len {κ α : Type} [DecidableEq κ] {l : List (κ × α)} : (putL l).length ≤ l.length := by
  have := tputs_len l []
  unfold tputs at this
  unfold putL
  simpa using this
theorem setL_len {κ α : Type} [DecidableEq κ] {l : List (κ × α)} : (setL l).length ≤ l.length := by
  have : ∀ (l a : List (κ × α)), (l.foldl (fun acc x => tset acc x.1 x.2) a).length ≤ a.length + l.length := by
    intro l
    induction l with
    | nil => intro a; simp
    | cons x l ih =>
      intro a
      have h2 : (tset a x.1 x.2).length ≤ a.length + 1 := tset_len
      have := ih (tset a x.1 x.2)
      rw [List.foldl_cons, List.length_cons]
      omega
  have := this l []
  unfold setL
  simpa using this
theorem inner_len {pl : Pla} {ps : List Part} : (inner pl ps).length ≤ ps.length := by
  have h1 : (inner pl ps).length ≤ _ := setL_len
  have h2 := List.length_filterMap_le (makP pl) ps.zipIdx
  rw [List.length_zipIdx] at h2
  omega
theorem seats_len {ps : List Part} : (seats ps).length ≤ ps.length := by
  have h1 : (seats ps).length ≤ _ := setL_len
  have h2 := List.length_filterMap_le actP ps.zipIdx
  rw [List.length_zipIdx] at h2
  omega
theorem actsAt_len {pl : Pla} {ps : List Part} : (actsAt pl ps).length ≤ ps.length := by
  unfold actsAt
  rw [List.length_map]
  exact seats_len
/-- the sizes that a program may have -/
structure Small (p : Prg) : Prop where
  mn : (MKL p).length ≤ 1000
  ps : ∀ x ∈ MKL p, x.2.ps.length ≤ 1000 ∧ x.2.gs.length ≤ 1000 ∧ x.2.vs.length ≤ 1000 ∧ x.1.length ≤ 1000
  ks : p.kinds.length ≤ 1000
  os : (OWL p).length ≤ 10000
  kr : ∀ k ∈ p.kinds, k.2.length ≤ 1000
end Mi
namespace Mi
open PySem PySem.Spec L2 DL Syn
section
variable {own : Bool} {M : Mp} {Q : DK} {pl : Pla} {i : Nat}
theorem plD_snoc : plD (pl ++ [i]) = .tup (pl.map (fun i => D.int ((i : Nat) : Int)) ++ [.int ((i : Nat) : Int)]) := by
  unfold plD
  rw [List.map_append] <;> rfl
theorem e_add_pl : dAdd own (plD pl) (.tup [.int ((i : Nat) : Int)]) M Q = (pl.length + 1 ≤ sizeLine ∧ Q (plD (pl ++ [i])) M) := by
  rw [plD_snoc]
  unfold plD
  rw [e_add_tup, List.length_map] <;> rfl
theorem e_len_pl : dLen [plD pl] M Q = Q (.int (pl.length : Nat)) M := by
  unfold plD
  rw [e_len_tup, List.length_map]
theorem e_sl_pl {n : Nat} : dSl own (plD pl) none (some (n : Int)) M Q = Q (plD (pl.take n)) M := by
  unfold plD
  rw [e_sl_tup, cut_to, List.map_take]
theorem e_ix_pl {n : Nat} (h : n < pl.length) : dIx (plD pl) (.int (n : Int)) M Q = Q (.int ((pl.getD n 0 : Nat) : Int)) M := by
  refine e_ix_at rfl ?_
  refine atI_nat ?_
  rw [List.getElem?_map, List.getElem?_eq_getElem h, List.getD_eq_getElem?_getD, List.getElem?_eq_getElem h] <;> rfl
end
end Mi
/-! What is seen, as data. -/
namespace Mi
open PySem PySem.Spec L2 DL Syn
section
variable {pw : Wd} {M : Mp} {Q : DK} {pl : Pla} {y : D} {K : PySem.W.Frag} {C : Addr} {N : Nm}
theorem ixX_pl : dIxX pw (plD pl) y M Q = dIx (plD pl) y M Q := ixX_tup
theorem down_get {n i : Nat} {d : D} {lo : Int} (h : (stepped lo (-1) n)[i]? = some d) : d = .int (lo - (i : Nat)) ∧ i < n := by
  unfold stepped at h
  rw [List.getElem?_map] at h
  obtain ⟨k, h1, rfl⟩ := Option.map_eq_some_iff.mp h
  obtain ⟨h2, h3⟩ := List.getElem?_eq_some_iff.mp h1
  rw [List.getElem_range] at h3
  subst h3
  refine ⟨?_, by simpa using h2⟩
  congr 1
  omega
theorem down_len {n : Nat} {lo : Int} : (stepped lo (-1) n).length = n := by simp [stepped]
/-- the fields of known Names -/
theorem zn {f : Str} {v : D} (hc : Cls K C) (hn : NoAttr K C f) (hl : (nmFs pw N).lookup f = some v) : dFX K f (nmD pw C N) M Q = Q v M := z_get hc hn hl
theorem zf_kinds : (nmFs pw N).lookup ("kinds" : Str) = some (dcD pw (tdc D.str strsT N.kinds)) := rfl
theorem zf_owners : (nmFs pw N).lookup ("owners" : Str) = some (dcD pw (tdc D.str D.str N.owners)) := rfl
theorem zf_makers : (nmFs pw N).lookup ("makers" : Str) = some (dcD pw (tdc plD Mk.d N.mkrs)) := rfl
theorem zf_acts : (nmFs pw N).lookup ("acts" : Str) = some (dcD pw (tdc plD Ac.d N.acts)) := rfl
theorem zf_rooms : (nmFs pw N).lookup ("rooms" : Str) = some (dcD pw (tdc plD (roomsD pw) N.rooms)) := rfl
theorem zf_seats : (nmFs pw N).lookup ("seats" : Str) = some (dcD pw (tdc plD (seatsD pw) N.seats)) := rfl
end
structure StF (K : PySem.W.Frag) (C : Addr) : Prop where
  cls : Cls K C
  names : NoAttr K C "names"
  place : NoAttr K C "place"
  limit : NoAttr K C "limit"
  givens : NoAttr K C "givens"
def limD : Option Nat → D
  | none => .non
  | some n => .int ((n : Nat) : Int)
def stdFs (pw : Wd) (CN : Addr) (N : Nm) (s : Std) : List (Str × D) := [("names", nmD pw CN N), ("place", plD s.pl), ("limit", limD s.lim), ("givens", .tup (s.gs.map givD))]
def stdD (pw : Wd) (CN CS : Addr) (N : Nm) (s : Std) : D := finD CS (stdFs pw CN N s)
section
variable {pw : Wd} {M : Mp} {Q : DK} {K : PySem.W.Frag} {C CN : Addr} {N : Nm} {s : Std}
theorem zs {f : Str} {v : D} (hc : Cls K C) (hn : NoAttr K C f) (hl : (stdFs pw CN N s).lookup f = some v) : dFX K f (stdD pw CN C N s) M Q = Q v M := z_get hc hn hl
theorem zs_names : (stdFs pw CN N s).lookup ("names" : Str) = some (nmD pw CN N) := rfl
theorem zs_place : (stdFs pw CN N s).lookup ("place" : Str) = some (plD s.pl) := rfl
theorem zs_limit : (stdFs pw CN N s).lookup ("limit" : Str) = some (limD s.lim) := rfl
theorem zs_givens : (stdFs pw CN N s).lookup ("givens" : Str) = some (.tup (s.gs.map givD)) := rfl
end
def optPl : Option Pla → D
  | none => .non
  | some p => plD p
def optS : Option Str → D
  | none => .non
  | some p => .str p
def optSp : Option Sp → D
  | none => .non
  | some s => s.d
def spot (N : Nm) (s : Std) (name : Str) : Option Sp := (inGivs s.gs name).or (inRooms N s name (s.pl.length + 1))
/-- all levels of a place are known -/
def LvS (N : Nm) (pl : Pla) : Prop := pl.length ≤ 1000 ∧ ∀ n, n < pl.length → ∃ r, tget N.seats (pl.take n) = some r
def LvR (N : Nm) (pl : Pla) : Prop := pl.length ≤ 1000 ∧ ∀ n, n ≤ pl.length → ∃ r, tget N.rooms (pl.take n) = some r
def limOk : Option Nat → Nat → Bool
  | none, _ => true
  | some l, i => decide (i < l)
theorem inRooms_some {N : Nm} {s : Std} {name : Str} {n i : Nat} {k : Str} {r : List (Str × Nat × Str)} (hr : tget N.rooms (s.pl.take n) = some r) (h : tget r name = some (i, k)) : inRooms N s name (n + 1) = if (decide (n < s.pl.length) || limOk s.lim i) = true then some (.room n i k) else inRooms N s name n := by
  rw [inRooms, hr]
  simp only [Option.getD_some, h]
  cases s.lim <;> rfl
theorem inRooms_none {N : Nm} {s : Std} {name : Str} {n : Nat} {r : List (Str × Nat × Str)} (hr : tget N.rooms (s.pl.take n) = some r) (h : tget r name = none) : inRooms N s name (n + 1) = inRooms N s name n := by
  rw [inRooms, hr]
  simp only [Option.getD_some, h]
end Mi
/-! What a Check tells. -/
namespace Mi
open PySem PySem.Spec L2 DL Syn
structure CkF (K : PySem.W.Frag) (C : Addr) : Prop where
  cls : Cls K C
  names : NoAttr K C "names"
  rows : NoAttr K C "rows"
  place : NoAttr K C "place"
  stand : NoAttr K C "stand"
/-- a row: the place, the word, the name -/
abbrev Ms : Type := Pla × Str × Str
def rowD (m : Ms) : D := .tup [plD m.1, .str m.2.1, .tup [.str m.2.2]]
def ckFs (pw : Wd) (CN CS : Addr) (pr : Addr) (N : Nm) (pl : Pla) (s : Std) : List (Str × D) := [("names", nmD pw CN N), ("rows", .obj pr), ("place", plD pl), ("stand", stdD pw CN CS N s)]
structure CkAt (pw : Wd) (CN CS CC : Addr) (M : Mp) (c pr : Addr) (N : Nm) (pl : Pla) (s : Std) (rows : List Ms) : Prop where
  at_ : M c = some (.ins CC (ckFs pw CN CS pr N pl s))
  rw_ : M pr = some (.lst (rows.map rowD))
section
variable {pw : Wd} {CN CS CC : Addr} {M : Mp} {c pr : Addr} {N : Nm} {pl : Pla} {s : Std} {rows : List Ms}
theorem CkAt.ne (h : CkAt pw CN CS CC M c pr N pl s rows) : c ≠ pr := fun e => by
  have := h.at_
  rw [e, h.rw_] at this
  cases this
theorem CkAt.put (h : CkAt pw CN CS CC M c pr N pl s rows) (r) : CkAt pw CN CS CC (updM M pr (.lst (r.map rowD))) c pr N pl s r := ⟨by rw [updM_ne h.ne]; exact h.at_, updM_same⟩
theorem CkAt.other (h : CkAt pw CN CS CC M c pr N pl s rows) {p : Addr} {x : MO} (hp : M p = none) : CkAt pw CN CS CC (updM M p x) c pr N pl s rows := ⟨by rw [updM_ne (neM h.at_ hp)]; exact h.at_, by rw [updM_ne (neM h.rw_ hp)]; exact h.rw_⟩
theorem CkAt.beside (h : CkAt pw CN CS CC M c pr N pl s rows) {p : Addr} {x : MO} (h1 : c ≠ p) (h2 : pr ≠ p) : CkAt pw CN CS CC (updM M p x) c pr N pl s rows := ⟨by rw [updM_ne h1]; exact h.at_, by rw [updM_ne h2]; exact h.rw_⟩
theorem CkAt.same (h : CkAt pw CN CS CC M c pr N pl s rows) : updM M pr (.lst (rows.map rowD)) = M := updM_self h.rw_
theorem k_names : (ckFs pw CN CS pr N pl s).lookup ("names" : Str) = some (nmD pw CN N) := rfl
theorem k_rows : (ckFs pw CN CS pr N pl s).lookup ("rows" : Str) = some (.obj pr) := rfl
theorem k_place : (ckFs pw CN CS pr N pl s).lookup ("place" : Str) = some (plD pl) := rfl
theorem k_stand : (ckFs pw CN CS pr N pl s).lookup ("stand" : Str) = some (stdD pw CN CS N s) := rfl
end
/-- the rows are these and what is told, in whatever order -/
def Grow (r a r' : List Ms) : Prop := r'.Perm (r ++ a)
theorem Grow.nil {r : List Ms} : Grow r [] r := by
  unfold Grow
  rw [List.append_nil]
theorem Grow.one {r : List Ms} {x : Ms} : Grow r [x] (r ++ [x]) := List.Perm.refl _
theorem Grow.trans {r a r1 b r2 : List Ms} (h : Grow r a r1) (h2 : Grow r1 b r2) : Grow r (a ++ b) r2 := by
  unfold Grow at h h2 ⊢
  rw [← List.append_assoc]
  exact h2.trans (h.append_right b)
theorem Grow.len {r a r' : List Ms} (h : Grow r a r') : r'.length = r.length + a.length := by
  have := List.Perm.length_eq h
  rwa [List.length_append] at this
theorem Grow.perm {r a b r' : List Ms} (h : Grow r a r') (e : a.Perm b) : Grow r b r' := List.Perm.trans h (e.append_left r)
/-! ### the kinds and the rows -/
def known (N : Nm) (k : Str) : Option Str := if (tget N.kinds k).isSome then some k else none
def needR (N : Nm) (pl : Pla) (k : Str) : List Ms := if (tget N.kinds k).isSome then [] else [(pl, "unknown", k)]
def roomK (N : Nm) (s : Std) (n : Str) : Option Str := match spot N s n with
  | none => none
  | some sp => known N sp.k
def roomR (N : Nm) (s : Std) (pl : Pla) (n : Str) : List Ms := match spot N s n with
  | none => [(pl, "unknown", n)]
  | some _ => []
def atomK (N : Nm) (s : Std) : Atom → Option Str
  | .nm n => roomK N s n
  | .vl v => tget N.owners v
def atomR (N : Nm) (s : Std) (pl : Pla) : Atom → List Ms
  | .nm n => roomR N s pl n
  | .vl v => match tget N.owners v with
    | none => [(pl, "unknown", v)]
    | some _ => []
def unlikeB : Option Str → Option Str → Bool
  | some a, some b => decide (a ≠ b)
  | _, _ => false
def kindR (pl : Pla) (b : Bool) (n : Str) : List Ms := if b then [(pl, "kind", n)] else []
def testR (N : Nm) (s : Std) (pl : Pla) : Tst → List Ms
  | .same a b => atomR N s pl a ++ atomR N s pl b ++ kindR pl (unlikeB (atomK N s a) (atomK N s b)) a.s
  | .neg t => testR N s pl t
  | .con l r => testR N s pl l ++ testR N s pl r
  | .dis l r => testR N s pl l ++ testR N s pl r
def valK (N : Nm) (s : Std) : Val → Option Str
  | .at a => atomK N s a
  | .ite t x y => if valK N s x = valK N s y then valK N s x else none
def firstW : Val → Str
  | .at a => a.s
  | .ite t x y => firstW x
def valR (N : Nm) (s : Std) (pl : Pla) : Val → List Ms
  | .at a => atomR N s pl a
  | .ite t x y => testR N s pl t ++ (valR N s pl x ++ (valR N s pl y ++ kindR pl (unlikeB (valK N s x) (valK N s y)) (firstW x)))
def mustR (N : Nm) (s : Std) (pl : Pla) (k : Option Str) (v : Val) (n : Str) : List Ms := valR N s pl v ++ kindR pl (unlikeB k (valK N s v)) n
/-- the kind that the value at i must have -/
def givK (N : Nm) (gs : List Giv) (i : Nat) : Option Str := match gs[i]? with
  | some g => known N g.2
  | none => none
def valsR (N : Nm) (s : Std) (pl : Pla) (gs : List Giv) (f : Str) (vs : List Val) : List Ms := vs.zipIdx.flatMap fun x => mustR N s pl (givK N gs x.2) x.1 f
def dooR (N : Nm) (s : Std) (pl : Pla) (n f : Str) (vs : List Val) : List Ms := roomR N s pl n ++ match (actSeen N pl f).bind (tget N.acts) with
  | none => ([(pl, "unknown", f)] : List Ms) ++ vs.flatMap (valR N s pl)
  | some a => (if a.gs.length ≠ vs.length then [(pl, "many", f)] else [] : List Ms) ++ (valsR N s pl a.gs f vs ++ kindR pl (unlikeB (roomK N s n) (known N a.k)) n)
mutual
def deedR (N : Nm) (s : Std) (pl : Pla) : Deed → List Ms
  | .set n v => roomR N s pl n ++ mustR N s pl (roomK N s n) v n
  | .doo n f vs => dooR N s pl n f vs
  | .ite t xs ys => testR N s pl t ++ (deedsR N s pl xs ++ deedsR N s pl ys)
def deedsR (N : Nm) (s : Std) (pl : Pla) : List Deed → List Ms
  | [] => []
  | x :: xs => deedR N s pl x ++ deedsR N s pl xs
end
theorem deedsR_flat {N : Nm} {s : Std} {pl : Pla} : ∀ xs : List Deed, deedsR N s pl xs = xs.flatMap (deedR N s pl)
  | [] => by unfold deedsR; rfl
  | x :: xs => by unfold deedsR; rw [deedsR_flat xs, List.flatMap_cons]
mutual
def cntD : Deed → Nat
  | .set _ _ => 1
  | .doo _ _ _ => 1
  | .ite _ xs ys => 1 + (cntDs xs + cntDs ys)
def cntDs : List Deed → Nat
  | [] => 0
  | x :: xs => cntD x + cntDs xs
end
theorem cntDs_app : ∀ xs ys : List Deed, cntDs (xs ++ ys) = cntDs xs + cntDs ys
  | [], ys => by rw [List.nil_append, cntDs, Nat.zero_add]
  | x :: xs, ys => by rw [List.cons_append, cntDs, cntDs, cntDs_app xs ys, Nat.add_assoc]
/-- the kinds' names are texts that Python may have -/
structure KOk (N : Nm) : Prop where
  ks : ∀ k v, tget N.kinds k = some v → PyData.strOk k = true
  os : ∀ k v, tget N.owners k = some v → PyData.strOk v = true
theorem known_ok {N : Nm} (h : KOk N) {k x : Str} (e : known N k = some x) : PyData.strOk x = true := by
  unfold known at e
  split at e
  · rename_i hk
    obtain ⟨v, hv⟩ := Option.isSome_iff_exists.mp hk
    cases e
    exact h.ks _ _ hv
  · cases e
theorem atomK_ok {N : Nm} {s : Std} (h : KOk N) {a : Atom} {x : Str} (e : atomK N s a = some x) : PyData.strOk x = true := by
  cases a with
  | nm n =>
    have e : roomK N s n = some x := e
    unfold roomK at e
    cases hs : spot N s n with
    | none => rw [hs] at e; cases e
    | some sp => rw [hs] at e; exact known_ok h e
  | vl v => exact h.os _ _ e
theorem valK_ok {N : Nm} {s : Std} (h : KOk N) : ∀ {v : Val} {x : Str}, valK N s v = some x → PyData.strOk x = true
  | .at a, x, e => atomK_ok h (by unfold valK at e; exact e)
  | .ite t a b, x, e => by
    unfold valK at e
    split at e
    · exact valK_ok h e
    · cases e
section
variable {M : Mp} {Q : DK} {n : Bool}
theorem shaped_str {b : Str} (h : PyData.strOk b = true) : SeqAt.shaped (.str b) = true := by unfold SeqAt.shaped; simp [PyData.canLay0, PyData.depth, h]
theorem e_eq_opt {a b : Option Str} (ha : ∀ k, a = some k → PyData.strOk k = true) (hb : ∀ k, b = some k → PyData.strOk k = true) (q : Q (.bl (n != decide (a = b))) M) : dEq n (optS a) (optS b) M Q := by
  cases a with
  | none =>
    cases b with
    | none => exact ⟨_, _, rfl, rfl, rfl, rfl, q⟩
    | some b => exact ⟨_, _, rfl, rfl, rfl, shaped_str (hb b rfl), q⟩
  | some a =>
    cases b with
    | none => exact ⟨_, _, rfl, rfl, shaped_str (ha a rfl), rfl, q⟩
    | some b =>
      show Q (.bl (n != decide (a = b))) M
      simpa using q
theorem e_isN_gen {x : D} : dIsN n x .non M Q = Q (.bl (n != isNon x)) M := rfl
theorem e_isN_opt {a : Option Str} : dIsN n (optS a) .non M Q = Q (.bl (n != a.isNone)) M := by cases a <;> rfl
end
end Mi
namespace Mi
open PySem PySem.Spec L2 DL Syn
def tn : Tst → Nat
  | .same _ _ => 1
  | .neg t => tn t + 1
  | .con l r => tn l + tn r + 1
  | .dis l r => tn l + tn r + 1
theorem tn_pos : ∀ t, 1 ≤ tn t
  | .same _ _ => Nat.le_refl _
  | .neg t => by unfold tn; omega
  | .con l r => by unfold tn; omega
  | .dis l r => by unfold tn; omega
def vn : Val → Nat
  | .at _ => 1
  | .ite t x y => tn t + (vn x + vn y) + 3
theorem vn_pos : ∀ t, 1 ≤ vn t
  | .at _ => Nat.le_refl _
  | .ite t x y => by unfold vn; omega
theorem sum_len {α : Type} {f : α → Nat} (hf : ∀ x, 1 ≤ f x) : ∀ l : List α, l.length ≤ (l.map f).sum
  | [] => Nat.zero_le _
  | x :: l => by
    rw [List.length_cons, List.map_cons, List.sum_cons]
    have := sum_len hf l
    have := hf x
    omega
theorem sum_snoc {α : Type} {f : α → Nat} {l : List α} {x : α} : ((l ++ [x]).map f).sum = (l.map f).sum + f x := by
  rw [List.map_append, List.sum_append, List.map_cons, List.map_nil, List.sum_cons, List.sum_nil, Nat.add_zero]
theorem Grow.app {r a r1 b : List Ms} (h : Grow r a r1) : Grow r (a ++ b) (r1 ++ b) := h.trans (List.Perm.refl _)
theorem perm_snoc {α β : Type} {f : α → List β} {done : List β} {l : List α} {x : α} {t : List β} (h : (done ++ (l ++ [x]).flatMap f).Perm t) : ((done ++ f x) ++ l.flatMap f).Perm t := by
  rw [List.flatMap_append, List.flatMap_cons, List.flatMap_nil, List.append_nil] at h
  rw [List.append_assoc]
  exact (List.perm_append_comm.append_left done).trans h
end Mi
namespace Mi
open PySem PySem.Spec L2 DL Syn
/-- what a Check of a value has still to do -/
inductive VI where
  | ev (v : Val) | fi (t : Tst) (x y : Val)
def VI.d : VI → D
  | .ev v => .tup [.str "", v.d]
  | .fi t x y => .tup [.str "if", (Val.ite t x y).d]
def VI.n : VI → Nat
  | .ev v => vn v
  | .fi _ _ _ => 1
theorem VI.pos : ∀ x : VI, 1 ≤ x.n
  | .ev v => vn_pos v
  | .fi _ _ _ => Nat.le_refl _
def runK (N : Nm) (s : Std) : List VI → List (Option Str) → List (Option Str)
  | [], ks => ks
  | .ev v :: L, ks => runK N s L (valK N s v :: ks)
  | .fi _ _ _ :: L, b :: a :: ks => runK N s L ((if a = b then a else none) :: ks)
  | .fi _ _ _ :: _, _ => []
def runR (N : Nm) (s : Std) (pl : Pla) : List VI → List (Option Str) → List Ms
  | [], _ => []
  | .ev v :: L, ks => valR N s pl v ++ runR N s pl L (valK N s v :: ks)
  | .fi _ x _ :: L, b :: a :: ks => kindR pl (unlikeB a b) (firstW x) ++ runR N s pl L ((if a = b then a else none) :: ks)
  | .fi _ _ _ :: _, _ => []
end Mi
namespace Mi
open PySem PySem.Spec L2 DL Syn
def ValsOk (vs : List Val) : Prop := vs.length ≤ 1000 ∧ ∀ v ∈ vs, vn v ≤ 100000
mutual
def dOk : Deed → Prop
  | .set _ v => vn v ≤ 100000
  | .doo _ _ vs => ValsOk vs
  | .ite t xs ys => tn t ≤ 100000 ∧ dsOk xs ∧ dsOk ys
def dsOk : List Deed → Prop
  | [] => True
  | x :: xs => dOk x ∧ dsOk xs
end
theorem dsOk_iff : ∀ xs : List Deed, dsOk xs ↔ ∀ x ∈ xs, dOk x
  | [] => by unfold dsOk; simp
  | x :: xs => by unfold dsOk; rw [dsOk_iff xs]; simp
mutual
theorem cntD_pos : ∀ d : Deed, 1 ≤ cntD d
  | .set _ _ => by unfold cntD; omega
  | .doo _ _ _ => by unfold cntD; omega
  | .ite _ xs ys => by unfold cntD; omega
end
theorem cntDs_len : ∀ xs : List Deed, xs.length ≤ cntDs xs
  | [] => Nat.zero_le _
  | x :: xs => by
    have := cntD_pos x
    have := cntDs_len xs
    unfold cntDs
    rw [List.length_cons]
    omega
theorem cntDs_snoc {xs : List Deed} {x : Deed} : cntDs (xs ++ [x]) = cntDs xs + cntD x := by
  rw [cntDs_app]
  show _ + (cntD x + 0) = _
  omega
end Mi
namespace Mi
open PySem PySem.Spec L2 DL Syn
/-! ### the kinds themselves -/
def twR (pl : Pla) (b : Bool) (n : Str) : List Ms := if b then [(pl, "twice", n)] else []
def manyR (pl : Pla) (b : Bool) (n : Str) : List Ms := if b then [(pl, "many", n)] else []
def wordsR (pl : Pla) : List Str → List Str → List Ms
  | _, [] => []
  | ws, x :: xs => twR pl (decide (x ∈ ws)) x ++ wordsR pl (ws ++ [x]) xs
def kindsR (pl : Pla) : List Str → List Str → List (Str × List Str) → List Ms
  | _, _, [] => []
  | ns, ws, k :: ks => twR pl (decide (k.1 ∈ ns)) k.1 ++ (manyR pl (decide (4 < k.2.length)) k.1 ++ (wordsR pl ws k.2 ++ kindsR pl (ns ++ [k.1]) (ws ++ k.2) ks))
/-! ### parts -/
mutual
def partsN : Part → Nat
  | .make _ _ _ ps => 1 + partsNs ps
  | .act _ _ _ _ _ => 1
def partsNs : List Part → Nat
  | [] => 0
  | p :: ps => partsN p + partsNs ps
end
/-! ### deeds written out -/
mutual
def writN (N : Nm) (pl : Pla) (S : List (Pla × Nat)) : Deed → Nat
  | .set _ _ => 1
  | .doo _ f _ => 1 + ((actSeen N pl f).bind (tget S)).getD 0
  | .ite _ xs ys => 1 + (writNs N pl S xs + writNs N pl S ys)
def writNs (N : Nm) (pl : Pla) (S : List (Pla × Nat)) : List Deed → Nat
  | [] => 0
  | x :: xs => writN N pl S x + writNs N pl S xs
end
theorem writNs_app {N : Nm} {pl : Pla} {S : List (Pla × Nat)} : ∀ xs ys : List Deed, writNs N pl S (xs ++ ys) = writNs N pl S xs + writNs N pl S ys
  | [], ys => by simp [writNs]
  | x :: xs, ys => by simp only [List.cons_append, writNs, writNs_app xs ys, Nat.add_assoc]
/-! every act that is done is seen -/
mutual
def seenD (N : Nm) (pl : Pla) : Deed → Prop
  | .set _ _ => True
  | .doo _ f _ => ∃ t, actSeen N pl f = some t
  | .ite _ xs ys => seenDs N pl xs ∧ seenDs N pl ys
def seenDs (N : Nm) (pl : Pla) : List Deed → Prop
  | [] => True
  | x :: xs => seenD N pl x ∧ seenDs N pl xs
end
theorem seenDs_iff {N : Nm} {pl : Pla} : ∀ xs : List Deed, seenDs N pl xs ↔ ∀ x ∈ xs, seenD N pl x
  | [] => by unfold seenDs; simp
  | x :: xs => by unfold seenDs; rw [seenDs_iff xs]; simp
def natD (n : Nat) : D := .int ((n : Nat) : Int)
end Mi
namespace Mi
open PySem PySem.Spec L2 DL Syn
def givR1 (N : Nm) (pl : Pla) (gs : List (Str × Str)) (x : (Str × Str) × Nat) : List Ms := twR pl (decide (x.1.1 ∈ (gs.take x.2).map (·.1))) x.1.1 ++ needR N pl x.1.2
def givsR (N : Nm) (pl : Pla) (gs : List (Str × Str)) : List Ms := gs.zipIdx.flatMap (givR1 N pl gs)
def actS (pl : Pla) (a : Ac) : Std := ⟨pl.dropLast, none, a.gs⟩
def actR (N : Nm) (pl : Pla) (a : Ac) : List Ms := givsR N pl a.gs ++ (needR N pl a.k ++ (deedsR N (actS pl a) pl a.ds ++ (manyR pl (decide (3 < a.gs.length) || decide (40 < cntDs a.ds)) a.n ++ mustR N (actS pl a) pl (known N a.k) a.v a.n)))
section
variable {pw : Wd} {M : Mp} {x : Addr} {CS : Addr} {a b c d : D}
theorem fz_stand (hx : M x = none) : ∃ M2, Fz pw (.obj x) (updM M x (.ins CS [("names", a), ("place", b), ("limit", c), ("givens", d)])) (finD CS [("names", a), ("place", b), ("limit", c), ("givens", d)]) M2 ∧ ∀ q o, M q = some o → M2 q = some o := by
  refine ⟨_, .ins (ns := ["names", "place", "limit", "givens"]) (vs := [a, b, c, d]) updM_same rfl (.cons .id (.cons .id (.cons .id (.cons .id .nil)))), fun q o hq => ?_⟩
  unfold remM
  rw [if_neg (neM hq hx), updM_ne (neM hq hx)]
  exact hq
theorem cut_last {α : Type} {xs : List α} : cutL xs none (some (-1)) = xs.dropLast := by
  unfold cutL
  rw [HT.sIx_none, List.dropLast_eq_take, List.drop_zero, Nat.sub_zero]
  congr 1
  unfold HT.sIx
  dsimp only
  rw [if_pos (by decide)]
  omega
theorem e_sl_last {own : Bool} {Q : DK} {pl : Pla} : dSl own (plD pl) none (some (-1)) M Q = Q (plD pl.dropLast) M := by
  unfold plD
  rw [e_sl_tup, cut_last, List.map_dropLast]
/-- the first of a row -/
def fst1 : D → D
  | .tup (x :: _) => x
  | _ => .non
theorem fst_giv {gs : List Giv} : (gs.map givD).map fst1 = (gs.map (·.1)).map D.str := by
  rw [List.map_map, List.map_map]
  rfl
theorem fst_rows {m : Mk} : (m.gs.map givD ++ m.vs.map vrD).map fst1 = ((rowsM m).map (·.1)).map D.str := by
  unfold rowsM
  rw [List.map_append, fst_giv, List.map_append, List.map_append, List.map_map, List.map_map, List.map_map, List.map_map]
  rfl
end
theorem len_take_flat {α β : Type} {f : α → List β} {l : List α} {i : Nat} : ((l.take i).flatMap f).length ≤ (l.flatMap f).length := by
  conv => rhs; rw [← List.take_append_drop i l, List.flatMap_append, List.length_append]
  omega
theorem take_flat {α β : Type} {f : α → List β} {l : List α} {i : Nat} {x : α} (h : l[i]? = some x) : (l.take (i + 1)).flatMap f = (l.take i).flatMap f ++ f x := by
  obtain ⟨hn, e⟩ := List.getElem?_eq_some_iff.mp h
  rw [List.take_succ_eq_append_getElem hn, e, List.flatMap_append, List.flatMap_cons, List.flatMap_nil, List.append_nil]
theorem zip_get {α : Type} {l : List α} {i : Nat} {x : α} (h : l[i]? = some x) : l.zipIdx[i]? = some (x, i) := by
  rw [List.getElem?_zipIdx, h] <;> simp
end Mi
namespace Mi
open PySem PySem.Spec L2 DL Syn
def firS (pl : Pla) (m : Mk) (i : Nat) : Std := ⟨pl, some (m.gs.length + i), []⟩
def firR1 (N : Nm) (pl : Pla) (m : Mk) (x : Vr × Nat) : List Ms := mustR N (firS pl m x.2) pl (known N x.1.2.1) x.1.2.2 x.1.1
def firR (N : Nm) (pl : Pla) (m : Mk) : List Ms := m.vs.zipIdx.flatMap (firR1 N pl m)
def szK (N : Nm) (k : Str) : Nat := ((tget N.kinds k).map (·.length)).getD 1
def prodK (N : Nm) (rs : List (Str × Str)) : Nat := rs.foldl (fun acc x => acc * szK N x.2) 1
def mkBig (N : Nm) (pl : Pla) (m : Mk) : Bool := decide (5 < (rowsM m).length) || (decide (12 < m.ps.length) || (decide (3 < pl.length) || decide (64 < prodK N (rowsM m))))
def tag : Part → Bool × Str
  | .make n _ _ _ => (true, n)
  | .act n _ _ _ _ => (false, n)
def tagD (t : Bool × Str) : D := .tup [.str (if t.1 then "make" else "act"), .str t.2]
def prtR1 (pl : Pla) (ps : List Part) (x : Part × Nat) : List Ms := twR (pl ++ [x.2]) (decide (tag x.1 ∈ (ps.take x.2).map tag)) (tag x.1).2
def prtR (pl : Pla) (ps : List Part) : List Ms := ps.zipIdx.flatMap (prtR1 pl ps)
def makR (N : Nm) (pl : Pla) (m : Mk) : List Ms := givsR N pl (rowsM m) ++ (firR N pl m ++ (manyR pl (mkBig N pl m) m.n ++ prtR pl m.ps))
theorem tag_shal {t : Bool × Str} : Shal (tagD t) := ⟨rfl, by
  show PyData.depth (.tuple [.str _, .str _]) ≤ 20
  simp [PyData.depth, PyData.depthAll]⟩
theorem tag_enc {t : Bool × Str} : encD (tagD t) = .tuple [.str (if t.1 then "make" else "act"), .str t.2] := rfl
theorem tag_eqv {t u : Bool × Str} : PyData.eqv (encD (tagD t)) (encD (tagD u)) = decide (t = u) := by
  obtain ⟨a, x⟩ := t
  obtain ⟨b, y⟩ := u
  rw [tag_enc, tag_enc]
  have h1 : (("make" : Str) == "act") = false := by decide +kernel
  have h2 : (("act" : Str) == "make") = false := by decide +kernel
  have h3 : (x == y) = decide (x = y) := by
    by_cases e : x = y <;> simp [e]
  cases a <;> cases b <;> simp [PyData.eqv, PyData.eqvAll, h1, h2, h3]
theorem tag_any {t : Bool × Str} {l : List (Bool × Str)} : ((l.map tagD).any fun z => PyData.eqv (encD z) (encD (tagD t))) = decide (t ∈ l) := by
  rw [List.any_map]
  induction l with
  | nil => rfl
  | cons u l ih =>
    rw [List.any_cons, ih]
    dsimp only [Function.comp]
    rw [tag_eqv]
    by_cases e : u = t
    · simp [e]
    · have e' : ¬ t = u := fun z => e z.symm
      simp [e, e']
theorem tag_of {p : Part} : ∃ tl, p.d = .tup (.str (if (tag p).1 then "make" else "act") :: .str (tag p).2 :: tl) := by
  cases p with
  | make n gs vs ps => exact ⟨_, by unfold Part.d; rfl⟩
  | act n gs k ds v => exact ⟨_, by unfold Part.d; rfl⟩
theorem cut2 {α : Type} {a b : α} {l : List α} : cutL (a :: b :: l) none (some 2) = [a, b] := cut_to (n := 2)
theorem prodK_take {N : Nm} {rs : List (Str × Str)} {i : Nat} {x : Str × Str} (h : rs[i]? = some x) : prodK N (rs.take (i + 1)) = prodK N (rs.take i) * szK N x.2 := by
  obtain ⟨hn, e⟩ := List.getElem?_eq_some_iff.mp h
  unfold prodK
  rw [List.take_succ_eq_append_getElem hn, e, List.foldl_append] <;> rfl
end Mi
/-! The order of places and of rows; rows as keys. -/
namespace Mi
open PySem PySem.Spec L2 DL Syn
def intsP (p : Pla) : List Int := p.map fun i => ((i : Nat) : Int)
theorem ints_inj {p q : Pla} (h : intsP p = intsP q) : p = q := by
  unfold intsP at h
  exact List.map_inj_right (fun a b e => by omega) |>.mp h
def ltP (p q : Pla) : Bool := decide (intsP p < intsP q)
def ltMs (a b : Ms) : Bool := if a.1 = b.1 then (if a.2.1 = b.2.1 then decide (a.2.2.cps.toList < b.2.2.cps.toList) else decide (a.2.1.cps.toList < b.2.1.cps.toList)) else ltP a.1 b.1
theorem encD_pl (p : Pla) : encD (plD p) = .tuple ((intsP p).map PyData.int) := by
  unfold encD
  rw [pyD_pl]
  unfold intsP
  rw [List.map_map] <;> rfl
theorem pyD_row (m : Ms) : pyD (rowD m) = some (.tuple [.tuple ((intsP m.1).map PyData.int), .str m.2.1, .tuple [.str m.2.2]]) := by
  unfold rowD pyD pyDs
  rw [pyD_pl]
  unfold intsP
  rw [List.map_map] <;> rfl
theorem encD_row (m : Ms) : encD (rowD m) = .tuple [.tuple ((intsP m.1).map PyData.int), .str m.2.1, .tuple [.str m.2.2]] := by
  unfold encD
  rw [pyD_row] <;> rfl
theorem eqv_ints : ∀ xs ys : List Int, PyData.eqvAll (xs.map PyData.int) (ys.map PyData.int) = decide (xs = ys)
  | [], [] => by simp [PyData.eqvAll]
  | [], y :: ys => by simp [PyData.eqvAll]
  | x :: xs, [] => by simp [PyData.eqvAll]
  | x :: xs, y :: ys => by
    rw [List.map_cons, List.map_cons]
    simp only [PyData.eqvAll, PyData.eqv, eqv_ints xs ys]
    by_cases h : x = y <;> by_cases h2 : xs = ys <;> simp [h, h2]
theorem lt_pl (p q : Pla) : PySem.W.dataLt (encD (plD p)) (encD (plD q)) = ltP p q := by
  rw [encD_pl, encD_pl, PySem.W.dataLt_tuple]
  exact PySem.W.dataLt_ints _ _
theorem alike_pl (p q : Pla) : PySem.W.alike (encD (plD p)) (encD (plD q)) = true := by
  rw [encD_pl, encD_pl]
  simp only [PySem.W.alike]
  exact PySem.W.alike_ints _ _
theorem alike_row (a b : Ms) : PySem.W.alike (encD (rowD a)) (encD (rowD b)) = true := by
  rw [encD_row, encD_row]
  simp only [PySem.W.alike, PySem.W.alikeAll, PySem.W.alike_ints, Bool.and_self]
theorem lex_nil : PyProof.Rows.lexLt PyProof.Rows.itemOrd (PySem.W.keyToksAll []) (PySem.W.keyToksAll []) = false := PyProof.Rows.lex_irrefl _
theorem lt_row (a b : Ms) : PySem.W.dataLt (encD (rowD a)) (encD (rowD b)) = ltMs a b := by
  rw [encD_row, encD_row, PySem.W.dataLt_tuple, PySem.W.dataLt_cons (by simp only [PySem.W.alike, PySem.W.alike_ints]), PySem.W.dataLt_cons (by simp [PySem.W.alike]), PySem.W.dataLt_cons (by simp [PySem.W.alike, PySem.W.alikeAll])]
  rw [lex_nil, PySem.W.dataLt_str, PySem.W.dataLt_tuple, PySem.W.dataLt_tuple, PySem.W.dataLt_cons (by simp [PySem.W.alike]), lex_nil, PySem.W.dataLt_str]
  have q1 : PyData.eqv (.tuple ((intsP a.1).map PyData.int)) (.tuple ((intsP b.1).map PyData.int)) = decide (a.1 = b.1) := by
    simp only [PyData.eqv, eqv_ints]
    exact decide_eq_decide.mpr ⟨ints_inj, fun h => by rw [h]⟩
  have q2 : ∀ x y : Str, PyData.eqv (.str x) (.str y) = decide (x = y) := fun x y => by
    simp only [PyData.eqv]
    by_cases e : x = y <;> simp [e]
  have q3 : ∀ x y : Str, PyData.eqv (.tuple [.str x]) (.tuple [.str y]) = decide (x = y) := fun x y => by
    have := q2 x y
    simp only [PyData.eqv, PyData.eqvAll, Bool.and_true] at this ⊢
    exact this
  have e2 : PyProof.Rows.lexLt PyProof.Rows.itemOrd (PySem.W.keyToksAll ((intsP a.1).map PyData.int)) (PySem.W.keyToksAll ((intsP b.1).map PyData.int)) = decide (intsP a.1 < intsP b.1) := PySem.W.dataLt_ints _ _
  rw [e2, q1, q2, q3, q2]
  unfold ltMs ltP
  by_cases h1 : a.1 = b.1
  · rw [if_pos (decide_eq_true h1), if_pos h1]
    by_cases h2 : a.2.1 = b.2.1
    · rw [if_pos (decide_eq_true h2), if_pos h2]
      by_cases h3 : a.2.2 = b.2.2
      · rw [if_pos (decide_eq_true h3), h3]
        simp
      · rw [if_neg (by simpa using h3), if_neg (by simpa using h3)]
    · rw [if_neg (by simpa using h2), if_neg h2]
  · rw [if_neg (by simpa using h1), if_neg h1]
theorem ltMs_anti {a b : Ms} (h1 : ltMs a b = false) (h2 : ltMs b a = false) : a = b := by
  have tri : ∀ x y : Str, decide (x.cps.toList < y.cps.toList) = false → decide (y.cps.toList < x.cps.toList) = false → x = y := fun x y h1 h2 => by
    have h1 := List.not_lt.mp (of_decide_eq_false h1)
    have h2 := List.not_lt.mp (of_decide_eq_false h2)
    exact PySem.W.str_of_cps (List.le_antisymm h2 h1)
  unfold ltMs at h1 h2
  by_cases e1 : a.1 = b.1
  · rw [if_pos e1] at h1
    rw [if_pos e1.symm] at h2
    by_cases e2 : a.2.1 = b.2.1
    · rw [if_pos e2] at h1
      rw [if_pos e2.symm] at h2
      have e3 := tri _ _ h1 h2
      exact Prod.ext e1 (Prod.ext e2 e3)
    · rw [if_neg e2] at h1
      rw [if_neg (fun z => e2 z.symm)] at h2
      exact absurd (tri _ _ h1 h2) e2
  · rw [if_neg e1] at h1
    rw [if_neg (fun z => e1 z.symm)] at h2
    have h1 := List.not_lt.mp (of_decide_eq_false h1)
    have h2 := List.not_lt.mp (of_decide_eq_false h2)
    exact absurd (ints_inj (List.le_antisymm h2 h1)) e1
/-! ### sorting -/
def leP (p q : Pla) : Bool := !ltP q p
def leMs (a b : Ms) : Bool := !ltMs b a
theorem srt_pl (l : List Pla) : srt (l.map plD) = (l.mergeSort leP).map plD := by
  unfold srt
  refine (List.map_mergeSort fun a _ b _ => ?_).symm
  show leP a b = !PySem.W.dataLt (encD (plD b)) (encD (plD a))
  rw [lt_pl] <;> rfl
theorem srt_row (l : List Ms) : srt (l.map rowD) = (l.mergeSort leMs).map rowD := by
  unfold srt
  refine (List.map_mergeSort fun a _ b _ => ?_).symm
  show leMs a b = !PySem.W.dataLt (encD (rowD b)) (encD (rowD a))
  rw [lt_row] <;> rfl
theorem leMs_total : PySem.W.TotalLe leMs := by
  have h := PySem.W.sortLe_total (PyProof.Rows.listOrd PyProof.Rows.itemOrd) false fun m : Ms => PySem.W.keyToks (encD (rowD m))
  have e : PySem.W.sortLe (PyProof.Rows.listOrd PyProof.Rows.itemOrd) false (fun m : Ms => PySem.W.keyToks (encD (rowD m))) = leMs := by
    funext a b
    show (!PySem.W.dataLt (encD (rowD b)) (encD (rowD a))) = _
    rw [lt_row] <;> rfl
  rw [e] at h
  exact h
theorem leP_total : PySem.W.TotalLe leP := by
  have h := PySem.W.sortLe_total (PyProof.Rows.listOrd PyProof.Rows.itemOrd) false fun m : Pla => PySem.W.keyToks (encD (plD m))
  have e : PySem.W.sortLe (PyProof.Rows.listOrd PyProof.Rows.itemOrd) false (fun m : Pla => PySem.W.keyToks (encD (plD m))) = leP := by
    funext a b
    show (!PySem.W.dataLt (encD (plD b)) (encD (plD a))) = _
    rw [lt_pl] <;> rfl
  rw [e] at h
  exact h
theorem ltMs_irr (a : Ms) : ltMs a a = false := by
  unfold ltMs
  simp
/-- a list without doubles, sorted -/
theorem sorted_lt {l : List Ms} (h : l.Nodup) : (l.mergeSort leMs).Pairwise fun a b => ltMs a b = true := by
  have h1 := PySem.W.sort_pairwise leMs_total l
  have h2 : (l.mergeSort leMs).Nodup := (List.mergeSort_perm l leMs).nodup_iff.mpr h
  refine (h1.and h2).imp fun ⟨x, y⟩ => ?_
  have x : (!ltMs _ _) = true := x
  cases e : ltMs _ _ with
  | true => rfl
  | false => exact absurd (ltMs_anti e (by simpa using x)) y
/-- two such lists with the same members -/
theorem sorted_eq : ∀ {l m : List Ms}, (l.Pairwise fun a b => ltMs a b = true) → (m.Pairwise fun a b => ltMs a b = true) → (∀ x, x ∈ l ↔ x ∈ m) → l = m
  | [], [], _, _, _ => rfl
  | [], y :: m, _, _, h => by have := (h y).mpr (List.mem_cons_self ..); cases this
  | x :: l, [], _, _, h => by have := (h x).mp (List.mem_cons_self ..); cases this
  | x :: l, y :: m, hl, hm, h => by
    rw [List.pairwise_cons] at hl hm
    have asym : ∀ a b : Ms, ltMs a b = true → ltMs b a = true → False := fun a b h1 h2 => by
      have h3 : leMs b a = false := by unfold leMs; rw [h1] <;> rfl
      have h4 : leMs a b = false := by unfold leMs; rw [h2] <;> rfl
      have := leMs_total.total a b
      rw [h3, h4] at this
      simp at this
    have e : x = y := by
      have h1 := (h x).mp (List.mem_cons_self ..)
      have h2 := (h y).mpr (List.mem_cons_self ..)
      rcases List.mem_cons.mp h1 with e | h1
      · exact e
      · rcases List.mem_cons.mp h2 with e | h2
        · exact e.symm
        · exact (asym x y (hl.1 y h2) (hm.1 x h1)).elim
    subst e
    congr 1
    refine sorted_eq hl.2 hm.2 fun z => ?_
    have irr : ∀ {l : List Ms}, (∀ a ∈ l, ltMs x a = true) → x ∉ l := fun hx hz => by
      have := hx x hz
      rw [ltMs_irr] at this
      cases this
    constructor
    · intro hz
      rcases List.mem_cons.mp ((h z).mp (List.mem_cons_of_mem _ hz)) with e | h
      · exact absurd (e ▸ hz) (irr hl.1)
      · exact h
    · intro hz
      rcases List.mem_cons.mp ((h z).mpr (List.mem_cons_of_mem _ hz)) with e | h
      · exact absurd (e ▸ hz) (irr hm.1)
      · exact h
/-! ### rows as keys -/
theorem nkD_row (m : Ms) : nkD (rowD m) = some (.tup [.tup (m.1.map fun i => .num ((i : Nat) : Int)), .text m.2.1, .tup [.text m.2.2]]) := by
  unfold nkD
  rw [pyD_row]
  show nkP _ = _
  have : nkPs ((intsP m.1).map PyData.int) = some (m.1.map fun i => NestedKey.num ((i : Nat) : Int)) := by
    have := nkPs_pl m.1
    unfold intsP
    rw [List.map_map]
    exact this
  simp only [nkP, nkPs, this, Option.map_some]
theorem row_key (m : Ms) : KeyD (rowD m) := ⟨⟨_, rfl⟩, by rw [nkD_row] <;> rfl, by
  unfold nkN
  rw [nkD_row]
  show NestedKey.depth (.tup _) ≤ 8
  simp [NestedKey.depth, NestedKey.depthAll, depth_pl]⟩
theorem row_inj {a b : Ms} (h : nkN (rowD a) = nkN (rowD b)) : a = b := by
  unfold nkN at h
  rw [nkD_row, nkD_row] at h
  have h : NestedKey.tup [.tup (a.1.map fun i => .num ((i : Nat) : Int)), .text a.2.1, .tup [.text a.2.2]] = NestedKey.tup [.tup (b.1.map fun i => .num ((i : Nat) : Int)), .text b.2.1, .tup [.text b.2.2]] := h
  injection h with h
  injection h with h1 h
  injection h with h2 h
  injection h with h3 _
  injection h2 with h2
  injection h3 with h3
  injection h3 with h3 _
  injection h3 with h3
  refine Prod.ext ?_ (Prod.ext h2 h3)
  injection h1 with h1
  exact List.map_inj_right (fun x y e => by injection e with e; omega) |>.mp h1
theorem pl_sortOk {A : Around} {l : List Pla} (hu : A.units + 64 < cLine) (hz : l.length ≤ sizeLine) (hn : ∀ p ∈ l, p ≠ []) : SortOk A (l.map plD) := by
  refine ⟨fun d hd => ?_, ?_, ?_, by rw [List.length_map]; exact hz⟩
  · obtain ⟨p, _, rfl⟩ := List.mem_map.mp hd
    refine ⟨by rw [pyD_pl] <;> rfl, ?_⟩
    rw [encD_pl]
    simp only [PyData.depth, PySem.W.depth_ints]
    omega
  · rw [List.map_map]
    exact PySem.W.AllAlike.of fun a b => alike_pl a b
  · refine .inl fun d hd => ?_
    rw [List.map_map] at hd
    obtain ⟨p, hp, rfl⟩ := List.mem_map.mp hd
    show ∃ x r, encD (plD p) = _
    rw [encD_pl]
    cases p with
    | nil => exact absurd rfl (hn _ hp)
    | cons i p => exact ⟨_, _, rfl⟩
theorem row_sortOk {A : Around} {l : List Ms} (hu : A.units + 64 < cLine) (hz : l.length ≤ sizeLine) : SortOk A (l.map rowD) := by
  refine ⟨fun d hd => ?_, ?_, ?_, by rw [List.length_map]; exact hz⟩
  · obtain ⟨p, _, rfl⟩ := List.mem_map.mp hd
    refine ⟨by rw [pyD_row] <;> rfl, ?_⟩
    rw [encD_row]
    simp only [PyData.depth, PyData.depthAll, PySem.W.depth_ints]
    omega
  · rw [List.map_map]
    exact PySem.W.AllAlike.of fun a b => alike_row a b
  · rw [List.map_map]
    exact PySem.W.Sortable.tuples fun b => ⟨_, _, encD_row b⟩
end Mi
namespace Mi
open PySem PySem.Spec L2 DL Syn
def actsR (N : Nm) : List Pla → List (Pla × Nat) → List Ms
  | [], _ => []
  | q :: qs, S => match tget N.acts q with
    | some a => actR N q a ++ (manyR q (decide (300 < writNs N q S a.ds)) a.n ++ actsR N qs (tput S q (writNs N q S a.ds)))
    | none => actsR N qs S
def osOf (N : Nm) : List Pla := (N.acts.map (·.1)).mergeSort leP
def allR (p : Prg) : List Ms := kindsR [] ["Truth"] ["No", "Yes"] p.kinds ++ (manyR [] (decide (30 < partsNs p.parts)) "program" ++ ((nm p).mkrs.flatMap (fun x => makR (nm p) x.1 x.2) ++ actsR (nm p) (osOf (nm p)) []))
structure MkOk (N : Nm) (pl : Pla) (m : Mk) : Prop where
  lv : LvR N pl
  vs : ∀ v ∈ m.vs, vn v.2.2 ≤ 100000
  nv : m.vs.length ≤ 1000
  ng : m.gs.length ≤ 1000
  np : m.ps.length ≤ 1000
  sz : ∀ k, szK N k ≤ 100000
structure AcOk (N : Nm) (pl : Pla) : Prop where
  lv : LvS N pl
  ac : ∀ f t, actSeen N pl f = some t → ∃ a, tget N.acts t = some a
structure ActOk (N : Nm) (pl : Pla) (a : Ac) : Prop where
  lr : LvR N pl.dropLast
  ok : AcOk N pl
  ds : dsOk a.ds
  cn : cntDs a.ds ≤ 100000
  vn : vn a.v ≤ 100000
  gs : a.gs.length ≤ 1000
  sn : seenDs N pl a.ds
  ne : pl ≠ []
structure PreM (p : Prg) : Prop where
  sm : Small p
  ko : KOk (nm p)
  mo : ∀ x ∈ (nm p).mkrs, MkOk (nm p) x.1 x.2
  ac : ∀ x ∈ (nm p).acts, ActOk (nm p) x.1 x.2
  ps : partsNs p.parts ≤ 100000
  few : (allR p).length < 64
theorem tget_self {κ α : Type} [DecidableEq κ] {l : List (κ × α)} {k : κ} {v : α} : tget (tput l k v) k = some v := by
  rw [tget_put, if_pos rfl]
/-- the trees that a set holds are rows, each once -/
theorem once_rows {rows : List Ms} {ks : List D} (h : Once (rows.map rowD) ks) : ∃ L : List Ms, ks = L.map rowD ∧ L.Nodup ∧ ∀ x, x ∈ L ↔ x ∈ rows := by
  have key : ∀ ks : List D, (∀ k ∈ ks, k ∈ rows.map rowD) → ∃ L : List Ms, ks = L.map rowD ∧ ∀ x ∈ L, x ∈ rows := by
    intro ks
    induction ks with
    | nil => exact fun _ => ⟨[], rfl, by simp⟩
    | cons k ks ih =>
      intro h
      obtain ⟨L, e, hL⟩ := ih fun x hx => h x (List.mem_cons_of_mem _ hx)
      obtain ⟨m, hm, rfl⟩ := List.mem_map.mp (h k (List.mem_cons_self ..))
      exact ⟨m :: L, by rw [e] <;> rfl, fun x hx => by rcases List.mem_cons.mp hx with rfl | hx; exact hm; exact hL x hx⟩
  obtain ⟨L, rfl, hL⟩ := key ks h.sub
  refine ⟨L, rfl, ?_, fun x => ⟨hL x, fun hx => ?_⟩⟩
  · have := h.nd
    rw [List.map_map] at this
    exact List.Nodup.of_map this
  · obtain ⟨k, hk, e⟩ := h.all (rowD x) (List.mem_map_of_mem hx)
    obtain ⟨y, hy, rfl⟩ := List.mem_map.mp hk
    rw [← row_inj e]
    exact hy
theorem nodup_len {α : Type} [DecidableEq α] : ∀ {l m : List α}, l.Nodup → (∀ x ∈ l, x ∈ m) → l.length ≤ m.length
  | [], m, _, _ => Nat.zero_le _
  | x :: l, m, h, hs => by
    rw [List.nodup_cons] at h
    have hx := hs x (List.mem_cons_self ..)
    have := nodup_len (m := m.erase x) h.2 fun y hy => (List.mem_erase_of_ne (show y ≠ x from fun e => h.1 (e ▸ hy))).mpr (hs y (List.mem_cons_of_mem _ hy))
    rw [List.length_erase_of_mem hx] at this
    have := List.length_pos_of_mem hx
    rw [List.length_cons]
    omega
end Mi
/-! What holds of the Names of every program: places are unlike, what stands around a place is a place, too. -/
namespace Mi
open PySem PySem.Spec L2 DL Syn
section
variable {κ α : Type} [DecidableEq κ]
theorem setL_sub (l : List (κ × α)) : (setL l).Sublist l := by
  have : ∀ (l a : List (κ × α)), (l.foldl (fun acc x => tset acc x.1 x.2) a).Sublist (a ++ l) := by
    intro l
    induction l with
    | nil => intro a; simp
    | cons x l ih =>
      intro a
      refine (ih (tset a x.1 x.2)).trans ?_
      unfold tset
      split
      · exact (List.Sublist.refl a).append (List.sublist_cons_self x l)
      · rw [List.append_assoc] <;> exact List.Sublist.refl _
  have h := this l []
  rw [List.nil_append] at h
  exact h
theorem setL_id {l : List (κ × α)} (h : (l.map (·.1)).Nodup) : setL l = l := by
  have : ∀ (l a : List (κ × α)), ((a ++ l).map (·.1)).Nodup → l.foldl (fun acc x => tset acc x.1 x.2) a = a ++ l := by
    intro l
    induction l with
    | nil => intro a _; simp
    | cons x l ih =>
      intro a h
      have hx : tget a x.1 = none := by
        rw [tget_none]
        intro hm
        rw [List.map_append, List.nodup_append] at h
        exact h.2.2 x.1 hm x.1 (by simp) rfl
      rw [List.foldl_cons, tset_new hx, ih _ (by rw [List.append_assoc]; exact h), List.append_assoc] <;> rfl
  have h := this l [] h
  rw [List.nil_append] at h
  exact h
theorem putL_id {l : List (κ × α)} (h : (l.map (·.1)).Nodup) : putL l = l := by
  have : ∀ (l a : List (κ × α)), ((a ++ l).map (·.1)).Nodup → l.foldl (fun acc x => tput acc x.1 x.2) a = a ++ l := by
    intro l
    induction l with
    | nil => intro a _; simp
    | cons x l ih =>
      intro a h
      have hx : tget a x.1 = none := by
        rw [tget_none]
        intro hm
        rw [List.map_append, List.nodup_append] at h
        exact h.2.2 x.1 hm x.1 (by simp) rfl
      rw [List.foldl_cons, tput_new hx, ih _ (by rw [List.append_assoc]; exact h), List.append_assoc] <;> rfl
  have h := this l [] h
  rw [List.nil_append] at h
  exact h
end
theorem inner_at {pl : Pla} {ps : List Part} {x : Str × Pla × Mk} (h : x ∈ inner pl ps) : ∃ i, ps[i]? = some (.make x.2.2.n x.2.2.gs x.2.2.vs x.2.2.ps) ∧ x.2.1 = pl ++ [i] ∧ x.1 = x.2.2.n := by
  have := setL_mem _ _ h
  obtain ⟨y, hy, e⟩ := List.mem_filterMap.mp this
  obtain ⟨q, i⟩ := y
  have hq : ps[i]? = some q := by
    obtain ⟨h1, h2, h3⟩ := List.mem_zipIdx hy
    rw [h3]
    simp only [Nat.sub_zero, Nat.zero_add] at h2 ⊢
    exact List.getElem?_eq_getElem _
  cases q with
  | make n gs vs qs =>
    cases e
    exact ⟨i, hq, rfl, rfl⟩
  | act => cases e
theorem inner_places {pl : Pla} {ps : List Part} : ((inner pl ps).map (·.2.1)).Nodup := by
  have h1 : ((inner pl ps).map (·.2.1)).Sublist ((ps.zipIdx.filterMap (makP pl)).map (·.2.1)) := (setL_sub _).map _
  refine h1.nodup ?_
  rw [List.map_filterMap]
  have h2 : ∀ (l : List (Part × Nat)), (l.map (·.2)).Nodup → (l.filterMap fun x => (makP pl x).map (·.2.1)).Nodup := by
    intro l
    induction l with
    | nil => intro _; simp
    | cons x l ih =>
      intro h
      rw [List.map_cons, List.nodup_cons] at h
      rw [List.filterMap_cons]
      obtain ⟨q, i⟩ := x
      cases q with
      | act => exact ih h.2
      | make n gs vs qs =>
        show ((pl ++ [i]) :: _).Nodup
        rw [List.nodup_cons]
        refine ⟨fun hm => ?_, ih h.2⟩
        obtain ⟨⟨q', j⟩, hy, e⟩ := List.mem_filterMap.mp hm
        cases q' with
        | act => cases e
        | make n' gs' vs' qs' =>
          have e : some (pl ++ [j]) = some (pl ++ [i]) := e
          have e : pl ++ [j] = pl ++ [i] := by injection e
          have e : [j] = [i] := List.append_cancel_left e
          injection e with e
          subst e
          exact h.1 (List.mem_map_of_mem (f := (·.2)) hy)
  refine h2 _ ?_
  rw [List.zipIdx_map_snd]
  exact List.nodup_range'
theorem mks_pre (pl : Pla) (m : Mk) : ∀ x ∈ mks pl m, ∃ r, x.1 = pl ++ r := by
  intro x hx
  rw [mks_eq] at hx
  rcases List.mem_cons.mp hx with rfl | hx
  · exact ⟨[], (List.append_nil _).symm⟩
  · obtain ⟨y, hy, hx⟩ := List.mem_flatMap.mp hx
    have := inner_size hy
    obtain ⟨r, hr⟩ := mks_pre y.2.1 y.2.2 x hx
    obtain ⟨i, _, e, _⟩ := inner_at hy
    exact ⟨[i] ++ r, by rw [hr, e, List.append_assoc]⟩
termination_by sizeOf m.ps
theorem mks_nodup (pl : Pla) (m : Mk) : ((mks pl m).map (·.1)).Nodup := by
  rw [mks_eq, List.map_cons, List.nodup_cons]
  refine ⟨fun h => ?_, ?_⟩
  · obtain ⟨x, hx, e⟩ := List.mem_map.mp h
    obtain ⟨y, hy, hx⟩ := List.mem_flatMap.mp hx
    obtain ⟨r, hr⟩ := mks_pre _ _ x hx
    obtain ⟨i, _, e2, _⟩ := inner_at hy
    have := congrArg List.length e
    rw [hr, e2] at this
    simp at this
  · rw [List.map_flatMap]
    have key : ∀ l : List (Str × Pla × Mk), (l.map (·.2.1)).Nodup → (∀ y ∈ l, y ∈ inner pl m.ps) → (l.flatMap fun y => (mks y.2.1 y.2.2).map (·.1)).Nodup := by
      intro l
      induction l with
      | nil => intro _ _; simp
      | cons y l ih =>
        intro hn hl
        rw [List.map_cons, List.nodup_cons] at hn
        rw [List.flatMap_cons, List.nodup_append]
        have hy := hl y (List.mem_cons_self ..)
        have := inner_size hy
        refine ⟨mks_nodup y.2.1 y.2.2, ih hn.2 fun z hz => hl z (List.mem_cons_of_mem _ hz), fun a ha b hb e => ?_⟩
        subst e
        obtain ⟨u, hu, rfl⟩ := List.mem_map.mp ha
        obtain ⟨z, hz, hb⟩ := List.mem_flatMap.mp hb
        obtain ⟨v, hv, e⟩ := List.mem_map.mp hb
        obtain ⟨r1, e1⟩ := mks_pre _ _ u hu
        obtain ⟨r2, e2⟩ := mks_pre _ _ v hv
        obtain ⟨i, _, q1, _⟩ := inner_at hy
        obtain ⟨j, _, q2, _⟩ := inner_at (hl z (List.mem_cons_of_mem _ hz))
        have e3 : pl ++ ([i] ++ r1) = pl ++ ([j] ++ r2) := by rw [← List.append_assoc, ← List.append_assoc, ← q1, ← q2, ← e1, ← e2, e]
        have e4 := List.append_cancel_left e3
        have e5 : i = j := by injection e4
        subst e5
        exact hn.1 (by rw [q1, ← q2]; exact List.mem_map_of_mem (f := fun z : Str × Pla × Mk => z.2.1) hz)
    exact key _ inner_places fun y hy => hy
termination_by sizeOf m.ps
/-- what stands around a place -/
theorem mks_take (pl : Pla) (m : Mk) : ∀ x ∈ mks pl m, ∀ n, pl.length ≤ n → n ≤ x.1.length → ∃ y ∈ mks pl m, y.1 = x.1.take n := by
  intro x hx n h1 h2
  rw [mks_eq] at hx ⊢
  rcases List.mem_cons.mp hx with rfl | hx
  · exact ⟨_, List.mem_cons_self .., (List.take_of_length_le h1).symm⟩
  · obtain ⟨y, hy, hx⟩ := List.mem_flatMap.mp hx
    have := inner_size hy
    obtain ⟨i, _, e, _⟩ := inner_at hy
    by_cases hn : n = pl.length
    · refine ⟨(pl, m), List.mem_cons_self .., ?_⟩
      obtain ⟨r, hr⟩ := mks_pre _ _ x hx
      rw [hr, e, hn, List.append_assoc, List.take_left']
      rfl
    · obtain ⟨z, hz, e2⟩ := mks_take y.2.1 y.2.2 x hx n (by rw [e, List.length_append, List.length_singleton]; omega) h2
      exact ⟨z, List.mem_cons_of_mem _ (List.mem_flatMap.mpr ⟨y, hy, hz⟩), e2⟩
termination_by sizeOf m.ps
end Mi
namespace Mi
open PySem PySem.Spec L2 DL Syn
theorem mkl_nodup (p : Prg) : ((MKL p).map (·.1)).Nodup := mks_nodup [] (top p)
theorem nm_mkrs (p : Prg) : (nm p).mkrs = MKL p := putL_id (mkl_nodup p)
theorem nm_rooms (p : Prg) : (nm p).rooms = (MKL p).map fun x => (x.1, rooms (rowsM x.2)) := by
  refine putL_id ?_
  rw [List.map_map]
  exact mkl_nodup p
theorem nm_seats (p : Prg) : (nm p).seats = (MKL p).map fun x => (x.1, seats x.2.ps) := by
  refine putL_id ?_
  rw [List.map_map]
  exact mkl_nodup p
theorem seats_at {ps : List Part} {x : Str × Nat × Ac} (h : x ∈ seats ps) : ps[x.2.1]? = some (.act x.2.2.n x.2.2.gs x.2.2.k x.2.2.ds x.2.2.v) ∧ x.1 = x.2.2.n := by
  have := setL_mem _ _ h
  obtain ⟨y, hy, e⟩ := List.mem_filterMap.mp this
  obtain ⟨q, i⟩ := y
  have hq : ps[i]? = some q := by
    obtain ⟨h1, h2, h3⟩ := List.mem_zipIdx hy
    rw [h3]
    simp only [Nat.sub_zero, Nat.zero_add] at h2 ⊢
    exact List.getElem?_eq_getElem _
  cases q with
  | act n gs k ds v =>
    cases e
    exact ⟨hq, rfl⟩
  | make => cases e
theorem seats_nums {ps : List Part} : ((seats ps).map (·.2.1)).Nodup := by
  have h1 : ((seats ps).map (·.2.1)).Sublist ((ps.zipIdx.filterMap actP).map (·.2.1)) := (setL_sub _).map _
  refine h1.nodup ?_
  rw [List.map_filterMap]
  have h2 : ∀ (l : List (Part × Nat)), (l.map (·.2)).Nodup → (l.filterMap fun x => (actP x).map (·.2.1)).Nodup := by
    intro l
    induction l with
    | nil => intro _; simp
    | cons x l ih =>
      intro h
      rw [List.map_cons, List.nodup_cons] at h
      rw [List.filterMap_cons]
      obtain ⟨q, i⟩ := x
      cases q with
      | make => exact ih h.2
      | act n gs k ds v =>
        show (i :: _).Nodup
        rw [List.nodup_cons]
        refine ⟨fun hm => ?_, ih h.2⟩
        obtain ⟨⟨q', j⟩, hy, e⟩ := List.mem_filterMap.mp hm
        cases q' with
        | make => cases e
        | act n' gs' k' ds' v' =>
          have e : some j = some i := e
          have e : j = i := by injection e
          subst e
          exact h.1 (List.mem_map_of_mem (f := (·.2)) hy)
  refine h2 _ ?_
  rw [List.zipIdx_map_snd]
  exact List.nodup_range'
theorem snoc_inj {a b : Pla} {i j : Nat} (h : a ++ [i] = b ++ [j]) : a = b ∧ i = j := by
  have h1 := congrArg List.dropLast h
  have h2 := congrArg List.getLast? h
  simp at h1 h2
  exact ⟨h1, h2⟩
theorem acts_at {pl : Pla} {ps : List Part} {x : Pla × Ac} (h : x ∈ actsAt pl ps) : ∃ i, x.1 = pl ++ [i] ∧ ps[i]? = some (.act x.2.n x.2.gs x.2.k x.2.ds x.2.v) := by
  obtain ⟨y, hy, rfl⟩ := List.mem_map.mp h
  exact ⟨y.2.1, rfl, (seats_at hy).1⟩
theorem acts_nodup (p : Prg) : (((MKL p).flatMap fun x => actsAt x.1 x.2.ps).map (·.1)).Nodup := by
  rw [List.map_flatMap]
  have key : ∀ l : List (Pla × Mk), (l.map (·.1)).Nodup → (l.flatMap fun x => (actsAt x.1 x.2.ps).map (·.1)).Nodup := by
    intro l
    induction l with
    | nil => intro _; simp
    | cons y l ih =>
      intro hn
      rw [List.map_cons, List.nodup_cons] at hn
      rw [List.flatMap_cons, List.nodup_append]
      refine ⟨?_, ih hn.2, fun a ha b hb e => ?_⟩
      · unfold actsAt
        rw [List.map_map]
        have h2 : ∀ l : List (Str × Nat × Ac), (l.map (·.2.1)).Nodup → (l.map fun x => y.1 ++ [x.2.1]).Nodup := by
          intro l
          induction l with
          | nil => intro _; simp
          | cons z l ih =>
            intro h
            rw [List.map_cons, List.nodup_cons] at h ⊢
            refine ⟨fun hm => ?_, ih h.2⟩
            obtain ⟨u, hu, e⟩ := List.mem_map.mp hm
            have := (snoc_inj e).2
            exact h.1 (by rw [← this]; exact List.mem_map_of_mem (f := fun x : Str × Nat × Ac => x.2.1) hu)
        exact h2 _ seats_nums
      · subst e
        obtain ⟨u, hu, rfl⟩ := List.mem_map.mp ha
        obtain ⟨z, hz, hb⟩ := List.mem_flatMap.mp hb
        obtain ⟨v, hv, e⟩ := List.mem_map.mp hb
        obtain ⟨i, e1, _⟩ := acts_at hu
        obtain ⟨j, e2, _⟩ := acts_at hv
        rw [e1, e2] at e
        exact hn.1 (by rw [← (snoc_inj e).1]; exact List.mem_map_of_mem (f := fun x : Pla × Mk => x.1) hz)
  exact key _ (mkl_nodup p)
theorem nm_acts (p : Prg) : (nm p).acts = (MKL p).flatMap fun x => actsAt x.1 x.2.ps := putL_id (acts_nodup p)
theorem tget_of_mem {κ α : Type} [DecidableEq κ] {l : List (κ × α)} (h : (l.map (·.1)).Nodup) {x : κ × α} (hx : x ∈ l) : tget l x.1 = some x.2 := by
  induction l with
  | nil => cases hx
  | cons y l ih =>
    rw [List.map_cons, List.nodup_cons] at h
    rw [tget_cons]
    rcases List.mem_cons.mp hx with rfl | hx
    · rw [if_pos rfl]
    · rw [if_neg fun e => h.1 (by rw [e]; exact List.mem_map_of_mem (f := (·.1)) hx)]
      exact ih h.2 hx
theorem rooms_get {p : Prg} {x : Pla × Mk} (h : x ∈ MKL p) : tget (nm p).rooms x.1 = some (rooms (rowsM x.2)) := by
  rw [nm_rooms]
  exact tget_of_mem (x := (x.1, rooms (rowsM x.2))) (by rw [List.map_map]; exact mkl_nodup p) (List.mem_map_of_mem (f := fun x : Pla × Mk => (x.1, rooms (rowsM x.2))) h)
theorem seats_get {p : Prg} {x : Pla × Mk} (h : x ∈ MKL p) : tget (nm p).seats x.1 = some (seats x.2.ps) := by
  rw [nm_seats]
  exact tget_of_mem (x := (x.1, seats x.2.ps)) (by rw [List.map_map]; exact mkl_nodup p) (List.mem_map_of_mem (f := fun x : Pla × Mk => (x.1, seats x.2.ps)) h)
theorem acts_get {p : Prg} {x : Pla × Ac} (h : x ∈ (nm p).acts) : tget (nm p).acts x.1 = some x.2 := by
  rw [nm_acts] at h ⊢
  exact tget_of_mem (acts_nodup p) h
theorem lvR_of {p : Prg} (hs : Small p) {x : Pla × Mk} (h : x ∈ MKL p) : LvR (nm p) x.1 := by
  refine ⟨(hs.ps x h).2.2.2, fun n hn => ?_⟩
  obtain ⟨y, hy, e⟩ := mks_take [] (top p) x h n (Nat.zero_le _) hn
  exact ⟨_, by rw [← e]; exact rooms_get hy⟩
theorem act_maker {p : Prg} {x : Pla × Ac} (h : x ∈ (nm p).acts) : ∃ y ∈ MKL p, ∃ i, x.1 = y.1 ++ [i] ∧ y.2.ps[i]? = some (.act x.2.n x.2.gs x.2.k x.2.ds x.2.v) := by
  rw [nm_acts] at h
  obtain ⟨y, hy, h⟩ := List.mem_flatMap.mp h
  obtain ⟨i, e1, e2⟩ := acts_at h
  exact ⟨y, hy, i, e1, e2⟩
theorem seen_at {N : Nm} {pl : Pla} {f : Str} : ∀ {n : Nat} {t : Pla}, seenA N pl f n = some t → ∃ l < n, ∃ i a, tget ((tget N.seats (pl.take l)).getD []) f = some (i, a) ∧ i < pl.getD l 0 ∧ t = pl.take l ++ [i]
  | 0, t, h => by cases h
  | n + 1, t, h => by
    unfold seenA at h
    dsimp only at h
    cases hg : tget ((tget N.seats (pl.take n)).getD []) f with
    | none =>
      rw [hg] at h
      simp only [Option.map_none, Option.getD_none, Nat.lt_irrefl, if_false] at h
      obtain ⟨l, hl, r⟩ := seen_at h
      exact ⟨l, by omega, r⟩
    | some ia =>
      obtain ⟨i, a⟩ := ia
      rw [hg] at h
      simp only [Option.map_some, Option.getD_some] at h
      split at h
      · rename_i hi
        cases h
        exact ⟨n, by omega, i, a, hg, hi, rfl⟩
      · obtain ⟨l, hl, r⟩ := seen_at h
        exact ⟨l, by omega, r⟩
theorem acOk_of {p : Prg} (hs : Small p) {x : Pla × Ac} (h : x ∈ (nm p).acts) (hl : x.1.length ≤ 1000) : AcOk (nm p) x.1 := by
  obtain ⟨y, hy, i, e, _⟩ := act_maker h
  have tk : ∀ n, n < x.1.length → ∃ z ∈ MKL p, z.1 = x.1.take n := fun n hn => by
    rw [e, List.length_append, List.length_singleton] at hn
    obtain ⟨z, hz, e2⟩ := mks_take [] (top p) y hy n (Nat.zero_le _) (by omega)
    refine ⟨z, hz, ?_⟩
    rw [e, e2, List.take_append_of_le_length (by omega)]
  refine ⟨⟨hl, fun n hn => ?_⟩, fun f t ht => ?_⟩
  · obtain ⟨z, hz, e2⟩ := tk n hn
    exact ⟨_, by rw [← e2]; exact seats_get hz⟩
  · obtain ⟨l, hl2, j, a, h1, h2, rfl⟩ := seen_at ht
    obtain ⟨z, hz, e2⟩ := tk l hl2
    rw [← e2, seats_get hz] at h1
    have h1 := tget_mem (l := seats z.2.ps) h1
    refine ⟨a, ?_⟩
    rw [← e2]
    refine acts_get (p := p) (x := (z.1 ++ [j], a)) ?_
    rw [nm_acts]
    exact List.mem_flatMap.mpr ⟨z, hz, List.mem_map.mpr ⟨(f, j, a), h1, rfl⟩⟩
theorem lvR_act {p : Prg} (hs : Small p) {x : Pla × Ac} (h : x ∈ (nm p).acts) : LvR (nm p) x.1.dropLast := by
  obtain ⟨y, hy, i, e, _⟩ := act_maker h
  rw [e, List.dropLast_concat]
  exact lvR_of hs hy
end Mi
/-! The names, Names and values that a law has drawn, and its four kinds. -/
namespace Lb
open PySem PySem.Spec L2 DL Syn Mi
def BAD : List Str := ["Truth", "No", "Yes"]
def NmOk (s : Str) : Prop := PyData.strOk s = true ∧ s.length ≤ 1000
structure PoolOk (ns : List Str) : Prop where
  nd : ns.Nodup
  ok : ∀ n ∈ ns, NmOk n
  bad : ∀ n ∈ ns, n ∉ BAD
structure Bs where
  low : List Str
  great : List Str
  vals : List Str
structure Bs.ok (b : Bs) : Prop where
  nl : b.low.length = 17
  ng : b.great.length = 12
  nv : b.vals.length = 18
  low : PoolOk b.low
  great : PoolOk b.great
  vals : PoolOk b.vals
def lw (b : Bs) (i : Nat) : Str := b.low.getD i ""
def gt (b : Bs) (i : Nat) : Str := b.great.getD i ""
def wd (b : Bs) (i : Nat) : Str := b.vals.getD i ""
theorem getD_at {l : List Str} {i : Nat} (h : i < l.length) : l[i]? = some (l.getD i "") := by
  rw [List.getD_eq_getElem?_getD, List.getElem?_eq_getElem h] <;> rfl
theorem nd_inj {l : List Str} (h : l.Nodup) {i j : Nat} (hi : i < l.length) (hj : j < l.length) (e : l.getD i "" = l.getD j "") : i = j := by
  have h1 := getD_at hi
  have h2 := getD_at hj
  rw [e] at h1
  exact (List.getElem?_inj hi h).mp (h1.trans h2.symm)
section
variable {b : Bs} (hb : b.ok)
include hb
theorem lw_inj {i j : Nat} (hi : i < 17) (hj : j < 17) (e : lw b i = lw b j) : i = j := nd_inj hb.low.nd (by rw [hb.nl]; exact hi) (by rw [hb.nl]; exact hj) e
theorem gt_inj {i j : Nat} (hi : i < 12) (hj : j < 12) (e : gt b i = gt b j) : i = j := nd_inj hb.great.nd (by rw [hb.ng]; exact hi) (by rw [hb.ng]; exact hj) e
theorem wd_inj {i j : Nat} (hi : i < 18) (hj : j < 18) (e : wd b i = wd b j) : i = j := nd_inj hb.vals.nd (by rw [hb.nv]; exact hi) (by rw [hb.nv]; exact hj) e
theorem lw_at {i : Nat} (hi : i < 17) : b.low[i]? = some (lw b i) := getD_at (by rw [hb.nl]; exact hi)
theorem gt_at {i : Nat} (hi : i < 12) : b.great[i]? = some (gt b i) := getD_at (by rw [hb.ng]; exact hi)
theorem wd_at {i : Nat} (hi : i < 18) : b.vals[i]? = some (wd b i) := getD_at (by rw [hb.nv]; exact hi)
theorem lw_ok {i : Nat} (hi : i < 17) : NmOk (lw b i) := hb.low.ok _ (List.mem_of_getElem? (lw_at hb hi))
theorem gt_ok {i : Nat} (hi : i < 12) : NmOk (gt b i) := hb.great.ok _ (List.mem_of_getElem? (gt_at hb hi))
theorem wd_ok {i : Nat} (hi : i < 18) : NmOk (wd b i) := hb.vals.ok _ (List.mem_of_getElem? (wd_at hb hi))
theorem gt_truth {i : Nat} (hi : i < 12) : gt b i ≠ "Truth" := fun e => hb.great.bad _ (List.mem_of_getElem? (gt_at hb hi)) (by rw [e]; exact List.mem_cons_self ..)
theorem wd_no {i : Nat} (hi : i < 18) : wd b i ≠ "No" := fun e => hb.vals.bad _ (List.mem_of_getElem? (wd_at hb hi)) (by rw [e]; simp [BAD])
theorem wd_yes {i : Nat} (hi : i < 18) : wd b i ≠ "Yes" := fun e => hb.vals.bad _ (List.mem_of_getElem? (wd_at hb hi)) (by rw [e]; simp [BAD])
theorem low_cut {a n : Nat} (h : a + n ≤ 17) : (b.low.drop a).take n = (List.range n).map fun j => lw b (a + j) := by
  apply List.ext_getElem?
  intro i
  rw [List.getElem?_take, List.getElem?_drop, List.getElem?_map]
  by_cases hi : i < n
  · rw [if_pos hi, lw_at hb (by omega), List.getElem?_range hi] <;> rfl
  · rw [if_neg hi, List.getElem?_eq_none (by simp; omega)] <;> rfl
theorem val_cut {a n : Nat} (h : a + n ≤ 18) : (b.vals.drop a).take n = (List.range n).map fun j => wd b (a + j) := by
  apply List.ext_getElem?
  intro i
  rw [List.getElem?_take, List.getElem?_drop, List.getElem?_map]
  by_cases hi : i < n
  · rw [if_pos hi, wd_at hb (by omega), List.getElem?_range hi] <;> rfl
  · rw [if_neg hi, List.getElem?_eq_none (by simp; omega)] <;> rfl
end
/-- the kind of k + 1 values -/
def kB (b : Bs) (k : Nat) : Str × List Str := (gt b k, (List.range (k + 1)).map fun j => wd b (k * (k + 1) / 2 + j))
def kBs (b : Bs) : List (Str × List Str) := (List.range 4).map (kB b)
/-- its first and its last value -/
def fv (b : Bs) (k : Nat) : Str := wd b (k * (k + 1) / 2)
def lv (b : Bs) (k : Nat) : Str := wd b (k * (k + 1) / 2 + k)
/-- the base as a dict -/
def idD (d : D) : D := d
def baseL (b : Bs) : List (Str × D) := [("low", .lst (b.low.map D.str)), ("great", .lst (b.great.map D.str)), ("values", .lst (b.vals.map D.str)), ("kinds", .lst ((kBs b).map kindD))]
def BaseAt (pw : Wd) (M : Mp) (pb : Addr) (b : Bs) : Prop := M pb = some (.dic pw (tdc D.str idD (baseL b)))
theorem s_lg : ("low" : Str) ≠ "great" := by decide +kernel
theorem s_lv : ("low" : Str) ≠ "values" := by decide +kernel
theorem s_gv : ("great" : Str) ≠ "values" := by decide +kernel
theorem s_lk : ("low" : Str) ≠ "kinds" := by decide +kernel
theorem s_gk : ("great" : Str) ≠ "kinds" := by decide +kernel
theorem s_vk : ("values" : Str) ≠ "kinds" := by decide +kernel
theorem b_low {b : Bs} : tget (baseL b) ("low" : Str) = some (.lst (b.low.map D.str)) := by
  unfold baseL
  rw [tget_cons, if_pos rfl]
theorem b_great {b : Bs} : tget (baseL b) ("great" : Str) = some (.lst (b.great.map D.str)) := by
  unfold baseL
  rw [tget_cons, if_neg s_lg, tget_cons, if_pos rfl]
theorem b_vals {b : Bs} : tget (baseL b) ("values" : Str) = some (.lst (b.vals.map D.str)) := by
  unfold baseL
  rw [tget_cons, if_neg s_lv, tget_cons, if_neg s_gv, tget_cons, if_pos rfl]
theorem b_kinds {b : Bs} : tget (baseL b) ("kinds" : Str) = some (.lst ((kBs b).map kindD)) := by
  unfold baseL
  rw [tget_cons, if_neg s_lk, tget_cons, if_neg s_gk, tget_cons, if_neg s_vk, tget_cons, if_pos rfl]
section
variable {pw : Wd} {M : Mp} {Q : DK} {pb : Addr} {b : Bs}
theorem x_low (h : BaseAt pw M pb b) (q : Q (.lst (b.low.map D.str)) M) : dIxX pw (.obj pb) (.str "low") M Q := t_ix (eK := D.str) (eV := idD) (k := "low") (is_dic h) b_low q
theorem x_great (h : BaseAt pw M pb b) (q : Q (.lst (b.great.map D.str)) M) : dIxX pw (.obj pb) (.str "great") M Q := t_ix (eK := D.str) (eV := idD) (k := "great") (is_dic h) b_great q
theorem x_vals (h : BaseAt pw M pb b) (q : Q (.lst (b.vals.map D.str)) M) : dIxX pw (.obj pb) (.str "values") M Q := t_ix (eK := D.str) (eV := idD) (k := "values") (is_dic h) b_vals q
theorem x_kinds (h : BaseAt pw M pb b) (q : Q (.lst ((kBs b).map kindD)) M) : dIxX pw (.obj pb) (.str "kinds") M Q := t_ix (eK := D.str) (eV := idD) (k := "kinds") (is_dic h) b_kinds q
theorem i_low (hb : b.ok) {i : Nat} (hi : i < 17) : dIx (.lst (b.low.map D.str)) (.int (i : Int)) M Q = Q (.str (lw b i)) M := e_ix_at rfl (atI_nat (by rw [List.getElem?_map, lw_at hb hi] <;> rfl))
theorem i_great (hb : b.ok) {i : Nat} (hi : i < 12) : dIx (.lst (b.great.map D.str)) (.int (i : Int)) M Q = Q (.str (gt b i)) M := e_ix_at rfl (atI_nat (by rw [List.getElem?_map, gt_at hb hi] <;> rfl))
theorem i_kinds {i : Nat} (hi : i < 4) : dIx (.lst ((kBs b).map kindD)) (.int (i : Int)) M Q = Q (kindD (kB b i)) M := e_ix_at rfl (atI_nat (by unfold kBs; rw [List.getElem?_map, List.getElem?_map, List.getElem?_range hi] <;> rfl))
theorem j_low (hb : b.ok) {j : Int} (i : Nat) (e : j = (i : Nat)) (hi : i < 17) : dIx (.lst (b.low.map D.str)) (.int j) M Q = Q (.str (lw b i)) M := by subst e; exact i_low hb hi
theorem j_great (hb : b.ok) {j : Int} (i : Nat) (e : j = (i : Nat)) (hi : i < 12) : dIx (.lst (b.great.map D.str)) (.int j) M Q = Q (.str (gt b i)) M := by subst e; exact i_great hb hi
theorem j_kinds {j : Int} (i : Nat) (e : j = (i : Nat)) (hi : i < 4) : dIx (.lst ((kBs b).map kindD)) (.int j) M Q = Q (kindD (kB b i)) M := by subst e; exact i_kinds hi
end
theorem kB_last {b : Bs} {k : Nat} : ((kB b k).2.map D.str).getLast? = some (.str (lv b k)) := by
  unfold kB lv
  dsimp only
  rw [List.range_succ, List.map_append, List.map_append, List.map_cons, List.map_nil, List.map_cons, List.map_nil, List.getLast?_concat]
theorem atI_last {xs : List D} {d : D} (h : xs.getLast? = some d) : atI xs (-1) = some d := by
  have hne : xs ≠ [] := fun e => by rw [e] at h; cases h
  have hl := List.length_pos_iff.mpr hne
  unfold atI ixN
  rw [List.getLast?_eq_getElem?] at h
  simp only [show ¬ (0 : Int) ≤ -1 by decide, if_false]
  rw [if_pos (by omega)]
  simp only [Option.bind_some]
  rw [show ((-1 : Int) + (xs.length : Int)).toNat = xs.length - 1 by omega]
  exact h
/-- the law's acts, rows, deeds -/
def actL (b : Bs) (n : Str) (gs : List Giv) (ds : List Deed) : Part := .act n gs (gt b 1) ds (.at (.vl (wd b 1)))
def rowL (b : Bs) (x : Str × Nat) : Vr := (x.1, gt b (x.2 - 1), .at (.vl (lv b (x.2 - 1))))
def setL1 (b : Bs) : Deed := .set (lw b 0) (.at (.vl (wd b 1)))
def tstL (b : Bs) : Tst := .same (.nm (lw b 0)) (.vl (wd b 2))
mutual
def DedL (b : Bs) : Deed → Prop
  | .set n v => n = lw b 0 ∧ v = .at (.vl (wd b 1))
  | .doo _ _ _ => False
  | .ite t xs ys => t = tstL b ∧ DedsL b xs ∧ DedsL b ys
def DedsL (b : Bs) : List Deed → Prop
  | [] => True
  | x :: xs => DedL b x ∧ DedsL b xs
end
theorem dedsL_iff {b : Bs} : ∀ xs : List Deed, DedsL b xs ↔ ∀ x ∈ xs, DedL b x
  | [] => by unfold DedsL; simp
  | x :: xs => by unfold DedsL; rw [dedsL_iff xs]; simp
end Lb
namespace Lb
open PySem PySem.Spec L2 DL Syn Mi
theorem cut_mid {α : Type} {xs : List α} {a c : Nat} (hc : c ≤ xs.length) (ha : a ≤ c) : cutL xs (some (a : Int)) (some (c : Int)) = (xs.drop a).take (c - a) := by
  unfold cutL
  have e1 : HT.sIx xs.length 0 (some (a : Int)) = a := by
    unfold HT.sIx
    dsimp only
    rw [if_neg (by omega)]
    omega
  have e2 : HT.sIx xs.length xs.length (some (c : Int)) = c := by
    unfold HT.sIx
    dsimp only
    rw [if_neg (by omega)]
    omega
  rw [e1, e2]
end Lb
/-! Rows of mistakes beside themselves. -/
namespace Mi
open PySem PySem.Spec L2 DL Syn
def rowE (m : Ms) : PyData := .tuple [.tuple ((intsP m.1).map PyData.int), .str m.2.1, .tuple [.str m.2.2]]
def RowOk (m : Ms) : Prop := PyData.strOk m.2.1 = true ∧ PyData.strOk m.2.2 = true
theorem pyDs_rows : ∀ R : List Ms, pyDs (R.map rowD) = some (R.map rowE)
  | [] => by
    show pyDs [] = _
    unfold pyDs
    rfl
  | m :: R => by
    rw [List.map_cons]
    unfold pyDs
    rw [pyDs_rows R, pyD_row] <;> rfl
theorem lay_ints : ∀ xs : List Int, PyData.canLayAll0 (xs.map PyData.int) = true
  | [] => by
    show PyData.canLayAll0 [] = _
    unfold PyData.canLayAll0
    rfl
  | x :: xs => by
    rw [List.map_cons]
    unfold PyData.canLayAll0
    rw [lay_ints xs]
    unfold PyData.canLay0
    rfl
theorem lay_rows : ∀ R : List Ms, (∀ x ∈ R, RowOk x) → PyData.canLayAll0 (R.map rowE) = true ∧ PyData.depthAll (R.map rowE) ≤ 20
  | [], _ => by
    show PyData.canLayAll0 [] = _ ∧ PyData.depthAll [] ≤ _
    unfold PyData.canLayAll0 PyData.depthAll
    exact ⟨rfl, by omega⟩
  | m :: R, h => by
    obtain ⟨h1, h2⟩ := lay_rows R fun x hx => h x (List.mem_cons_of_mem _ hx)
    obtain ⟨h3, h4⟩ := h m (List.mem_cons_self ..)
    rw [List.map_cons]
    refine ⟨?_, ?_⟩
    · unfold PyData.canLayAll0
      rw [h1]
      simp [rowE, PyData.canLay0, PyData.canLayAll0, lay_ints, h3, h4]
    · unfold PyData.depthAll
      have : PyData.depth (rowE m) ≤ 20 := by
        unfold rowE
        simp only [PyData.depth, PyData.depthAll, PySem.W.depth_ints]
        omega
      omega
theorem e_eq_rows {n : Bool} {R : List Ms} {M : Mp} {Q : DK} (h : ∀ x ∈ R, RowOk x) (q : Q (.bl (n != true)) M) : dEq n (.tup (R.map rowD)) (.tup (R.map rowD)) M Q := by
  obtain ⟨h1, h2⟩ := lay_rows R h
  have hl : PyData.canLay0 (.tuple (R.map rowE)) = true := by
    unfold PyData.canLay0
    exact h1
  have hd : SeqAt.shaped (.tuple (R.map rowE)) = true := by
    unfold SeqAt.shaped
    rw [hl, decide_eq_true]
    · rfl
    · unfold PyData.depth
      omega
  have hp : pyD (.tup (R.map rowD)) = some (.tuple (R.map rowE)) := by
    unfold pyD
    rw [pyDs_rows] <;> rfl
  refine ⟨_, _, hp, hp, hd, hd, ?_⟩
  rw [SeqAt.eqv_refl _ hl]
  exact q
end Mi
/-! None asked of a dict whose keys are tuples: it is not there. -/
namespace DL
open PySem PySem.Spec PyProof.Rows L2
section
variable {prog : Program} {w : World} {A : Around} {E : Value → Shared → Prop} {s : Shared}
theorem none_key {h : Heap} {k : NestedKey} {b : Addr} (hk : NestedIs h k (.ref b)) : NestedKey.beq k .none = false := by
  cases hk
  rfl
theorem eq_none {k : NestedKey} {b : Addr} {Q : Bool → Shared → Prop} (hu : A.units + 8 < cLine) (hk : NestedIs s.heap k (.ref b)) (h : Q false s) : wpAny (model prog w) A (eqBool (.ref b) .none) Q E s := by
  have hn : NestedIs s.heap .none .none := .none
  refine eqAt_key k .none A s _ _ hk hn ?_ _ _ _ _ (by rw [none_key hk]; exact h)
  have : (NestedKey.none).depth = 0 := rfl
  omega
theorem quiet_none {stored : List Value} {Q : Bool → Shared → Prop} (hst : ∀ v ∈ stored, ∃ k b, v = .ref b ∧ NestedIs s.heap k (.ref b) ∧ k.depth ≤ 8) (h : Q false s) : wpAny (model prog w) A (tableMayTell .none stored) Q E s := by
  have q0 : ∀ {Q : Bool → Shared → Prop}, Q true s → wpAny (model prog w) A (eqIsQuiet 8 .none) Q E s := fun h => quiet_key .none _ 8 s .none (by decide) A E _ h
  unfold tableMayTell
  split
  · exact wpAny_pure h
  · refine wpAny_bind (q0 ?_)
    simp only [Bool.not_true, Bool.false_eq_true, if_false]
    refine wpAny_bind ?_
    refine wpAny_forIn_list _ (fun rest r s' => s' = s ∧ r = (none, ()) ∧ ∀ v ∈ rest, ∃ k b, v = .ref b ∧ NestedIs s.heap k (.ref b) ∧ k.depth ≤ 8) _ ?_ ?_ _ _ ⟨rfl, rfl, hst⟩
    · rintro x rest r s' ⟨rfl, rfl, hr⟩
      obtain ⟨k, b, rfl, hb, hd⟩ := hr x List.mem_cons_self
      refine wpAny_bind (quiet_key k _ 8 s' hb hd A E _ ?_)
      simp only [Bool.not_true, Bool.false_eq_true, if_false]
      exact wpAny_pure ⟨rfl, rfl, fun v hv => hr v (List.mem_cons_of_mem _ hv)⟩
    · rintro r s' ⟨rfl, rfl, _⟩
      exact wpAny_pure h
theorem find_none {d : Addr} {o : Obj} {es ep} {hh : Int} {Q : Option Nat → Shared → Prop} (hu : A.units + 8 < cLine) (ho : s.heap.get? d = some o) (hd : o.data = .dict es ep)
    (hes : ∀ e ∈ es, ∃ k b, e.key = .ref b ∧ NestedIs s.heap k (.ref b) ∧ k.depth ≤ 8) (h : Q none s) : wpAny (model prog w) A (dictFind d .none hh) Q E s := by
  have hst : ∀ v ∈ (placesWithHash es.size (fun i => es[i]?.map (·.hash)) hh).filterMap (fun i => es[i]?.map (·.key)), ∃ k b, v = .ref b ∧ NestedIs s.heap k (.ref b) ∧ k.depth ≤ 8 := by
    intro v hv
    obtain ⟨i, _, hi⟩ := List.mem_filterMap.mp hv
    cases hei : es[i]? with
    | none => rw [hei] at hi; cases hi
    | some e =>
      rw [hei] at hi
      obtain rfl : e.key = v := by simpa using hi
      exact hes e (Array.mem_of_getElem? hei)
  unfold dictFind
  try with_reducible refine wpAny_holding ?_
  refine wpAny_bind (wpAny_dictEntries ho hd ?_)
  dsimp only
  generalize hpl : placesWithHash es.size (fun i => es[i]?.map (·.hash)) hh = places at hst ⊢
  by_cases hz : (Value.none :: places.filterMap (fun i => es[i]?.map (·.key))).all carriedByValue = true
  · rw [if_pos hz]
    unfold dictWalkPlain
    refine wpAny_bind ?_
    refine wpAny_forIn_list _ (fun rest r s' => s' = s ∧ r = (none, ()) ∧ ∀ i ∈ rest, i ∈ places) _ ?_ ?_ _ _ ⟨rfl, rfl, fun _ h => h⟩
    · rintro i rest r s' ⟨rfl, rfl, hr⟩
      cases hei : es[i]? with
      | none => exact wpAny_pure ⟨rfl, rfl, fun v hv => hr v (List.mem_cons_of_mem _ hv)⟩
      | some e =>
        exfalso
        obtain ⟨k, b, e1, _⟩ := hes e (Array.mem_of_getElem? hei)
        have hm : e.key ∈ Value.none :: places.filterMap (fun i => es[i]?.map (·.key)) := List.mem_cons_of_mem _ (List.mem_filterMap.mpr ⟨i, hr i (List.mem_cons_self ..), by rw [hei] <;> rfl⟩)
        have := List.all_eq_true.mp hz _ hm
        rw [e1] at this
        cases this
    · rintro r s' ⟨rfl, rfl, _⟩
      exact wpAny_pure h
  · rw [if_neg hz]
    have hne : ((places.filterMap (fun i => es[i]?.map (·.key))) == [Value.none]) = false := by
      refine beq_eq_false_iff_ne.mpr fun e => ?_
      obtain ⟨k, b, e1, _⟩ := hst Value.none (by rw [e]; exact List.mem_cons_self ..)
      cases e1
    rw [hne]
    simp only [Bool.false_eq_true, if_false]
    refine wpAny_bind (quiet_none hst ?_)
    simp only [Bool.false_and, Bool.false_eq_true, if_false]
    refine wpAny_bind ?_
    refine wpAny_forIn_list _ (fun rest b s' => s' = s ∧ b = (none, none)) _ ?_ ?_ _ _ ⟨rfl, rfl⟩
    · rintro i rest b s' ⟨rfl, rfl⟩
      cases hei : es[i]? with
      | none => exact wpAny_pure ⟨rfl, rfl⟩
      | some e =>
        obtain ⟨k, b, e1, hk, _⟩ := hes e (Array.mem_of_getElem? hei)
        dsimp only
        by_cases hh2 : (e.hash == hh) = true
        · rw [if_pos hh2, e1]
          refine wpAny_bind (wpAny_dictEpoch ho hd (wpAny_bind (eq_none hu hk (wpAny_bind (wpAny_dictEpoch ho hd ?_)))))
          rw [if_neg (by simp)]
          simp only [Bool.false_eq_true, if_false]
          exact wpAny_bind (wpAny_rule (wpAny_pure ⟨rfl, rfl⟩))
        · rw [if_neg hh2]
          exact wpAny_pure ⟨rfl, rfl⟩
    · rintro b s' ⟨rfl, rfl⟩
      exact wpAny_pure h
theorem get_none {d : Addr} {ys : List (NestedKey × Addr × Value)} {Q : Option Value → Shared → Prop} (hu : A.units + 8 < cLine) (hm : s.heap.DictOfH (nestedKind prog w) d ys) (h : ∀ n, Q none { s with toks := s.toks + n }) : wpAny (model prog w) A (dictGet d .none) Q E s := by
  obtain ⟨o, es, ep, ho, _, hd, he, his, hn⟩ := hm
  unfold dictGet
  try with_reducible refine wpAny_holding ?_
  refine wpAny_bind (pyHash_key .none .none A s _ .none (by have : (NestedKey.none).depth = 0 := rfl; omega) (wpAny_bind (find_none (s := { s with toks := s.toks + NestedKey.none.draws }) hu ho hd (fun e hin => ?_) ?_)))
  · have : e ∈ ys.map (entryOfKey (nestedKind prog w)) := he ▸ Array.mem_toList_iff.mpr hin
    obtain ⟨x, hx, rfl⟩ := List.mem_map.mp this
    exact ⟨x.1, x.2.1, rfl, (his x hx).1, (his x hx).2⟩
  · exact wpAny_pure (h _)
end
theorem meets_none {prog : Program} {w : World} (d : Addr) (hd : (d == sysModules) = false) (dflt : Value) :
    MeetsIn prog w (Builtin.«dict.get» ⟨[.ref d, .none, dflt], []⟩) (fun A R s => A.in1.units + 8 < cLine ∧ ∃ ys : List (NestedKey × Addr × Value), s.heap.DictOfH (nestedKind prog w) d ys ∧ ∀ n, R (.ok (.ret dflt)) { s with toks := s.toks + n }) :=
  .of_wp fun A R s ⟨hu, ys, hm, h⟩ => by
    show wpAny _ _ (dictGet d .none >>= _) _ _ s
    refine wpAny_bind (get_none hu hm fun n => ?_)
    show wpAny _ _ (Builtin.Dict.missed d .none >>= _) _ _ _
    exact wpAny_bind (wpAny_missed_other hd (wpAny_pure ⟨dflt, rfl, h n⟩))
/-- d.get(k, x), also of None -/
def dGetNone (pw : Wd) : DRM := fun x xs M Q => ∃ kvs z, DcIs pw M x kvs ∧ (∀ kv ∈ kvs, KeyD kv.1) ∧ xs = [.non, z] ∧ Q z M
def dGetX (pw : Wd) : DRM := fun x xs M Q => dGetM pw x xs M Q ∨ dGetNone pw x xs M Q
section
variable {X : Cx} {F0 : Hp}
theorem md_getX (hu : X.A.units + 9 < cLine) : MtR X "dict.get" (LRM X.K F0 (dGetX ⟨X.prog, X.w⟩)) := by
  intro pins s σ H x xs v us Q I rx rs ⟨d, ds, M, F, Qd, hF, r, hx, hxs, hyp, fin⟩
  rcases hyp with hyp | ⟨kvs, z, hd, hall, rfl, h⟩
  · exact md_get hu pins s σ H x xs v us Q I rx rs ⟨d, ds, M, F, Qd, hF, r, hx, hxs, hyp, fin⟩
  · obtain ⟨a, rfl, sh⟩ := dc_rep r hx hd
    cases rx
    obtain ⟨w, w2, rfl, hw, hw2⟩ := hxs.two
    obtain ⟨u, u2, rfl, ru, ru2⟩ := Vals.two rs
    cases rep_non.mp hw
    have eu : u = .none := ru
    subst eu
    have kd : KeyD (.tup []) := ⟨⟨[], rfl⟩, by decide, by decide⟩
    obtain ⟨ys, p1, p2, _⟩ := fits_NR (d := .tup []) I r.fr kd sh (.inr ⟨kd, hall⟩)
    exact call_meetsIn PySem.F.slot_dict_get p1.typeIs PySem.F.entry_dict_get (PySem.F.args_dict_get_3 _ _ _) (meets_none a p2 u2) ⟨by show X.A.units + 1 + 8 < cLine; omega, ys, p1, fun n => ⟨w2, H, I.tok _, ru2, fin.go h r hw2⟩⟩
end
end DL
/-! The state of draws of the laws from k20 on: five things. -/
namespace Bx
open PySem PySem.Spec L2 DL Syn
/-! ### the draws -/
def BoxO (o : List D) : Prop := ∃ (cells : List Int) (at_ big mix tl : Int), o = [.lst (cells.map D.int), .int at_, .int big, .int mix, .int tl] ∧ 0 ≤ at_
def BoxAt (M : Mp) (a : Addr) : Prop := ∃ o, M a = some (.lst o) ∧ BoxO o
/-- draws were done: the state at a alone has changed -/
def BoN (a : Addr) (M M' : Mp) : Prop := ∃ o, M' = updM M a (.lst o) ∧ BoxO o
theorem BoN.refl {a : Addr} {M : Mp} (h : BoxAt M a) : BoN a M M := by
  obtain ⟨o, h1, h2⟩ := h
  exact ⟨o, (updM_self h1).symm, h2⟩
theorem BoN.trans {a : Addr} {M M1 M2 : Mp} (h : BoN a M M1) (h' : BoN a M1 M2) : BoN a M M2 := by
  obtain ⟨o, rfl, _⟩ := h
  obtain ⟨o', rfl, h2⟩ := h'
  exact ⟨o', by rw [updM_updM], h2⟩
theorem BoN.at {a : Addr} {M M' : Mp} (h : BoN a M M') : BoxAt M' a := by
  obtain ⟨o, rfl, h2⟩ := h
  exact ⟨o, updM_same, h2⟩
theorem BoxAt.upd {a p : Addr} {M : Mp} {o : MO} (h : BoxAt M a) (hp : M p = none) : BoxAt (updM M p o) a := by
  obtain ⟨o', h1, h2⟩ := h
  exact ⟨o', by rw [updM_ne (neM h1 hp)]; exact h1, h2⟩
theorem BoxAt.upd' {a p : Addr} {M : Mp} {o : MO} (h : BoxAt M a) (hp : a ≠ p) : BoxAt (updM M p o) a := by
  obtain ⟨o', h1, h2⟩ := h
  exact ⟨o', by rw [updM_ne hp]; exact h1, h2⟩
theorem BoxAt.ne {a p : Addr} {M : Mp} (h : BoxAt M a) (hp : M p = none) : a ≠ p := by
  obtain ⟨o', h1, h2⟩ := h
  exact neM h1 hp
/-- the same draws with a further object -/
theorem BoN.upd {a p : Addr} {M M' : Mp} {o : MO} (h : BoN a M M') (hp : a ≠ p) : BoN a (updM M p o) (updM M' p o) := by
  obtain ⟨o', rfl, h2⟩ := h
  exact ⟨o', updM_comm hp, h2⟩
theorem BoN.none {a p : Addr} {M M' : Mp} (h : BoN a M M') (ha : BoxAt M a) (hp : M p = none) : M' p = none := by
  obtain ⟨o', rfl, h2⟩ := h
  rw [updM_ne (ha.ne hp).symm]; exact hp
theorem BoN.keep {a p : Addr} {M M' : Mp} {mo : MO} (h : BoN a M M') (ha : a ≠ p) (hp : M p = some mo) : M' p = some mo := by
  obtain ⟨o', rfl, h2⟩ := h
  rw [updM_ne ha.symm]; exact hp
/-- draws with a further object on the way: the result said of the map without it -/
theorem BoN.off {a p : Addr} {M M' : Mp} {o : MO} (h : BoN a (updM M p o) M') (ha : a ≠ p) : ∃ M2, M' = updM M2 p o ∧ BoN a M M2 := by
  obtain ⟨o', rfl, h2⟩ := h
  exact ⟨updM M a (.lst o'), (updM_comm ha).symm, o', rfl, h2⟩

end Bx
/-! Seats for all: embeddings of one row of things into another. -/
namespace Mt
section
variable {α β : Type}
inductive F2 (r : α → β → Prop) : List α → List β → Prop
  | nil : F2 r [] []
  | cons {x y xs ys} : r x y → F2 r xs ys → F2 r (x :: xs) (y :: ys)
theorem F2.len {r : α → β → Prop} : ∀ {xs : List α} {ys : List β}, F2 r xs ys → xs.length = ys.length
  | _, _, .nil => rfl
  | _, _, .cons _ h => by rw [List.length_cons, List.length_cons, h.len]
theorem F2.get {r : α → β → Prop} : ∀ {xs : List α} {ys : List β}, F2 r xs ys → ∀ (i : Nat) x y, xs[i]? = some x → ys[i]? = some y → r x y
  | _, _, .nil, i, x, y, h, _ => by cases h
  | _, _, .cons h t, 0, x, y, h1, h2 => by cases h1; cases h2; exact h
  | _, _, .cons h t, i + 1, x, y, h1, h2 => t.get i x y h1 h2
theorem F2.of {r : α → β → Prop} : ∀ {xs : List α} {ys : List β}, xs.length = ys.length → (∀ (i : Nat) x y, xs[i]? = some x → ys[i]? = some y → r x y) → F2 r xs ys
  | [], [], _, _ => .nil
  | [], _ :: _, h, _ => by cases h
  | _ :: _, [], h, _ => by cases h
  | x :: xs, y :: ys, h, hr => .cons (hr 0 x y rfl rfl) (F2.of (by simpa using h) fun i a b h1 h2 => hr (i + 1) a b h1 h2)
theorem F2.app {r : α → β → Prop} : ∀ {xs xs' : List α} {ys ys' : List β}, F2 r xs ys → F2 r xs' ys' → F2 r (xs ++ xs') (ys ++ ys')
  | _, _, _, _, .nil, h => h
  | _, _, _, _, .cons h t, h' => .cons h (t.app h')
/-- the left row permuted: the right one goes with it -/
theorem F2.perm {r : α → β → Prop} {xs xs' : List α} (hp : xs.Perm xs') : ∀ {ys : List β}, F2 r xs ys → ∃ ys', ys.Perm ys' ∧ F2 r xs' ys' := by
  induction hp with
  | nil => exact fun h => ⟨_, .refl _, h⟩
  | cons x _ ih =>
    intro ys h
    cases h with
    | cons h t =>
      obtain ⟨ys', h1, h2⟩ := ih t
      exact ⟨_, h1.cons _, .cons h h2⟩
  | swap x y l =>
    intro ys h
    cases h with
    | cons h t =>
      cases t with
      | cons h' t => exact ⟨_, .swap _ _ _, .cons h' (.cons h t)⟩
  | trans _ _ ih1 ih2 =>
    intro ys h
    obtain ⟨y1, h1, h2⟩ := ih1 h
    obtain ⟨y2, h3, h4⟩ := ih2 h2
    exact ⟨y2, h1.trans h3, h4⟩
/-- each of the one row has an own one of the other -/
def Emb (r : α → β → Prop) (xs : List α) (ys : List β) : Prop := ∃ zs rest, ys.Perm (zs ++ rest) ∧ F2 r xs zs
theorem Emb.perm {r : α → β → Prop} {xs xs' : List α} {ys ys' : List β} (hx : xs.Perm xs') (hy : ys.Perm ys') (h : Emb r xs ys) : Emb r xs' ys' := by
  obtain ⟨zs, rest, h1, h2⟩ := h
  obtain ⟨zs', h3, h4⟩ := h2.perm hx
  exact ⟨zs', rest, (hy.symm.trans h1).trans (h3.append_right rest), h4⟩
theorem Emb.imp {r r' : α → β → Prop} {xs : List α} {ys : List β} (hr : ∀ x ∈ xs, ∀ y ∈ ys, r x y → r' x y) (h : Emb r xs ys) : Emb r' xs ys := by
  obtain ⟨zs, rest, h1, h2⟩ := h
  refine ⟨zs, rest, h1, F2.of h2.len fun i x y hx hy => hr x (List.mem_of_getElem? hx) y ?_ (h2.get i x y hx hy)⟩
  exact h1.mem_iff.mpr (List.mem_append_left _ (List.mem_of_getElem? hy))
theorem Emb.len {r : α → β → Prop} {xs : List α} {ys : List β} (h : Emb r xs ys) : xs.length ≤ ys.length := by
  obtain ⟨zs, rest, h1, h2⟩ := h
  have := h1.length_eq
  rw [List.length_append] at this
  have := h2.len
  omega
end
/-- what stands in both rows is taken out: nothing changes -/
theorem emb_out {α : Type} {r : α → α → Prop} (refl : ∀ x, r x x) (trans : ∀ x y z, r x y → r y z → r x z) {x : α} {xs ys : List α} : Emb r (x :: xs) (x :: ys) ↔ Emb r xs ys := by
  constructor
  · rintro ⟨zs, rest, hp, h⟩
    cases h with
    | @cons _ z _ zs hz t =>
      have hp : (x :: ys).Perm (z :: (zs ++ rest)) := hp
      have hx : x ∈ z :: (zs ++ rest) := hp.mem_iff.mp (List.mem_cons_self ..)
      rcases List.mem_cons.mp hx with rfl | hx
      · exact ⟨zs, rest, List.Perm.cons_inv hp, t⟩
      · rcases List.mem_append.mp hx with hx | hx
        · obtain ⟨i, hi⟩ := List.getElem?_of_mem hx
          obtain ⟨hil, hie⟩ := List.getElem?_eq_some_iff.mp hi
          refine ⟨zs.set i z, rest, ?_, F2.of (by rw [List.length_set]; exact t.len) fun j u v hu hv => ?_⟩
          · have e1 : zs = zs.take i ++ x :: zs.drop (i + 1) := by
              conv => lhs; rw [← List.take_append_drop i zs, List.drop_eq_getElem_cons hil, hie]
            have e2 : zs.set i z = zs.take i ++ z :: zs.drop (i + 1) := by rw [List.set_eq_take_append_cons_drop, if_pos hil]
            refine List.Perm.cons_inv (a := x) (hp.trans ?_)
            rw [e2]
            conv => lhs; rw [e1]
            have p1 : (z :: ((zs.take i ++ x :: zs.drop (i + 1)) ++ rest)).Perm (z :: x :: ((zs.take i ++ zs.drop (i + 1)) ++ rest)) := by
              refine List.Perm.cons _ ?_
              rw [List.append_assoc, List.append_assoc]
              exact List.perm_middle
            have p2 : (x :: z :: ((zs.take i ++ zs.drop (i + 1)) ++ rest)).Perm (x :: ((zs.take i ++ z :: zs.drop (i + 1)) ++ rest)) := by
              refine List.Perm.cons _ ?_
              rw [List.append_assoc, List.append_assoc]
              exact List.perm_middle.symm
            exact (p1.trans (.swap _ _ _)).trans p2
          · by_cases e : j = i
            · subst e
              rw [List.getElem?_set_self hil] at hv
              cases hv
              exact trans u x _ (t.get j u x hu hi) hz
            · rw [List.getElem?_set_ne (fun h => e h.symm)] at hv
              exact t.get j u v hu hv
        · obtain ⟨r1, r2, hr⟩ := List.append_of_mem hx
          refine ⟨zs, z :: (r1 ++ r2), List.Perm.cons_inv (a := x) (hp.trans ?_), t⟩
          rw [hr]
          have p1 : (z :: (zs ++ (r1 ++ x :: r2))).Perm (z :: x :: (zs ++ (r1 ++ r2))) := by
            refine List.Perm.cons _ ?_
            rw [← List.append_assoc, ← List.append_assoc]
            exact List.perm_middle
          exact (p1.trans (.swap _ _ _)).trans (List.Perm.cons _ List.perm_middle.symm)
  · rintro ⟨zs, rest, hp, h⟩
    exact ⟨x :: zs, rest, hp.cons x, .cons (refl x) h⟩
end Mt
/-! Seats for all, by places; no seats for all where rows want too few places. -/
namespace Mt
def Full (ways : List (List Nat)) (f : List Nat) : Prop := f.length = ways.length ∧ f.Nodup ∧ ∀ (i p : Nat) (w : List Nat), f[i]? = some p → ways[i]? = some w → p ∈ w
/-- rows that want too few places -/
theorem no_full {ways : List (List Nat)} {f R Z : List Nat} (hf : Full ways f) (hR : R.Nodup) (hr : ∀ r ∈ R, ∃ w, ways[r]? = some w ∧ ∀ p ∈ w, p ∈ Z) : R.length ≤ Z.length := by
  obtain ⟨hl, hn, hw⟩ := hf
  have key : ∀ r ∈ R, ∃ p, f[r]? = some p ∧ p ∈ Z := fun r h => by
    obtain ⟨w, h1, h2⟩ := hr r h
    have hlt := (List.getElem?_eq_some_iff.mp h1).1
    refine ⟨_, List.getElem?_eq_getElem (by omega), h2 _ (hw r _ w (List.getElem?_eq_getElem (by omega)) h1)⟩
  have hm : (R.map fun r => f.getD r 0).Nodup := by
    rw [List.nodup_iff_pairwise_ne, List.pairwise_map]
    refine List.Pairwise.imp_of_mem ?_ (List.nodup_iff_pairwise_ne.mp hR)
    intro a b ha hb hab e
    obtain ⟨p, h1, _⟩ := key a ha
    obtain ⟨q, h2, _⟩ := key b hb
    rw [List.getD_eq_getElem?_getD, List.getD_eq_getElem?_getD, h1, h2] at e
    have e : p = q := e
    subst e
    exact hab ((List.getElem?_inj (List.getElem?_eq_some_iff.mp h1).1 hn).mp (h1.trans h2.symm))
  have := Mi.nodup_len (m := Z) hm fun y hy => by
    obtain ⟨r, h, rfl⟩ := List.mem_map.mp hy
    obtain ⟨p, h1, h2⟩ := key r h
    rw [List.getD_eq_getElem?_getD, h1]
    exact h2
  rwa [List.length_map] at this
theorem perm_fun {α : Type} {xs ys : List α} (h : xs.Perm ys) : ∃ g : Nat → Nat, (∀ i j, i < ys.length → j < ys.length → g i = g j → i = j) ∧ ∀ i, i < ys.length → g i < xs.length ∧ xs[g i]? = ys[i]? := by
  induction h with
  | nil => exact ⟨id, fun i j h => absurd h (Nat.not_lt_zero _), fun i h => absurd h (Nat.not_lt_zero _)⟩
  | cons x _ ih =>
    obtain ⟨g, h1, h2⟩ := ih
    refine ⟨fun i => match i with | 0 => 0 | i + 1 => g i + 1, fun i j hi hj e => ?_, fun i hi => ?_⟩
    · rw [List.length_cons] at hi hj
      match i, j, e with
      | 0, 0, _ => rfl
      | 0, j + 1, e => exact absurd e.symm (Nat.succ_ne_zero _)
      | i + 1, 0, e => exact absurd e (Nat.succ_ne_zero _)
      | i + 1, j + 1, e =>
        have e : g i + 1 = g j + 1 := e
        have := h1 i j (by omega) (by omega) (by omega)
        omega
    · rw [List.length_cons] at hi ⊢
      match i with
      | 0 => exact ⟨Nat.zero_lt_succ _, rfl⟩
      | i + 1 =>
        obtain ⟨h3, h4⟩ := h2 i (by omega)
        exact ⟨Nat.succ_lt_succ h3, h4⟩
  | swap x y l =>
    refine ⟨fun i => match i with | 0 => 1 | 1 => 0 | i + 2 => i + 2, fun i j hi hj e => ?_, fun i hi => ?_⟩
    · match i, j, e with
      | 0, 0, _ => rfl
      | 1, 1, _ => rfl
      | 0, 1, e => cases e
      | 1, 0, e => cases e
      | 0, j + 2, e => have e : 1 = j + 2 := e; omega
      | 1, j + 2, e => have e : 0 = j + 2 := e; omega
      | i + 2, 0, e => have e : i + 2 = 1 := e; omega
      | i + 2, 1, e => have e : i + 2 = 0 := e; omega
      | i + 2, j + 2, e => exact e
    · match i with
      | 0 => exact ⟨by show 1 < l.length + 1 + 1; omega, rfl⟩
      | 1 => exact ⟨by show 0 < l.length + 1 + 1; omega, rfl⟩
      | i + 2 => exact ⟨hi, rfl⟩
  | trans _ hp ih1 ih2 =>
    obtain ⟨g1, a1, b1⟩ := ih1
    obtain ⟨g2, a2, b2⟩ := ih2
    refine ⟨fun i => g1 (g2 i), fun i j hi hj e => ?_, fun i hi => ?_⟩
    · exact a2 i j hi hj (a1 _ _ (b2 i hi).1 (b2 j hj).1 e)
    · obtain ⟨c1, c2⟩ := b2 i hi
      obtain ⟨d1, d2⟩ := b1 (g2 i) c1
      exact ⟨d1, d2.trans c2⟩
theorem fm_get {α : Type} {ys : List α} : ∀ {f : List Nat}, (∀ p ∈ f, p < ys.length) → (f.filterMap fun (p : Nat) => ys[p]?).length = f.length ∧ ∀ i : Nat, (f.filterMap fun p => ys[p]?)[i]? = (f[i]?).bind fun (p : Nat) => ys[p]?
  | [], _ => ⟨rfl, fun i => rfl⟩
  | p :: f, h => by
    have hp := h p (List.mem_cons_self ..)
    obtain ⟨h1, h2⟩ := fm_get (f := f) fun q hq => h q (List.mem_cons_of_mem _ hq)
    rw [List.filterMap_cons, List.getElem?_eq_getElem hp]
    refine ⟨by rw [List.length_cons, List.length_cons, h1], fun i => ?_⟩
    cases i with
    | zero =>
      show some _ = (some p).bind _
      rw [Option.bind_some, List.getElem?_eq_getElem hp]
    | succ i =>
      rw [List.getElem?_cons_succ, List.getElem?_cons_succ]
      exact h2 i
theorem range_fm {α : Type} (ys : List α) : (List.range ys.length).filterMap (fun p => ys[p]?) = ys := by
  obtain ⟨h1, h2⟩ := fm_get (ys := ys) (f := List.range ys.length) fun p hp => List.mem_range.mp hp
  refine List.ext_getElem? fun i => ?_
  rw [h2 i]
  by_cases hi : i < ys.length
  · rw [List.getElem?_eq_getElem (by rw [List.length_range]; exact hi), List.getElem_range] <;> rfl
  · rw [List.getElem?_eq_none (by rw [List.length_range]; omega), List.getElem?_eq_none (by omega)] <;> rfl
/-- seats for all, by places -/
theorem emb_full {α : Type} {r : α → α → Prop} {xs ys : List α} {ways : List (List Nat)} (hl : ways.length = xs.length) (hw : ∀ (i : Nat) w x, ways[i]? = some w → xs[i]? = some x → ∀ p, p ∈ w ↔ ∃ y, ys[p]? = some y ∧ r x y) : (∃ f, Full ways f) ↔ Emb r xs ys := by
  constructor
  · rintro ⟨f, h1, h2, h3⟩
    have hr : ∀ p ∈ f, p < ys.length := fun p hp => by
      obtain ⟨i, hi⟩ := List.getElem?_of_mem hp
      have hil := (List.getElem?_eq_some_iff.mp hi).1
      obtain ⟨y, hy, _⟩ := (hw i _ _ (List.getElem?_eq_getElem (by omega)) (List.getElem?_eq_getElem (by omega)) p).mp (h3 i p _ hi (List.getElem?_eq_getElem (by omega)))
      exact (List.getElem?_eq_some_iff.mp hy).1
    obtain ⟨f1, f2⟩ := fm_get hr
    refine ⟨f.filterMap fun p => ys[p]?, ((List.range ys.length).filter fun p => decide (p ∉ f)).filterMap fun p => ys[p]?, ?_, F2.of (by rw [f1]; omega) fun i x y hx hy => ?_⟩
    · rw [← List.filterMap_append]
      conv => lhs; rw [← range_fm ys]
      refine List.Perm.filterMap _ ?_
      refine (List.perm_ext_iff_of_nodup List.nodup_range ?_).mpr fun p => ?_
      · rw [List.nodup_append]
        refine ⟨h2, List.nodup_range.filter _, fun a ha b hb e => ?_⟩
        subst e
        exact of_decide_eq_true (List.mem_filter.mp hb).2 ha
      · rw [List.mem_append, List.mem_filter, List.mem_range]
        constructor
        · intro h
          by_cases hp : p ∈ f
          · exact .inl hp
          · exact .inr ⟨h, decide_eq_true hp⟩
        · rintro (h | h)
          · exact hr p h
          · exact h.1
    · rw [f2 i] at hy
      obtain ⟨p, hp, hy⟩ := Option.bind_eq_some_iff.mp hy
      have hil := (List.getElem?_eq_some_iff.mp hx).1
      obtain ⟨y', hy', hrr⟩ := (hw i _ x (List.getElem?_eq_getElem (by omega)) hx p).mp (h3 i p _ hp (List.getElem?_eq_getElem (by omega)))
      rw [hy] at hy'
      cases hy'
      exact hrr
  · rintro ⟨zs, rest, hp, h⟩
    obtain ⟨g, g1, g2⟩ := perm_fun hp
    have hzl := h.len
    have hb : ∀ i, i < zs.length → i < (zs ++ rest).length := fun i hi => by rw [List.length_append]; omega
    refine ⟨(List.range zs.length).map g, by rw [List.length_map, List.length_range]; omega, ?_, fun i p w hi hwi => ?_⟩
    · rw [List.nodup_iff_pairwise_ne, List.pairwise_map]
      refine List.Pairwise.imp_of_mem ?_ (List.nodup_iff_pairwise_ne.mp List.nodup_range)
      intro a b ha hb' hab e
      exact hab (g1 a b (hb a (List.mem_range.mp ha)) (hb b (List.mem_range.mp hb')) e)
    · rw [List.getElem?_map] at hi
      obtain ⟨j, hj, rfl⟩ := Option.map_eq_some_iff.mp hi
      obtain ⟨hjl, hje⟩ := List.getElem?_eq_some_iff.mp hj
      rw [List.length_range] at hjl
      rw [List.getElem_range] at hje
      subst hje
      obtain ⟨_, g4⟩ := g2 i (hb i hjl)
      refine (hw i w _ hwi (List.getElem?_eq_getElem (by omega)) (g i)).mpr ⟨zs[i], ?_, h.get i _ _ (List.getElem?_eq_getElem (by omega)) (List.getElem?_eq_getElem hjl)⟩
      rw [g4, List.getElem?_append_left hjl, List.getElem?_eq_getElem hjl]
end Mt
/-! Trees of frames; one lies in another. -/
namespace Mt
open PySem L2 DL
inductive Tre where
  | mk (p r : List Str) (ks : List Tre)
mutual
def Tre.d : Tre → D
  | .mk p r ks => .tup [.tup (p.map D.str), .tup (r.map D.str), .tup (tresD ks)]
def tresD : List Tre → List D
  | [] => []
  | t :: ts => t.d :: tresD ts
end
theorem tresD_map : ∀ ts : List Tre, tresD ts = ts.map Tre.d
  | [] => by unfold tresD; rfl
  | t :: ts => by unfold tresD; rw [tresD_map ts] <;> rfl
mutual
inductive Lies : Tre → Tre → Prop
  | mk {p r : List Str} {ks ks' zs rest : List Tre} : ks'.Perm (zs ++ rest) → LiesL ks zs → Lies (.mk p r ks) (.mk p r ks')
inductive LiesL : List Tre → List Tre → Prop
  | nil : LiesL [] []
  | cons {x y : Tre} {xs ys : List Tre} : Lies x y → LiesL xs ys → LiesL (x :: xs) (y :: ys)
end
theorem liesL_f2 : ∀ {xs ys : List Tre}, LiesL xs ys ↔ F2 Lies xs ys
  | [], ys => ⟨fun h => by cases h; exact .nil, fun h => by cases h; exact .nil⟩
  | x :: xs, ys => ⟨fun h => by cases h with | cons h t => exact .cons h (liesL_f2.mp t), fun h => by cases h with | cons h t => exact .cons h (liesL_f2.mpr t)⟩
theorem lies_iff {p r p' r' : List Str} {ks ks' : List Tre} : Lies (.mk p r ks) (.mk p' r' ks') ↔ p = p' ∧ r = r' ∧ Emb Lies ks ks' := by
  constructor
  · intro h
    cases h with
    | mk hp hl => exact ⟨rfl, rfl, _, _, hp, liesL_f2.mp hl⟩
  · rintro ⟨rfl, rfl, zs, rest, hp, hl⟩
    exact .mk hp (liesL_f2.mpr hl)
theorem F2.split {α β : Type} {r : α → β → Prop} : ∀ {xs xs' : List α} {ys : List β}, F2 r (xs ++ xs') ys → ∃ y1 y2, ys = y1 ++ y2 ∧ F2 r xs y1 ∧ F2 r xs' y2
  | [], xs', ys, h => ⟨[], ys, rfl, .nil, h⟩
  | x :: xs, xs', ys, h => by
    cases h with
    | cons h t =>
      obtain ⟨y1, y2, e, h1, h2⟩ := F2.split t
      exact ⟨_ :: y1, y2, by rw [e] <;> rfl, .cons h h1, h2⟩
theorem F2.comp {α : Type} {r : α → α → Prop} : ∀ {xs ys zs : List α}, (∀ x ∈ xs, ∀ y z, r x y → r y z → r x z) → F2 r xs ys → F2 r ys zs → F2 r xs zs
  | _, _, _, _, .nil, h => h
  | _, _, _, ht, .cons h t, h' => by
    cases h' with
    | cons h2 t2 => exact .cons (ht _ (List.mem_cons_self ..) _ _ h h2) (F2.comp (fun x hx => ht x (List.mem_cons_of_mem _ hx)) t t2)
theorem emb_trans {α : Type} {r : α → α → Prop} {xs ys zs : List α} (ht : ∀ x ∈ xs, ∀ y z, r x y → r y z → r x z) (h1 : Emb r xs ys) (h2 : Emb r ys zs) : Emb r xs zs := by
  obtain ⟨z1, rest1, p1, f1⟩ := h1
  obtain ⟨w, rest2, p2, f2⟩ := h2.perm p1 (.refl _)
  obtain ⟨w1, w2, rfl, g1, g2⟩ := f2.split
  exact ⟨w1, w2 ++ rest2, by rw [← List.append_assoc]; exact p2, F2.comp ht f1 g1⟩
theorem emb_refl {α : Type} {r : α → α → Prop} {xs : List α} (hr : ∀ x ∈ xs, r x x) : Emb r xs xs :=
  ⟨xs, [], by rw [List.append_nil], F2.of rfl fun i x y hx hy => by
    rw [hx] at hy
    cases hy
    exact hr x (List.mem_of_getElem? hx)⟩
theorem lies_refl : ∀ t : Tre, Lies t t
  | .mk p r ks => lies_iff.mpr ⟨rfl, rfl, emb_refl fun x hx => lies_refl x⟩
termination_by t => sizeOf t
decreasing_by
  have := List.sizeOf_lt_of_mem hx
  simp
  omega
theorem lies_trans : ∀ {a b c : Tre}, Lies a b → Lies b c → Lies a c
  | .mk p r ks, .mk p' r' ks', .mk p'' r'' ks'', h1, h2 => by
    obtain ⟨rfl, rfl, e1⟩ := lies_iff.mp h1
    obtain ⟨rfl, rfl, e2⟩ := lies_iff.mp h2
    exact lies_iff.mpr ⟨rfl, rfl, emb_trans (fun x hx y z => lies_trans (a := x)) e1 e2⟩
termination_by a => sizeOf a
decreasing_by
  have := List.sizeOf_lt_of_mem hx
  simp
  omega
end Mt
/-! Tuples of texts beside one another. -/
namespace Mt
open PySem PySem.Spec L2 DL
theorem pyDs_strs : ∀ l : List Str, pyDs (l.map D.str) = some (l.map PyData.str)
  | [] => by
    show pyDs [] = _
    unfold pyDs
    rfl
  | x :: l => by
    rw [List.map_cons]
    unfold pyDs
    rw [pyDs_strs l] <;> rfl
theorem lay_strs : ∀ l : List Str, (∀ x ∈ l, PyData.strOk x = true) → PyData.canLayAll0 (l.map PyData.str) = true ∧ PyData.depthAll (l.map PyData.str) ≤ 1
  | [], _ => by
    show PyData.canLayAll0 [] = _ ∧ PyData.depthAll [] ≤ _
    unfold PyData.canLayAll0 PyData.depthAll
    exact ⟨rfl, by omega⟩
  | x :: l, h => by
    obtain ⟨h1, h2⟩ := lay_strs l fun y hy => h y (List.mem_cons_of_mem _ hy)
    have h3 := h x (List.mem_cons_self ..)
    rw [List.map_cons]
    refine ⟨?_, ?_⟩
    · unfold PyData.canLayAll0
      rw [h1]
      simp [PyData.canLay0, h3]
    · unfold PyData.depthAll
      have : PyData.depth (.str x) ≤ 1 := by simp [PyData.depth]
      omega
theorem eqv_strs : ∀ a b : List Str, PyData.eqvAll (a.map PyData.str) (b.map PyData.str) = decide (a = b)
  | [], [] => by simp [PyData.eqvAll]
  | [], _ :: _ => by simp [PyData.eqvAll]
  | _ :: _, [] => by simp [PyData.eqvAll]
  | x :: a, y :: b => by
    rw [List.map_cons, List.map_cons]
    unfold PyData.eqvAll
    rw [eqv_strs a b]
    rw [show PyData.eqv (.str x) (.str y) = (x == y) by simp [PyData.eqv], show (x == y) = decide (x = y) from by by_cases e : x = y <;> simp [e]]
    simp
theorem e_eq_strs {n : Bool} {a b : List Str} {M : Mp} {Q : DK} (ha : ∀ x ∈ a, PyData.strOk x = true) (hb : ∀ x ∈ b, PyData.strOk x = true) (q : Q (.bl (n != decide (a = b))) M) : dEq n (.tup (a.map D.str)) (.tup (b.map D.str)) M Q := by
  have sh : ∀ l : List Str, (∀ x ∈ l, PyData.strOk x = true) → SeqAt.shaped (.tuple (l.map PyData.str)) = true := fun l h => by
    obtain ⟨h1, h2⟩ := lay_strs l h
    unfold SeqAt.shaped
    have hl : PyData.canLay0 (.tuple (l.map PyData.str)) = true := by
      unfold PyData.canLay0
      exact h1
    rw [hl, decide_eq_true]
    · rfl
    · unfold PyData.depth
      omega
  have pd : ∀ l : List Str, pyD (.tup (l.map D.str)) = some (.tuple (l.map PyData.str)) := fun l => by
    unfold pyD
    rw [pyDs_strs] <;> rfl
  refine ⟨_, _, pd a, pd b, sh a ha, sh b hb, ?_⟩
  have e : PyData.eqv (.tuple (a.map PyData.str)) (.tuple (b.map PyData.str)) = decide (a = b) := by
    unfold PyData.eqv
    exact eqv_strs a b
  rw [e]
  exact q
mutual
def OkT : Tre → Prop
  | .mk p r ks => (∀ x ∈ p, PyData.strOk x = true) ∧ (∀ x ∈ r, PyData.strOk x = true) ∧ p.length ≤ 100 ∧ r.length ≤ 100 ∧ ks.length ≤ 99 ∧ OkTs ks
def OkTs : List Tre → Prop
  | [] => True
  | t :: ts => OkT t ∧ OkTs ts
end
mutual
def dpT : Tre → Nat
  | .mk _ _ ks => 1 + dpTs ks
def dpTs : List Tre → Nat
  | [] => 0
  | t :: ts => max (dpT t) (dpTs ts)
end
theorem okTs_mem : ∀ {ts : List Tre} {t : Tre}, OkTs ts → t ∈ ts → OkT t
  | x :: ts, t, h, hm => by
    unfold OkTs at h
    rcases List.mem_cons.mp hm with rfl | hm
    · exact h.1
    · exact okTs_mem h.2 hm
theorem dpTs_mem : ∀ {ts : List Tre} {t : Tre}, t ∈ ts → dpT t ≤ dpTs ts
  | x :: ts, t, hm => by
    unfold dpTs
    rcases List.mem_cons.mp hm with rfl | hm
    · omega
    · have := dpTs_mem hm
      omega
end Mt
/-! Rows that are given places, one path after another. -/
namespace Mt
open PySem L2 DL
/-- who holds which place, in both directions; e is a place whose holder is out of date -/
structure Net (ways : List (List Nat)) (H P : List (Option Nat)) (e : Option Nat) : Prop where
  a : ∀ (r p : Nat), P[r]? = some (some p) → H[p]? = some (some r) ∧ ∃ w, ways[r]? = some w ∧ p ∈ w
  b : ∀ (p r : Nat), e ≠ some p → H[p]? = some (some r) → P[r]? = some (some p)
  n : ∀ (r p : Nat), e = some p → P[r]? ≠ some (some p)
/-- what was reached -/
structure Came (ways : List (List Nat)) (H : List (Option Nat)) (start : Nat) (came : List (Nat × Nat)) (qs : List Nat) : Prop where
  q0 : qs[0]? = some start
  ln : qs.length = came.length + 1
  hold : ∀ (i p r : Nat), came[i]? = some (p, r) → ∃ h, H[p]? = some (some h) ∧ qs[i + 1]? = some h
  fr : ∀ (i p r : Nat), came[i]? = some (p, r) → ∃ j, j ≤ i ∧ qs[j]? = some r ∧ ∃ w, ways[r]? = some w ∧ p ∈ w
  nd : (came.map (·.1)).Nodup
theorem snoc_get {α : Type} {l : List α} {x y : α} {i : Nat} (h : (l ++ [x])[i]? = some y) : l[i]? = some y ∨ i = l.length ∧ y = x := by
  by_cases hi : i < l.length
  · rw [List.getElem?_append_left hi] at h
    exact .inl h
  · have := (List.getElem?_eq_some_iff.mp h).1
    rw [List.length_append, List.length_singleton] at this
    have e : i = l.length := by omega
    subst e
    rw [List.getElem?_concat_length] at h
    cases h
    exact .inr ⟨rfl, rfl⟩
theorem get_snoc {α : Type} {l : List α} {x y : α} {i : Nat} (h : l[i]? = some y) : (l ++ [x])[i]? = some y := by
  rw [List.getElem?_append_left (List.getElem?_eq_some_iff.mp h).1]
  exact h
section
variable {ways : List (List Nat)} {H : List (Option Nat)} {start : Nat} {came : List (Nat × Nat)} {qs : List Nat}
theorem Came.nil : Came ways H start [] [start] := ⟨rfl, rfl, fun i p r h => by simp at h, fun i p r h => by simp at h, List.nodup_nil⟩
theorem Came.add (h : Came ways H start came qs) {p r k at_ : Nat} {w : List Nat} (hp : p ∉ came.map (·.1)) (hq : qs[at_]? = some r) (hw : ways[r]? = some w) (hm : p ∈ w) (hH : H[p]? = some (some k)) : Came ways H start (came ++ [(p, r)]) (qs ++ [k]) := by
  refine ⟨get_snoc h.q0, by rw [List.length_append, List.length_append, h.ln] <;> rfl, fun i p' r' hi => ?_, fun i p' r' hi => ?_, ?_⟩
  · rcases snoc_get hi with hi | ⟨rfl, e⟩
    · obtain ⟨k', h1, h2⟩ := h.hold i p' r' hi
      exact ⟨k', h1, get_snoc h2⟩
    · cases e
      refine ⟨k, hH, ?_⟩
      rw [← h.ln, List.getElem?_concat_length]
  · rcases snoc_get hi with hi | ⟨rfl, e⟩
    · obtain ⟨j, h1, h2, h3⟩ := h.fr i p' r' hi
      exact ⟨j, h1, get_snoc h2, h3⟩
    · cases e
      have := (List.getElem?_eq_some_iff.mp hq).1
      exact ⟨at_, by have := h.ln; omega, get_snoc hq, w, hw, hm⟩
  · rw [List.map_append, List.nodup_append]
    refine ⟨h.nd, by simp, fun a ha b hb => ?_⟩
    rw [List.map_cons, List.map_nil, List.mem_singleton] at hb
    subst hb
    exact fun e => hp (e ▸ ha)
/-- all was asked, nothing was found: there are no places for all -/
theorem Came.shut (h : Came ways H start came qs) {P : List (Option Nat)} (hn : Net ways H P none) (hs : P[start]? = some none) (hc : ∀ r ∈ qs, ∃ w, ways[r]? = some w ∧ ∀ p ∈ w, p ∈ came.map (·.1)) {f : List Nat} : ¬ Full ways f := fun hf => by
  have hne : ∀ (i j a : Nat), i < j → qs[i]? = some a → qs[j]? = some a → False := by
    intro i j a hij hi hj
    obtain ⟨j, rfl⟩ : ∃ j', j = j' + 1 := ⟨j - 1, by omega⟩
    have hjl := (List.getElem?_eq_some_iff.mp hj).1
    obtain ⟨⟨p, r⟩, hp⟩ : ∃ x, came[j]? = some x := ⟨_, List.getElem?_eq_getElem (by have := h.ln; omega)⟩
    obtain ⟨k, h1, h2⟩ := h.hold j p r hp
    rw [h2] at hj
    cases hj
    have hPk := hn.b p a (fun e => nomatch e) h1
    rcases Nat.eq_zero_or_pos i with rfl | hpos
    · rw [h.q0] at hi
      cases hi
      rw [hs] at hPk
      cases hPk
    · obtain ⟨i, rfl⟩ : ∃ i', i = i' + 1 := ⟨i - 1, by omega⟩
      obtain ⟨⟨p', r'⟩, hp'⟩ : ∃ x, came[i]? = some x := ⟨_, List.getElem?_eq_getElem (by have := h.ln; omega)⟩
      obtain ⟨k', h3, h4⟩ := h.hold i p' r' hp'
      rw [h4] at hi
      cases hi
      have hPk' := hn.b p' a (fun e => nomatch e) h3
      rw [hPk] at hPk'
      cases hPk'
      have e1 : (came.map (·.1))[j]? = some p := by rw [List.getElem?_map, hp] <;> rfl
      have e2 : (came.map (·.1))[i]? = some p := by rw [List.getElem?_map, hp'] <;> rfl
      have := (List.getElem?_inj (List.getElem?_eq_some_iff.mp e2).1 h.nd).mp (e2.trans e1.symm)
      omega
  have hR : qs.Nodup := by
    rw [List.nodup_iff_pairwise_ne, List.pairwise_iff_getElem]
    intro i j hi hj hij e
    exact hne i j _ hij (List.getElem?_eq_getElem hi) (by rw [List.getElem?_eq_getElem hj, e])
  have := no_full hf hR hc
  rw [List.length_map, h.ln] at this
  omega
end
/-- the places change hands along what came -/
structure Fl (ways : List (List Nat)) (start : Nat) (came : List (Nat × Nat)) (qs : List Nat) (H P : List (Option Nat)) (e : Option Nat) (m : Nat) : Prop where
  net : Net ways H P e
  lp : P.length = ways.length
  at_ : ∀ p, e = some p → P[start]? = some none ∧ ∃ i r, i + 1 = m ∧ came[i]? = some (p, r) ∧ ∀ (j p' r' : Nat), j < i → came[j]? = some (p', r') → ∃ h, H[p']? = some (some h) ∧ qs[j + 1]? = some h
  pl : ∀ r, r < start → ∃ p, P[r]? = some (some p)
  up : ∀ r, start < r → r < ways.length → P[r]? = some none
  fin : e = none → ∃ p, P[start]? = some (some p)
section
variable {ways : List (List Nat)} {H P : List (Option Nat)} {start : Nat} {came : List (Nat × Nat)} {qs : List Nat}
/-- a free place was found -/
theorem Fl.of (h : Came ways H start came qs) (hn : Net ways H P none) (lp : P.length = ways.length) (hs : P[start]? = some none) (pl : ∀ r, r < start → ∃ p, P[r]? = some (some p)) (up : ∀ r, start < r → r < ways.length → P[r]? = some none) {p r : Nat} (hf : H[p]? = some none) : Fl ways start (came ++ [(p, r)]) qs H P (some p) (came.length + 1) := by
  refine ⟨⟨hn.a, fun q x _ => hn.b q x (fun e => nomatch e), fun x q e hx => ?_⟩, lp, fun q e => ?_, pl, up, fun e => nomatch e⟩
  · cases e
    have := (hn.a x _ hx).1
    rw [hf] at this
    cases this
  · cases e
    refine ⟨hs, came.length, r, rfl, List.getElem?_concat_length, fun j p' r' hj hc => ?_⟩
    rw [List.getElem?_append_left hj] at hc
    exact h.hold j p' r' hc
theorem Fl.lt {m p : Nat} (h : Fl ways start came qs H P (some p) m) (hfr : ∀ (i p r : Nat), came[i]? = some (p, r) → ∃ j, j ≤ i ∧ qs[j]? = some r ∧ ∃ w, ways[r]? = some w ∧ p ∈ w) : ∃ r, (p, r) ∈ came ∧ r < P.length := by
  obtain ⟨_, i, r, _, hi, _⟩ := h.at_ p rfl
  obtain ⟨_, _, _, w, hw, _⟩ := hfr i p r hi
  exact ⟨r, List.mem_of_getElem? hi, by rw [h.lp]; exact (List.getElem?_eq_some_iff.mp hw).1⟩
theorem Fl.step {m p r : Nat} (h : Fl ways start came qs H P (some p) m) (nd : (came.map (·.1)).Nodup) (q0 : qs[0]? = some start) (hfr : ∀ (i p r : Nat), came[i]? = some (p, r) → ∃ j, j ≤ i ∧ qs[j]? = some r ∧ ∃ w, ways[r]? = some w ∧ p ∈ w) (hr : (p, r) ∈ came) (hp : p < H.length) {b : Option Nat} (hb : P[r]? = some b) : ∃ m', m' < m ∧ Fl ways start came qs (H.set p (some r)) (P.set r (some p)) b m' := by
  obtain ⟨hs, i, r', him, hi, hh⟩ := h.at_ p rfl
  have uniq : ∀ (i j p a b : Nat), came[i]? = some (p, a) → came[j]? = some (p, b) → i = j := fun i j p a b h1 h2 => by
    have e1 : (came.map (·.1))[i]? = some p := by rw [List.getElem?_map, h1] <;> rfl
    have e2 : (came.map (·.1))[j]? = some p := by rw [List.getElem?_map, h2] <;> rfl
    exact (List.getElem?_inj (List.getElem?_eq_some_iff.mp e1).1 nd).mp (e1.trans e2.symm)
  obtain ⟨i', hi'⟩ := List.getElem?_of_mem hr
  have e := uniq _ _ _ _ _ hi hi'
  subst e
  rw [hi] at hi'
  cases hi'
  have hrl := (List.getElem?_eq_some_iff.mp hb).1
  obtain ⟨j, hji, hqj, w, hw, hpw⟩ := hfr i p r hi
  -- the place before
  have hbef : ∀ p', b = some p' → p' ≠ p ∧ H[p']? = some (some r) := fun p' e => by
    subst e
    refine ⟨fun e => ?_, (h.net.a r p' hb).1⟩
    subst e
    exact h.net.n r p' rfl hb
  have gP : ∀ x, (P.set r (some p))[x]? = if x = r then some (some p) else P[x]? := fun x => by
    by_cases e : x = r
    · subst e
      rw [if_pos rfl, List.getElem?_set_self hrl]
    · rw [if_neg e, List.getElem?_set_ne (fun z => e z.symm)]
  have gH : ∀ x, (H.set p (some r))[x]? = if x = p then some (some r) else H[x]? := fun x => by
    by_cases e : x = p
    · subst e
      rw [if_pos rfl, List.getElem?_set_self hp]
    · rw [if_neg e, List.getElem?_set_ne (fun z => e z.symm)]
  have net : Net ways (H.set p (some r)) (P.set r (some p)) b := by
    refine ⟨fun x q hx => ?_, fun q x hq hx => ?_, fun x q e hx => ?_⟩
    · rw [gP] at hx
      by_cases e : x = r
      · rw [if_pos e] at hx
        cases hx
        subst e
        exact ⟨by rw [gH, if_pos rfl], w, hw, hpw⟩
      · rw [if_neg e] at hx
        obtain ⟨h1, h2⟩ := h.net.a x q hx
        refine ⟨?_, h2⟩
        rw [gH, if_neg (fun z => ?_)]
        · exact h1
        · subst z
          exact h.net.n x q rfl hx
    · rw [gH] at hx
      by_cases e : q = p
      · rw [if_pos e] at hx
        cases hx
        subst e
        rw [gP, if_pos rfl]
      · rw [if_neg e] at hx
        have h1 := h.net.b q x (fun z => e (Option.some.inj z).symm) hx
        rw [gP, if_neg (fun z => ?_)]
        · exact h1
        · subst z
          rw [hb] at h1
          cases h1
          exact hq rfl
    · subst e
      rw [gP] at hx
      obtain ⟨n1, n2⟩ := hbef q rfl
      by_cases e : x = r
      · rw [if_pos e] at hx
        cases hx
        exact n1 rfl
      · rw [if_neg e] at hx
        have := (h.net.a x q hx).1
        rw [n2] at this
        cases this
        exact e rfl
  have lp' : (P.set r (some p)).length = ways.length := by rw [List.length_set]; exact h.lp
  -- the row is start or stands behind a place
  rcases Nat.eq_zero_or_pos j with rfl | hpos
  · rw [q0] at hqj
    cases hqj
    rw [hs] at hb
    cases hb
    refine ⟨0, by omega, ⟨net, lp', (fun q e => nomatch e), fun x hx => ?_, fun x hx hl => ?_, fun (_ : (none : Option Nat) = none) => ⟨p, by rw [gP, if_pos rfl]⟩⟩⟩
    · rw [gP, if_neg (by omega)]
      exact h.pl x hx
    · rw [gP, if_neg (by omega)]
      exact h.up x hx hl
  · obtain ⟨k, rfl⟩ : ∃ k, j = k + 1 := ⟨j - 1, by omega⟩
    obtain ⟨⟨p', r'⟩, hp'⟩ : ∃ x, came[k]? = some x := ⟨_, List.getElem?_eq_getElem (by have := (List.getElem?_eq_some_iff.mp hi).1; omega)⟩
    obtain ⟨k', h3, h4⟩ := hh k p' r' (by omega) hp'
    rw [h4] at hqj
    cases hqj
    have hne : p' ≠ p := fun e => by
      subst e
      have := uniq _ _ _ _ _ hp' hi
      omega
    have hbp := h.net.b p' r (fun z => hne (Option.some.inj z).symm) h3
    rw [hb] at hbp
    cases hbp
    have hrs : r ≠ start := fun e => by
      rw [e, hs] at hb
      cases hb
    refine ⟨k + 1, by omega, ⟨net, lp', fun q e => ?_, fun x hx => ?_, fun x hx hl => ?_, (fun e => nomatch e)⟩⟩
    · cases e
      refine ⟨by rw [gP, if_neg (fun z => hrs z.symm)]; exact hs, k, r', rfl, hp', fun j' p'' r'' hj' hc => ?_⟩
      obtain ⟨hx, h5, h6⟩ := hh j' p'' r'' (by omega) hc
      refine ⟨hx, ?_, h6⟩
      rw [gH, if_neg (fun z => ?_)]
      · exact h5
      · subst z
        have := uniq _ _ _ _ _ hc hi
        omega
    · by_cases e : x = r
      · exact ⟨p, by rw [gP, if_pos e]⟩
      · rw [gP, if_neg e]
        exact h.pl x hx
    · rw [gP, if_neg (fun z => ?_)]
      · exact h.up x hx hl
      · subst z
        rw [h.up x hx hl] at hb
        cases hb
/-- all have a place -/
theorem net_full (hn : Net ways H P none) (lp : P.length = ways.length) (ha : ∀ r, r < ways.length → ∃ p, P[r]? = some (some p)) : Full ways (P.map fun o => o.getD 0) := by
  have hg : ∀ (i p : Nat), (P.map fun o => o.getD 0)[i]? = some p → P[i]? = some (some p) := fun i p h => by
    rw [List.getElem?_map] at h
    obtain ⟨o, ho, e⟩ := Option.map_eq_some_iff.mp h
    obtain ⟨q, hq⟩ := ha i (by rw [← lp]; exact (List.getElem?_eq_some_iff.mp ho).1)
    rw [ho] at hq
    cases hq
    have e : q = p := e
    rw [ho, e]
  refine ⟨by rw [List.length_map, lp], ?_, fun i p w hi hw => ?_⟩
  · rw [List.nodup_iff_pairwise_ne, List.pairwise_iff_getElem]
    intro i j hi hj hij e
    have h1 := hg i _ (List.getElem?_eq_getElem hi)
    have h2 := hg j _ (by rw [List.getElem?_eq_getElem hj, ← e])
    have h3 := (hn.a _ _ h1).1
    rw [(hn.a _ _ h2).1] at h3
    injection h3 with h3
    injection h3 with h3
    omega
  · obtain ⟨_, w', h1, h2⟩ := hn.a i p (hg i p hi)
    rw [hw] at h1
    cases h1
    exact h2
end
end Mt
/-! sum, str of a number, list.remove, comprehensions whose test changes things, keys of two. -/
namespace DL
open PySem PySem.Spec PyProof.Rows L2
section
variable {X : Cx} {F0 : Hp}
def dSumC : DRC := fun xs M Q => ∃ ns : List Int, xs = [.lst (ns.map D.int)] ∧ Q (.int ns.sum) M
theorem cd_sum (hc : X.calm = true) : CallR X (.builtin "sum") (LRC X.K F0 dSumC) := by
  refine CallR_imp (cr_sum hc) fun vs H Q ⟨xs, M, F, Qd, hF, r, hx, ⟨ns, e0, h⟩, fin⟩ => ?_
  subst e0
  obtain ⟨v, rfl, h1⟩ := hx.one
  obtain ⟨a, us, rfl, ha, hr⟩ := rep_lst.mp h1
  have e := reps_ints hr
  subst e
  exact ⟨a, ns, rfl, SqL.of (r.fr _ _ ha), fin.go h r (rep_int.mpr rfl)⟩
def dStrC : DRC := fun xs M Q => ∃ i : Int, xs = [.int i] ∧ i.natAbs.log2 < 1920 ∧ Q (.str (toString i)) M
theorem cd_strI : CallR X (.type "str") (LRC X.K F0 dStrC) := by
  refine CallR_imp call_str_int fun vs H Q ⟨xs, M, F, Qd, hF, r, hx, ⟨i, e0, hi, h⟩, fin⟩ => ?_
  subst e0
  obtain ⟨v, rfl, h1⟩ := hx.one
  cases rep_int.mp h1
  exact ⟨i, rfl, hi, fin.go h r (rep_str.mpr rfl)⟩
def dRemove : DRM := fun x xs M Q => ∃ (p : Addr) (ns : List Int) (k : Int) (j : Nat), x = .obj p ∧ xs = [.int k] ∧ M p = some (.lst (ns.map D.int)) ∧ ns[j]? = some k ∧ (∀ m : Nat, m < j → ns[m]? ≠ some k) ∧ Q .non (updM M p (.lst ((ns.eraseIdx j).map D.int)))
theorem reps_of_ints {K : PySem.W.Frag} {F : Hp} : ∀ ns : List Int, Reps K F (ns.map D.int) (ns.map V.int)
  | [] => .nil
  | n :: ns => .cons (rep_int.mpr rfl) (reps_of_ints ns)
theorem md_remove : MtR X "list.remove" (LRM X.K F0 dRemove) := by
  refine MtR_imp mt_remove fun v vs H Q ⟨x, xs, M, F, Qd, hF, r, hx, hxs, ⟨p, ns, k, j, e1, e2, hp, hj, hn, h⟩, fin⟩ => ?_
  subst e1 e2
  obtain ⟨u, rfl, hu⟩ := hxs.one
  cases rep_int.mp hu
  obtain ⟨vs, h1, h2⟩ := r.mem p _ hp
  cases rep_obj.mp hx
  have e := reps_ints h2
  subst e
  exact ⟨p, ns, k, j, rfl, rfl, h1, hj, hn, fin.go h (r.setM hp (reps_of_ints _)) (rep_non.mpr rfl)⟩
end
section
variable {X : Cx} {F0 : Hp} {te : DTE}
theorem de_fldP {Kk : PySem.W.Frag} {f : Str} {o : Expr} {pos : Pos} (ek : Kk = X.K) (he : DE X F0 o te) (hb : attributeBase o f X.env (eval o X.env) = eval o X.env) : DE X F0 (.Attribute o f pos) (dFldX Kk f te) := by
  subst ek; exact de_fldX he hb
end
/-! sorted of a tuple -/
section
variable {X : Cx} {F0 : Hp} {own : Bool}
def dSortT (A : Around) (own : Bool) : DRC := fun xs M Q => ∃ ds, xs = [.tup ds] ∧ SortOk A ds ∧ dNew own (srt ds) M Q
theorem cd_sortT : CallR X (.builtin "sorted") (LRC X.K F0 (dSortT X.A own)) := by
  intro pins s σ H vs us Q I rr hyp
  obtain ⟨xs, M, F, Qd, hF, r, hx, ⟨ds, e0, ⟨hpy, hal, hk, hz⟩, h⟩, fin⟩ := hyp
  subst e0
  obtain ⟨v, rfl, h1⟩ := hx.one
  obtain ⟨a, ws, rfl, hH, hr⟩ := rep_tup.mp h1
  obtain ⟨its, r', pl, hzz⟩ := I.tuple (sqT_up r hH)
  obtain ⟨ob, ho, hc, n, hd⟩ := pl
  have hlen0 := r'.length
  rw [Vals.ref1 rr]
  refine Calls.call_function_entry PyProof.Rows.kind_sorted PyProof.Rows.plain_sorted PyProof.Rows.entry_sorted (PyProof.Rows.args_sorted1 _) ?_
  unfold Builtin.«sorted»
  refine wpAny_bind (m := checkCount "sorted" 1 1 _) (wpAny_pure ?_)
  refine wpAny_bind (wpAny_collect_seq a (.inr rfl) ho hc hd (fun h' hkp => ?_) (by simp only [List.size_toArray] <;> omega))
  have I1 : Inv X pins σ H { s with heap := h' } := I.kept (t' := s.toks) hkp
  have hal2 : its.length ≤ sizeLine := by
    rw [← hlen0, ← hr.length]
    exact hz
  refine wpAny_bind (wpAny_newList ?_ (by rw [List.toList_toArray]; exact hal2))
  rw [List.toList_toArray]
  have hoL : (h'.push (seqObj "list" its.toArray 0)).get? h'.objs.size = some (seqObj "list" its.toArray 0) := Heap.get?_push_size _ rfl
  have I2 : Inv X pins σ H { s with heap := h'.push (seqObj "list" its.toArray 0) } := I1.kept (t' := s.toks) fun b o q => Heap.get?_push_of_some _ q
  have e := each_in (R' := fun (u : Value) (d : D) => ∃ v, RelV v u ∧ Rep X.K F d v) r' hr fun d _ u v h1 h2 => ⟨v, h1, h2⟩
  have er := each_in (R' := fun (u : Value) (d : D) => ∃ as, Reads h' u (encD d) as) r' hr fun d hd u v h1 h2 => by
    obtain ⟨y, hy⟩ := Option.isSome_iff_exists.mp (hpy d hd).1
    have ey : encD d = y := by unfold encD; rw [hy] <;> rfl
    rw [ey]
    exact Dp.reads I1 y v u (dp_of r.fr _ _ _ h2 hy) h1
  have er2 : PySem.W.EachIs (fun (u : Value) (d : D) => ∃ as, Reads (h'.push (seqObj "list" its.toArray 0)) u (encD d) as ∧ h'.objs.size ∉ as) its ds := er.mono fun u d ⟨as, q⟩ => ⟨as, PyProof.Rows.Reads.keeps (fun _ _ z => Heap.get?_push_of_some _ z) q, fun z => by
    obtain ⟨o, ho⟩ := PyProof.On.reads_mem_get q _ z
    exact absurd (Heap.lt_size ho) (Nat.lt_irrefl _)⟩
  · show wpAny _ _ _ _ _ { s with heap := h'.push (seqObj "list" its.toArray 0) }
    refine wpAny_bind (wpAny_holding (PySem.W.list_sort_data (s := { s with heap := h'.push (seqObj "list" its.toArray 0) }) hoL e er2 hal hk hz (fun b hb => by have := (hpy b hb).2; show X.A.units + 1 + 1 + _ < _; omega) fun out ho eo => ?_))
    obtain ⟨ws, w1, w2⟩ := each_out eo
    obtain ⟨c, hcc⟩ := PyProof.Rows.sortedHeap_at (vs := its) (out := out.toArray) hoL
    have hlen : ws.length ≤ sizeLine := by rw [w1.length, ho]; exact hz
    refine wpAny_pure ⟨_, rfl, .ref h'.objs.size, upd H h'.objs.size (.lst ws), I1.laid (t' := s.toks) (fun b u e => ?_) (Nat.le_refl _) ⟨hlen, out, c, w1, hcc⟩, rfl, dNew_fin r w2 h fin (I1.hok.fresh (Nat.le_refl _))⟩
    have hb : b < h'.objs.size := Heap.lt_size e
    rw [PyProof.Rows.sortedHeap_old (Nat.ne_of_lt hb) (by rw [size_push']; exact Nat.lt_succ_of_lt hb)]
    exact Heap.get?_push_of_some _ e
end
/-! enumerate of a list -/
theorem src_enumL {K : PySem.W.Frag} {F H : Hp} {ds : List D} {St : Mp → Prop} {a : Addr} (hq : ∀ F' H' M', Same F F' → R K M' F' H' → St M' → ∃ vs, SqL K H' a vs ∧ Reps K F' ds vs) : Src K F H (pairs ds) St (Ite K a) where
  go := fun i F' H' M' e r s hi => by
    obtain ⟨vs, h1, h2⟩ := hq F' H' M' e r s
    have hi' : i < vs.length := by rw [← h2.length, ← pairs_len]; exact hi
    exact ⟨vs, vs[i], h1, by simp [hi']⟩
  yld := fun i F' H' M' x H2 e r s hi ⟨T, y, ex, hT, eH, hy⟩ => by
    subst ex eH
    obtain ⟨vs, h1, h2⟩ := hq F' _ M' e r s
    obtain ⟨d, h3, h4⟩ := h2.get (hy vs h1)
    refine ⟨.tup [.int (i : Nat), d], _, pairs_get h3, same_upd (r.freeF hT), r.newF hT _, rep_tup.mpr ⟨T, [.int (i : Nat), y], rfl, SqT.of upd_same, ?_⟩⟩
    exact .cons (rep_int.mpr rfl) (.cons (h4.mono (same_upd (r.freeF hT))) .nil)
  stop := fun i F' H' M' e r s hi => by
    obtain ⟨vs, h1, h2⟩ := hq F' H' M' e r s
    exact ⟨vs, h1, by rw [← h2.length, ← pairs_len]; exact hi⟩
def dEnumL (ta : DTA) : DTI := fun σ M Kd => ta σ M fun vs M1 => match vs with
  | [.obj p] => ∃ ds, M1 p = some (.lst ds) ∧ Kd (pairs ds) (fun M' => M' p = some (.lst ds)) M1
  | [.lst ds] => Kd (pairs ds) (fun _ => True) M1
  | _ => False
section
variable {X : Cx} {F0 : Hp} {tr : DTA} {e : Expr}
theorem di_enumL {p pos tpos : Pos} {elts : List Expr} {kk : Nat} (hg : Gl X "enumerate") (hm : X.mg "enumerate" = none) (ha : DA X F0 [e] tr) (hs : starEach [e] X.env = [(false, eval e X.env)] := by rfl) :
    DI X F0 (.Tuple elts kk tpos) (.Call (.Name "enumerate" p) [e] [] pos) (dEnumL tr) :=
  PI_imp (pi_enum hg hm ha hs) fun σ H Rr ⟨σd, M, F, hF, r, hS, Kd, h, fin⟩ => ⟨σd, M, F, _, hF, r, hS, h, fun x M1 v H1 F1 q e1 r1 v1 => by
    split at q
    · obtain ⟨u, rfl, h1⟩ := v1.one
      obtain ⟨ds, hp, q⟩ := q
      obtain ⟨vs, g1, g2⟩ := r1.mem _ _ hp
      cases rep_obj.mp h1
      refine ⟨_, vs, rfl, SqL.of g1, fin _ _ _ _ _ _ q e1 r1 hp (src_enumL fun F' H' M' e' r' s' => ?_)⟩
      obtain ⟨vs', h3, h4⟩ := r'.mem _ _ s'
      exact ⟨vs', SqL.of h3, h4⟩
    · obtain ⟨u, rfl, h1⟩ := v1.one
      obtain ⟨a, vs, rfl, hq, hr⟩ := rep_lst.mp h1
      exact ⟨a, vs, rfl, SqL.of (r1.fr _ _ hq), fin _ _ _ _ _ _ q e1 r1 trivial (src_enumL fun F' H' M' e' r' s' => ⟨vs, SqL.of (r'.fr _ _ (e' _ _ hq)), hr.mono e'⟩)⟩
    · exact q.elim⟩
end
/-- comprehensions: Inv by the turn, what is made so far, M without the new list -/
theorem lcg_gen {own : Bool} {put : D → DS → Option DS} {wi : DTI} {tt : DTT} {te : DTE} {σ : DS} {M : Mp} {Q : DK} (ds : List D) (St : Mp → Prop) (hwi : ∀ Kd : List D → (Mp → Prop) → Mp → Prop, Kd ds St M → wi σ M Kd) (hz : ds.length ≤ sizeLine) (Inv : Nat → List D → Mp → Prop) (h0 : Inv 0 [] M) (hst : ∀ i acc M' a, Inv i acc M' → M' a = none → St (updM M' a (.lst acc)))
    (h : ∀ (i : Nat) d acc M' p, ds[i]? = some d → Inv i acc M' → acc.length ≤ i → M' p = none → ∃ σ2, put d σ = some σ2 ∧ ∀ K : Bool → Mp → Prop, (∀ b M3, M3 p = none → (b = true → ∀ Q' : DK, (∀ y M4, M4 p = none → Inv (i + 1) (acc ++ [y]) M4 → Q' y (updM M4 p (.lst acc))) → te σ2 (updM M3 p (.lst acc)) Q') → (b = false → Inv (i + 1) acc M3) → K b (updM M3 p (.lst acc))) → tt σ2 (updM M' p (.lst acc)) K)
    (q : ∀ acc M', acc.length ≤ ds.length → Inv ds.length acc M' → dNew own acc M' Q) : dLcG own put wi tt te σ M Q := by
  refine hwi _ fun a ha => ?_
  refine ⟨fun i M' => ∃ acc M2, M2 a = none ∧ acc.length ≤ i ∧ Inv i acc M2 ∧ M' = updM M2 a (.lst acc), ⟨[], M, ha, Nat.le_refl _, h0, rfl⟩, ⟨fun i M' ⟨acc, M2, w1, _, w2, w3⟩ _ => by rw [w3]; exact hst i acc M2 a w2 w1, fun i d M' hd w => ?_⟩, fun M' w => ?_⟩
  · obtain ⟨acc, M2, h1, hl, h2, rfl⟩ := w
    have hi : i < ds.length := (List.getElem?_eq_some_iff.mp hd).1
    obtain ⟨σ2, hp, hk⟩ := h i d acc M2 a hd h2 hl h1
    refine ⟨σ2, hp, hk _ fun b M3 h3 ht hf => ?_⟩
    refine ifB (fun hb => ht hb _ fun y M4 h4 hI => ?_) (fun hb => ?_)
    · exact ⟨acc, updM_same, by omega, acc ++ [y], M4, h4, by rw [List.length_append, List.length_singleton]; omega, hI, by rw [updM_updM]⟩
    · exact ⟨acc, M3, h3, by omega, hf hb, rfl⟩
  · obtain ⟨acc, M2, h1, hl, h2, rfl⟩ := w
    have := q acc M2 hl h2
    cases own with
    | true => exact this a h1
    | false => exact ⟨_, updM_same, by rw [remM_upd h1]; exact this⟩
/-! keys of two -/
theorem nk_of {d : D} {k : NestedKey} (h : nkD d = some k) : nkN d = k := by unfold nkN; rw [h] <;> rfl
theorem pyD_strs : ∀ p : List Str, pyDs (p.map D.str) = some (p.map PyData.str)
  | [] => rfl
  | i :: p => by
    rw [List.map_cons]
    unfold pyDs
    rw [pyD_strs p] <;> rfl
theorem nkPs_strs : ∀ p : List Str, nkPs (p.map PyData.str) = some (p.map NestedKey.text)
  | [] => rfl
  | i :: p => by
    rw [List.map_cons]
    unfold nkPs nkP
    rw [nkPs_strs p] <;> rfl
theorem depth_strs : ∀ p : List Str, NestedKey.depthAll (p.map NestedKey.text) = 0
  | [] => rfl
  | i :: p => by
    rw [List.map_cons]
    unfold NestedKey.depthAll
    rw [depth_strs p] <;> rfl
theorem pyD_pth (p : List Str) : pyD (pthD p) = some (.tuple (p.map PyData.str)) := by
  unfold pthD pyD
  rw [pyD_strs] <;> rfl
/-- two trees as a key -/
def prD (x : List Str × List Str) : D := .tup [pthD x.1, pthD x.2]
def ndD (x : Nat × List Nat) : D := .tup [.int ((x.1 : Nat) : Int), plD x.2]
def kkD (x : Nat × Nat) : D := .tup [.int ((x.1 : Nat) : Int), .int ((x.2 : Nat) : Int)]
theorem nkD_pr (x : List Str × List Str) : nkD (prD x) = some (.tup [.tup (x.1.map NestedKey.text), .tup (x.2.map NestedKey.text)]) := by
  unfold nkD
  have : pyD (prD x) = some (.tuple [.tuple (x.1.map PyData.str), .tuple (x.2.map PyData.str)]) := by
    unfold prD pyD pyDs pyDs pyDs
    rw [pyD_pth, pyD_pth] <;> rfl
  rw [this]
  show nkP _ = _
  unfold nkP nkPs nkPs nkPs nkP
  rw [nkPs_strs, nkPs_strs] <;> rfl
theorem nkD_nd (x : Nat × List Nat) : nkD (ndD x) = some (.tup [.num ((x.1 : Nat) : Int), .tup (x.2.map fun i => .num ((i : Nat) : Int))]) := by
  unfold nkD
  have : pyD (ndD x) = some (.tuple [.int ((x.1 : Nat) : Int), .tuple (x.2.map fun i => .int ((i : Nat) : Int))]) := by
    unfold ndD pyD pyDs pyDs pyDs
    rw [pyD_pl] <;> rfl
  rw [this]
  show nkP _ = _
  unfold nkP nkPs nkPs nkPs nkP
  rw [nkPs_pl] <;> rfl
theorem nkD_kk (x : Nat × Nat) : nkD (kkD x) = some (.tup [.num ((x.1 : Nat) : Int), .num ((x.2 : Nat) : Int)]) := rfl
theorem texts_inj : ∀ {a b : List Str}, a.map NestedKey.text = b.map NestedKey.text → a = b
  | [], [], _ => rfl
  | [], _ :: _, h => nomatch h
  | _ :: _, [], h => nomatch h
  | x :: a, y :: b, h => by
    rw [List.map_cons, List.map_cons] at h
    injection h with h1 h2
    injection h1 with h1
    rw [h1, texts_inj h2]
theorem nums_inj : ∀ {a b : List Nat}, (a.map fun i => NestedKey.num ((i : Nat) : Int)) = b.map (fun i => NestedKey.num ((i : Nat) : Int)) → a = b
  | [], [], _ => rfl
  | [], _ :: _, h => nomatch h
  | _ :: _, [], h => nomatch h
  | x :: a, y :: b, h => by
    rw [List.map_cons, List.map_cons] at h
    injection h with h1 h2
    injection h1 with h1
    rw [nums_inj h2, show x = y by omega]
theorem key_of {d : D} {k : NestedKey} (ht : ∃ ds, d = .tup ds) (h : nkD d = some k) (hd : k.depth ≤ 8) : KeyD d := ⟨ht, by rw [h] <;> rfl, by rw [nk_of h]; exact hd⟩
instance : KEnc prD where
  inj := fun a b h => by
    rw [nk_of (nkD_pr a), nk_of (nkD_pr b)] at h
    injection h with h
    injection h with h1 h
    injection h with h2 _
    injection h1 with h1
    injection h2 with h2
    exact Prod.ext (texts_inj h1) (texts_inj h2)
  fit := .inr fun a => key_of ⟨_, rfl⟩ (nkD_pr a) (by
    unfold NestedKey.depth NestedKey.depthAll NestedKey.depthAll NestedKey.depthAll NestedKey.depth
    rw [depth_strs, depth_strs]
    decide)
instance : KEnc ndD where
  inj := fun a b h => by
    rw [nk_of (nkD_nd a), nk_of (nkD_nd b)] at h
    injection h with h
    injection h with h1 h
    injection h with h2 _
    injection h1 with h1
    injection h2 with h2
    exact Prod.ext (by omega) (nums_inj h2)
  fit := .inr fun a => key_of ⟨_, rfl⟩ (nkD_nd a) (by
    unfold NestedKey.depth NestedKey.depthAll NestedKey.depthAll NestedKey.depthAll NestedKey.depth
    rw [depth_pl]
    decide)
instance : KEnc kkD where
  inj := fun a b h => by
    rw [nk_of (nkD_kk a), nk_of (nkD_kk b)] at h
    injection h with h
    injection h with h1 h
    injection h with h2 _
    injection h1 with h1
    injection h2 with h2
    exact Prod.ext (by omega) (by omega)
  fit := .inr fun a => key_of ⟨_, rfl⟩ (nkD_kk a) (by
    unfold NestedKey.depth NestedKey.depthAll NestedKey.depthAll NestedKey.depthAll NestedKey.depth
    decide)
def nD (n : Nat) : D := .int ((n : Nat) : Int)
instance : KEnc nD where
  inj := fun a b h => by
    have : NestedKey.num ((a : Nat) : Int) = NestedKey.num ((b : Nat) : Int) := h
    injection this with h
    omega
  fit := .inl fun a => ⟨.inl ((a : Nat) : Int), rfl⟩
end DL
/-! Trees by numbers. -/
namespace Mt
open PySem L2 DL
mutual
def tsz : Tre → Nat
  | .mk _ _ ks => 1 + tszs ks
def tszs : List Tre → Nat
  | [] => 0
  | t :: ts => tsz t + tszs ts
end
theorem tsz_mk {p r : List Str} {ks : List Tre} : tsz (.mk p r ks) = 1 + tszs ks := by unfold tsz; rfl
theorem tszs_nil : tszs [] = 0 := by unfold tszs; rfl
theorem tszs_cons {t : Tre} {ts : List Tre} : tszs (t :: ts) = tsz t + tszs ts := by conv => lhs; unfold tszs
theorem tsz_pos : ∀ t : Tre, 1 ≤ tsz t
  | .mk _ _ _ => by rw [tsz_mk]; omega
theorem tszs_app : ∀ a b : List Tre, tszs (a ++ b) = tszs a + tszs b
  | [], b => by rw [tszs_nil, List.nil_append]; omega
  | t :: a, b => by rw [List.cons_append, tszs_cons, tszs_cons, tszs_app a b]; omega
theorem tszs_perm {a b : List Tre} (h : a.Perm b) : tszs a = tszs b := by
  induction h with
  | nil => rfl
  | cons x _ ih => rw [tszs_cons, tszs_cons, ih]
  | swap x y l => rw [tszs_cons, tszs_cons, tszs_cons, tszs_cons]; omega
  | trans _ _ h1 h2 => exact h1.trans h2
theorem tszs_mem {t : Tre} : ∀ {ts : List Tre}, t ∈ ts → tsz t ≤ tszs ts
  | x :: ts, h => by
    rw [tszs_cons]
    rcases List.mem_cons.mp h with rfl | h
    · omega
    · have := tszs_mem h
      omega
theorem len_tszs : ∀ ts : List Tre, ts.length ≤ tszs ts
  | [] => Nat.zero_le _
  | t :: ts => by
    rw [tszs_cons, List.length_cons]
    have := len_tszs ts
    have := tsz_pos t
    omega
theorem f2_sz {r : Tre → Tre → Prop} : ∀ {xs ys : List Tre}, F2 r xs ys → (∀ x ∈ xs, ∀ y, r x y → tsz x ≤ tsz y) → tszs xs ≤ tszs ys
  | _, _, .nil, _ => Nat.le_refl _
  | _, _, .cons h t, hr => by
    rw [tszs_cons, tszs_cons]
    have := hr _ (List.mem_cons_self ..) _ h
    have := f2_sz t fun x hx => hr x (List.mem_cons_of_mem _ hx)
    omega
theorem lies_size : ∀ {s t : Tre}, Lies s t → tsz s ≤ tsz t
  | .mk p r ks, .mk p' r' ks', h => by
    obtain ⟨_, _, zs, rest, hp, hf⟩ := lies_iff.mp h
    rw [tsz_mk, tsz_mk, tszs_perm hp, tszs_app]
    have := f2_sz hf fun x hx y => lies_size (s := x)
    omega
termination_by s => sizeOf s
decreasing_by
  have := List.sizeOf_lt_of_mem hx
  simp
  omega
theorem f2_same {r : Tre → Tre → Prop} : ∀ {xs ys : List Tre}, F2 r xs ys → (∀ x ∈ xs, ∀ y, r x y → tsz x ≤ tsz y) → tszs ys ≤ tszs xs → F2 (fun x y => r x y ∧ tsz y ≤ tsz x) xs ys
  | _, _, .nil, _, _ => .nil
  | _, _, .cons h t, hr, hz => by
    rw [tszs_cons, tszs_cons] at hz
    have h1 := hr _ (List.mem_cons_self ..) _ h
    have h2 := f2_sz t fun x hx => hr x (List.mem_cons_of_mem _ hx)
    exact .cons ⟨h, by omega⟩ (f2_same t (fun x hx => hr x (List.mem_cons_of_mem _ hx)) (by omega))
/-- the numbered trees -/
structure NS where
  told : List (List Str × List Str)
  nodes : List (Nat × List Nat)
  trs : List Tre
def NS.tr (N : NS) (i : Nat) : Tre := N.trs.getD i (.mk [] [] [])
theorem NS.tr_at {N : NS} {i : Nat} (h : i < N.trs.length) : N.trs[i]? = some (N.tr i) := by
  unfold NS.tr
  rw [List.getD_eq_getElem?_getD, List.getElem?_eq_getElem h] <;> rfl
theorem NS.tr_of {N : NS} {i : Nat} {t : Tre} (h : N.trs[i]? = some t) : N.tr i = t := by
  unfold NS.tr
  rw [List.getD_eq_getElem?_getD, h] <;> rfl
structure NS.Good (N : NS) : Prop where
  tn : N.told.Nodup
  nn : N.nodes.Nodup
  ln : N.trs.length = N.nodes.length
  nd : ∀ (i m : Nat) (is : List Nat), N.nodes[i]? = some (m, is) → ∃ pr, N.told[m]? = some pr ∧ N.tr i = .mk pr.1 pr.2 (is.map N.tr) ∧ (∀ j ∈ is, j < i) ∧ is.Pairwise (· ≤ ·)
  bd : ∀ k, k < N.trs.length → tsz (N.tr k) ≤ 1000
def NS.nil : NS := ⟨[], [], []⟩
theorem NS.Good.nil : NS.nil.Good := ⟨List.nodup_nil, List.nodup_nil, rfl, (fun i m is h => by simp [NS.nil] at h), fun k h => by simp [NS.nil] at h⟩
/-- one grows to the other -/
structure NS.Ext (N N' : NS) : Prop where
  t : N.told <+: N'.told
  n : N.nodes <+: N'.nodes
  r : N.trs <+: N'.trs
theorem NS.Ext.refl {N : NS} : N.Ext N := ⟨List.prefix_refl _, List.prefix_refl _, List.prefix_refl _⟩
theorem NS.Ext.trans {A B C : NS} (h : A.Ext B) (g : B.Ext C) : A.Ext C := ⟨h.t.trans g.t, h.n.trans g.n, h.r.trans g.r⟩
theorem pre_get {α : Type} {l m : List α} (h : l <+: m) {i : Nat} {x : α} (e : l[i]? = some x) : m[i]? = some x := by
  obtain ⟨t, rfl⟩ := h
  rw [List.getElem?_append_left (List.getElem?_eq_some_iff.mp e).1]
  exact e
theorem NS.Ext.tr {N N' : NS} (h : N.Ext N') {i : Nat} (hi : i < N.trs.length) : N'.tr i = N.tr i := NS.tr_of (pre_get h.r (NS.tr_at hi))
theorem NS.Ext.len {N N' : NS} (h : N.Ext N') : N.trs.length ≤ N'.trs.length := h.r.length_le
def NS.tell (N : NS) (pr : List Str × List Str) : NS := ⟨N.told ++ [pr], N.nodes, N.trs⟩
def NS.put (N : NS) (m : Nat) (is : List Nat) (t : Tre) : NS := ⟨N.told, N.nodes ++ [(m, is)], N.trs ++ [t]⟩
theorem nodup_snoc {α : Type} {l : List α} {x : α} (h : l.Nodup) (hx : x ∉ l) : (l ++ [x]).Nodup := by
  rw [List.nodup_append]
  refine ⟨h, by simp, fun a ha b hb e => ?_⟩
  rw [List.mem_singleton] at hb
  exact hx (by rw [← hb, ← e]; exact ha)
theorem NS.Good.tell {N : NS} (h : N.Good) {pr : List Str × List Str} (hp : pr ∉ N.told) : (N.tell pr).Good ∧ N.Ext (N.tell pr) := by
  refine ⟨⟨nodup_snoc h.tn hp, h.nn, h.ln, fun i m is hi => ?_, h.bd⟩, List.prefix_append _ _, List.prefix_refl _, List.prefix_refl _⟩
  obtain ⟨q, h1, h2⟩ := h.nd i m is hi
  exact ⟨q, get_snoc h1, h2⟩
theorem NS.Good.put {N : NS} (h : N.Good) {m : Nat} {is : List Nat} {pr : List Str × List Str} (hm : N.told[m]? = some pr) (hi : ∀ j ∈ is, j < N.trs.length) (hs : is.Pairwise (· ≤ ·)) (hn : (m, is) ∉ N.nodes) (hb : 1 + tszs (is.map N.tr) ≤ 1000) : (N.put m is (.mk pr.1 pr.2 (is.map N.tr))).Good ∧ N.Ext (N.put m is (.mk pr.1 pr.2 (is.map N.tr))) ∧ (N.put m is (.mk pr.1 pr.2 (is.map N.tr))).tr N.trs.length = .mk pr.1 pr.2 (is.map N.tr) := by
  have ex : N.Ext (N.put m is (.mk pr.1 pr.2 (is.map N.tr))) := ⟨List.prefix_refl _, List.prefix_append _ _, List.prefix_append _ _⟩
  have last : (N.put m is (.mk pr.1 pr.2 (is.map N.tr))).tr N.trs.length = .mk pr.1 pr.2 (is.map N.tr) := NS.tr_of (by unfold NS.put; exact List.getElem?_concat_length)
  refine ⟨⟨h.tn, nodup_snoc h.nn hn, by unfold NS.put; rw [List.length_append, List.length_append, h.ln] <;> rfl, fun i m' is' hi' => ?_, fun k hk => ?_⟩, ex, last⟩
  rotate_left
  · by_cases e : k < N.trs.length
    · rw [ex.tr e]
      exact h.bd k e
    · have e2 : k = N.trs.length := by
        unfold NS.put at hk
        rw [List.length_append, List.length_singleton] at hk
        omega
      rw [e2, last, tsz_mk]
      exact hb
  have mapeq : ∀ js : List Nat, (∀ j ∈ js, j < N.trs.length) → js.map (N.put m is (.mk pr.1 pr.2 (is.map N.tr))).tr = js.map N.tr := fun js hj => List.map_congr_left fun j hjm => ex.tr (hj j hjm)
  rcases snoc_get hi' with hi' | ⟨rfl, e⟩
  · obtain ⟨q, h1, h2, h3, h4⟩ := h.nd i m' is' hi'
    have hil : i < N.trs.length := by rw [h.ln]; exact (List.getElem?_eq_some_iff.mp hi').1
    refine ⟨q, h1, ?_, h3, h4⟩
    rw [ex.tr hil, h2, mapeq is' fun j hj => by have := h3 j hj; omega]
  · cases e
    refine ⟨pr, hm, ?_, fun j hj => by rw [← h.ln]; exact hi j hj, hs⟩
    rw [← h.ln, last, mapeq _ hi]
/-- alike but for the order beneath: one number -/
theorem NS.Good.uniq {N : NS} (h : N.Good) : ∀ {i j : Nat}, i < N.trs.length → j < N.trs.length → Lies (N.tr i) (N.tr j) → tsz (N.tr j) ≤ tsz (N.tr i) → i = j := by
  intro i
  induction i using Nat.strongRecOn with
  | ind i ih =>
    intro j hi hj hl hz
    obtain ⟨⟨m, is⟩, hni⟩ : ∃ x, N.nodes[i]? = some x := ⟨_, List.getElem?_eq_getElem (by rw [← h.ln]; exact hi)⟩
    obtain ⟨⟨m', js⟩, hnj⟩ : ∃ x, N.nodes[j]? = some x := ⟨_, List.getElem?_eq_getElem (by rw [← h.ln]; exact hj)⟩
    obtain ⟨q, a1, a2, a3, a4⟩ := h.nd i m is hni
    obtain ⟨q', b1, b2, b3, b4⟩ := h.nd j m' js hnj
    rw [a2, b2] at hl hz
    obtain ⟨e1, e2, zs, rest, hp, hf⟩ := lies_iff.mp hl
    have eq : q = q' := Prod.ext e1 e2
    subst eq
    have em : m = m' := (List.getElem?_inj (List.getElem?_eq_some_iff.mp a1).1 h.tn).mp (a1.trans b1.symm)
    subst em
    rw [tsz_mk, tsz_mk] at hz
    have hsum := tszs_perm hp
    rw [tszs_app] at hsum
    have hle := f2_sz hf fun x _ y => lies_size (s := x)
    have hr0 : rest = [] := by
      cases rest with
      | nil => rfl
      | cons x rest =>
        rw [tszs_cons] at hsum
        have := tsz_pos x
        omega
    subst hr0
    rw [tszs_nil] at hsum
    rw [List.append_nil] at hp
    have hf2 := f2_same hf (fun x _ y => lies_size (s := x)) (by omega)
    -- the numbers behind zs
    have f0 : F2 (fun (x : Tre) (k : Nat) => N.tr k = x) (js.map N.tr) js := F2.of (List.length_map ..) fun k x y hx hy => by
      rw [List.getElem?_map, hy] at hx
      cases hx
      rfl
    obtain ⟨js', hp', f1⟩ := f0.perm hp
    have e3 : is = js' := by
      apply List.ext_getElem?
      intro k
      by_cases hk : k < is.length
      · have hlen : zs.length = is.length := by rw [← hf2.len, List.length_map]
        have hlen' : zs.length = js'.length := f1.len
        have g1 := List.getElem?_eq_getElem hk
        have g2 := List.getElem?_eq_getElem (show k < zs.length by omega)
        have g3 := List.getElem?_eq_getElem (show k < js'.length by omega)
        obtain ⟨c1, c2⟩ := hf2.get k (N.tr is[k]) _ (by rw [List.getElem?_map, g1] <;> rfl) g2
        have c3 := f1.get k _ _ g2 g3
        rw [← c3] at c1 c2
        rw [g1, g3]
        have hmi : is[k] < i := a3 _ (List.getElem_mem hk)
        have hmj : js'[k]'(by omega) < j := b3 _ (hp'.mem_iff.mpr (List.getElem_mem _))
        exact congrArg some (ih _ hmi (by omega) (by omega) c1 c2)
      · have hlen : zs.length = is.length := by rw [← hf2.len, List.length_map]
        have hlen' : zs.length = js'.length := f1.len
        rw [List.getElem?_eq_none (by omega), List.getElem?_eq_none (by omega)]
    subst e3
    have e4 : is = js := hp'.symm.eq_of_pairwise (fun a b _ _ h1 h2 => Nat.le_antisymm h1 h2) a4 b4
    subst e4
    exact (List.getElem?_inj (List.getElem?_eq_some_iff.mp hni).1 h.nn).mp (hni.trans hnj.symm)
/-- alike but for the order beneath -/
def Equ (s t : Tre) : Prop := Lies s t ∧ Lies t s
theorem equ_mk {p r : List Str} {ks : List Tre} {N : NS} {is js : List Nat} (hf : F2 (fun k i => Equ k (N.tr i)) ks is) (hp : js.Perm is) : Equ (.mk p r ks) (.mk p r (js.map N.tr)) := by
  have hm : (js.map N.tr).Perm (is.map N.tr) := hp.map _
  refine ⟨lies_iff.mpr ⟨rfl, rfl, is.map N.tr, [], by rw [List.append_nil]; exact hm, F2.of (by rw [List.length_map]; exact hf.len) fun i x y hx hy => ?_⟩, lies_iff.mpr ⟨rfl, rfl, Emb.perm hm.symm (.refl _) ⟨ks, [], by rw [List.append_nil], F2.of (by rw [List.length_map]; exact hf.len.symm) fun i x y hx hy => ?_⟩⟩⟩
  · rw [List.getElem?_map] at hy
    obtain ⟨z, hz, rfl⟩ := Option.map_eq_some_iff.mp hy
    exact (hf.get i x z hx hz).1
  · rw [List.getElem?_map] at hx
    obtain ⟨z, hz, rfl⟩ := Option.map_eq_some_iff.mp hx
    exact (hf.get i y z hy hz).2
/-- numbers of trees -/
def NS.Is (N : NS) (k : Tre) (i : Nat) : Prop := i < N.trs.length ∧ Equ k (N.tr i)
theorem NS.Is.ext {N N' : NS} (h : N.Ext N') {k : Tre} {i : Nat} (hi : N.Is k i) : N'.Is k i := ⟨Nat.lt_of_lt_of_le hi.1 h.len, by rw [h.tr hi.1]; exact hi.2⟩
theorem F2.mono {α β : Type} {r r' : α → β → Prop} (hr : ∀ x y, r x y → r' x y) : ∀ {xs : List α} {ys : List β}, F2 r xs ys → F2 r' xs ys
  | _, _, .nil => .nil
  | _, _, .cons h t => .cons (hr _ _ h) (F2.mono hr t)
theorem F2.snoc {α β : Type} {r : α → β → Prop} {xs : List α} {ys : List β} {x : α} {y : β} (h : F2 r xs ys) (hx : r x y) : F2 r (xs ++ [x]) (ys ++ [y]) := h.app (.cons hx .nil)
theorem equ_lies {s s' t t' : Tre} (h : Equ s s') (g : Equ t t') : Lies s t ↔ Lies s' t' := ⟨fun k => lies_trans h.2 (lies_trans k g.1), fun k => lies_trans h.1 (lies_trans k g.2)⟩
theorem equ_size {s t : Tre} (h : Equ s t) : tsz s = tsz t := Nat.le_antisymm (lies_size h.1) (lies_size h.2)
theorem is_size {N : NS} : ∀ {ks : List Tre} {is : List Nat}, F2 N.Is ks is → tszs (is.map N.tr) = tszs ks
  | _, _, .nil => rfl
  | _, _, .cons h t => by rw [List.map_cons, tszs_cons, tszs_cons, is_size t, equ_size h.2]
theorem dpTs_le {n : Nat} : ∀ {ts : List Tre}, (∀ t ∈ ts, dpT t ≤ n) → dpTs ts ≤ n
  | [], _ => by unfold dpTs; omega
  | t :: ts, h => by
    unfold dpTs
    have := h t (List.mem_cons_self ..)
    have := dpTs_le fun x hx => h x (List.mem_cons_of_mem _ hx)
    omega
theorem dpT_mk {p r : List Str} {ks : List Tre} : dpT (.mk p r ks) = 1 + dpTs ks := by unfold dpT; rfl
theorem lies_depth : ∀ {s t : Tre}, Lies s t → dpT s ≤ dpT t
  | .mk p r ks, .mk p' r' ks', h => by
    obtain ⟨_, _, zs, rest, hp, hf⟩ := lies_iff.mp h
    rw [dpT_mk, dpT_mk]
    have : dpTs ks ≤ dpTs ks' := dpTs_le fun x hx => by
      obtain ⟨i, hi⟩ := List.getElem?_of_mem hx
      obtain ⟨z, hz⟩ : ∃ z, zs[i]? = some z := ⟨_, List.getElem?_eq_getElem (by have := (List.getElem?_eq_some_iff.mp hi).1; have := hf.len; omega)⟩
      have h1 := lies_depth (s := x) (hf.get i x z hi hz)
      have h2 := dpTs_mem (hp.mem_iff.mpr (List.mem_append_left rest (List.mem_of_getElem? hz)))
      omega
    omega
termination_by s => sizeOf s
decreasing_by
  have := List.sizeOf_lt_of_mem hx
  simp
  omega
end Mt
/-! The numbered trees in the store. -/
namespace Mt
open PySem PySem.Spec L2 DL
structure NF (K : PySem.W.Frag) (C : Addr) : Prop where
  cls : Cls K C
  marks : NoAttr K C "marks"
  told : NoAttr K C "told"
  numbers : NoAttr K C "numbers"
  mark_of : NoAttr K C "mark_of"
  inner : NoAttr K C "inner"
  sizes : NoAttr K C "sizes"
  known : NoAttr K C "known"
structure NB where
  s : Addr
  k : Addr
  t : Addr
  n : Addr
  m : Addr
  i : Addr
  z : Addr
  w : Addr
def NB.all (b : NB) : List Addr := [b.s, b.k, b.t, b.n, b.m, b.i, b.z, b.w]
def NB.fs (b : NB) : List (Str × D) := [("marks", .obj b.k), ("told", .obj b.t), ("numbers", .obj b.n), ("mark_of", .obj b.m), ("inner", .obj b.i), ("sizes", .obj b.z), ("known", .obj b.w)]
/-- what stands in the seven -/
structure Seven where
  k : List ((List Str × List Str) × Nat)
  t : List (List Str × List Str)
  n : List ((Nat × List Nat) × Nat)
  m : List Nat
  i : List (List Nat)
  z : List Nat
  w : List ((Nat × Nat) × Bool)
structure NestR (pw : Wd) (C : Addr) (b : NB) (B : Mp) (S : Seven) (M : Mp) : Prop where
  at_ : M b.s = some (.ins C b.fs)
  k : M b.k = some (.dic pw (tdc prD nD S.k))
  t : M b.t = some (.lst (S.t.map prD))
  n : M b.n = some (.dic pw (tdc ndD nD S.n))
  m : M b.m = some (.lst (S.m.map nD))
  i : M b.i = some (.lst (S.i.map plD))
  z : M b.z = some (.lst (S.z.map nD))
  w : M b.w = some (.dic pw (tdc kkD D.bl S.w))
  ne : b.all.Nodup
  fr : ∀ a ∈ b.all, B a = none
  kp : ∀ q o, B q = some o → M q = some o
theorem ne_at {l : List Addr} (h : l.Nodup) {a b : Addr} (i j : Nat) (hi : l[i]? = some a) (hj : l[j]? = some b) (hij : i ≠ j) : a ≠ b := fun e => by
  subst e
  exact hij ((List.getElem?_inj (List.getElem?_eq_some_iff.mp hi).1 h).mp (hi.trans hj.symm))
section
variable {pw : Wd} {C : Addr} {b : NB} {B M : Mp} {S : Seven}
theorem NestR.kpU (h : NestR pw C b B S M) {a : Addr} (ha : a ∈ b.all) (x : MO) : ∀ q o, B q = some o → updM M a x q = some o := fun q o hq => by
  rw [updM_ne (fun e => by rw [e, h.fr a ha] at hq; cases hq)]
  exact h.kp q o hq
theorem NestR.setK (h : NestR pw C b B S M) (l) : NestR pw C b B { S with k := l } (updM M b.k (.dic pw (tdc prD nD l))) :=
  ⟨by rw [updM_ne (ne_at h.ne 0 1 rfl rfl (by decide))]; exact h.at_, updM_same, by rw [updM_ne (ne_at h.ne 2 1 rfl rfl (by decide))]; exact h.t, by rw [updM_ne (ne_at h.ne 3 1 rfl rfl (by decide))]; exact h.n, by rw [updM_ne (ne_at h.ne 4 1 rfl rfl (by decide))]; exact h.m, by rw [updM_ne (ne_at h.ne 5 1 rfl rfl (by decide))]; exact h.i, by rw [updM_ne (ne_at h.ne 6 1 rfl rfl (by decide))]; exact h.z, by rw [updM_ne (ne_at h.ne 7 1 rfl rfl (by decide))]; exact h.w, h.ne, h.fr, h.kpU (by simp [NB.all]) _⟩
theorem NestR.setT (h : NestR pw C b B S M) (l : List (List Str × List Str)) : NestR pw C b B { S with t := l } (updM M b.t (.lst (l.map prD))) :=
  ⟨by rw [updM_ne (ne_at h.ne 0 2 rfl rfl (by decide))]; exact h.at_, by rw [updM_ne (ne_at h.ne 1 2 rfl rfl (by decide))]; exact h.k, updM_same, by rw [updM_ne (ne_at h.ne 3 2 rfl rfl (by decide))]; exact h.n, by rw [updM_ne (ne_at h.ne 4 2 rfl rfl (by decide))]; exact h.m, by rw [updM_ne (ne_at h.ne 5 2 rfl rfl (by decide))]; exact h.i, by rw [updM_ne (ne_at h.ne 6 2 rfl rfl (by decide))]; exact h.z, by rw [updM_ne (ne_at h.ne 7 2 rfl rfl (by decide))]; exact h.w, h.ne, h.fr, h.kpU (by simp [NB.all]) _⟩
theorem NestR.setN (h : NestR pw C b B S M) (l) : NestR pw C b B { S with n := l } (updM M b.n (.dic pw (tdc ndD nD l))) :=
  ⟨by rw [updM_ne (ne_at h.ne 0 3 rfl rfl (by decide))]; exact h.at_, by rw [updM_ne (ne_at h.ne 1 3 rfl rfl (by decide))]; exact h.k, by rw [updM_ne (ne_at h.ne 2 3 rfl rfl (by decide))]; exact h.t, updM_same, by rw [updM_ne (ne_at h.ne 4 3 rfl rfl (by decide))]; exact h.m, by rw [updM_ne (ne_at h.ne 5 3 rfl rfl (by decide))]; exact h.i, by rw [updM_ne (ne_at h.ne 6 3 rfl rfl (by decide))]; exact h.z, by rw [updM_ne (ne_at h.ne 7 3 rfl rfl (by decide))]; exact h.w, h.ne, h.fr, h.kpU (by simp [NB.all]) _⟩
theorem NestR.setM (h : NestR pw C b B S M) (l : List Nat) : NestR pw C b B { S with m := l } (updM M b.m (.lst (l.map nD))) :=
  ⟨by rw [updM_ne (ne_at h.ne 0 4 rfl rfl (by decide))]; exact h.at_, by rw [updM_ne (ne_at h.ne 1 4 rfl rfl (by decide))]; exact h.k, by rw [updM_ne (ne_at h.ne 2 4 rfl rfl (by decide))]; exact h.t, by rw [updM_ne (ne_at h.ne 3 4 rfl rfl (by decide))]; exact h.n, updM_same, by rw [updM_ne (ne_at h.ne 5 4 rfl rfl (by decide))]; exact h.i, by rw [updM_ne (ne_at h.ne 6 4 rfl rfl (by decide))]; exact h.z, by rw [updM_ne (ne_at h.ne 7 4 rfl rfl (by decide))]; exact h.w, h.ne, h.fr, h.kpU (by simp [NB.all]) _⟩
theorem NestR.setI (h : NestR pw C b B S M) (l : List (List Nat)) : NestR pw C b B { S with i := l } (updM M b.i (.lst (l.map plD))) :=
  ⟨by rw [updM_ne (ne_at h.ne 0 5 rfl rfl (by decide))]; exact h.at_, by rw [updM_ne (ne_at h.ne 1 5 rfl rfl (by decide))]; exact h.k, by rw [updM_ne (ne_at h.ne 2 5 rfl rfl (by decide))]; exact h.t, by rw [updM_ne (ne_at h.ne 3 5 rfl rfl (by decide))]; exact h.n, by rw [updM_ne (ne_at h.ne 4 5 rfl rfl (by decide))]; exact h.m, updM_same, by rw [updM_ne (ne_at h.ne 6 5 rfl rfl (by decide))]; exact h.z, by rw [updM_ne (ne_at h.ne 7 5 rfl rfl (by decide))]; exact h.w, h.ne, h.fr, h.kpU (by simp [NB.all]) _⟩
theorem NestR.setZ (h : NestR pw C b B S M) (l : List Nat) : NestR pw C b B { S with z := l } (updM M b.z (.lst (l.map nD))) :=
  ⟨by rw [updM_ne (ne_at h.ne 0 6 rfl rfl (by decide))]; exact h.at_, by rw [updM_ne (ne_at h.ne 1 6 rfl rfl (by decide))]; exact h.k, by rw [updM_ne (ne_at h.ne 2 6 rfl rfl (by decide))]; exact h.t, by rw [updM_ne (ne_at h.ne 3 6 rfl rfl (by decide))]; exact h.n, by rw [updM_ne (ne_at h.ne 4 6 rfl rfl (by decide))]; exact h.m, by rw [updM_ne (ne_at h.ne 5 6 rfl rfl (by decide))]; exact h.i, updM_same, by rw [updM_ne (ne_at h.ne 7 6 rfl rfl (by decide))]; exact h.w, h.ne, h.fr, h.kpU (by simp [NB.all]) _⟩
theorem NestR.setW (h : NestR pw C b B S M) (l) : NestR pw C b B { S with w := l } (updM M b.w (.dic pw (tdc kkD D.bl l))) :=
  ⟨by rw [updM_ne (ne_at h.ne 0 7 rfl rfl (by decide))]; exact h.at_, by rw [updM_ne (ne_at h.ne 1 7 rfl rfl (by decide))]; exact h.k, by rw [updM_ne (ne_at h.ne 2 7 rfl rfl (by decide))]; exact h.t, by rw [updM_ne (ne_at h.ne 3 7 rfl rfl (by decide))]; exact h.n, by rw [updM_ne (ne_at h.ne 4 7 rfl rfl (by decide))]; exact h.m, by rw [updM_ne (ne_at h.ne 5 7 rfl rfl (by decide))]; exact h.i, by rw [updM_ne (ne_at h.ne 6 7 rfl rfl (by decide))]; exact h.z, updM_same, h.ne, h.fr, h.kpU (by simp [NB.all]) _⟩
/-- each of the eight stands somewhere -/
theorem NestR.some_at (h : NestR pw C b B S M) {a : Addr} (ha : a ∈ b.all) : ∃ o, M a = some o := by
  simp only [NB.all, List.mem_cons, List.not_mem_nil, or_false] at ha
  rcases ha with rfl | rfl | rfl | rfl | rfl | rfl | rfl | rfl
  · exact ⟨_, h.at_⟩
  · exact ⟨_, h.k⟩
  · exact ⟨_, h.t⟩
  · exact ⟨_, h.n⟩
  · exact ⟨_, h.m⟩
  · exact ⟨_, h.i⟩
  · exact ⟨_, h.z⟩
  · exact ⟨_, h.w⟩
/-- the same eight in another store -/
theorem NestR.to (h : NestR pw C b B S M) {B' M' : Mp} (e : ∀ a ∈ b.all, M' a = M a) (fr : ∀ a ∈ b.all, B' a = none) (kp : ∀ q o, B' q = some o → M' q = some o) : NestR pw C b B' S M' :=
  ⟨by rw [e _ (by simp [NB.all])]; exact h.at_, by rw [e _ (by simp [NB.all])]; exact h.k, by rw [e _ (by simp [NB.all])]; exact h.t, by rw [e _ (by simp [NB.all])]; exact h.n, by rw [e _ (by simp [NB.all])]; exact h.m, by rw [e _ (by simp [NB.all])]; exact h.i, by rw [e _ (by simp [NB.all])]; exact h.z, by rw [e _ (by simp [NB.all])]; exact h.w, h.ne, fr, kp⟩
/-- a thing more stands beside -/
theorem NestR.push (h : NestR pw C b B S M) {p : Addr} (hp : M p = none) (x : MO) : NestR pw C b (updM B p x) S (updM M p x) := by
  have hne : ∀ a ∈ b.all, a ≠ p := fun a ha e => by
    obtain ⟨o, ho⟩ := h.some_at ha
    rw [e, hp] at ho
    cases ho
  refine h.to (fun a ha => updM_ne (hne a ha)) (fun a ha => by rw [updM_ne (hne a ha)]; exact h.fr a ha) fun q o hq => ?_
  by_cases e : q = p
  · subst e
    rw [updM_same] at hq ⊢
    exact hq
  · rw [updM_ne e] at hq ⊢
    exact h.kp q o hq
theorem NestR.pop {p : Addr} {x : MO} (h : NestR pw C b (updM B p x) S M) (hp : B p = none) : NestR pw C b B S (remM M p) ∧ remM M p p = none ∧ M = updM (remM M p) p x := by
  have hne : ∀ a ∈ b.all, a ≠ p := fun a ha e => by
    have := h.fr a ha
    rw [e, updM_same] at this
    cases this
  have hr : ∀ q, q ≠ p → remM M p q = M q := fun q hq => by
    unfold remM
    rw [if_neg hq]
  have hs : remM M p p = none := by
    unfold remM
    rw [if_pos rfl]
  refine ⟨h.to (fun a ha => hr a (hne a ha)) (fun a ha => by have := h.fr a ha; rw [updM_ne (hne a ha)] at this; exact this) fun q o hq => ?_, hs, ?_⟩
  · have e : q ≠ p := fun e => by rw [e, hp] at hq; cases hq
    rw [hr q e]
    exact h.kp q o (by rw [updM_ne e]; exact hq)
  · funext q
    by_cases e : q = p
    · subst e
      rw [updM_same]
      exact h.kp q x updM_same
    · rw [updM_ne e, hr q e]
theorem NestR.base (h : NestR pw C b B S M) {p : Addr} (hp : M p = none) : B p = none := by
  cases e : B p with
  | none => rfl
  | some x => rw [h.kp p x e] at hp; cases hp
end
/-- .. with the trees -/
def NS.sev (N : NS) (kn : List ((Nat × Nat) × Bool)) : Seven := ⟨N.told.zipIdx, N.told, N.nodes.zipIdx, N.nodes.map (·.1), N.nodes.map (·.2), N.trs.map tsz, kn⟩
abbrev NestAt (pw : Wd) (C : Addr) (b : NB) (B : Mp) (N : NS) (kn : List ((Nat × Nat) × Bool)) (M : Mp) : Prop := NestR pw C b B (N.sev kn) M
/-- what is known is right -/
structure KnOk (N : NS) (kn : List ((Nat × Nat) × Bool)) : Prop where
  nd : (kn.map (·.1)).Nodup
  ok : ∀ x ∈ kn, x.1.1 < N.trs.length ∧ x.1.2 < N.trs.length ∧ (x.2 = true ↔ Lies (N.tr x.1.1) (N.tr x.1.2))
theorem KnOk.nil {N : NS} : KnOk N [] := ⟨List.nodup_nil, fun x h => nomatch h⟩
theorem KnOk.len {N : NS} {kn : List ((Nat × Nat) × Bool)} (h : KnOk N kn) : kn.length ≤ N.trs.length * N.trs.length := by
  have h1 : (kn.map fun x => x.1.1 * N.trs.length + x.1.2).Nodup := by
    have := h.nd
    rw [List.nodup_iff_pairwise_ne, List.pairwise_map] at this ⊢
    refine List.Pairwise.imp_of_mem ?_ this
    intro a b ha hb hab e
    obtain ⟨a1, a2, _⟩ := h.ok a ha
    obtain ⟨b1, b2, _⟩ := h.ok b hb
    have hpos : 0 < N.trs.length := by omega
    have e2 : a.1.2 = b.1.2 := by
      have h3 := congrArg (· % N.trs.length) e
      simp only [Nat.mul_add_mod_self_right] at h3
      rwa [Nat.mod_eq_of_lt a2, Nat.mod_eq_of_lt b2] at h3
    have e1 : a.1.1 = b.1.1 := by
      rw [e2] at e
      exact Nat.eq_of_mul_eq_mul_right hpos (by omega)
    exact hab (Prod.ext e1 e2)
  have := Mi.nodup_len (m := List.range (N.trs.length * N.trs.length)) h1 fun y hy => by
    obtain ⟨x, hx, rfl⟩ := List.mem_map.mp hy
    obtain ⟨a1, a2, _⟩ := h.ok x hx
    refine List.mem_range.mpr ?_
    have : (x.1.1 + 1) * N.trs.length ≤ N.trs.length * N.trs.length := Nat.mul_le_mul_right _ a1
    rw [Nat.add_mul] at this
    omega
  rw [List.length_map, List.length_range] at this
  exact this
theorem zipIdx_get {α : Type} [DecidableEq α] : ∀ (l : List α) (k : Nat), l.Nodup → ∀ (i : Nat) (x : α), l[i]? = some x → tget (l.zipIdx k) x = some (k + i)
  | y :: l, k, h, 0, x, e => by
    cases e
    rw [List.zipIdx_cons, tget_cons, if_pos rfl] <;> rfl
  | y :: l, k, h, i + 1, x, e => by
    have e : l[i]? = some x := e
    have hne : y ≠ x := fun z => (List.nodup_cons.mp h).1 (z ▸ List.mem_of_getElem? e)
    rw [List.zipIdx_cons, tget_cons, if_neg hne, zipIdx_get l (k + 1) (List.nodup_cons.mp h).2 i x e]
    congr 1
    omega
theorem zipIdx_none {α : Type} [DecidableEq α] {l : List α} {k : Nat} {x : α} (h : x ∉ l) : tget (l.zipIdx k) x = none := by
  rw [tget_none]
  intro hm
  obtain ⟨y, hy, rfl⟩ := List.mem_map.mp hm
  obtain ⟨i, hi⟩ := List.getElem?_of_mem hy
  rw [List.getElem?_zipIdx] at hi
  obtain ⟨z, hz, e⟩ := Option.map_eq_some_iff.mp hi
  subst e
  exact h (List.mem_of_getElem? hz)
theorem zipIdx_snoc {α : Type} {l : List α} {x : α} : (l ++ [x]).zipIdx = l.zipIdx ++ [(x, l.length)] := by
  rw [List.zipIdx_append] <;> simp
/-- an instance that is being made -/
structure InitAt (C sf : Addr) (B : Mp) (fs : List (Str × D)) (L : List (Addr × MO)) (M : Mp) : Prop where
  at_ : M sf = some (.ins C fs)
  all : ∀ x ∈ L, M x.1 = some x.2
  nd : (sf :: L.map (·.1)).Nodup
  fr : ∀ a ∈ sf :: L.map (·.1), B a = none
  kp : ∀ q o, B q = some o → M q = some o
theorem InitAt.add {C sf : Addr} {B M : Mp} {fs : List (Str × D)} {L : List (Addr × MO)} (h : InitAt C sf B fs L M) {p : Addr} (hp : M p = none) {o : MO} {fs' : List (Str × D)} : InitAt C sf B fs' (L ++ [(p, o)]) (updM (updM M p o) sf (.ins C fs')) := by
  have n1 : sf ≠ p := neM h.at_ hp
  have bp : B p = none := by
    cases e : B p with
    | none => rfl
    | some x => rw [h.kp p x e] at hp; cases hp
  have nsL : ∀ x ∈ L, x.1 ≠ sf := fun x hx e => (List.nodup_cons.mp h.nd).1 (e ▸ List.mem_map_of_mem hx)
  have npL : ∀ x ∈ L, x.1 ≠ p := fun x hx => neM (h.all x hx) hp
  refine ⟨updM_same, fun x hx => ?_, ?_, fun a ha => ?_, fun q u hq => ?_⟩
  · rcases List.mem_append.mp hx with hx | hx
    · rw [updM_ne (nsL x hx), updM_ne (npL x hx)]
      exact h.all x hx
    · rw [List.mem_singleton.mp hx, updM_ne n1.symm, updM_same]
  · rw [List.map_append, ← List.cons_append]
    refine nodup_snoc h.nd fun hm => ?_
    rcases List.mem_cons.mp hm with e | hm
    · exact n1 e.symm
    · obtain ⟨x, hx, e⟩ := List.mem_map.mp hm
      exact npL x hx e
  · rw [List.map_append, ← List.cons_append] at ha
    rcases List.mem_append.mp ha with ha | ha
    · exact h.fr a ha
    · rw [List.mem_singleton.mp ha]
      exact bp
  · have hs := h.fr sf (List.mem_cons_self ..)
    rw [updM_ne (fun e => by rw [e, hs] at hq; cases hq), updM_ne (fun e => by rw [e, bp] at hq; cases hq)]
    exact h.kp q u hq
end Mt
/-! Numbers and trees put in order. -/
namespace Mt
open PySem PySem.Spec L2 DL
theorem sort_map {α : Type} (f : α → D) (l : List α) : ∃ m : List α, m.Perm l ∧ (l.map f).mergeSort (PySem.W.dataLe false encD) = m.map f ∧ m.Pairwise fun a b => PySem.W.dataLe false encD (f a) (f b) = true := by
  have ht := PySem.W.sortLe_total (PyProof.Rows.listOrd PyProof.Rows.itemOrd) false fun b : D => PySem.W.keyToks (encD b)
  refine ⟨l.mergeSort fun a b => PySem.W.dataLe false encD (f a) (f b), List.mergeSort_perm _ _, (List.map_mergeSort (f := f) (r := fun a b => PySem.W.dataLe false encD (f a) (f b)) (s := PySem.W.dataLe false encD) fun a _ b _ => rfl).symm, PySem.W.sort_pairwise (le := fun a b => PySem.W.dataLe false encD (f a) (f b)) ⟨fun a b c h1 h2 => ht.trans _ _ _ h1 h2, fun a b => ht.total _ _⟩ l⟩
theorem le_ints {a b : Int} (h : PySem.W.dataLe false encD (.int a) (.int b) = true) : a ≤ b := by
  have h : (!PySem.W.dataLt (.int b) (.int a)) = true := h
  have e : PySem.W.dataLt (.int b) (.int a) = decide (b < a) := by
    unfold PySem.W.dataLt
    simp [PySem.W.keyToks, PyProof.Rows.lexLt, PyProof.Rows.itemLt]
  rw [e] at h
  simp at h
  exact h
theorem sort_nats (is : List Nat) : ∃ js : List Nat, js.Perm is ∧ (is.map fun i => D.int ((i : Nat) : Int)).mergeSort (PySem.W.dataLe false encD) = js.map (fun i => D.int ((i : Nat) : Int)) ∧ js.Pairwise (· ≤ ·) := by
  obtain ⟨m, h1, h2, h3⟩ := sort_map (fun i : Nat => D.int ((i : Nat) : Int)) is
  exact ⟨m, h1, h2, h3.imp fun h => by have := le_ints h; omega⟩
mutual
def encT : Tre → PyData
  | .mk p r ks => .tuple [.tuple (p.map PyData.str), .tuple (r.map PyData.str), .tuple (encTs ks)]
def encTs : List Tre → List PyData
  | [] => []
  | t :: ts => encT t :: encTs ts
end
mutual
theorem pyD_t : ∀ t : Tre, pyD t.d = some (encT t)
  | .mk p r ks => by
    unfold Tre.d encT pyD pyDs pyDs pyDs pyDs
    have e : ∀ l : List Str, pyD (.tup (l.map D.str)) = some (.tuple (l.map PyData.str)) := fun l => pyD_pth l
    have e2 : pyD (.tup (tresD ks)) = some (.tuple (encTs ks)) := by
      unfold pyD
      rw [pyDs_t ks] <;> rfl
    rw [e, e, e2] <;> rfl
theorem pyDs_t : ∀ ts : List Tre, pyDs (tresD ts) = some (encTs ts)
  | [] => by
    unfold tresD encTs pyDs
    rfl
  | t :: ts => by
    unfold tresD encTs pyDs
    rw [pyD_t t, pyDs_t ts] <;> rfl
end
theorem encD_t (t : Tre) : encD t.d = encT t := by unfold encD; rw [pyD_t] <;> rfl
theorem alike_strs : ∀ p q : List Str, PySem.W.alikeAll (p.map PyData.str) (q.map PyData.str) = true
  | [], _ => by unfold PySem.W.alikeAll; rfl
  | _ :: _, [] => by unfold PySem.W.alikeAll; rfl
  | x :: p, y :: q => by
    rw [List.map_cons, List.map_cons]
    unfold PySem.W.alikeAll
    rw [alike_strs p q]
    simp [PySem.W.alike]
mutual
theorem alike_t : ∀ s t : Tre, PySem.W.alike (encT s) (encT t) = true
  | .mk p r ks, .mk p' r' ks' => by
    unfold encT
    simp only [PySem.W.alike, PySem.W.alikeAll, alike_strs, alike_ts ks ks', Bool.and_self]
theorem alike_ts : ∀ a b : List Tre, PySem.W.alikeAll (encTs a) (encTs b) = true
  | [], _ => by unfold encTs PySem.W.alikeAll; rfl
  | _ :: _, [] => by unfold encTs PySem.W.alikeAll; rfl
  | x :: a, y :: b => by
    unfold encTs PySem.W.alikeAll
    rw [alike_t x y, alike_ts a b] <;> rfl
end
theorem depth_ss : ∀ p : List Str, PyData.depthAll (p.map PyData.str) ≤ 1
  | [] => by unfold List.map PyData.depthAll; omega
  | x :: p => by
    rw [List.map_cons]
    unfold PyData.depthAll
    have := depth_ss p
    have : PyData.depth (.str x) ≤ 1 := by simp [PyData.depth]
    omega
mutual
theorem depth_t : ∀ t : Tre, (encT t).depth ≤ 2 * dpT t + 2
  | .mk p r ks => by
    unfold encT dpT
    simp only [PyData.depth, PyData.depthAll]
    have h1 := depth_ss p
    have h2 := depth_ss r
    have h3 := depth_ts ks
    omega
theorem depth_ts : ∀ ts : List Tre, PyData.depthAll (encTs ts) ≤ 2 * dpTs ts + 2
  | [] => by unfold encTs PyData.depthAll; omega
  | t :: ts => by
    unfold encTs dpTs PyData.depthAll
    have h1 := depth_t t
    have h2 := depth_ts ts
    omega
end
/-- sorted of trees: some order of them -/
theorem e_sorted_trees {A : Around} {own : Bool} {ts : List Tre} {M : Mp} {Q : DK} {x : D} (hx : lsD M x = some (ts.map Tre.d)) (hu : A.units + 64 < cLine) (hd : ∀ t ∈ ts, dpT t ≤ 25) (hl : ts.length ≤ sizeLine) (q : ∀ us : List Tre, us.Perm ts → dNew own (us.map Tre.d) M Q) : dSortD A own [x] M Q := by
  obtain ⟨m, h1, h2, _⟩ := sort_map Tre.d ts
  refine ⟨_, hx, fun d hd' => ?_, ?_, ?_, by rw [List.length_map]; exact hl, by rw [h2]; exact q m h1⟩
  · obtain ⟨t, ht, rfl⟩ := List.mem_map.mp hd'
    refine ⟨by rw [pyD_t] <;> rfl, ?_⟩
    rw [encD_t]
    have := depth_t t
    have := hd t ht
    omega
  · rw [List.map_map]
    exact PySem.W.AllAlike.of fun a b => by
      show PySem.W.alike (encD a.d) (encD b.d) = true
      rw [encD_t, encD_t]
      exact alike_t a b
  · rw [List.map_map]
    exact PySem.W.Sortable.tuples fun b => by
      obtain ⟨p, r, ks⟩ := b
      refine ⟨.tuple (p.map PyData.str), [.tuple (r.map PyData.str), .tuple (encTs ks)], ?_⟩
      show encD (Tre.d _) = _
      rw [encD_t]
      unfold encT
      rfl
theorem e_sorted_nats {A : Around} {own : Bool} {is : List Nat} {M : Mp} {Q : DK} {x : D} (hx : lsD M x = some (is.map fun i => D.int ((i : Nat) : Int))) (hu : A.units + 64 < cLine) (hl : is.length ≤ sizeLine) (q : ∀ js : List Nat, js.Perm is → js.Pairwise (· ≤ ·) → dNew own (js.map fun i => D.int ((i : Nat) : Int)) M Q) : dSortD A own [x] M Q := by
  obtain ⟨m, h1, h2, h3⟩ := sort_nats is
  have he : ∀ i : Int, encD (.int i) = .int i := fun i => rfl
  refine ⟨_, hx, fun d hd' => ?_, ?_, ?_, by rw [List.length_map]; exact hl, by rw [h2]; exact q m h1 h3⟩
  · obtain ⟨t, ht, rfl⟩ := List.mem_map.mp hd'
    refine ⟨rfl, ?_⟩
    rw [he]
    have : PyData.depth (.int ((t : Nat) : Int)) ≤ 1 := by simp [PyData.depth]
    omega
  · rw [List.map_map]
    exact PySem.W.AllAlike.of fun a b => by
      show PySem.W.alike (encD (.int _)) (encD (.int _)) = true
      rw [he, he]
      simp [PySem.W.alike]
  · rw [List.map_map]
    exact PySem.W.Sortable.others fun b => by
      show encD (.int _) ≠ _ ∧ ∀ xs, encD (.int _) ≠ _
      rw [he]
      refine ⟨?_, fun xs => ?_⟩
      · exact (fun h => nomatch h)
      · exact (fun h => nomatch h)
theorem trees_sortOk {A : Around} {ts : List Tre} (hu : A.units + 64 < cLine) (hd : ∀ t ∈ ts, dpT t ≤ 25) (hl : ts.length ≤ sizeLine) : SortOk A (ts.map Tre.d) := by
  refine ⟨fun d hd' => ?_, ?_, ?_, by rw [List.length_map]; exact hl⟩
  · obtain ⟨t, ht, rfl⟩ := List.mem_map.mp hd'
    refine ⟨by rw [pyD_t] <;> rfl, ?_⟩
    rw [encD_t]
    have := depth_t t
    have := hd t ht
    omega
  · rw [List.map_map]
    exact PySem.W.AllAlike.of fun a b => by
      show PySem.W.alike (encD a.d) (encD b.d) = true
      rw [encD_t, encD_t]
      exact alike_t a b
  · rw [List.map_map]
    exact PySem.W.Sortable.tuples fun b => by
      obtain ⟨p, r, ks⟩ := b
      refine ⟨.tuple (p.map PyData.str), [.tuple (r.map PyData.str), .tuple (encTs ks)], ?_⟩
      show encD (Tre.d _) = _
      rw [encD_t]
      unfold encT
      rfl
theorem e_sorted_tup {A : Around} {own : Bool} {ts : List Tre} {M : Mp} {Q : DK} (hu : A.units + 64 < cLine) (hd : ∀ t ∈ ts, dpT t ≤ 25) (hl : ts.length ≤ sizeLine) (q : ∀ us : List Tre, us.Perm ts → dNew own (us.map Tre.d) M Q) : dSortT A own [.tup (ts.map Tre.d)] M Q := by
  obtain ⟨m, h1, h2, _⟩ := sort_map Tre.d ts
  exact ⟨_, rfl, trees_sortOk hu hd hl, by unfold srt; rw [h2]; exact q m h1⟩
/-! trees that are drawn -/
def Gr (c : Nat) : Nat → Tre → Prop
  | 0, .mk p r ks => (∀ x ∈ p, PyData.strOk x = true) ∧ (∀ x ∈ r, PyData.strOk x = true) ∧ p.length + 0 ≤ 10 ∧ r.length ≤ 10 ∧ ks = []
  | d + 1, .mk p r ks => (∀ x ∈ p, PyData.strOk x = true) ∧ (∀ x ∈ r, PyData.strOk x = true) ∧ p.length + (d + 1) ≤ 10 ∧ r.length ≤ 10 ∧ ks.length ≤ c ∧ ∀ k ∈ ks, Gr c d k
def Tre.p : Tre → List Str
  | .mk p _ _ => p
def Tre.r : Tre → List Str
  | .mk _ r _ => r
def Tre.ks : Tre → List Tre
  | .mk _ _ ks => ks
theorem Tre.eta : ∀ t : Tre, t = .mk t.p t.r t.ks
  | .mk _ _ _ => rfl
theorem gr_iff {c d : Nat} {p r : List Str} {ks : List Tre} : Gr c d (.mk p r ks) ↔ (∀ x ∈ p, PyData.strOk x = true) ∧ (∀ x ∈ r, PyData.strOk x = true) ∧ p.length + d ≤ 10 ∧ r.length ≤ 10 ∧ ks.length ≤ (if d = 0 then 0 else c) ∧ ∀ k ∈ ks, Gr c (d - 1) k := by
  cases d with
  | zero =>
    unfold Gr
    constructor
    · rintro ⟨h1, h2, h3, h4, rfl⟩
      exact ⟨h1, h2, h3, h4, Nat.le_refl _, fun k hk => nomatch hk⟩
    · rintro ⟨h1, h2, h3, h4, h5, _⟩
      rw [if_pos rfl] at h5
      exact ⟨h1, h2, h3, h4, List.eq_nil_of_length_eq_zero (by omega)⟩
  | succ d =>
    rw [if_neg (by omega), show d + 1 - 1 = d by omega]
    conv => lhs; unfold Gr
theorem Gr.mono {c c' : Nat} (hc : c ≤ c') : ∀ {d : Nat} {t : Tre}, Gr c d t → Gr c' d t
  | 0, .mk p r ks, h => by unfold Gr at h ⊢; exact h
  | d + 1, .mk p r ks, h => by
    unfold Gr at h ⊢
    obtain ⟨h1, h2, h3, h4, h5, h6⟩ := h
    exact ⟨h1, h2, h3, h4, by omega, fun k hk => (h6 k hk).mono hc⟩
theorem okTs_of : ∀ {ts : List Tre}, (∀ t ∈ ts, OkT t) → OkTs ts
  | [], _ => by unfold OkTs; trivial
  | t :: ts, h => by
    unfold OkTs
    exact ⟨h t (List.mem_cons_self ..), okTs_of fun x hx => h x (List.mem_cons_of_mem _ hx)⟩
theorem Gr.ok {c : Nat} (hc : c ≤ 99) : ∀ {d : Nat} {t : Tre}, Gr c d t → OkT t ∧ dpT t ≤ d + 1
  | 0, .mk p r ks, h => by
    unfold Gr at h
    obtain ⟨h1, h2, h3, h4, rfl⟩ := h
    refine ⟨?_, by rw [dpT_mk]; unfold dpTs; omega⟩
    unfold OkT
    exact ⟨h1, h2, by omega, by omega, by simp, okTs_of fun t ht => nomatch ht⟩
  | d + 1, .mk p r ks, h => by
    unfold Gr at h
    obtain ⟨h1, h2, h3, h4, h5, h6⟩ := h
    refine ⟨?_, ?_⟩
    · unfold OkT
      exact ⟨h1, h2, by omega, by omega, by omega, okTs_of fun t ht => ((h6 t ht).ok hc).1⟩
    · rw [dpT_mk]
      have := dpTs_le (n := d + 1) fun t ht => ((h6 t ht).ok hc).2
      omega
def gsz (c : Nat) : Nat → Nat
  | 0 => 1
  | d + 1 => 1 + c * gsz c d
theorem tszs_le {n : Nat} : ∀ {ts : List Tre}, (∀ t ∈ ts, tsz t ≤ n) → tszs ts ≤ ts.length * n
  | [], _ => by rw [tszs_nil]; omega
  | t :: ts, h => by
    rw [tszs_cons, List.length_cons, Nat.add_mul, Nat.one_mul]
    have := h t (List.mem_cons_self ..)
    have := tszs_le fun x hx => h x (List.mem_cons_of_mem _ hx)
    omega
theorem Gr.sz {c : Nat} : ∀ {d : Nat} {t : Tre}, Gr c d t → tsz t ≤ gsz c d
  | 0, .mk p r ks, h => by
    unfold Gr at h
    obtain ⟨_, _, _, _, rfl⟩ := h
    rw [tsz_mk, tszs_nil]
    exact Nat.le_refl _
  | d + 1, .mk p r ks, h => by
    unfold Gr at h
    obtain ⟨h1, h2, h3, h4, h5, h6⟩ := h
    rw [tsz_mk]
    unfold gsz
    have := tszs_le fun t ht => (h6 t ht).sz
    have := Nat.mul_le_mul_right (gsz c d) h5
    omega
/-- small enough for everything -/
def Sm (t : Tre) : Prop := OkT t ∧ dpT t < 20 ∧ tsz t ≤ 400
/-- what stands, but for these, stays -/
def Kx (S : List Addr) (M M' : Mp) : Prop := ∀ q o, q ∉ S → M q = some o → M' q = some o
theorem Kx.refl {S : List Addr} {M : Mp} : Kx S M M := fun _ _ _ h => h
theorem Kx.trans {S : List Addr} {M M' M2 : Mp} (h : Kx S M M') (g : Kx S M' M2) : Kx S M M2 := fun q o hq hm => g q o hq (h q o hq hm)
theorem Kx.upd {S : List Addr} {M M' : Mp} {p : Addr} {x : MO} (h : Kx S M M') (hp : p ∈ S ∨ M p = none) : Kx S M (updM M' p x) := fun q o hq hm => by
  rw [updM_ne]
  · exact h q o hq hm
  · rintro rfl
    rcases hp with hp | hp
    · exact hq hp
    · rw [hp] at hm
      cases hm
theorem Kx.more {S S' : List Addr} {M M' : Mp} (h : Kx S M M') (hs : ∀ q ∈ S, q ∈ S') : Kx S' M M' := fun q o hq hm => h q o (fun e => hq (hs q e)) hm
theorem _root_.Bx.BoN.kx {a : Addr} {M M' : Mp} (h : Bx.BoN a M M') {S : List Addr} (ha : a ∈ S) : Kx S M M' := fun q o hq hm => h.keep (fun e => hq (e ▸ ha)) hm
end Mt
/-! One numbered tree within another. -/
namespace Mt
open PySem PySem.Spec L2 DL
theorem perm_of_map {α β : Type} {g : α → β} {ys : List α} {l : List β} (h : (ys.map g).Perm l) : ∃ ys', ys.Perm ys' ∧ l = ys'.map g := by
  have f0 : F2 (fun (x : β) (k : α) => g k = x) (ys.map g) ys := F2.of (List.length_map ..) fun k x y hx hy => by
    rw [List.getElem?_map, hy] at hx
    cases hx
    rfl
  obtain ⟨ys', h1, h2⟩ := f0.perm h
  refine ⟨ys', h1, ?_⟩
  apply List.ext_getElem?
  intro i
  rw [List.getElem?_map]
  by_cases hi : i < ys'.length
  · have e1 := List.getElem?_eq_getElem hi
    have e2 := List.getElem?_eq_getElem (show i < l.length by rw [h2.len]; exact hi)
    have := h2.get i _ _ e2 e1
    rw [e1, e2, ← this] <;> rfl
  · rw [List.getElem?_eq_none (by rw [h2.len]; omega), List.getElem?_eq_none (by omega)] <;> rfl
theorem emb_map {α β : Type} {r : β → β → Prop} {f : α → β} {xs ys : List α} : Emb r (xs.map f) (ys.map f) ↔ Emb (fun a b => r (f a) (f b)) xs ys := by
  constructor
  · rintro ⟨zs, rest, hp, hf⟩
    obtain ⟨ys', h1, h2⟩ := perm_of_map hp
    have hl : zs.length = xs.length := by rw [← hf.len, List.length_map]
    refine ⟨ys'.take zs.length, ys'.drop zs.length, by rw [List.take_append_drop]; exact h1, F2.of ?_ fun i x y hx hy => ?_⟩
    · have := congrArg List.length h2
      rw [List.length_append, List.length_map] at this
      rw [List.length_take]
      omega
    · have hi : i < zs.length := by
        have := (List.getElem?_eq_some_iff.mp hx).1
        omega
      rw [List.getElem?_take, if_pos hi] at hy
      refine hf.get i _ _ (by rw [List.getElem?_map, hx] <;> rfl) ?_
      rw [← List.getElem?_append_left (l₂ := rest) hi, h2, List.getElem?_map, hy] <;> rfl
  · rintro ⟨zs, rest, hp, hf⟩
    refine ⟨zs.map f, rest.map f, by rw [← List.map_append]; exact hp.map f, F2.of (by rw [List.length_map, List.length_map, hf.len]) fun i x y hx hy => ?_⟩
    rw [List.getElem?_map] at hx hy
    obtain ⟨a, ha, rfl⟩ := Option.map_eq_some_iff.mp hx
    obtain ⟨b, hb, rfl⟩ := Option.map_eq_some_iff.mp hy
    exact hf.get i a b ha hb
/-- one lies in the other, by numbers -/
def NS.R (N : NS) (a b : Nat) : Prop := Lies (N.tr a) (N.tr b)
/-- the numbers' own test -/
theorem NS.Good.lies {N : NS} (h : N.Good) {i j m m' : Nat} {is js : List Nat} (hi : N.nodes[i]? = some (m, is)) (hj : N.nodes[j]? = some (m', js)) (hm : m = m') : Lies (N.tr i) (N.tr j) ↔ Emb N.R is js := by
  subst hm
  obtain ⟨q, a1, a2, _, _⟩ := h.nd i m is hi
  obtain ⟨q', b1, b2, _, _⟩ := h.nd j m js hj
  rw [a1] at b1
  cases b1
  rw [a2, b2, lies_iff, emb_map]
  exact ⟨fun h => h.2.2, fun h => ⟨rfl, rfl, h⟩⟩
theorem NS.Good.mark {N : NS} (h : N.Good) {i j m m' : Nat} {is js : List Nat} (hi : N.nodes[i]? = some (m, is)) (hj : N.nodes[j]? = some (m', js)) (hl : Lies (N.tr i) (N.tr j)) : m = m' := by
  obtain ⟨q, a1, a2, _, _⟩ := h.nd i m is hi
  obtain ⟨q', b1, b2, _, _⟩ := h.nd j m' js hj
  rw [a2, b2, lies_iff] at hl
  have e : q = q' := Prod.ext hl.1 hl.2.1
  subst e
  exact (List.getElem?_inj (List.getElem?_eq_some_iff.mp a1).1 h.tn).mp (a1.trans b1.symm)
theorem NS.Good.kids {N : NS} (h : N.Good) {i m : Nat} {is : List Nat} (hi : N.nodes[i]? = some (m, is)) : (∀ j ∈ is, j < i ∧ dpT (N.tr j) < dpT (N.tr i)) ∧ is.length < tsz (N.tr i) := by
  obtain ⟨q, a1, a2, a3, _⟩ := h.nd i m is hi
  refine ⟨fun j hj => ⟨a3 j hj, ?_⟩, ?_⟩
  · have h1 := dpTs_mem (List.mem_map_of_mem (f := N.tr) hj)
    have h2 : dpT (N.tr i) = 1 + dpTs (is.map N.tr) := by
      rw [a2]
      unfold dpT
      rfl
    omega
  · rw [a2, tsz_mk]
    have := len_tszs (is.map N.tr)
    rw [List.length_map] at this
    omega
theorem first_at {k : Nat} : ∀ {l : List Nat}, k ∈ l → ∃ j, l[j]? = some k ∧ (∀ m, m < j → l[m]? ≠ some k) ∧ l.Perm (k :: l.eraseIdx j)
  | x :: l, h => by
    by_cases e : x = k
    · subst e
      exact ⟨0, rfl, (fun m hm => absurd hm (Nat.not_lt_zero _)), .refl _⟩
    · have h : k ∈ l := by
        rcases List.mem_cons.mp h with h | h
        · exact absurd h.symm e
        · exact h
      obtain ⟨j, h1, h2, h3⟩ := first_at h
      refine ⟨j + 1, h1, fun m hm => ?_, ?_⟩
      · cases m with
        | zero =>
          intro z
          have z : some x = some k := z
          cases z
          exact e rfl
        | succ m => exact h2 m (by omega)
      · exact (h3.cons x).trans (.swap _ _ _)
theorem emb_skip {r : Nat → Nat → Prop} (refl : ∀ x, r x x) (trans : ∀ x y z, r x y → r y z → r x z) {x : Nat} {lf rest pc pc' : List Nat} (hp : pc.Perm (x :: pc')) : Emb r (lf ++ x :: rest) pc ↔ Emb r (lf ++ rest) pc' :=
  ⟨fun h => (emb_out refl trans).mp (h.perm List.perm_middle hp), fun h => ((emb_out refl trans).mpr h).perm List.perm_middle.symm hp.symm⟩
section
variable {pw : Wd} {C : Addr} {b : NB} {B M : Mp} {S : Seven}
/-- all that is none of the eight -/
def outM (b : NB) (M : Mp) : Mp := fun q => if q ∈ b.all then none else M q
theorem outM_in {b : NB} {M : Mp} {q : Addr} (h : q ∈ b.all) : outM b M q = none := by unfold outM; rw [if_pos h]
theorem outM_out {b : NB} {M : Mp} {q : Addr} (h : q ∉ b.all) : outM b M q = M q := by unfold outM; rw [if_neg h]
theorem NestR.whole (h : NestR pw C b B S M) : NestR pw C b (outM b M) S M := h.to (fun _ _ => rfl) (fun a ha => outM_in ha) fun q o hq => by
  by_cases e : q ∈ b.all
  · rw [outM_in e] at hq
    cases hq
  · rwa [outM_out e] at hq
theorem NestR.weak {B' : Mp} (h : NestR pw C b B' S M) (hB : ∀ q o, B q = some o → B' q = some o) : NestR pw C b B S M := h.to (fun _ _ => rfl) (fun a ha => by
  cases e : B a with
  | none => rfl
  | some x => rw [← e]; have := hB a x e; rw [h.fr a ha] at this; cases this) fun q o hq => h.kp q o (hB q o hq)
theorem NestR.keep (h : NestR pw C b B S M) : ∀ q o, B q = some o → outM b M q = some o := fun q o hq => by
  have e : q ∉ b.all := fun e => by rw [h.fr q e] at hq; cases hq
  rw [outM_out e]
  exact h.kp q o hq
theorem NestR.out (h : NestR pw C b B S M) {p : Addr} (hp : M p = none) : p ∉ b.all := fun e => by
  obtain ⟨o, ho⟩ := h.some_at e
  rw [hp] at ho
  cases ho
/-- a thing that is none of them changes -/
theorem NestR.other (h : NestR pw C b B S M) {p : Addr} (hp : p ∉ b.all) (hb : B p = none) (x : MO) : NestR pw C b B S (updM M p x) :=
  h.to (fun a ha => updM_ne fun e => hp (e ▸ ha)) h.fr fun q o hq => by
    rw [updM_ne (fun e => by rw [e, hb] at hq; cases hq)]
    exact h.kp q o hq
end
theorem KnOk.put {N : NS} {kn : List ((Nat × Nat) × Bool)} (h : KnOk N kn) {i j : Nat} {r : Bool} (hi : i < N.trs.length) (hj : j < N.trs.length) (hr : r = true ↔ Lies (N.tr i) (N.tr j)) : KnOk N (tput kn (i, j) r) := by
  unfold tput
  cases e : tget kn (i, j) with
  | some x =>
    rw [Option.isSome_some, if_pos rfl]
    have hk : (kn.map fun x => if x.1 = (i, j) then (x.1, r) else x).map (·.1) = kn.map (·.1) := by
      rw [List.map_map]
      apply List.map_congr_left
      intro y _
      dsimp only [Function.comp]
      split <;> rfl
    refine ⟨by rw [hk]; exact h.nd, fun x hx => ?_⟩
    obtain ⟨y, hy, rfl⟩ := List.mem_map.mp hx
    split
    · rename_i e
      have e1 : y.1.1 = i := by rw [e]
      have e2 : y.1.2 = j := by rw [e]
      dsimp only
      rw [e1, e2]
      exact ⟨hi, hj, hr⟩
    · exact h.ok y hy
  | none =>
    rw [Option.isSome_none, if_neg Bool.false_ne_true]
    refine ⟨by rw [List.map_append]; exact nodup_snoc h.nd (tget_none.mp e), fun x hx => ?_⟩
    rcases List.mem_append.mp hx with hx | hx
    · exact h.ok x hx
    · rw [List.mem_singleton.mp hx]
      exact ⟨hi, hj, hr⟩
theorem KnOk.small {N : NS} {kn : List ((Nat × Nat) × Bool)} (h : KnOk N kn) (hl : N.trs.length ≤ 1000) : kn.length < 16777216 := by
  have h1 := h.len
  have h2 := Nat.mul_le_mul hl hl
  omega
theorem shal_nat (x : Nat) : Shal (nD x) := ⟨rfl, by show (encD (.int _)).depth ≤ 20; show PyData.depth (.int _) ≤ 20; simp [PyData.depth]⟩
theorem any_nats (x : Nat) : ∀ l : List Nat, ((l.map nD).any fun z => PyData.eqv (encD z) (encD (nD x))) = decide (x ∈ l)
  | [] => rfl
  | y :: l => by
    rw [List.map_cons, List.any_cons, any_nats x l]
    have e : PyData.eqv (encD (nD y)) (encD (nD x)) = decide (y = x) := by
      show PyData.eqv (.int ((y : Nat) : Int)) (.int ((x : Nat) : Int)) = _
      simp only [PyData.eqv]
      by_cases h : y = x
      · subst h
        simp
      · rw [decide_eq_false h]
        have : ((y : Nat) : Int) ≠ ((x : Nat) : Int) := by omega
        simp [this]
    rw [e, Bool.eq_iff_iff]
    simp only [Bool.or_eq_true, decide_eq_true_eq, List.mem_cons]
    constructor
    · rintro (h | h)
      · exact .inl h.symm
      · exact .inr h
    · rintro (h | h)
      · exact .inl h.symm
      · exact .inr h
theorem era_map {α β : Type} {f : α → β} : ∀ (l : List α) (j : Nat), (l.map f).eraseIdx j = (l.eraseIdx j).map f
  | [], _ => by simp
  | _ :: _, 0 => rfl
  | x :: l, j + 1 => by
    show f x :: (l.map f).eraseIdx j = f x :: (l.eraseIdx j).map f
    rw [era_map l j]
theorem NestR.rem {pw : Wd} {C : Addr} {b : NB} {B M : Mp} {S : Seven} (h : NestR pw C b B S M) {p : Addr} (hp : p ∉ b.all) (hb : B p = none) : NestR pw C b B S (remM M p) :=
  h.to (fun a ha => by
    unfold remM
    rw [if_neg (fun e : a = p => hp (e ▸ ha))]) h.fr fun q o hq => by
    unfold remM
    rw [if_neg (fun e : q = p => by rw [e, hb] at hq; cases hq)]
    exact h.kp q o hq
theorem remM_ne {M : Mp} {p q : Addr} (h : q ≠ p) : remM M p q = M q := by unfold remM; rw [if_neg h]
theorem remM_at {M : Mp} {p : Addr} : remM M p p = none := by unfold remM; rw [if_pos rfl]
theorem upd_rem {M : Mp} {p : Addr} {o : MO} (h : M p = some o) : updM (remM M p) p o = M := by
  funext q
  by_cases e : q = p
  · subst e
    rw [updM_same, h]
  · rw [updM_ne e, remM_ne e]
end Mt
/-! a, b = a list; f(b = .., a = ..). -/
namespace DL
open PySem PySem.Spec PySem.Calls PyProof PyProof.Rows L2
section
variable {prog : Program} {w : World} {A : Around} {s : Shared} {E : Value → Shared → Prop}
theorem draw_list {it t : Addr} {items : Array Value} (hne : t ≠ it) : ∀ (n i : Nat) (s : Shared) (Q : List Value → Shared → Prop), s.heap.IsListIter it t i → s.heap.IsList t items → i + n ≤ items.size →
    (∀ h' : Heap, h'.IsListIter it t (i + n) → Heap.SameBut it s.heap h' → Q ((items.toList.drop i).take n) { s with heap := h' }) → wpAny (model prog w) A (draw (.ref it) n) Q E s
  | 0, i, s, Q, hit, _, _, hQ => by
    show wpAny _ _ (pure []) Q E s
    exact wpAny_pure (by simpa using hQ s.heap hit (Heap.SameBut.refl ..))
  | n + 1, i, s, Q, hit, ht, hle, hQ => by
    have hlt : i < items.size := by omega
    show wpAny _ _ (pyNext (.ref it) >>= _) Q E s
    refine wpAny_bind (wpAny_pyNext_list_item hit ht (x := items[i]) (by simp [hlt]) fun h₁ hit₁ hs₁ => ?_)
    have ht₁ : h₁.IsList t items := ht.at fun o e => (hs₁.2 t hne).trans e
    refine wpAny_bind (wpAny_holding (draw_list hne n (i + 1) _ _ hit₁ ht₁ (by omega) fun h₂ hit₂ hs₂ => wpAny_pure ?_))
    have hd : items.toList.drop i = items[i] :: items.toList.drop (i + 1) := by simp [List.drop_eq_getElem_cons, hlt]
    have := hQ h₂ (by rw [show i + (n + 1) = i + 1 + n by omega]; exact hit₂) (hs₁.trans hs₂)
    rw [hd, List.take_succ_cons] at this
    exact this
theorem unpackItems_list {t : Addr} {items : Array Value} {Q : List Value → Shared → Prop} (hh : A.handled = none) (ht : s.heap.IsList t items)
    (hQ : ∀ h', Heap.ExtBut s.heap.objs.size s.heap h' → Q items.toList { s with heap := h' }) : wpAny (model prog w) A (unpackItems (.ref t) items.size none) Q E s := by
  have hlt : t ≠ s.heap.objs.size := by obtain ⟨o, ho, _⟩ := ht; exact Nat.ne_of_lt (Heap.lt_size ho)
  unfold unpackItems
  refine wpAny_bind ?_
  · unfold notIterableAtAll
    refine wpAny_bind (wpAny_specialOf ht.typeIs slot_list_iter.lookup ?_)
    refine wpAny_pure ?_
    simp only [Bool.false_eq_true, if_false]
    refine wpAny_bind (wpAny_holding (wpAny_pyIter_list ht ?_))
    have htp : (s.heap.push { cls := .type "list_iterator", data := .fields #[.ref t, .int 0 0] }).IsList t items := ht.at fun o e => Heap.get?_push_of_some _ e
    refine wpAny_bind (wpAny_holding (draw_list hlt items.size 0 _ _ ⟨_, Heap.get?_push_size _ rfl, rfl, rfl⟩ htp (by omega) fun h₁ hit₁ hs₁ => ?_))
    have hall : List.take items.size (List.drop 0 items.toList) = items.toList := by
      rw [List.drop_zero]; exact List.take_of_length_le (by simp)
    rw [hall]
    rw [if_neg (by simp)]
    have ht₁ : h₁.IsList t items := htp.at fun o e => (hs₁.2 t hlt).trans e
    refine wpAny_bind (wpAny_holding (wpAny_pyNext_list_end hh hit₁ ht₁ (by simp) fun h₂ he₂ => ?_))
    simp only [Option.isSome_none, Bool.false_eq_true, if_false]
    refine wpAny_pure (hQ h₂ fun b o hb e => he₂ b o hb (hs₁.extBut b o hb (Heap.get?_push_of_some _ e)))
theorem assign_Tuple_list {env : Env} {elts : List Expr} {x1} {pos : Pos} {t : Addr} {items : Array Value} {Q : Unit → Shared → Prop} (hh : A.handled = none) (ht : s.heap.IsList t items)
    (hn : (assignEach elts env).length = items.size) (hstar : (assignEach elts env).findIdx? (·.1) = none)
    (h : ∀ h', Heap.ExtBut s.heap.objs.size s.heap h' → wpAny (model prog w) A (assignInOrder ((assignEach elts env).map (·.2)) items.toList) Q E { s with heap := h' }) :
    wpAny (model prog w) A (assign (.Tuple elts x1 pos) env (.ref t)) Q E s := by
  rw [assign_Tuple]
  refine wpAny_bind (wpAny_standAt ?_)
  unfold unpack
  rw [hn, hstar]
  exact wpAny_bind (wpAny_holding (unpackItems_list hh ht h))
end
section
variable {X : Cx} {F0 : Hp} {pos : Pos}
def gTupL (K : PySem.W.Frag) (n : Nat) (t : TGs) : TG := fun v σ H Q => ∃ a xs, v = .ref a ∧ SqL K H a xs ∧ xs.length = n ∧ t xs σ H Q
theorem pg_tupL {es : List Expr} {k : Nat} {t : TGs} {n : Nat} (hc : X.calm = true) (h : PGs X es t)
    (hn : (assignEach es X.env).length = n := by rfl) (hst : (assignEach es X.env).findIdx? (·.1) = none := by rfl) : PG X (.Tuple es k pos) (gTupL X.K n t) := by
  refine ⟨fun pins s σ H v u Q I r hw => ?_⟩
  obtain ⟨a, xs, e1, hq, hl, hw⟩ := hw
  subst e1
  cases r
  obtain ⟨its, rv, ht, hz⟩ := I.list hq
  refine assign_Tuple_list (I.ok.hd hc) ht.isList (by simp [hn, ← hl, rv.length]) hst fun h' hx => ?_
  have I1 : Inv X pins σ H { s with heap := h' } := I.kept (t' := s.toks) fun b o e => hx b o (Nat.ne_of_lt (Heap.lt_size e)) e
  exact h.run pins _ σ H xs _ Q I1 (by simpa using rv) hw
/-- a tuple of targets, a list's items -/
def nTupL (n : Nat) (t : DTGs) : DTG := fun d σ M Q => match d with
  | .lst ds => ds.length = n ∧ t ds σ M Q
  | _ => False
theorem dg_tupL {tgs : List Expr} {k : Nat} {t : DTGs} {n : Nat} (hc : X.calm = true) (h : DGs X F0 tgs t)
    (hn : (assignEach tgs X.env).length = n := by rfl) (hst : (assignEach tgs X.env).findIdx? (·.1) = none := by rfl) : DG X F0 (.Tuple tgs k pos) (nTupL n t) :=
  PG_imp (pg_tupL hc h hn hst) fun v σ H Q ⟨d, σd, M, F, Qd, hF, r, hv, hS, h, fin⟩ => by
    unfold nTupL at h
    split at h
    · obtain ⟨a, vs, rfl, hq, hr⟩ := rep_lst.mp hv
      exact ⟨a, vs, rfl, SqL.of (r.fr _ _ hq), by rw [← hr.length]; exact h.1, _, σd, M, F, Qd, hF, r, hr, hS, h.2, fin⟩
    · exact h.elim
end
/-! keywords the other way round -/
section
variable {P : Program} {w : World} {K : PySem.W.Frag} {mg : Str → Option Value} {base : Heap} {CX : CXT} {k : Nat}
def CalleeS (P : Program) (w : World) (K : PySem.W.Frag) (mg : Str → Option Value) (base : Heap) (CX : CXT) (k : Nat) (x : Str) (a b : Str) (sp : SpD) : Prop :=
  ∃ f fd, FnOk P w K mg base CX k f fd [a, b] (LSp K sp) ∧ mg x = some (.ref f) ∧ PySem.W.keepIn K (.ref f) = true ∧ ∀ u v : Value, bindArgs fd ⟨[], [(b, v), (a, u)]⟩ = pure [(a, u), (b, v)]
theorem calleeS_of {x a b : Str} {params : Arguments} {body : List Stmt} {scope : Scope} {f : Addr} {fd : FuncData} {sp : SpD} (F : FunD K x x params body scope [] [] f fd) (ok : FnOk P w K mg base CX k f fd [a, b] (LSp K sp)) (hm : mg x = some (.ref f))
    (hk : ∀ (kV doc pm : Value) (an : Option Addr) (cdv ct : Value) (u v : Value), bindArgs (PySem.W.fnOf x x params body scope .none kV doc pm an cdv ct) ⟨[], [(b, v), (a, u)]⟩ = pure [(a, u), (b, v)]) : CalleeS P w K mg base CX k x a b sp := by
  refine ⟨f, fd, ok, hm, F.kp, ?_⟩
  obtain ⟨oc, od, dV, kV, doc, pm, an, cdv, ct, osl, rfl, lk, hcd, hD, hK⟩ := F.ex
  rcases hD with ⟨_, rfl⟩ | ⟨e, _⟩
  · exact hk kV doc pm an cdv ct
  · exact absurd rfl e
end
section
variable {X : Cx} {F0 : Hp} {CX : CXT} {k : Nat} {sp : SpD} {Ed : DX} {E : XK} {x a b : Str} {p pos : Pos} {t : DTA}
def dCallS (sp : SpD) (Ed : DX) (t : DTA) : DTE := fun σ M Q => t σ M fun ds M1 => sp ds.reverse M1 Q Ed
theorem de_fnKS {kws : List Keyword} (h : CalleeS X.prog X.w X.K X.mg X.base CX k x a b sp) (hr : Room k X.A) (hg : Gl X x) (hx : Passes CX X E) (hE : FinX X.K F0 Ed E)
    (hkw : DKw X F0 kws t) (hall : (backToKw pos (keywordEach kws X.env)).all (·.1.isSome) = true := by rfl) (hks : (backToKw pos (keywordEach kws X.env)).filterMap (·.1) = [b, a] := by rfl)
    (hdb : (x == ("__debug__" : Str)) = false := by decide) (hpl : ((backTo pos (starEach [] X.env)).any (·.1) || (backToKw pos (keywordEach kws X.env)).any (·.1.isNone)) = false := by rfl) :
    DE X F0 (.Call (.Name x p) [] kws pos) (dCallS sp Ed t) := by
  obtain ⟨f, fd, F, hm, hk, hb⟩ := h
  refine ⟨fun pins s σ H Q I ⟨σd, M, F1, Qd, hF, r, hS, h, fin⟩ => ?_⟩
  refine wpAny_Call_Name_kw (ld_glob I hg hm ?_ hdb)
  refine callWith_K0kw (h₀ := X.base) I.ok.mod.kin hk hall ?_ hpl
  refine thn (hkw.run pos pins s σ H (fun vs H1 => LSp X.K sp vs.reverse H1 Q E) I ⟨σd, M, F1, _, hF, r, hS, h, fun ds M1 vs H1 F2 q e1 r1 v1 => ⟨ds.reverse, M1, F2, Qd, Ed, r1, ?_, q, fin.mono e1, hE.mono (hF.trans e1)⟩⟩) fun ws s2 ⟨zs, H2, I2, rz, q2⟩ => ⟨I2.kIn, ?_⟩
  · exact v1.reverse
  rw [hks]
  have hl : zs.reverse.length = 2 := F.len _ _ _ _ q2
  rw [List.length_reverse] at hl
  obtain ⟨z1, z2, rfl⟩ : ∃ z1 z2, zs = [z1, z2] := by
    match zs, hl with
    | [z1, z2], _ => exact ⟨z1, z2, rfl⟩
  obtain ⟨u1, u2, rfl, rv1, rv2⟩ : ∃ u1 u2, ws = [u1, u2] ∧ RelV z1 u1 ∧ RelV z2 u2 := by
    cases rz with
    | cons p q =>
      cases q with
      | cons p' q' =>
        cases q'
        exact ⟨_, _, rfl, p, p'⟩
  refine wpAny_call (codeAny_mono (F.run X.A X.stack s2 H2 ⟨[], [b, a].zip [u1, u2]⟩ [u2, u1] [z2, z1] Q E hr I2.env0 (.of_eq (hb u2 u1)) (.cons rv2 (.cons rv1 .nil)) q2) fun r s' hq => ?_)
  cases r with
  | error e => exact hx pins σ H2 s2 e s' I2 hq
  | ok fl =>
    cases fl with
    | ret u => exact I2.after hq
    | next => exact False.elim hq
    | brk => exact False.elim hq
    | cont => exact False.elim hq
end
end DL
namespace K20
open PySem PySem.Spec L2 DL Syn Mi Bx
local macro_rules | `(tactic| walk_at "st") => `(tactic| simp only [start_def, List.map_cons, List.map_nil, List.length_cons, List.length_nil, List.cons_append, List.nil_append, Nat.zero_add, Nat.reduceAdd, Nat.reduceSub, List.replicate])
local macro_rules | `(tactic| walk_at "dl") => `(tactic| simp only [dSeq, dNext, dDrop, dRet, dRetF, dRetN, dIfS, dAsg, dAug, dPar, nGm, nTup, nCons, nNil, dVar, dC, dOp, dUn, dCons, dNil, dTup, dLst, dB, dTru, dAnd, dOr, dNot, dAndV, dOrV, dNotV, dIf, dChain, dCB, dCall, dSlE, dNoPart, dPart, dRev, dS0, dS1, dBL, dBL0, dIsi, dBreak, dCont, List.set_cons_zero, List.set_cons_succ, List.getElem?_cons_zero, List.getElem?_cons_succ, ifB_t, ifB_f, e_new_f, e_new_t, e_add_int, e_add_str, e_add_tup, e_add_pl, e_len_pl, e_sl_pl, e_sl_last, e_add_lst, e_sub, e_mul, e_mul_str, e_mul_lst, e_div, e_mod, e_pow, e_neg, e_eq_int, e_eq_str, e_isN_non, e_isN_obj, e_isN_tup, e_isN_lst, e_lt_int, e_lt_str, e_le_int, e_le_str, e_gt, e_ge, e_in_str, e_t0, e_t1, e_t2, e_t3, e_t4, e_t5, e_l0, e_l1, e_l2, e_l3, e_sl_tup, e_sl_rdl, e_sl_str, e_sl_lst, e_len_str, e_len_lst, e_len_tup, e_int, e_tupC_tup, e_tupC_lst, e_iadd_int, e_iadd_str, e_isub, tru_bl, tru_int, tru_non, tru_lst, tru_tup, ex_some, bne_f, bne_t, e_nSub, cxK, cxP, cxW, decide_true, e_fld, e_sfld, e_meth, e_fldX, e_methX, lsD_lst, dDM, dDNewX, dPairs, dDisp, dFz, nSubX, dLockE, dLockS, dListV, ixX_tup, ixX_pl, ixX_lst, ixX_str, iaddX_int, iaddX_str, imul_int, e_isN_str, e_isN_int, sz0, sz1, sz2, sz3, sz4, sz5, sz6, sz7, sz8, true_and])
local macro_rules | `(tactic| walk_at "if") => `(tactic| simp only [dIfS, dVar, dC, dOp, dUn, dCons, dNil, dB, dTru, dAnd, dOr, dNot, dChain, dCB, List.getElem?_cons_zero, List.getElem?_cons_succ, ifB_t, ifB_f, e_eq_int, e_eq_str, e_lt_int, e_le_int, e_gt, e_ge, e_isN_non, e_isN_obj, e_isN_tup, e_isN_lst, e_isN_str, e_isN_int, e_len_str, e_len_lst, e_len_tup, tru_bl, tru_int, tru_non, tru_lst, tru_tup, ex_some, bne_f, bne_t, decide_true, cxK, cxP, cxW, true_and])
local macro_rules | `(tactic| walk_at "lit") => `(tactic| simp only [Int.reduceEq, Int.reduceLT, Int.reduceLE, Int.reduceMod, Int.reduceAdd, Int.reduceSub, eq_self, ne_eq, not_true_eq_false, not_false_eq_true, decide_true, decide_false, ifB_t, ifB_f, bne_f, bne_t, e_l0, e_l1, e_l2, e_l3, e_t0, e_t1, e_t2, true_and])
def topS (i : Nat) : Stmt := PySem.Challenge.pw_outlived_k20_trees_lie_within.main.body.getD i (.Pass ⟨0, 0, 0, 0⟩)
abbrev sNestU_initU : Stmt := inClass (topS 1) 0
abbrev NNestU_initU : List Str := ["self"]
abbrev PNestU_initU : List Str := ["self"]
theorem scNestU_initU : FnScope NNestU_initU PNestU_initU (defScope sNestU_initU) := ⟨rfl, rfl, rfl, by decide +kernel, rfl, by decide +kernel, by decide +kernel⟩
abbrev sNest_mark : Stmt := inClass (topS 1) 1
abbrev NNest_mark : List Str := ["self", "path", "row", "key"]
abbrev PNest_mark : List Str := ["self", "path", "row"]
theorem scNest_mark : FnScope NNest_mark PNest_mark (defScope sNest_mark) := ⟨rfl, rfl, rfl, by decide +kernel, rfl, by decide +kernel, by decide +kernel⟩
abbrev sNest_node : Stmt := inClass (topS 1) 2
abbrev NNest_node : List Str := ["self", "mark", "inner", "key", "tree"]
abbrev PNest_node : List Str := ["self", "mark", "inner"]
theorem scNest_node : FnScope NNest_node PNest_node (defScope sNest_node) := ⟨rfl, rfl, rfl, by decide +kernel, rfl, by decide +kernel, by decide +kernel⟩
abbrev sNest_take : Stmt := inClass (topS 1) 3
abbrev NNest_take : List Str := ["self", "tree", "path", "row", "trees", "one"]
abbrev PNest_take : List Str := ["self", "tree"]
theorem scNest_take : FnScope NNest_take PNest_take (defScope sNest_take) := ⟨rfl, rfl, rfl, by decide +kernel, rfl, by decide +kernel, by decide +kernel⟩
abbrev sNest_lies : Stmt := inClass (topS 1) 5
abbrev NNest_lies : List Str := ["self", "one", "other"]
abbrev PNest_lies : List Str := ["self", "one", "other"]
theorem scNest_lies : FnScope NNest_lies PNest_lies (defScope sNest_lies) := ⟨rfl, rfl, rfl, by decide +kernel, rfl, by decide +kernel, by decide +kernel⟩
abbrev sNest_given : Stmt := inClass (topS 1) 6
abbrev NNest_given : List Str := ["self", "some", "many", "left", "places", "one", "ways", "at", "other"]
abbrev PNest_given : List Str := ["self", "some", "many"]
theorem scNest_given : FnScope NNest_given PNest_given (defScope sNest_given) := ⟨rfl, rfl, rfl, by decide +kernel, rfl, by decide +kernel, by decide +kernel⟩
abbrev sNest_within : Stmt := inClass (topS 1) 7
abbrev NNest_within : List Str := ["self", "one", "other", "key"]
abbrev PNest_within : List Str := ["self", "one", "other"]
theorem scNest_within : FnScope NNest_within PNest_within (defScope sNest_within) := ⟨rfl, rfl, rfl, by decide +kernel, rfl, by decide +kernel, by decide +kernel⟩
abbrev smatched : Stmt := topS 2
abbrev Nmatched : List Str := ["ways", "many", "holders", "places", "start", "end", "came", "row", "before"]
abbrev Pmatched : List Str := ["ways", "many"]
theorem scmatched : FnScope Nmatched Pmatched (defScope smatched) := ⟨rfl, rfl, rfl, by decide +kernel, rfl, by decide +kernel, by decide +kernel⟩
abbrev sreached : Stmt := topS 3
abbrev Nreached : List Str := ["ways", "holders", "start", "came", "queue", "at", "place"]
abbrev Preached : List Str := ["ways", "holders", "start"]
theorem screached : FnScope Nreached Preached (defScope sreached) := ⟨rfl, rfl, rfl, by decide +kernel, rfl, by decide +kernel, by decide +kernel⟩
abbrev slies : Stmt := topS 5
abbrev Nlies : List Str := ["one", "other", "nest"]
abbrev Plies : List Str := ["one", "other"]
theorem sclies : FnScope Nlies Plies (defScope slies) := ⟨rfl, rfl, rfl, by decide +kernel, rfl, by decide +kernel, by decide +kernel⟩
abbrev s_law_box : Stmt := topS 7
abbrev N_law_box : List Str := ["script", "cell"]
abbrev P_law_box : List Str := ["script"]
theorem sc_law_box : FnScope N_law_box P_law_box (defScope s_law_box) := ⟨rfl, rfl, rfl, by decide +kernel, rfl, by decide +kernel, by decide +kernel⟩
abbrev s_law_draw : Stmt := topS 8
abbrev N_law_draw : List Str := ["box", "many", "told", "cell", "mixed"]
abbrev P_law_draw : List Str := ["box", "many"]
theorem sc_law_draw : FnScope N_law_draw P_law_draw (defScope s_law_draw) := ⟨rfl, rfl, rfl, by decide +kernel, rfl, by decide +kernel, by decide +kernel⟩
abbrev s_law_name : Stmt := topS 9
abbrev N_law_name : List Str := ["box", "taken", "great", "letters", "name", "k"]
abbrev P_law_name : List Str := ["box", "taken", "great"]
theorem sc_law_name : FnScope N_law_name P_law_name (defScope s_law_name) := ⟨rfl, rfl, rfl, by decide +kernel, rfl, by decide +kernel, by decide +kernel⟩
abbrev s_law_seat : Stmt := topS 10
abbrev N_law_seat : List Str := ["k", "ways", "owner", "tried", "place"]
abbrev P_law_seat : List Str := ["k", "ways", "owner", "tried"]
theorem sc_law_seat : FnScope N_law_seat P_law_seat (defScope s_law_seat) := ⟨rfl, rfl, rfl, by decide +kernel, rfl, by decide +kernel, by decide +kernel⟩
abbrev s_law_lies : Stmt := topS 11
abbrev N_law_lies : List Str := ["one", "other", "ways", "tree", "k", "owner"]
abbrev P_law_lies : List Str := ["one", "other"]
theorem sc_law_lies : FnScope N_law_lies P_law_lies (defScope s_law_lies) := ⟨rfl, rfl, rfl, by decide +kernel, rfl, by decide +kernel, by decide +kernel⟩
abbrev s_law_grow : Stmt := topS 15
abbrev N_law_grow : List Str := ["box", "path", "names", "values", "deep", "left", "beneath", "k", "inner", "own"]
abbrev P_law_grow : List Str := ["box", "path", "names", "values", "deep", "left"]
theorem sc_law_grow : FnScope N_law_grow P_law_grow (defScope s_law_grow) := ⟨rfl, rfl, rfl, by decide +kernel, rfl, by decide +kernel, by decide +kernel⟩
abbrev s_law_put_in : Stmt := topS 16
abbrev N_law_put_in : List Str := ["box", "tree", "names", "values", "deep", "beneath", "inner", "path"]
abbrev P_law_put_in : List Str := ["box", "tree", "names", "values", "deep"]
theorem sc_law_put_in : FnScope N_law_put_in P_law_put_in (defScope s_law_put_in) := ⟨rfl, rfl, rfl, by decide +kernel, rfl, by decide +kernel, by decide +kernel⟩
abbrev s_law_changed : Stmt := topS 17
abbrev N_law_changed : List Str := ["box", "tree", "values", "at", "inner"]
abbrev P_law_changed : List Str := ["box", "tree", "values"]
theorem sc_law_changed : FnScope N_law_changed P_law_changed (defScope s_law_changed) := ⟨rfl, rfl, rfl, by decide +kernel, rfl, by decide +kernel, by decide +kernel⟩
abbrev s_law_ring : Stmt := topS 18
abbrev N_law_ring : List Str := ["box", "names", "many", "broken", "leaves", "words", "k", "first", "other", "one", "two"]
abbrev P_law_ring : List Str := ["box", "names", "many", "broken"]
theorem sc_law_ring : FnScope N_law_ring P_law_ring (defScope s_law_ring) := ⟨rfl, rfl, rfl, by decide +kernel, rfl, by decide +kernel, by decide +kernel⟩
abbrev s_law_many : Stmt := topS 19
abbrev N_law_many : List Str := ["box", "names", "values", "beneath", "k", "value", "j"]
abbrev P_law_many : List Str := ["box", "names", "values"]
theorem sc_law_many : FnScope N_law_many P_law_many (defScope s_law_many) := ⟨rfl, rfl, rfl, by decide +kernel, rfl, by decide +kernel, by decide +kernel⟩
abbrev s_law_is : Stmt := topS 20
abbrev N_law_is : List Str := ["told", "due"]
abbrev P_law_is : List Str := ["told", "due"]
theorem sc_law_is : FnScope N_law_is P_law_is (defScope s_law_is) := ⟨rfl, rfl, rfl, by decide +kernel, rfl, by decide +kernel, by decide +kernel⟩
abbrev s_law_pairs : Stmt := topS 21
abbrev N_law_pairs : List Str := ["box", "names", "values", "k", "name", "value", "one", "other", "loose", "many", "ring", "gap", "crowd", "fewer", "told", "changed"]
abbrev P_law_pairs : List Str := ["box"]
theorem sc_law_pairs : FnScope N_law_pairs P_law_pairs (defScope s_law_pairs) := ⟨rfl, rfl, rfl, by decide +kernel, rfl, by decide +kernel, by decide +kernel⟩
abbrev slaw : Stmt := topS 22
abbrev Nlaw : List Str := ["script", "box", "pairs", "k", "one", "other", "due"]
abbrev Plaw : List Str := ["script"]
theorem sclaw : FnScope Nlaw Plaw (defScope slaw) := ⟨rfl, rfl, rfl, by decide +kernel, rfl, by decide +kernel, by decide +kernel⟩
structure Txt (K : PySem.W.Frag) (mg : Str → Option Value) : Prop where
  len : mg "len" = none
  tuple : mg "tuple" = none
  sorted : mg "sorted" = none
  sum : mg "sum" = none
  list : mg "list" = none
  enumerate : mg "enumerate" = none
  range : mg "range" = none
  int : mg "int" = none
  str : mg "str" = none
  isinstance : mg "isinstance" = none
  bool : mg "bool" = none
section
variable {P : Program} {w : World} {K : PySem.W.Frag} {mg : Str → Option Value} {base : Heap}
theorem e_o4 {M : Mp} {Q : DK} {a : Addr} {x y z u v : D} (h : M a = some (.lst [x, y, z, u, v])) : dIx (.obj a) (.int 4) M Q = Q v M := e_ix_at (sqD_obj h) at4
def sp_box : SpD := fun ds M Q _ => ∃ ns : List Int, ds = [.rdl ns] ∧ ns.length ≤ 63 ∧ ∀ a o, M a = none → BoxO o → Q (.obj a) (updM M a (.lst o))
theorem ok__law_box (T : Txt K mg) {f : Addr} {fd : FuncData} (F : FunD K "_law_box" "_law_box" (defArgs s_law_box) (defBody s_law_box) (defScope s_law_box) [] [] f fd) : FnOk P w K mg base CX0 (0 + 1) f fd P_law_box (LSp K (sp_box)) := by
  refine fnD0 F sc_law_box (fun ds M Q E h => by first | (obtain ⟨rfl, _⟩ := h; rfl) | (obtain ⟨_, rfl, _⟩ := h; rfl) | (obtain ⟨_, _, rfl, _⟩ := h; rfl) | (obtain ⟨_, _, _, rfl, _⟩ := h; rfl) | (obtain ⟨_, _, _, _, rfl, _⟩ := h; rfl) | (obtain ⟨_, _, _, _, _, rfl, _⟩ := h; rfl) | (obtain ⟨_, _, _, _, _, _, rfl, _⟩ := h; rfl) | (obtain ⟨_, _, _, _, _, _, _, rfl, _⟩ := h; rfl) | (obtain ⟨_, _, _, _, _, _, _, _, rfl, _⟩ := h; rfl) | (obtain ⟨_, _, _, _, _, _, _, _, _, rfl, _⟩ := h; rfl) | (obtain ⟨_, _, _, _, _, _, _, _, _, _, rfl, _⟩ := h; rfl) | (obtain ⟨_, _, _, _, _, _, _, _, _, _, _, rfl, _⟩ := h; rfl) | (obtain ⟨_, _, _, _, _, _, _, _, _, _, _, _, rfl, _⟩ := h; rfl) | (obtain ⟨_, _, _, _, _, _, _, _, _, _, _, _, _, rfl, _⟩ := h; rfl) | (obtain ⟨_, _, _, _, _, _, _, _, _, _, _, _, _, _, rfl, _⟩ := h; rfl) | (obtain ⟨_, _, _, _, _, _, _, _, _, _, _, _, _, _, _, rfl, _⟩ := h; rfl) | (obtain ⟨_, _, _, _, _, _, _, _, _, _, _, _, _, _, _, _, rfl, _⟩ := h; rfl) | (obtain ⟨_, _, _, _, _, _, _, _, _, _, _, _, _, _, _, _, _, rfl, _⟩ := h; rfl) | (obtain ⟨_, _, _, _, _, _, _, _, _, _, _, _, _, _, _, _, _, _, rfl, _⟩ := h; rfl) | (obtain ⟨_, _, _, _, _, _, _, _, _, _, _, _, _, _, _, _, _, _, _, rfl, _⟩ := h; rfl)) fun cdv A outer s H E F0 hr => ⟨_, (dss_one (ds_ret (de_lst (own := true) (da_cons (de_lc (own := false) (x := "cell") (j := 1) rfl sc_law_box.nd (di_items (de_sl (own := false) (de_var (pv 0)) do_none (do_some de_int))) (blkOk_by (N := N_law_box) (sc := defScope s_law_box) (by decide +kernel)) (fun _ _ _ _ _ => pg_name (i := 1) sc_law_box.nd rfl (by first | exact Or.inl rfl | exact Or.inr rfl)) (fun _ _ _ _ _ => (de_callTy cd_int rfl T.int (by decide +kernel) (da_cons (de_var (pv 1)) da_nil)))) (da_cons de_int (da_cons de_int (da_cons de_int (da_cons de_int da_nil)))))))), fun ds M Q Ex h => ?_⟩
  obtain ⟨ns, rfl, hn, q⟩ := h
  walk_at "st"
  walk_at "dl"
  refine lc_pure ((cutL ns none (some 63)).map D.int) (fun d => d) (fun Kd hk => ?_) ?_ ?_ ?_
  · unfold dItems
    walk_at "dl"
    exact hk
  · rw [List.length_map]
    refine Nat.le_trans (show (cutL ns none (some ((63 : Nat) : Int))).length ≤ 63 from ?_) (by decide)
    rw [cut_to, List.length_take]
    exact Nat.min_le_left _ _
  · intro i d M2 Q2 hd _ q2
    rw [List.getElem?_map] at hd
    obtain ⟨n, _, rfl⟩ := Option.map_eq_some_iff.mp hd
    walk_at "dl"
    exact q2
  · walk_at "dl"
    refine fun a ha => Wk.here (q a _ ha ⟨cutL ns none (some 63), 0, 0, 17, 0, ?_, by decide⟩)
    rw [List.map_id']
def sp_bdraw : SpD := fun ds M Q _ => ∃ a many, ds = [.obj a, .int many] ∧ 0 < many ∧ many < 1073741824 ∧ BoxAt M a ∧ ∀ n M', 0 ≤ n → n < many → BoN a M M' → Q (.int n) M'
theorem ok__law_draw (T : Txt K mg) {f : Addr} {fd : FuncData} (F : FunD K "_law_draw" "_law_draw" (defArgs s_law_draw) (defBody s_law_draw) (defScope s_law_draw) [] [] f fd) : FnOk P w K mg base CX0 (0 + 1) f fd P_law_draw (LSp K (sp_bdraw)) := by
  refine fnD0 F sc_law_draw (fun ds M Q E h => by first | (obtain ⟨rfl, _⟩ := h; rfl) | (obtain ⟨_, rfl, _⟩ := h; rfl) | (obtain ⟨_, _, rfl, _⟩ := h; rfl) | (obtain ⟨_, _, _, rfl, _⟩ := h; rfl) | (obtain ⟨_, _, _, _, rfl, _⟩ := h; rfl) | (obtain ⟨_, _, _, _, _, rfl, _⟩ := h; rfl) | (obtain ⟨_, _, _, _, _, _, rfl, _⟩ := h; rfl) | (obtain ⟨_, _, _, _, _, _, _, rfl, _⟩ := h; rfl) | (obtain ⟨_, _, _, _, _, _, _, _, rfl, _⟩ := h; rfl) | (obtain ⟨_, _, _, _, _, _, _, _, _, rfl, _⟩ := h; rfl) | (obtain ⟨_, _, _, _, _, _, _, _, _, _, rfl, _⟩ := h; rfl) | (obtain ⟨_, _, _, _, _, _, _, _, _, _, _, rfl, _⟩ := h; rfl) | (obtain ⟨_, _, _, _, _, _, _, _, _, _, _, _, rfl, _⟩ := h; rfl) | (obtain ⟨_, _, _, _, _, _, _, _, _, _, _, _, _, rfl, _⟩ := h; rfl) | (obtain ⟨_, _, _, _, _, _, _, _, _, _, _, _, _, _, rfl, _⟩ := h; rfl) | (obtain ⟨_, _, _, _, _, _, _, _, _, _, _, _, _, _, _, rfl, _⟩ := h; rfl) | (obtain ⟨_, _, _, _, _, _, _, _, _, _, _, _, _, _, _, _, rfl, _⟩ := h; rfl) | (obtain ⟨_, _, _, _, _, _, _, _, _, _, _, _, _, _, _, _, _, rfl, _⟩ := h; rfl) | (obtain ⟨_, _, _, _, _, _, _, _, _, _, _, _, _, _, _, _, _, _, rfl, _⟩ := h; rfl) | (obtain ⟨_, _, _, _, _, _, _, _, _, _, _, _, _, _, _, _, _, _, _, rfl, _⟩ := h; rfl)) fun cdv A outer s H E F0 hr => ⟨_, (dss_cons (ds_if (dt_cmp (od_gt) (de_ix (de_var (pv 0)) de_int (fun _ _ => rfl)) de_int (nomark _)) (dss_cons (ds_set (i := 2) sc_law_draw.nd rfl (Or.inl rfl) (de_op (od_mod) (de_callTy cd_int rfl T.int (by decide +kernel) (da_cons (de_ix (de_var (pv 0)) de_int (fun _ _ => rfl)) da_nil)) (de_var (pv 1))))
      (dss_cons (ds_asg (de_op (od_div) (de_callTy cd_int rfl T.int (by decide +kernel) (da_cons (de_ix (de_var (pv 0)) de_int (fun _ _ => rfl)) da_nil)) (de_var (pv 1))) (dg_sub (de_var (pv 0)) de_int))
      (dss_one (ds_ret (de_var (pv 2)))))) dss_nil)
      (dss_cons (ds_set (i := 3) sc_law_draw.nd rfl (Or.inl rfl) de_int)
      (dss_cons (ds_if (dt_cmp (od_lt) (de_ix (de_var (pv 0)) de_int (fun _ _ => rfl)) (de_callB cd_len rfl T.len (by decide +kernel) (da_cons (de_ix (de_var (pv 0)) de_int (fun _ _ => rfl)) da_nil)) (nomark _)) (dss_cons (ds_set (i := 3) sc_law_draw.nd rfl (Or.inl rfl) (de_ix (de_ix (de_var (pv 0)) de_int (fun _ _ => rfl)) (de_ix (de_var (pv 0)) de_int (fun _ _ => rfl)) (fun _ _ => rfl)))
      (dss_one (ds_asg (de_op (od_add (own := false)) (de_ix (de_var (pv 0)) de_int (fun _ _ => rfl)) de_int) (dg_sub (de_var (pv 0)) de_int)))) dss_nil)
      (dss_cons (ds_if (dt_cmp (od_ge) (de_var (pv 3)) (de_op (od_pow) de_int de_int) (nomark _)) (dss_cons (ds_asg (de_op (od_div) (de_callTy cd_int rfl T.int (by decide +kernel) (da_cons (de_var (pv 3)) da_nil)) (de_var (pv 1))) (dg_sub (de_var (pv 0)) de_int))
      (dss_one (ds_ret (de_op (od_mod) (de_callTy cd_int rfl T.int (by decide +kernel) (da_cons (de_var (pv 3)) da_nil)) (de_var (pv 1)))))) dss_nil)
      (dss_cons (ds_asg (de_op (od_add (own := false)) (de_ix (de_var (pv 0)) de_int (fun _ _ => rfl)) de_int) (dg_sub (de_var (pv 0)) de_int))
      (dss_cons (ds_set (i := 4) sc_law_draw.nd rfl (Or.inl rfl) (de_op (od_mod) (de_callTy cd_int rfl T.int (by decide +kernel) (da_cons (de_op (od_add (own := false)) (de_op (od_add (own := false)) (de_ix (de_var (pv 0)) de_int (fun _ _ => rfl)) (de_op (od_mul (own := false)) (de_var (pv 3)) de_int)) (de_op (od_mul (own := false)) (de_ix (de_var (pv 0)) de_int (fun _ _ => rfl)) de_int)) da_nil)) de_int))
      (dss_cons (ds_set (i := 4) sc_law_draw.nd rfl (Or.inl rfl) (de_op (od_mod) (de_callTy cd_int rfl T.int (by decide +kernel) (da_cons (de_op (od_add (own := false)) (de_op (od_mul (own := false)) (de_var (pv 4)) (de_var (pv 4))) de_int) da_nil)) de_int))
      (dss_cons (ds_set (i := 4) sc_law_draw.nd rfl (Or.inl rfl) (de_op (od_mod) (de_callTy cd_int rfl T.int (by decide +kernel) (da_cons (de_op (od_add (own := false)) (de_op (od_mul (own := false)) (de_var (pv 4)) (de_var (pv 4))) (de_var (pv 4))) da_nil)) de_int))
      (dss_cons (ds_asg (de_var (pv 4)) (dg_sub (de_var (pv 0)) de_int))
      (dss_one (ds_ret (de_op (od_mod) (de_callTy cd_int rfl T.int (by decide +kernel) (da_cons (de_op (od_div) (de_var (pv 4)) de_int) da_nil)) (de_var (pv 1)))))))))))))), fun ds M Q Ex h => ?_⟩
  obtain ⟨a, many, rfl, hm, hm2, ⟨o, ho, hO⟩, q⟩ := h
  walk_at "st"
  obtain ⟨cells, at_, big, mix, tl, rfl, h0⟩ := hO
  have e0 : M = updM M a (.lst [.lst (cells.map D.int), .int at_, .int big, .int mix, .int tl]) := (updM_self ho).symm
  have lt : ∀ x y : Int, 0 < y → 0 ≤ x % y ∧ x % y < y := fun x y hy => ⟨Int.emod_nonneg _ (by omega), Int.emod_lt_of_pos _ hy⟩
  refine seq_tail (fun σ M' => M = M' ∧ σ = [some (.obj a), some (.int many), none, none, none]) ?_ (fun N hN => ?_)
  rotate_left
  · walk_at "dl"
    rw [e_o2 ho]
    walk_at "dl"
    refine ifB (fun _ => ?_) (fun _ => hN _ _ ⟨rfl, rfl⟩)
    rw [e_o2 ho]
    walk_at "dl"
    refine ⟨hm, ?_⟩
    rw [e_o2 ho]
    walk_at "dl"
    refine ⟨⟨hm, hm2⟩, a, _, 2, 2, rfl, rfl, ho, rfl, ?_⟩
    exact Wk.here (q _ _ (lt big many hm).1 (lt big many hm).2 ⟨_, rfl, cells, at_, _, mix, tl, rfl, h0⟩)
  rintro _ _ ⟨rfl, rfl⟩
  refine seq_tail (fun σ M' => M = M' ∧ σ = [some (.obj a), some (.int many), none, some (.int 0), none]) ?_ (fun N hN => by walk_at "dl"; exact hN _ _ ⟨rfl, rfl⟩)
  rintro _ _ ⟨rfl, rfl⟩
  refine seq_tail (fun σ M' => ∃ (c at1 : Int), 0 ≤ at1 ∧ M' = updM M a (.lst [.lst (cells.map D.int), .int at1, .int big, .int mix, .int tl]) ∧ σ = [some (.obj a), some (.int many), none, some (.int c), none]) ?_ (fun N hN => ?_)
  rotate_left
  · walk_at "dl"
    rw [e_o1 ho]
    rw [e_o0 ho]
    walk_at "dl"
    refine ifB (fun hlt => ?_) (fun _ => hN _ _ ⟨0, at_, h0, e0, rfl⟩)
    rw [e_o0 ho]
    rw [e_o1 ho]
    have hlt' : at_.toNat < cells.length := by
      have := of_decide_eq_true hlt
      rw [List.length_map] at this
      omega
    have ea : (at_.toNat : Int) = at_ := by omega
    have hx : (cells.map D.int)[at_.toNat]? = some (.int cells[at_.toNat]) := by
      rw [List.getElem?_map, List.getElem?_eq_getElem hlt'] <;> rfl
    rw [show dIx (.lst (cells.map D.int)) (.int at_) = dIx (.lst (cells.map D.int)) (.int (at_.toNat : Int)) by rw [ea]]
    refine e_ix (x := .lst (cells.map D.int)) rfl hx ?_
    generalize cells[at_.toNat] = cell
    rw [e_o1 ho]
    walk_at "dl"
    refine ⟨a, _, 1, 1, rfl, rfl, ho, rfl, ?_⟩
    exact hN _ _ ⟨cell, at_ + 1, by omega, rfl, rfl⟩
  rintro _ M1 ⟨c, at1, h1, rfl, rfl⟩
  have hM1 : updM M a (.lst [.lst (cells.map D.int), .int at1, .int big, .int mix, .int tl]) a = some (.lst [.lst (cells.map D.int), .int at1, .int big, .int mix, .int tl]) := updM_same
  refine seq_tail (fun σ M' => M' = updM M a (.lst [.lst (cells.map D.int), .int at1, .int big, .int mix, .int tl]) ∧ σ = [some (.obj a), some (.int many), none, some (.int c), none]) ?_ (fun N hN => ?_)
  rotate_left
  · walk_at "dl"
    refine ⟨by decide, ?_⟩
    refine ifB (fun _ => ?_) (fun _ => hN _ _ ⟨rfl, rfl⟩)
    refine ⟨⟨hm, hm2⟩, a, _, 2, 2, rfl, rfl, hM1, rfl, ?_⟩
    walk_at "dl"
    refine ⟨hm, ?_⟩
    exact Wk.here (q _ _ (lt c many hm).1 (lt c many hm).2 ⟨_, updM_updM, cells, at1, _, mix, tl, rfl, h1⟩)
  rintro _ _ ⟨rfl, rfl⟩
  refine seq_tail (fun σ M' => M' = updM M a (.lst [.lst (cells.map D.int), .int at1, .int big, .int mix, .int (tl + 1)]) ∧ σ = [some (.obj a), some (.int many), none, some (.int c), none]) ?_ (fun N hN => ?_)
  rotate_left
  · walk_at "dl"
    rw [e_o4 hM1]
    walk_at "dl"
    refine ⟨a, _, 4, 4, rfl, rfl, hM1, rfl, ?_⟩
    exact hN _ _ ⟨updM_updM, rfl⟩
  rintro _ _ ⟨rfl, rfl⟩
  have hM2 : updM M a (.lst [.lst (cells.map D.int), .int at1, .int big, .int mix, .int (tl + 1)]) a = some (.lst [.lst (cells.map D.int), .int at1, .int big, .int mix, .int (tl + 1)]) := updM_same
  refine seq_tail (fun σ M' => ∃ x : Int, 0 ≤ x ∧ x < 2147483647 ∧ M' = updM M a (.lst [.lst (cells.map D.int), .int at1, .int big, .int mix, .int (tl + 1)]) ∧ σ = [some (.obj a), some (.int many), none, some (.int c), some (.int x)]) ?_ (fun N hN => ?_)
  rotate_left
  · walk_at "dl"
    rw [e_o3 hM2]
    walk_at "dl"
    refine ⟨.inr ⟨by decide, by decide⟩, ?_⟩
    rw [e_o4 hM2]
    walk_at "dl"
    refine ⟨.inr ⟨by decide, by decide⟩, by decide, ?_⟩
    exact hN _ _ ⟨_, (lt _ _ (by decide)).1, (lt _ _ (by decide)).2, rfl, rfl⟩
  rintro _ _ ⟨x, x0, x1, rfl, rfl⟩
  refine seq_tail (fun σ M' => ∃ x : Int, 0 ≤ x ∧ x < 2147483647 ∧ M' = updM M a (.lst [.lst (cells.map D.int), .int at1, .int big, .int mix, .int (tl + 1)]) ∧ σ = [some (.obj a), some (.int many), none, some (.int c), some (.int x)]) ?_ (fun N hN => ?_)
  rotate_left
  · walk_at "dl"
    refine ⟨.inr ⟨by omega, by omega⟩, by decide, ?_⟩
    exact hN _ _ ⟨_, (lt _ _ (by decide)).1, (lt _ _ (by decide)).2, rfl, rfl⟩
  rintro _ _ ⟨y, y0, y1, rfl, rfl⟩
  refine seq_tail (fun σ M' => ∃ x : Int, 0 ≤ x ∧ x < 2147483647 ∧ M' = updM M a (.lst [.lst (cells.map D.int), .int at1, .int big, .int mix, .int (tl + 1)]) ∧ σ = [some (.obj a), some (.int many), none, some (.int c), some (.int x)]) ?_ (fun N hN => ?_)
  rotate_left
  · walk_at "dl"
    refine ⟨.inr ⟨by omega, by omega⟩, by decide, ?_⟩
    have h3 := lt (y * y + y) 2147483629 (by decide)
    exact hN _ _ ⟨_, h3.1, by omega, rfl, rfl⟩
  rintro _ _ ⟨z, z0, z1, rfl, rfl⟩
  walk_at "dl"
  refine ⟨a, _, 3, 3, rfl, rfl, hM2, rfl, ?_⟩
  walk_at "dl"
  refine ⟨⟨by decide, by decide⟩, hm, ?_⟩
  exact Wk.here (q _ _ (lt _ many hm).1 (lt _ many hm).2 ⟨_, updM_updM, cells, at1, big, _, tl + 1, rfl, h1⟩)
end
end K20
namespace K20
open PySem PySem.Spec L2 DL Syn Mi Lb Bx
local macro_rules | `(tactic| walk_at "st") => `(tactic| simp only [start_def, List.map_cons, List.map_nil, List.length_cons, List.length_nil, List.cons_append, List.nil_append, Nat.zero_add, Nat.reduceAdd, Nat.reduceSub, List.replicate])
local macro_rules | `(tactic| walk_at "dl") => `(tactic| simp only [dSeq, dNext, dDrop, dRet, dRetF, dRetN, dIfS, dAsg, dAug, dPar, nGm, nTup, nCons, nNil, dVar, dC, dOp, dUn, dCons, dNil, dTup, dLst, dB, dTru, dAnd, dOr, dNot, dAndV, dOrV, dNotV, dIf, dChain, dCB, dCall, dSlE, dNoPart, dPart, dRev, dS0, dS1, dBL, dBL0, dIsi, dBreak, dCont, List.set_cons_zero, List.set_cons_succ, List.getElem?_cons_zero, List.getElem?_cons_succ, ifB_t, ifB_f, e_new_f, e_new_t, e_add_int, e_add_str, e_add_tup, e_add_pl, e_len_pl, e_sl_pl, e_sl_last, e_add_lst, e_sub, e_mul, e_mul_str, e_mul_lst, e_div, e_mod, e_pow, e_neg, e_eq_int, e_eq_str, e_isN_non, e_isN_obj, e_isN_tup, e_isN_lst, e_lt_int, e_lt_str, e_le_int, e_le_str, e_gt, e_ge, e_in_str, e_t0, e_t1, e_t2, e_t3, e_t4, e_t5, e_l0, e_l1, e_l2, e_l3, e_sl_tup, e_sl_rdl, e_sl_str, e_sl_lst, e_len_str, e_len_lst, e_len_tup, e_int, e_tupC_tup, e_tupC_lst, e_iadd_int, e_iadd_str, e_isub, tru_bl, tru_int, tru_non, tru_lst, tru_tup, ex_some, bne_f, bne_t, e_nSub, cxK, cxP, cxW, decide_true, e_fld, e_sfld, e_meth, e_fldX, e_methX, lsD_lst, dDM, dDNewX, dPairs, dDisp, dFz, nSubX, dLockE, dLockS, dListV, ixX_tup, ixX_pl, ixX_lst, ixX_str, iaddX_int, iaddX_str, imul_int, e_isN_str, e_isN_int, sz0, sz1, sz2, sz3, sz4, sz5, sz6, sz7, sz8, true_and])
local macro_rules | `(tactic| walk_at "if") => `(tactic| simp only [dIfS, dVar, dC, dOp, dUn, dCons, dNil, dB, dTru, dAnd, dOr, dNot, dChain, dCB, List.getElem?_cons_zero, List.getElem?_cons_succ, ifB_t, ifB_f, e_eq_int, e_eq_str, e_lt_int, e_le_int, e_gt, e_ge, e_isN_non, e_isN_obj, e_isN_tup, e_isN_lst, e_isN_str, e_isN_int, e_len_str, e_len_lst, e_len_tup, tru_bl, tru_int, tru_non, tru_lst, tru_tup, ex_some, bne_f, bne_t, decide_true, cxK, cxP, cxW, true_and])
local macro_rules | `(tactic| walk_at "lit") => `(tactic| simp only [Int.reduceEq, Int.reduceLT, Int.reduceLE, Int.reduceMod, Int.reduceAdd, Int.reduceSub, eq_self, ne_eq, not_true_eq_false, not_false_eq_true, decide_true, decide_false, ifB_t, ifB_f, bne_f, bne_t, e_l0, e_l1, e_l2, e_l3, e_t0, e_t1, e_t2, true_and])
section
variable {P : Program} {w : World} {K : PySem.W.Frag} {mg : Str → Option Value} {base : Heap}
theorem strOk_app {s t : Str} (h : PyData.strOk s = true) (h2 : PyData.strOk t = true) : PyData.strOk (s ++ t) = true := by
  unfold PyData.strOk at h h2 ⊢
  show (s.cps ++ t.cps).all _ = true
  rw [Array.all_append, h, h2] <;> rfl
theorem len_app {s t : Str} : (s ++ t).length = s.length + t.length := by
  show (s.cps ++ t.cps).size = s.cps.size + t.cps.size
  rw [Array.size_append]
def sp_bname : SpD := fun ds M Q _ => ∃ (a pt : Addr) (tk : List Str) (g : Bool), ds = [.obj a, .obj pt, .bl g] ∧ BoxAt M a ∧ M pt = some (.lst (tk.map D.str)) ∧ a ≠ pt ∧ tk.length ≤ 10 ∧ ∀ n M1, NmOk n → BoN a M M1 → Q (.str n) (updM M1 pt (.lst ((tk ++ [n]).map D.str)))
theorem ok__law_name (T : Txt K mg) {f : Addr} {fd : FuncData} (F : FunD K "_law_name" "_law_name" (defArgs s_law_name) (defBody s_law_name) (defScope s_law_name) [] [] f fd) (h__law_draw : Callee P w K mg base CX0 (1) "_law_draw" P_law_draw sp_bdraw) : FnOk P w K mg base CX0 (1 + 1) f fd P_law_name (LSp K (sp_bname)) := by
  refine fnD0 F sc_law_name (fun ds M Q E h => by first | (obtain ⟨rfl, _⟩ := h; rfl) | (obtain ⟨_, rfl, _⟩ := h; rfl) | (obtain ⟨_, _, rfl, _⟩ := h; rfl) | (obtain ⟨_, _, _, rfl, _⟩ := h; rfl) | (obtain ⟨_, _, _, _, rfl, _⟩ := h; rfl) | (obtain ⟨_, _, _, _, _, rfl, _⟩ := h; rfl) | (obtain ⟨_, _, _, _, _, _, rfl, _⟩ := h; rfl) | (obtain ⟨_, _, _, _, _, _, _, rfl, _⟩ := h; rfl) | (obtain ⟨_, _, _, _, _, _, _, _, rfl, _⟩ := h; rfl) | (obtain ⟨_, _, _, _, _, _, _, _, _, rfl, _⟩ := h; rfl) | (obtain ⟨_, _, _, _, _, _, _, _, _, _, rfl, _⟩ := h; rfl) | (obtain ⟨_, _, _, _, _, _, _, _, _, _, _, rfl, _⟩ := h; rfl) | (obtain ⟨_, _, _, _, _, _, _, _, _, _, _, _, rfl, _⟩ := h; rfl) | (obtain ⟨_, _, _, _, _, _, _, _, _, _, _, _, _, rfl, _⟩ := h; rfl) | (obtain ⟨_, _, _, _, _, _, _, _, _, _, _, _, _, _, rfl, _⟩ := h; rfl) | (obtain ⟨_, _, _, _, _, _, _, _, _, _, _, _, _, _, _, rfl, _⟩ := h; rfl) | (obtain ⟨_, _, _, _, _, _, _, _, _, _, _, _, _, _, _, _, rfl, _⟩ := h; rfl) | (obtain ⟨_, _, _, _, _, _, _, _, _, _, _, _, _, _, _, _, _, rfl, _⟩ := h; rfl) | (obtain ⟨_, _, _, _, _, _, _, _, _, _, _, _, _, _, _, _, _, _, rfl, _⟩ := h; rfl) | (obtain ⟨_, _, _, _, _, _, _, _, _, _, _, _, _, _, _, _, _, _, _, rfl, _⟩ := h; rfl)) fun cdv A outer s H E F0 hr => ⟨_, (dss_cons (ds_set (i := 3) sc_law_name.nd rfl (Or.inl rfl) (de_ixX hr.u9 (de_tup (da_cons de_str (da_cons de_str da_nil))) (de_callTy cd_int rfl T.int (by decide +kernel) (da_cons (de_var (pv 2)) da_nil)) (fun _ _ => rfl)))
      (dss_cons (ds_set (i := 4) sc_law_name.nd rfl (Or.inl rfl) (de_ixX hr.u9 (de_var (pv 3)) (de_fn h__law_draw (hr.mono (by omega)) rfl pass0 finX0 (da_cons (de_var (pv 0)) (da_cons de_int da_nil))) (fun _ _ => rfl)))
      (dss_cons (ds_for PassesOwn.never rfl (di_range1 rfl T.range (da_cons (de_fn h__law_draw (hr.mono (by omega)) rfl pass0 finX0 (da_cons (de_var (pv 0)) (da_cons de_int da_nil))) da_nil)) (dg_name (pg_name (i := 5) sc_law_name.nd rfl (Or.inl rfl))) (dss_one (ds_set (i := 4) sc_law_name.nd rfl (Or.inl rfl) (de_op (od_add (own := false)) (de_var (pv 4)) (de_ixX hr.u9 de_str (de_fn h__law_draw (hr.mono (by omega)) rfl pass0 finX0 (da_cons (de_var (pv 0)) (da_cons de_int da_nil))) (fun _ _ => rfl))))))
      (dss_cons (ds_set (i := 4) sc_law_name.nd rfl (Or.inl rfl) (de_op (od_add (own := false)) (de_var (pv 4)) (de_ixX hr.u9 de_str (de_fn h__law_draw (hr.mono (by omega)) rfl pass0 finX0 (da_cons (de_var (pv 0)) (da_cons de_int da_nil))) (fun _ _ => rfl))))
      (dss_cons (ds_for PassesOwn.never rfl (di_range1 rfl T.range (da_cons (de_callB cd_len rfl T.len (by decide +kernel) (da_cons (de_var (pv 1)) da_nil)) da_nil)) (dg_name (pg_name (i := 5) sc_law_name.nd rfl (Or.inl rfl))) (dss_one (ds_if (dt_cmp (od_inX hr.units) (de_var (pv 4)) (de_var (pv 1)) rfl) (dss_one (ds_set (i := 4) sc_law_name.nd rfl (Or.inl rfl) (de_op (od_add (own := false)) (de_var (pv 4)) de_str))) dss_nil)))
      (dss_cons (ds_expr (de_bl1 PySem.F.slot_list_append PySem.F.type_list_append md_append (de_var (pv 1)) (da_cons (de_var (pv 4)) da_nil)))
      (dss_one (ds_ret (de_var (pv 4)))))))))), fun ds M Q Ex h => ?_⟩
  obtain ⟨a, pt, tk, g, rfl, hD, hT, hap, htl, q⟩ := h
  walk_at "st"
  have hs : sizeLine = 16777216 := sizeLine_eq
  -- one sign of a row of plain signs
  have sign : ∀ (z : Str) (k : Nat) (M' : Mp) (Q' : DK), z.length = k → 0 < k → k ≤ 100 → (z.cps.toList.all fun c => PyData.strOk ⟨#[c]⟩) = true → BoxAt M' a → (∀ s M2, PyData.strOk s = true → s.length = 1 → BoN a M' M2 → Q' (.str s) M2) → sp_bdraw [D.obj a, D.int ((k : Nat) : Int)] M' (fun y M2 => dIx (.str z) y M2 Q') X0 := by
    intro z k M' Q' hz h0 h1 hall hD' hq
    refine ⟨a, _, rfl, by omega, by omega, hD', fun n M2 n0 n1 hN => ?_⟩
    have hn : n.toNat < z.cps.toList.length := by
      have e : z.length = z.cps.toList.length := TL.len_tl z
      omega
    rw [show n = (n.toNat : Int) by omega]
    exact e_ix_str (by omega) (List.getElem?_eq_getElem hn) (hq _ _ (List.all_eq_true.mp hall _ (List.getElem_mem hn)) rfl hN)
  refine seq_tail (fun σ M' => ∃ z : Str, z.length = 26 ∧ (z.cps.toList.all fun c => PyData.strOk ⟨#[c]⟩) = true ∧ M = M' ∧ σ = [some (.obj a), some (.obj pt), some (.bl g), some (.str z), none, none]) ?_ (fun N hN => ?_)
  rotate_left
  · walk_at "dl"
    cases g
    · show dIx (.tup _) (.int 0) M _
      rw [e_t0]
      exact hN _ _ ⟨"abcdefghijklmnopqrstuvwxyz", by decide +kernel, by decide +kernel, rfl, rfl⟩
    · show dIx (.tup _) (.int 1) M _
      rw [e_t1]
      exact hN _ _ ⟨"ABCDEFGHIJKLMNOPQRSTUVWXYZ", by decide +kernel, by decide +kernel, rfl, rfl⟩
  rintro _ _ ⟨z, hz, hza, rfl, rfl⟩
  refine seq_tail (fun σ M' => ∃ s : Str, PyData.strOk s = true ∧ s.length = 1 ∧ BoN a M M' ∧ σ = [some (.obj a), some (.obj pt), some (.bl g), some (.str z), some (.str s), none]) ?_ (fun N hN => ?_)
  rotate_left
  · walk_at "dl"
    exact sign z 26 _ _ hz (by decide) (by decide) hza hD fun s M2 h1 h2 h3 => hN _ _ ⟨s, h1, h2, h3, rfl⟩
  rintro _ M1 ⟨s, hs1, hs2, hb1, rfl⟩
  refine seq_tail (fun σ M' => ∃ (s : Str) (a5 : Option D), PyData.strOk s = true ∧ s.length ≤ 10 ∧ BoN a M M' ∧ σ = [some (.obj a), some (.obj pt), some (.bl g), some (.str z), some (.str s), a5]) ?_ (fun N hN => ?_)
  rotate_left
  · refine for_gen (fun ds M' => ∃ m : Nat, m ≤ 2 ∧ ds = upto 0 m ∧ BoN a M M') (fun Kd hk => ?_) (fun ds i σ M' => ds.length ≤ 2 ∧ i ≤ ds.length ∧ ∃ (s : Str) (a5 : Option D), PyData.strOk s = true ∧ s.length ≤ 1 + i ∧ BoN a M M' ∧ σ = [some (.obj a), some (.obj pt), some (.bl g), some (.str z), some (.str s), a5]) ?_ ?_ ?_
    · unfold dRange1
      walk_at "dl"
      refine ⟨a, 3, rfl, by decide, by decide, hb1.at, fun n M2 n0 n1 h2 => ?_⟩
      walk_at "dl"
      exact ⟨⟨by omega, by omega⟩, hk _ _ ⟨n.toNat, by omega, rfl, hb1.trans h2⟩⟩
    · rintro ds M' ⟨m, hm, rfl, hb⟩
      exact ⟨by rw [upto_len]; exact hm, Nat.zero_le _, s, none, hs1, by omega, hb, rfl⟩
    · rintro ds i d σ M' N' hd ⟨hl, hi, u, a5, hu, hul, hb, rfl⟩ hN'
      have hi2 : i < ds.length := (List.getElem?_eq_some_iff.mp hd).1
      simp only [nGm, List.set_cons_zero, List.set_cons_succ]
      walk_at "dl"
      refine sign "aQ7_zR0m" 8 _ _ (by decide +kernel) (by decide) (by decide) (by decide +kernel) hb.at fun t M3 h1 h2 h3 => ?_
      walk_at "dl"
      exact ⟨by omega, hN' _ _ ⟨hl, hi2, _, _, strOk_app hu h1, by rw [len_app]; omega, hb.trans h3, rfl⟩⟩
    · rintro ds σ M' ⟨hl, hi, u, a5, hu, hul, hb, rfl⟩
      exact hN _ _ ⟨u, a5, hu, by omega, hb, rfl⟩
  rintro _ M2 ⟨s, a5, hs1, hs2, hb2, rfl⟩
  refine seq_tail (fun σ M' => ∃ (s : Str), PyData.strOk s = true ∧ s.length ≤ 11 ∧ BoN a M M' ∧ σ = [some (.obj a), some (.obj pt), some (.bl g), some (.str z), some (.str s), a5]) ?_ (fun N hN => ?_)
  rotate_left
  · walk_at "dl"
    refine sign "0123456789_" 11 _ _ (by decide +kernel) (by decide) (by decide) (by decide +kernel) hb2.at fun t M3 h1 h2 h3 => ?_
    walk_at "dl"
    exact ⟨by omega, hN _ _ ⟨_, strOk_app hs1 h1, by rw [len_app]; omega, hb2.trans h3, rfl⟩⟩
  rintro _ M3 ⟨s, hs1, hs2, hb3, rfl⟩
  have hT3 : M3 pt = some (.lst (tk.map D.str)) := hb3.keep hap hT
  refine seq_tail (fun σ M' => ∃ (s : Str) (a5 : Option D), PyData.strOk s = true ∧ s.length ≤ 100 ∧ M3 = M' ∧ σ = [some (.obj a), some (.obj pt), some (.bl g), some (.str z), some (.str s), a5]) ?_ (fun N hN => ?_)
  rotate_left
  · refine for_pure (upto 0 tk.length) (fun Kd hk => ?_) (fun j σ M' => ∃ (s : Str) (a5 : Option D), PyData.strOk s = true ∧ s.length ≤ 11 + j ∧ M3 = M' ∧ σ = [some (.obj a), some (.obj pt), some (.bl g), some (.str z), some (.str s), a5]) ⟨s, a5, hs1, by omega, rfl, rfl⟩ ?_ ?_
    · unfold dRange1
      walk_at "dl"
      rw [e_len_obj hT3, List.length_map]
      walk_at "dl"
      refine ⟨⟨by omega, by omega⟩, ?_⟩
      rw [show ((tk.length : Nat) : Int).toNat = tk.length by omega]
      exact hk
    · rintro j d σ M5 N5 hd ⟨u, a7, hu, hul, rfl, rfl⟩ hN5
      obtain ⟨rfl, hj⟩ := upto_get hd
      simp only [nGm, List.set_cons_zero, List.set_cons_succ]
      walk_at "dl"
      refine in_strsO hT3 (strsD_map tk) ?_
      walk_at "dl"
      have hlen : u.length + ("_" : Str).length ≤ sizeLine := by
        rw [show ("_" : Str).length = 1 from rfl]
        omega
      exact ifB (fun h => ⟨hlen, hN5 _ _ ⟨_, _, strOk_app hu (by decide +kernel), by rw [len_app, show ("_" : Str).length = 1 from rfl]; omega, rfl, rfl⟩⟩) (fun h => hN5 _ _ ⟨u, _, hu, by omega, rfl, rfl⟩)
    · rintro σ M5 ⟨u, a7, hu, hul, rfl, rfl⟩
      rw [upto_len] at hul
      exact hN _ _ ⟨u, _, hu, by omega, rfl, rfl⟩
  rintro _ _ ⟨s, a5, hs1, hs2, rfl, rfl⟩
  walk_at "dl"
  refine ⟨isLst_of hT3, ?_⟩
  rw [e_append hT3]
  refine ⟨by rw [List.length_map]; omega, ?_⟩
  rw [show tk.map D.str ++ [D.str s] = (tk ++ [s]).map D.str by simp]
  exact Wk.here (q s M3 ⟨hs1, by omega⟩ hb3)
end
end K20
namespace K20
open PySem PySem.Spec L2 DL Syn Mi Lb Bx Mt
local macro_rules | `(tactic| walk_at "st") => `(tactic| simp only [start_def, List.map_cons, List.map_nil, List.length_cons, List.length_nil, List.cons_append, List.nil_append, Nat.zero_add, Nat.reduceAdd, Nat.reduceSub, List.replicate])
local macro_rules | `(tactic| walk_at "dl") => `(tactic| simp only [dSeq, dNext, dDrop, dRet, dRetF, dRetN, dIfS, dAsg, dAug, dPar, nGm, nTup, nCons, nNil, dVar, dC, dOp, dUn, dCons, dNil, dTup, dLst, dB, dTru, dAnd, dOr, dNot, dAndV, dOrV, dNotV, dIf, dChain, dCB, dCall, dSlE, dNoPart, dPart, dRev, dS0, dS1, dBL, dBL0, dIsi, dBreak, dCont, List.set_cons_zero, List.set_cons_succ, List.getElem?_cons_zero, List.getElem?_cons_succ, ifB_t, ifB_f, e_new_f, e_new_t, e_add_int, e_add_str, e_add_tup, e_add_pl, e_len_pl, e_sl_pl, e_sl_last, e_add_lst, e_sub, e_mul, e_mul_str, e_mul_lst, e_div, e_mod, e_pow, e_neg, e_eq_int, e_eq_str, e_isN_non, e_isN_obj, e_isN_tup, e_isN_lst, e_lt_int, e_lt_str, e_le_int, e_le_str, e_gt, e_ge, e_in_str, e_t0, e_t1, e_t2, e_t3, e_t4, e_t5, e_l0, e_l1, e_l2, e_l3, e_sl_tup, e_sl_rdl, e_sl_str, e_sl_lst, e_len_str, e_len_lst, e_len_tup, e_int, e_tupC_tup, e_tupC_lst, e_iadd_int, e_iadd_str, e_isub, tru_bl, tru_int, tru_non, tru_lst, tru_tup, ex_some, bne_f, bne_t, e_nSub, cxK, cxP, cxW, decide_true, e_fld, e_sfld, e_meth, e_fldX, e_methX, lsD_lst, dDM, dDNewX, dPairs, dDisp, dFz, nSubX, dLockE, dLockS, dListV, ixX_tup, ixX_pl, ixX_lst, ixX_str, iaddX_int, iaddX_str, imul_int, e_isN_str, e_isN_int, sz0, sz1, sz2, sz3, sz4, sz5, sz6, sz7, sz8, true_and])
local macro_rules | `(tactic| walk_at "if") => `(tactic| simp only [dIfS, dVar, dC, dOp, dUn, dCons, dNil, dB, dTru, dAnd, dOr, dNot, dChain, dCB, List.getElem?_cons_zero, List.getElem?_cons_succ, ifB_t, ifB_f, e_eq_int, e_eq_str, e_lt_int, e_le_int, e_gt, e_ge, e_isN_non, e_isN_obj, e_isN_tup, e_isN_lst, e_isN_str, e_isN_int, e_len_str, e_len_lst, e_len_tup, tru_bl, tru_int, tru_non, tru_lst, tru_tup, ex_some, bne_f, bne_t, decide_true, cxK, cxP, cxW, true_and])
local macro_rules | `(tactic| walk_at "lit") => `(tactic| simp only [Int.reduceEq, Int.reduceLT, Int.reduceLE, Int.reduceMod, Int.reduceAdd, Int.reduceSub, eq_self, ne_eq, not_true_eq_false, not_false_eq_true, decide_true, decide_false, ifB_t, ifB_f, bne_f, bne_t, e_l0, e_l1, e_l2, e_l3, e_t0, e_t1, e_t2, true_and])
section
variable {P : Program} {w : World} {K : PySem.W.Frag} {mg : Str → Option Value} {base : Heap}
theorem ixN_at {n j : Nat} (hj : j < n) : ixN n (j : Int) = some j := by
  unfold ixN
  rw [if_pos (by omega), if_pos (by omega)]
  simp
def rowsO (ow : List Int) : List Int := ow.filter fun r => decide (0 ≤ r)
/-- a seat was found: who sat moved, k sits -/
structure SeatYes (ways : List (List Nat)) (ow : List Int) (tr : List Bool) (k : Nat) (ow' : List Int) (tr' : List Bool) : Prop where
  lo : ow'.length = ow.length
  lt : tr'.length = tr.length
  rows : (rowsO ow').Perm (((k : Nat) : Int) :: rowsO ow)
  keep : ∀ p : Nat, tr[p]? = some true → ow'[p]? = ow[p]?
  ok : ∀ (p : Nat) (r : Int), ow'[p]? = some r → ow[p]? = some r ∨ ∃ (n : Nat) (w : List Nat), r = ((n : Nat) : Int) ∧ ways[n]? = some w ∧ p ∈ w
/-- none was found -/
structure SeatNo (ways : List (List Nat)) (ow : List Int) (tr : List Bool) (k : Nat) (tr' : List Bool) : Prop where
  lt : tr'.length = tr.length
  cn : tr'.count false ≤ tr.count false
  more : ∀ p : Nat, tr[p]? = some true → tr'[p]? = some true
  all : ∀ w, ways[k]? = some w → ∀ p ∈ w, tr'[p]? = some true
  cl : ∀ p : Nat, tr'[p]? = some true → tr[p]? = some true ∨ ∃ (n : Nat) (w : List Nat), ow[p]? = some ((n : Nat) : Int) ∧ ways[n]? = some w ∧ ∀ q ∈ w, tr'[q]? = some true
theorem rows_split {ow : List Int} {p : Nat} {r : Int} (h : ow[p]? = some r) (k : Int) : ow = ow.take p ++ r :: ow.drop (p + 1) ∧ ow.set p k = ow.take p ++ k :: ow.drop (p + 1) := by
  obtain ⟨hp, e⟩ := List.getElem?_eq_some_iff.mp h
  refine ⟨?_, by rw [List.set_eq_take_append_cons_drop, if_pos hp]⟩
  conv => lhs; rw [← List.take_append_drop p ow, List.drop_eq_getElem_cons hp, e]
theorem rows_free {ow : List Int} {p k : Nat} {r : Int} (h : ow[p]? = some r) (hr : r < 0) : (rowsO (ow.set p ((k : Nat) : Int))).Perm (((k : Nat) : Int) :: rowsO ow) := by
  obtain ⟨e1, e2⟩ := rows_split h ((k : Nat) : Int)
  rw [e2]
  conv => rhs; rw [e1]
  unfold rowsO
  rw [List.filter_append, List.filter_append, List.filter_cons, List.filter_cons, if_pos (decide_eq_true (by omega)), if_neg (by rw [decide_eq_false (by omega)]; decide)]
  exact List.perm_middle
theorem rows_move {ow : List Int} {p k : Nat} {r : Int} (h : ow[p]? = some r) (hr : 0 ≤ r) : (r :: rowsO (ow.set p ((k : Nat) : Int))).Perm (((k : Nat) : Int) :: rowsO ow) := by
  obtain ⟨e1, e2⟩ := rows_split h ((k : Nat) : Int)
  rw [e2]
  conv => rhs; rw [e1]
  unfold rowsO
  rw [List.filter_append, List.filter_append, List.filter_cons, List.filter_cons, if_pos (decide_eq_true (by omega)), if_pos (decide_eq_true hr)]
  have p1 := List.perm_middle (a := ((k : Nat) : Int)) (l₁ := (ow.take p).filter fun r => decide (0 ≤ r)) (l₂ := (ow.drop (p + 1)).filter fun r => decide (0 ≤ r))
  have p2 := List.perm_middle (a := r) (l₁ := (ow.take p).filter fun r => decide (0 ≤ r)) (l₂ := (ow.drop (p + 1)).filter fun r => decide (0 ≤ r))
  exact ((p1.cons r).trans (.swap _ _ _)).trans (p2.symm.cons _)
theorem set_count {tr : List Bool} {p : Nat} (h : tr[p]? = some false) : (tr.set p true).count false + 1 = tr.count false := by
  obtain ⟨hp, e⟩ := List.getElem?_eq_some_iff.mp h
  have e1 : tr = tr.take p ++ false :: tr.drop (p + 1) := by
    conv => lhs; rw [← List.take_append_drop p tr, List.drop_eq_getElem_cons hp, e]
  have e2 : tr.set p true = tr.take p ++ true :: tr.drop (p + 1) := by rw [List.set_eq_take_append_cons_drop, if_pos hp]
  rw [e2]
  conv => rhs; rw [e1]
  rw [List.count_append, List.count_append, List.count_cons, List.count_cons]
  simp
  omega
structure SeatPart (ways : List (List Nat)) (ow : List Int) (tr : List Bool) (w : List Nat) (tr' : List Bool) : Prop where
  lt : tr'.length = tr.length
  cn : tr'.count false ≤ tr.count false
  more : ∀ p : Nat, tr[p]? = some true → tr'[p]? = some true
  all : ∀ p ∈ w, tr'[p]? = some true
  cl : ∀ p : Nat, tr'[p]? = some true → tr[p]? = some true ∨ ∃ (n : Nat) (w : List Nat), ow[p]? = some ((n : Nat) : Int) ∧ ways[n]? = some w ∧ ∀ q ∈ w, tr'[q]? = some true
def natsD (w : List Nat) : D := .lst (w.map fun p => .int ((p : Nat) : Int))
def sp_seat (n : Nat) : SpD := fun ds M Q _ => ∃ (pw po pt : Addr) (ways : List (List Nat)) (ow : List Int) (tr : List Bool) (k : Nat), ds = [.int ((k : Nat) : Int), .obj pw, .obj po, .obj pt] ∧ po ≠ pw ∧ pt ≠ pw ∧ po ≠ pt ∧ M pw = some (.lst (ways.map natsD)) ∧ M po = some (.lst (ow.map D.int)) ∧ M pt = some (.lst (tr.map D.bl)) ∧
  tr.count false < n ∧ k < ways.length ∧ ow.length = tr.length ∧ (∀ w ∈ ways, w.length ≤ 1000 ∧ ∀ p ∈ w, p < tr.length) ∧ (∀ r ∈ ow, r < (ways.length : Nat)) ∧
  (∀ ow' tr', SeatYes ways ow tr k ow' tr' → Q (.bl true) (updM (updM M po (.lst (ow'.map D.int))) pt (.lst (tr'.map D.bl)))) ∧ (∀ tr', SeatNo ways ow tr k tr' → Q (.bl false) (updM M pt (.lst (tr'.map D.bl))))
theorem ok__law_seat (T : Txt K mg) {f : Addr} {fd : FuncData} (F : FunD K "_law_seat" "_law_seat" (defArgs s_law_seat) (defBody s_law_seat) (defScope s_law_seat) [] [] f fd) (h__law_seat : Callee P w K mg base CX0 (0+n) "_law_seat" P_law_seat (sp_seat n)) : FnOk P w K mg base CX0 (0+n + 1) f fd P_law_seat (LSp K ((sp_seat (n+1)))) := by
  refine fnD0 F sc_law_seat (fun ds M Q E h => by first | (obtain ⟨rfl, _⟩ := h; rfl) | (obtain ⟨_, rfl, _⟩ := h; rfl) | (obtain ⟨_, _, rfl, _⟩ := h; rfl) | (obtain ⟨_, _, _, rfl, _⟩ := h; rfl) | (obtain ⟨_, _, _, _, rfl, _⟩ := h; rfl) | (obtain ⟨_, _, _, _, _, rfl, _⟩ := h; rfl) | (obtain ⟨_, _, _, _, _, _, rfl, _⟩ := h; rfl) | (obtain ⟨_, _, _, _, _, _, _, rfl, _⟩ := h; rfl) | (obtain ⟨_, _, _, _, _, _, _, _, rfl, _⟩ := h; rfl) | (obtain ⟨_, _, _, _, _, _, _, _, _, rfl, _⟩ := h; rfl) | (obtain ⟨_, _, _, _, _, _, _, _, _, _, rfl, _⟩ := h; rfl) | (obtain ⟨_, _, _, _, _, _, _, _, _, _, _, rfl, _⟩ := h; rfl) | (obtain ⟨_, _, _, _, _, _, _, _, _, _, _, _, rfl, _⟩ := h; rfl) | (obtain ⟨_, _, _, _, _, _, _, _, _, _, _, _, _, rfl, _⟩ := h; rfl) | (obtain ⟨_, _, _, _, _, _, _, _, _, _, _, _, _, _, rfl, _⟩ := h; rfl) | (obtain ⟨_, _, _, _, _, _, _, _, _, _, _, _, _, _, _, rfl, _⟩ := h; rfl) | (obtain ⟨_, _, _, _, _, _, _, _, _, _, _, _, _, _, _, _, rfl, _⟩ := h; rfl) | (obtain ⟨_, _, _, _, _, _, _, _, _, _, _, _, _, _, _, _, _, rfl, _⟩ := h; rfl) | (obtain ⟨_, _, _, _, _, _, _, _, _, _, _, _, _, _, _, _, _, _, rfl, _⟩ := h; rfl) | (obtain ⟨_, _, _, _, _, _, _, _, _, _, _, _, _, _, _, _, _, _, _, rfl, _⟩ := h; rfl)) fun cdv A outer s H E F0 hr => ⟨_, (dss_cons (ds_for PassesOwn.never rfl (di_items (de_ixX hr.u9 (de_var (pv 1)) (de_var (pv 0)) (fun _ _ => rfl))) (dg_name (pg_name (i := 4) sc_law_seat.nd rfl (Or.inl rfl))) (dss_one (ds_if (dt_not (dt_tru (de_ixX hr.u9 (de_var (pv 3)) (de_var (pv 4)) (fun _ _ => rfl)))) (dss_cons (ds_asg de_bl (dg_subX hr.u9 (de_var (pv 3)) (de_var (pv 4))))
      (dss_one (ds_if (dt_w (dw_or (dt_cmp (od_lt) (de_ixX hr.u9 (de_var (pv 2)) (de_var (pv 4)) (fun _ _ => rfl)) de_int (nomark _)) (dw_or1 (dt_tru (de_fn h__law_seat (hr.mono (by omega)) rfl pass0 finX0 (da_cons (de_ixX hr.u9 (de_var (pv 2)) (de_var (pv 4)) (fun _ _ => rfl)) (da_cons (de_var (pv 1)) (da_cons (de_var (pv 2)) (da_cons (de_var (pv 3)) da_nil))))))))) (dss_cons (ds_asg (de_var (pv 0)) (dg_subX hr.u9 (de_var (pv 2)) (de_var (pv 4))))
      (dss_one (ds_ret de_bl))) dss_nil))) dss_nil)))
      (dss_one (ds_ret de_bl))), fun ds M Q Ex h => ?_⟩
  obtain ⟨pw, po, pt, ways, ow, tr, k, rfl, n1, n2, n3, hW, hO, hT, hc, hk, hl, hw, hr, qy, qn⟩ := h
  walk_at "st"
  have hs : sizeLine = 16777216 := sizeLine_eq
  obtain ⟨ws, hwk⟩ : ∃ ws, ways[k]? = some ws := ⟨_, List.getElem?_eq_getElem hk⟩
  obtain ⟨hwl, hwp⟩ := hw ws (List.mem_of_getElem? hwk)
  refine seq_tail (fun σ M' => ∃ (tr1 : List Bool) (a4 : Option D), SeatPart ways ow tr ws tr1 ∧ M' = updM M pt (.lst (tr1.map D.bl)) ∧ σ = [some (.int ((k : Nat) : Int)), some (.obj pw), some (.obj po), some (.obj pt), a4]) ?_ (fun N hN => ?_)
  · rintro _ _ ⟨tr1, a4, hp, rfl, rfl⟩
    walk_at "dl"
    refine Wk.here (qn tr1 ⟨hp.lt, hp.cn, hp.more, fun w' e => ?_, hp.cl⟩)
    rw [hwk] at e
    cases e
    exact hp.all
  · refine for_pure (ws.map fun p => .int ((p : Nat) : Int)) (fun Kd hk' => ?_) (fun i σ M' => ∃ (tr1 : List Bool) (a4 : Option D), SeatPart ways ow tr (ws.take i) tr1 ∧ M' = updM M pt (.lst (tr1.map D.bl)) ∧ σ = [some (.int ((k : Nat) : Int)), some (.obj pw), some (.obj po), some (.obj pt), a4]) ⟨tr, none, ⟨rfl, Nat.le_refl _, fun _ h => h, by simp, fun p h => .inl h⟩, (updM_self hT).symm, rfl⟩ ?_ ?_
    · unfold dItems
      walk_at "dl"
      rw [ixX_obj hW]
      refine e_ix (sqD_obj hW) (v := natsD ws) (by rw [List.getElem?_map, hwk] <;> rfl) ?_
      exact hk'
    · rintro i d σ M1 N1 hd ⟨tr1, a4, hp, rfl, rfl⟩ hN1
      rw [List.getElem?_map] at hd
      obtain ⟨p, hpi, rfl⟩ := Option.map_eq_some_iff.mp hd
      simp only [nGm, List.set_cons_zero, List.set_cons_succ]
      have hpm := List.mem_of_getElem? hpi
      have hpl := hwp p hpm
      have htk : ws.take (i + 1) = ws.take i ++ [p] := by rw [List.take_add_one, hpi] <;> rfl
      obtain ⟨b, hb⟩ : ∃ b, tr1[p]? = some b := ⟨_, List.getElem?_eq_getElem (by rw [hp.lt]; exact hpl)⟩
      have hT1 : updM M pt (.lst (tr1.map D.bl)) pt = some (.lst (tr1.map D.bl)) := updM_same
      have hO1 : updM M pt (.lst (tr1.map D.bl)) po = some (.lst (ow.map D.int)) := by rw [updM_ne n3]; exact hO
      walk_at "dl"
      rw [ixX_obj hT1]
      refine e_ix (sqD_obj hT1) (v := .bl b) (by rw [List.getElem?_map, hb] <;> rfl) ⟨b, rfl, ?_⟩
      cases b with
      | true =>
        refine hN1 _ _ ⟨tr1, _, ⟨hp.lt, hp.cn, hp.more, fun q hq => ?_, hp.cl⟩, rfl, rfl⟩
        rw [htk] at hq
        rcases List.mem_append.mp hq with hq | hq
        · exact hp.all q hq
        · rw [List.mem_singleton.mp hq]
          exact hb
      | false =>
        refine .inl ⟨pt, _, ((p : Nat) : Int), p, rfl, rfl, hT1, ?_, ?_⟩
        · rw [List.length_map, hp.lt]
          exact ixN_at hpl
        obtain ⟨tr2, htr2⟩ : ∃ tr2, tr2 = tr1.set p true := ⟨_, rfl⟩
        rw [updM_updM, show (tr1.map D.bl).set p (.bl true) = tr2.map D.bl by rw [htr2, List.map_set]]
        obtain ⟨r, hrp⟩ : ∃ r, ow[p]? = some r := ⟨_, List.getElem?_eq_getElem (by rw [hl]; exact hpl)⟩
        have hT2 : updM M pt (.lst (tr2.map D.bl)) pt = some (.lst (tr2.map D.bl)) := updM_same
        have hO2 : updM M pt (.lst (tr2.map D.bl)) po = some (.lst (ow.map D.int)) := by rw [updM_ne n3]; exact hO
        walk_at "dl"
        rw [ixX_obj hO2]
        refine e_ix (sqD_obj hO2) (v := .int r) (by rw [List.getElem?_map, hrp] <;> rfl) ?_
        walk_at "dl"
        have hpl1 : p < tr1.length := by rw [hp.lt]; exact hpl
        have hpl2 : p < ow.length := by rw [hl]; exact hpl
        have h2p : tr2[p]? = some true := by rw [htr2, List.getElem?_set_self hpl1]
        have h2q : ∀ q, tr1[q]? = some true → tr2[q]? = some true := fun q hq => by
          by_cases e : q = p
          · rw [e]
            exact h2p
          · rw [htr2, List.getElem?_set_ne (fun h => e h.symm)]
            exact hq
        have h2l : tr2.length = tr.length := by rw [htr2, List.length_set, hp.lt]
        have h2c : tr2.count false + 1 = tr1.count false := by rw [htr2]; exact set_count hb
        have hcn := hp.cn
        have hne : ∀ q, tr[q]? = some true → q ≠ p := fun q hq e => by
          have := hp.more q hq
          rw [e, hb] at this
          cases this
        -- k sits at p
        have sit : ∀ (ow1 : List Int) (tr3 : List Bool), ow1.length = ow.length → SeatYes ways ow tr k (ow1.set p ((k : Nat) : Int)) tr3 → ∀ M3, M3 = updM (updM M po (.lst (ow1.map D.int))) pt (.lst (tr3.map D.bl)) → dSetLst (.obj po) (.int ((p : Nat) : Int)) (.int ((k : Nat) : Int)) M3 (Wk Q (.bl true)) := by
          intro ow1 tr3 hl1 hy M3 e3
          refine ⟨po, ow1.map D.int, ((p : Nat) : Int), p, rfl, rfl, ?_, ?_, ?_⟩
          · rw [e3, updM_ne n3, updM_same]
          · rw [List.length_map, hl1]
            exact ixN_at hpl2
          · rw [e3, updM_comm n3.symm, updM_updM, show (ow1.map D.int).set p (.int ((k : Nat) : Int)) = (ow1.set p ((k : Nat) : Int)).map D.int by rw [List.map_set]]
            exact Wk.here (qy _ _ hy)
        refine ifB (fun h => ?_) (fun h => ?_)
        · have h : r < 0 := of_decide_eq_true h
          refine .inl (sit ow tr2 rfl ⟨by rw [List.length_set], h2l, rows_free hrp h, fun q hq => ?_, fun q r' hq => ?_⟩ _ (by rw [updM_self hO]))
          · rw [List.getElem?_set_ne (fun e => hne q hq e.symm)]
          · by_cases e : q = p
            · subst e
              rw [List.getElem?_set_self hpl2] at hq
              cases hq
              exact .inr ⟨k, ws, rfl, hwk, hpm⟩
            · rw [List.getElem?_set_ne (fun h => e h.symm)] at hq
              exact .inl hq
        · have h : 0 ≤ r := by have h : ¬ r < 0 := of_decide_eq_false h; omega
          obtain ⟨rn, rfl⟩ := Int.eq_ofNat_of_zero_le h
          have hrw := hr _ (List.mem_of_getElem? hrp)
          rw [ixX_obj hO2]
          refine e_ix (sqD_obj hO2) (v := .int ((rn : Nat) : Int)) (by rw [List.getElem?_map, hrp] <;> rfl) ?_
          refine ⟨pw, po, pt, ways, ow, tr2, rn, rfl, n1, n2, n3, by rw [updM_ne n2.symm]; exact hW, hO2, hT2, by omega, by omega, by rw [hl, h2l], fun w' hw' => by rw [h2l]; exact hw w' hw', hr, fun ow' tr' hy => ?_, fun tr' hno => ?_⟩
          · refine ⟨true, rfl, ?_⟩
            have hop : ow'[p]? = some ((rn : Nat) : Int) := by rw [hy.keep p h2p, hrp]
            have hlo := hy.lo
            refine .inl (sit ow' tr' hlo ⟨by rw [List.length_set, hlo], by rw [hy.lt, h2l], ?_, fun q hq => ?_, fun q r' hq => ?_⟩ _ ?_)
            · have q1 := rows_move (k := k) hop (by omega)
              exact List.Perm.cons_inv (a := ((rn : Nat) : Int)) (q1.trans ((hy.rows.cons _).trans (.swap _ _ _)))
            · rw [List.getElem?_set_ne (fun e => hne q hq e.symm)]
              exact hy.keep q (h2q q (hp.more q hq))
            · by_cases e : q = p
              · subst e
                rw [List.getElem?_set_self (by omega)] at hq
                cases hq
                exact .inr ⟨k, ws, rfl, hwk, hpm⟩
              · rw [List.getElem?_set_ne (fun h => e h.symm)] at hq
                exact hy.ok q r' hq
            · rw [updM_comm n3.symm, updM_updM, updM_comm n3]
          · refine ⟨false, rfl, ?_⟩
            rw [updM_updM]
            have up : ∀ q, tr2[q]? = some true → tr'[q]? = some true := hno.more
            obtain ⟨wr, hwr⟩ : ∃ wr, ways[rn]? = some wr := ⟨_, List.getElem?_eq_getElem (by omega)⟩
            have hnc := hno.cn
            refine hN1 _ _ ⟨tr', _, ⟨by rw [hno.lt, h2l], by omega, fun q hq => up q (h2q q (hp.more q hq)), fun q hq => ?_, fun q hq => ?_⟩, rfl, rfl⟩
            · rw [htk] at hq
              rcases List.mem_append.mp hq with hq | hq
              · exact up q (h2q q (hp.all q hq))
              · rw [List.mem_singleton.mp hq]
                exact up p h2p
            · rcases hno.cl q hq with h3 | h3
              · by_cases e : q = p
                · subst e
                  exact .inr ⟨rn, wr, hrp, hwr, hno.all wr hwr⟩
                · rw [htr2, List.getElem?_set_ne (fun h => e h.symm)] at h3
                  rcases hp.cl q h3 with h4 | ⟨n', w', h4, h5, h6⟩
                  · exact .inl h4
                  · exact .inr ⟨n', w', h4, h5, fun u hu => up u (h2q u (h6 u hu))⟩
              · exact .inr h3
    · rintro σ M1 ⟨tr1, a4, hp, rfl, rfl⟩
      rw [List.length_map, List.take_length] at hp
      exact hN _ _ ⟨tr1, a4, hp, rfl, rfl⟩
end
end K20
namespace K20
open PySem PySem.Spec L2 DL Syn Mi Lb Bx Mt
local macro_rules | `(tactic| walk_at "st") => `(tactic| simp only [start_def, List.map_cons, List.map_nil, List.length_cons, List.length_nil, List.cons_append, List.nil_append, Nat.zero_add, Nat.reduceAdd, Nat.reduceSub, List.replicate])
local macro_rules | `(tactic| walk_at "dl") => `(tactic| simp only [dSeq, dNext, dDrop, dRet, dRetF, dRetN, dIfS, dAsg, dAug, dPar, nGm, nTup, nCons, nNil, dVar, dC, dOp, dUn, dCons, dNil, dTup, dLst, dB, dTru, dAnd, dOr, dNot, dAndV, dOrV, dNotV, dIf, dChain, dCB, dCall, dSlE, dNoPart, dPart, dRev, dS0, dS1, dBL, dBL0, dIsi, dBreak, dCont, List.set_cons_zero, List.set_cons_succ, List.getElem?_cons_zero, List.getElem?_cons_succ, ifB_t, ifB_f, e_new_f, e_new_t, e_add_int, e_add_str, e_add_tup, e_add_pl, e_len_pl, e_sl_pl, e_sl_last, e_add_lst, e_sub, e_mul, e_mul_str, e_mul_lst, e_div, e_mod, e_pow, e_neg, e_eq_int, e_eq_str, e_isN_non, e_isN_obj, e_isN_tup, e_isN_lst, e_lt_int, e_lt_str, e_le_int, e_le_str, e_gt, e_ge, e_in_str, e_t0, e_t1, e_t2, e_t3, e_t4, e_t5, e_l0, e_l1, e_l2, e_l3, e_sl_tup, e_sl_rdl, e_sl_str, e_sl_lst, e_len_str, e_len_lst, e_len_tup, e_int, e_tupC_tup, e_tupC_lst, e_iadd_int, e_iadd_str, e_isub, tru_bl, tru_int, tru_non, tru_lst, tru_tup, ex_some, bne_f, bne_t, e_nSub, cxK, cxP, cxW, decide_true, e_fld, e_sfld, e_meth, e_fldX, e_methX, lsD_lst, dDM, dDNewX, dPairs, dDisp, dFz, nSubX, dLockE, dLockS, dListV, ixX_tup, ixX_pl, ixX_lst, ixX_str, iaddX_int, iaddX_str, imul_int, e_isN_str, e_isN_int, sz0, sz1, sz2, sz3, sz4, sz5, sz6, sz7, sz8, true_and])
local macro_rules | `(tactic| walk_at "if") => `(tactic| simp only [dIfS, dVar, dC, dOp, dUn, dCons, dNil, dB, dTru, dAnd, dOr, dNot, dChain, dCB, List.getElem?_cons_zero, List.getElem?_cons_succ, ifB_t, ifB_f, e_eq_int, e_eq_str, e_lt_int, e_le_int, e_gt, e_ge, e_isN_non, e_isN_obj, e_isN_tup, e_isN_lst, e_isN_str, e_isN_int, e_len_str, e_len_lst, e_len_tup, tru_bl, tru_int, tru_non, tru_lst, tru_tup, ex_some, bne_f, bne_t, decide_true, cxK, cxP, cxW, true_and])
local macro_rules | `(tactic| walk_at "lit") => `(tactic| simp only [Int.reduceEq, Int.reduceLT, Int.reduceLE, Int.reduceMod, Int.reduceAdd, Int.reduceSub, eq_self, ne_eq, not_true_eq_false, not_false_eq_true, decide_true, decide_false, ifB_t, ifB_f, bne_f, bne_t, e_l0, e_l1, e_l2, e_l3, e_t0, e_t1, e_t2, true_and])
section
variable {P : Program} {w : World} {K : PySem.W.Frag} {mg : Str → Option Value} {base : Heap}
theorem rows_one {ow : List Int} (hn : (rowsO ow).Nodup) {p q : Nat} {r : Int} (hp : ow[p]? = some r) (hq : ow[q]? = some r) (hr : 0 ≤ r) : p = q := by
  have key : ∀ {p q : Nat}, p < q → ow[p]? = some r → ow[q]? = some r → False := fun {p q} hlt hp hq => by
    obtain ⟨e1, _⟩ := rows_split hp 0
    have hm : r ∈ ow.drop (p + 1) := by
      refine List.mem_of_getElem? (i := q - (p + 1)) ?_
      rw [List.getElem?_drop, show p + 1 + (q - (p + 1)) = q by omega]
      exact hq
    rw [e1] at hn
    unfold rowsO at hn
    rw [List.filter_append, List.filter_cons, if_pos (decide_eq_true hr), List.nodup_append] at hn
    exact (List.nodup_cons.mp hn.2.1).1 (List.mem_filter.mpr ⟨hm, decide_eq_true hr⟩)
  rcases Nat.lt_trichotomy p q with h | h | h
  · exact (key h hp hq).elim
  · exact h
  · exact (key h hq hp).elim
theorem seat_none {ways : List (List Nat)} {ow : List Int} {k m : Nat} {tr' : List Bool} (hno : SeatNo ways ow (List.replicate m false) k tr') (hk : k < ways.length) (hrows : (rowsO ow).Perm ((List.range k).map fun i => ((i : Nat) : Int))) : ¬ ∃ f, Full ways f := by
  rintro ⟨f, hf⟩
  have hnd : (rowsO ow).Nodup := by
    refine hrows.nodup_iff.mpr ?_
    rw [List.nodup_iff_pairwise_ne, List.pairwise_map]
    refine List.Pairwise.imp_of_mem ?_ (List.nodup_iff_pairwise_ne.mp List.nodup_range)
    intro a b _ _ hab e
    exact hab (by omega)
  let Z : List Nat := (List.range m).filter fun p => decide (tr'[p]? = some true)
  have hlt := hno.lt
  rw [List.length_replicate] at hlt
  have inZ : ∀ p, tr'[p]? = some true → p ∈ Z := fun p h => List.mem_filter.mpr ⟨List.mem_range.mpr (by have := (List.getElem?_eq_some_iff.mp h).1; omega), decide_eq_true h⟩
  have ofZ : ∀ p ∈ Z, ∃ (n : Nat) (w : List Nat), ow[p]? = some ((n : Nat) : Int) ∧ ways[n]? = some w ∧ ∀ q ∈ w, tr'[q]? = some true := fun p h => by
    rcases hno.cl p (of_decide_eq_true (List.mem_filter.mp h).2) with h2 | h2
    · obtain ⟨h3, h4⟩ := List.getElem?_eq_some_iff.mp h2
      rw [List.getElem_replicate] at h4
      cases h4
    · exact h2
  have hR := no_full (R := k :: Z.map fun p => (ow.getD p 0).toNat) (Z := Z) hf ?_ ?_
  · rw [List.length_cons, List.length_map] at hR
    omega
  · rw [List.nodup_cons]
    refine ⟨fun hm => ?_, ?_⟩
    · obtain ⟨p, hp, e⟩ := List.mem_map.mp hm
      obtain ⟨n, w, h1, _⟩ := ofZ p hp
      rw [List.getD_eq_getElem?_getD, h1] at e
      have e : n = k := by simpa using e
      have hin : ((n : Nat) : Int) ∈ rowsO ow := List.mem_filter.mpr ⟨List.mem_of_getElem? h1, decide_eq_true (by omega)⟩
      obtain ⟨i, hi, e2⟩ := List.mem_map.mp (hrows.mem_iff.mp hin)
      have := List.mem_range.mp hi
      omega
    · rw [List.nodup_iff_pairwise_ne, List.pairwise_map]
      refine List.Pairwise.imp_of_mem ?_ (List.nodup_iff_pairwise_ne.mp (List.nodup_range.filter _))
      intro a b ha hb hab e
      obtain ⟨n, _, h1, _⟩ := ofZ a ha
      obtain ⟨n', _, h2, _⟩ := ofZ b hb
      rw [List.getD_eq_getElem?_getD, List.getD_eq_getElem?_getD, h1, h2] at e
      have e : n = n' := by simpa using e
      subst e
      exact hab (rows_one hnd h1 h2 (by omega))
  · intro r hr
    rcases List.mem_cons.mp hr with rfl | hr
    · exact ⟨_, List.getElem?_eq_getElem hk, fun p hp => inZ p (hno.all _ (List.getElem?_eq_getElem hk) p hp)⟩
    · obtain ⟨p, hp, rfl⟩ := List.mem_map.mp hr
      obtain ⟨n, w, h1, h2, h3⟩ := ofZ p hp
      refine ⟨w, ?_, fun q hq => inZ q (h3 q hq)⟩
      rw [List.getD_eq_getElem?_getD, h1]
      simpa using h2
/-- each owned place stands in its row's ways -/
def Legal (ways : List (List Nat)) (ow : List Int) : Prop := ∀ (p : Nat) (r : Int), ow[p]? = some r → 0 ≤ r → ∃ (n : Nat) (w : List Nat), r = ((n : Nat) : Int) ∧ ways[n]? = some w ∧ p ∈ w
theorem seat_all {ways : List (List Nat)} {ow : List Int} (hrows : (rowsO ow).Perm ((List.range ways.length).map fun i => ((i : Nat) : Int))) (hl : Legal ways ow) : ∃ f, Full ways f := by
  have ex : ∀ i, i < ways.length → ∃ p, ow[p]? = some ((i : Nat) : Int) := fun i hi => by
    have h1 : ((i : Nat) : Int) ∈ rowsO ow := hrows.mem_iff.mpr (List.mem_map.mpr ⟨i, List.mem_range.mpr hi, rfl⟩)
    exact List.getElem?_of_mem (List.mem_filter.mp h1).1
  obtain ⟨g, hg⟩ : ∃ g : Nat → Nat, ∀ i, i < ways.length → ow[g i]? = some ((i : Nat) : Int) :=
    ⟨fun i => @dite _ (i < ways.length) (Nat.decLt _ _) (fun h => Classical.choose (ex i h)) (fun _ => 0), fun i hi => by
      dsimp only
      rw [dif_pos hi]
      exact Classical.choose_spec (ex i hi)⟩
  refine ⟨(List.range ways.length).map g, by rw [List.length_map, List.length_range], ?_, fun i p w hi hw => ?_⟩
  · rw [List.nodup_iff_pairwise_ne, List.pairwise_map]
    refine List.Pairwise.imp_of_mem ?_ (List.nodup_iff_pairwise_ne.mp List.nodup_range)
    intro a b ha hb hab e
    have h1 := hg a (List.mem_range.mp ha)
    have h2 := hg b (List.mem_range.mp hb)
    rw [e, h2] at h1
    injection h1 with h1
    exact hab (by omega)
  · rw [List.getElem?_map] at hi
    obtain ⟨j, hj, rfl⟩ := Option.map_eq_some_iff.mp hi
    obtain ⟨hjl, hje⟩ := List.getElem?_eq_some_iff.mp hj
    rw [List.length_range] at hjl
    rw [List.getElem_range] at hje
    subst hje
    obtain ⟨n, w', e1, e2, e3⟩ := hl (g i) _ (hg i hjl) (by omega)
    have e1 : i = n := by omega
    subst e1
    rw [hw] at e2
    cases e2
    exact e3
def sp_llies (n : Nat) : SpD := fun ds M Q _ => ∃ (s t : Tre), ds = [s.d, t.d] ∧ dpT s < n ∧ OkT s ∧ OkT t ∧ ∀ b, (b = true ↔ Lies s t) → Q (.bl b) M
theorem ok__law_lies (T : Txt K mg) {f : Addr} {fd : FuncData} (F : FunD K "_law_lies" "_law_lies" (defArgs s_law_lies) (defBody s_law_lies) (defScope s_law_lies) [] [] f fd) (h__law_lies : Callee P w K mg base CX0 (100+n) "_law_lies" P_law_lies (sp_llies n)) (h__law_seat : Callee P w K mg base CX0 (100) "_law_seat" P_law_seat (sp_seat 100)) : FnOk P w K mg base CX0 (100+n + 1) f fd P_law_lies (LSp K ((sp_llies (n+1)))) := by
  refine fnD0 F sc_law_lies (fun ds M Q E h => by first | (obtain ⟨rfl, _⟩ := h; rfl) | (obtain ⟨_, rfl, _⟩ := h; rfl) | (obtain ⟨_, _, rfl, _⟩ := h; rfl) | (obtain ⟨_, _, _, rfl, _⟩ := h; rfl) | (obtain ⟨_, _, _, _, rfl, _⟩ := h; rfl) | (obtain ⟨_, _, _, _, _, rfl, _⟩ := h; rfl) | (obtain ⟨_, _, _, _, _, _, rfl, _⟩ := h; rfl) | (obtain ⟨_, _, _, _, _, _, _, rfl, _⟩ := h; rfl) | (obtain ⟨_, _, _, _, _, _, _, _, rfl, _⟩ := h; rfl) | (obtain ⟨_, _, _, _, _, _, _, _, _, rfl, _⟩ := h; rfl) | (obtain ⟨_, _, _, _, _, _, _, _, _, _, rfl, _⟩ := h; rfl) | (obtain ⟨_, _, _, _, _, _, _, _, _, _, _, rfl, _⟩ := h; rfl) | (obtain ⟨_, _, _, _, _, _, _, _, _, _, _, _, rfl, _⟩ := h; rfl) | (obtain ⟨_, _, _, _, _, _, _, _, _, _, _, _, _, rfl, _⟩ := h; rfl) | (obtain ⟨_, _, _, _, _, _, _, _, _, _, _, _, _, _, rfl, _⟩ := h; rfl) | (obtain ⟨_, _, _, _, _, _, _, _, _, _, _, _, _, _, _, rfl, _⟩ := h; rfl) | (obtain ⟨_, _, _, _, _, _, _, _, _, _, _, _, _, _, _, _, rfl, _⟩ := h; rfl) | (obtain ⟨_, _, _, _, _, _, _, _, _, _, _, _, _, _, _, _, _, rfl, _⟩ := h; rfl) | (obtain ⟨_, _, _, _, _, _, _, _, _, _, _, _, _, _, _, _, _, _, rfl, _⟩ := h; rfl) | (obtain ⟨_, _, _, _, _, _, _, _, _, _, _, _, _, _, _, _, _, _, _, rfl, _⟩ := h; rfl)) fun cdv A outer s H E F0 hr => ⟨_, (dss_cons (ds_if (dt_w (dw_or (dt_cmp (od_ne hr.units) (de_ixX hr.u9 (de_var (pv 0)) de_int (fun _ _ => rfl)) (de_ixX hr.u9 (de_var (pv 1)) de_int (fun _ _ => rfl)) (nomark _)) (dw_or (dt_cmp (od_ne hr.units) (de_ixX hr.u9 (de_var (pv 0)) de_int (fun _ _ => rfl)) (de_ixX hr.u9 (de_var (pv 1)) de_int (fun _ _ => rfl)) (nomark _)) (dw_or1 (dt_cmp (od_gt) (de_callB cd_len rfl T.len (by decide +kernel) (da_cons (de_ixX hr.u9 (de_var (pv 0)) de_int (fun _ _ => rfl)) da_nil)) (de_callB cd_len rfl T.len (by decide +kernel) (da_cons (de_ixX hr.u9 (de_var (pv 1)) de_int (fun _ _ => rfl)) da_nil)) (nomark _)))))) (dss_one (ds_ret de_bl)) dss_nil)
      (dss_cons (ds_set (i := 2) sc_law_lies.nd rfl (Or.inl rfl) (de_lst (own := true) da_nil))
      (dss_cons (ds_for PassesOwn.never rfl (di_items (de_ixX hr.u9 (de_var (pv 0)) de_int (fun _ _ => rfl))) (dg_name (pg_name (i := 3) sc_law_lies.nd rfl (Or.inr rfl))) (dss_one (ds_expr (de_bl1 PySem.F.slot_list_append PySem.F.type_list_append md_append (de_var (pv 2)) (da_cons (de_lcG (own := false) (ow := [("k", 4)]) (put1_ok (j := 4)) rfl sc_law_lies.nd (di_range1 rfl T.range (da_cons (de_callB cd_len rfl T.len (by decide +kernel) (da_cons (de_ixX hr.u9 (de_var (pv 1)) de_int (fun _ _ => rfl)) da_nil)) da_nil)) (blkOk_by (N := N_law_lies) (sc := defScope s_law_lies) (by decide +kernel)) (fun _ _ _ _ _ => (pg_name (i := 4) sc_law_lies.nd rfl (by first | exact Or.inl rfl | exact Or.inr rfl))) (fun _ _ _ _ _ => dts_one (dt_tru (de_fn h__law_lies (hr.mono (by omega)) rfl pass0 finX0 (da_cons (de_var (pv 3)) (da_cons (de_ixP (pw := ⟨P, w⟩) rfl hr.u9 (de_ixP (pw := ⟨P, w⟩) rfl hr.u9 (de_var (pv 1)) de_int (fun _ _ => rfl)) (de_var (pv 4)) (fun _ _ => rfl)) da_nil))))) (fun _ _ _ _ _ => (de_var (pv 4)))) da_nil)))))
      (dss_cons (ds_setLc (own := true) (x := "tree") (j := 3) rfl sc_law_lies.nd (i := 5) rfl rfl (sw_true rfl rfl rfl (by decide +kernel)) (di_items (de_ixX hr.u9 (de_var (pv 1)) de_int (fun _ _ => rfl))) (blkOk_by (N := N_law_lies) (sc := defScope s_law_lies) (by decide +kernel)) (fun _ _ _ _ _ => pg_name (i := 3) sc_law_lies.nd rfl (by first | exact Or.inl rfl | exact Or.inr rfl)) (fun _ _ _ _ _ => (de_un ud_neg de_int)))
      (dss_cons (ds_for PassesOwn.never rfl (di_range1 rfl T.range (da_cons (de_callB cd_len rfl T.len (by decide +kernel) (da_cons (de_var (pv 2)) da_nil)) da_nil)) (dg_name (pg_name (i := 4) sc_law_lies.nd rfl (Or.inl rfl))) (dss_one (ds_if (dt_not (dt_tru (de_fn h__law_seat (hr.mono (by omega)) rfl pass0 finX0 (da_cons (de_var (pv 4)) (da_cons (de_var (pv 2)) (da_cons (de_var (pv 5)) (da_cons (de_lc (own := true) (x := "tree") (j := 3) rfl sc_law_lies.nd (di_items (de_ixX hr.u9 (de_var (pv 1)) de_int (fun _ _ => rfl))) (blkOk_by (N := N_law_lies) (sc := defScope s_law_lies) (by decide +kernel)) (fun _ _ _ _ _ => pg_name (i := 3) sc_law_lies.nd rfl (by first | exact Or.inl rfl | exact Or.inr rfl)) (fun _ _ _ _ _ => de_bl)) da_nil))))))) (dss_one (ds_ret de_bl)) dss_nil)))
      (dss_one (ds_ret de_bl))))))), fun ds M Q Ex h => ?_⟩
  obtain ⟨s, t, rfl, hn, hs1, ht1, q⟩ := h
  walk_at "st"
  have hs : sizeLine = 16777216 := sizeLine_eq
  obtain ⟨p, r, ks⟩ := s
  obtain ⟨p', r', ks'⟩ := t
  unfold OkT at hs1 ht1
  unfold dpT at hn
  obtain ⟨a1, a2, a3, a4, a5, a6⟩ := hs1
  obtain ⟨b1, b2, b3, b4, b5, b6⟩ := ht1
  have hd : ∀ (p r : List Str) (ks : List Tre), Tre.d (.mk p r ks) = .tup [.tup (p.map D.str), .tup (r.map D.str), .tup (ks.map Tre.d)] := fun p r ks => by unfold Tre.d; rw [tresD_map]
  simp only [hd]
  refine seq_tail (fun σ M' => M = M' ∧ p = p' ∧ r = r' ∧ ks.length ≤ ks'.length ∧ σ = [some (.tup [.tup (p.map D.str), .tup (r.map D.str), .tup (ks.map Tre.d)]), some (.tup [.tup (p'.map D.str), .tup (r'.map D.str), .tup (ks'.map Tre.d)]), none, none, none, none]) ?_ (fun N hN => ?_)
  rotate_left
  · walk_at "dl"
    refine e_eq_strs a1 b1 ?_
    have no : ¬ Lies (.mk p r ks) (.mk p' r' ks') → Wk Q (.bl false) M := fun h => Wk.here (q false ⟨(fun e => nomatch e), fun hl => absurd hl h⟩)
    refine ifB (fun h => no fun hl => ?_) (fun h => ?_)
    · have h : ¬ p = p' := by simpa using h
      exact h (lies_iff.mp hl).1
    have e1 : p = p' := by simpa using h
    refine e_eq_strs a2 b2 ?_
    refine ifB (fun h => no fun hl => ?_) (fun h => ?_)
    · have h : ¬ r = r' := by simpa using h
      exact h (lies_iff.mp hl).2.1
    have e2 : r = r' := by simpa using h
    refine ifB (fun h => no fun hl => ?_) (fun h => ?_)
    · have h := of_decide_eq_true h
      rw [List.length_map, List.length_map] at h
      have := (lies_iff.mp hl).2.2.len
      omega
    have h := of_decide_eq_false h
    rw [List.length_map, List.length_map] at h
    exact hN _ _ ⟨rfl, e1, e2, by omega, rfl⟩
  rintro _ _ ⟨rfl, rfl, rfl, hkl, rfl⟩
  obtain ⟨u, hu⟩ : ∃ u, u = [some (D.tup [.tup (p.map D.str), .tup (r.map D.str), .tup (ks.map Tre.d)]), some (.tup [.tup (p.map D.str), .tup (r.map D.str), .tup (ks'.map Tre.d)])] := ⟨_, rfl⟩
  refine seq_tail (fun σ M' => ∃ pw, M pw = none ∧ M' = updM M pw (.lst []) ∧ σ = [some (.tup [.tup (p.map D.str), .tup (r.map D.str), .tup (ks.map Tre.d)]), some (.tup [.tup (p.map D.str), .tup (r.map D.str), .tup (ks'.map Tre.d)]), some (.obj pw), none, none, none]) ?_ (fun N hN => by walk_at "dl"; exact fun pw hpw => hN _ _ ⟨pw, hpw, rfl, rfl⟩)
  rintro _ _ ⟨pw, hpw, rfl, rfl⟩
  let wf : Tre → D → Bool := fun x d => match d with
    | .int k => @decide (∃ y, ks'[k.toNat]? = some y ∧ Lies x y) (Classical.propDecidable _)
    | _ => false
  let wy : Tre → List Nat := fun x => (List.range ks'.length).filter fun k => wf x (.int ((k : Nat) : Int))
  refine seq_tail (fun σ M' => ∃ a3 a4, M' = updM M pw (.lst ((ks.map wy).map natsD)) ∧ σ = [some (.tup [.tup (p.map D.str), .tup (r.map D.str), .tup (ks.map Tre.d)]), some (.tup [.tup (p.map D.str), .tup (r.map D.str), .tup (ks'.map Tre.d)]), some (.obj pw), a3, a4, none]) ?_ (fun N hN => ?_)
  rotate_left
  · refine for_pure (ks.map Tre.d) (fun Kd hk => ?_) (fun i σ M' => ∃ a3 a4, M' = updM M pw (.lst (((ks.take i).map wy).map natsD)) ∧ σ = [some (.tup [.tup (p.map D.str), .tup (r.map D.str), .tup (ks.map Tre.d)]), some (.tup [.tup (p.map D.str), .tup (r.map D.str), .tup (ks'.map Tre.d)]), some (.obj pw), a3, a4, none]) ⟨none, none, rfl, rfl⟩ ?_ ?_
    · unfold dItems
      walk_at "dl"
      exact hk
    · rintro i d σ M1 N1 hd ⟨a3, a4, rfl, rfl⟩ hN1
      rw [List.getElem?_map] at hd
      obtain ⟨x, hx, rfl⟩ := Option.map_eq_some_iff.mp hd
      simp only [nGm, List.set_cons_zero, List.set_cons_succ]
      walk_at "dl"
      have hL : updM M pw (.lst (((ks.take i).map wy).map natsD)) pw = some (.lst (((ks.take i).map wy).map natsD)) := updM_same
      have hxm := List.mem_of_getElem? hx
      refine ⟨isLst_of hL, ?_⟩
      refine lcg_pure (upto 0 ks'.length) (fun _ => True) (wf x) id (fun Kd hk => ?_) (by rw [upto_len]; omega) (fun _ _ _ => trivial) (fun d hd => ?_) ?_
      · unfold dRange1
        walk_at "dl"
        rw [List.length_map]
        exact ⟨⟨by omega, by omega⟩, hk⟩
      · obtain ⟨j, hj⟩ := List.getElem?_of_mem hd
        obtain ⟨rfl, hj2⟩ := upto_get hj
        obtain ⟨y, hy⟩ : ∃ y, ks'[j]? = some y := ⟨_, List.getElem?_eq_getElem hj2⟩
        refine ⟨_, rfl, fun M' _ => ⟨fun Q' q' => ?_, fun _ Q' q' => ?_⟩⟩
        · walk_at "dl"
          rw [show (0 : Int) + (j : Nat) = ((j : Nat) : Int) by omega]
          refine e_ix (x := .tup (ks'.map Tre.d)) rfl (by rw [List.getElem?_map, hy] <;> rfl) ?_
          refine ⟨x, y, rfl, ?_, okTs_mem a6 hxm, okTs_mem b6 (List.mem_of_getElem? hy), fun b hb => ?_⟩
          · have := dpTs_mem hxm
            omega
          · refine ⟨b, rfl, ?_⟩
            have e : b = wf x (.int (0 + ((j : Nat) : Int))) := by
              rw [show (0 : Int) + (j : Nat) = ((j : Nat) : Int) by omega]
              show b = @decide (∃ y, ks'[((j : Nat) : Int).toNat]? = some y ∧ Lies x y) (Classical.propDecidable _)
              have ej : ((j : Nat) : Int).toNat = j := by omega
              have hiff : (∃ y, ks'[((j : Nat) : Int).toNat]? = some y ∧ Lies x y) ↔ b = true := by
                rw [ej, hb]
                constructor
                · rintro ⟨z, hz, hl⟩
                  rw [hy] at hz
                  cases hz
                  exact hl
                · exact fun hl => ⟨y, hy, hl⟩
              cases b with
              | true => exact (@decide_eq_true _ (Classical.propDecidable _) (hiff.mpr rfl)).symm
              | false => exact (@decide_eq_false _ (Classical.propDecidable _) (fun h => nomatch hiff.mp h)).symm
            rw [e]
            exact q'
        · walk_at "dl"
          exact q'
      · rw [e_new_f, List.map_id, e_append hL]
        have hkl2 := (List.getElem?_eq_some_iff.mp hx).1
        refine ⟨by simp only [List.length_map, List.length_take]; omega, ?_⟩
        have e : D.lst ((upto 0 ks'.length).filter (wf x)) = natsD (wy x) := by
          unfold natsD upto
          rw [List.filter_map]
          congr 1
          simp only [wy, Function.comp_def, Int.zero_add]
        rw [e, updM_updM, show ((ks.take i).map wy).map natsD ++ [natsD (wy x)] = ((ks.take (i + 1)).map wy).map natsD by rw [List.take_add_one, hx]; simp]
        exact hN1 _ _ ⟨_, _, rfl, rfl⟩
    · rintro σ M1 ⟨a3, a4, rfl, rfl⟩
      rw [List.length_map, List.take_length]
      exact hN _ _ ⟨_, _, rfl, rfl⟩
  rintro _ _ ⟨a3, a4, rfl, rfl⟩
  obtain ⟨W, hW⟩ : ∃ W, W = updM M pw (.lst ((ks.map wy).map natsD)) := ⟨_, rfl⟩
  have hWp : W pw = some (.lst ((ks.map wy).map natsD)) := by rw [hW]; exact updM_same
  rw [← hW]
  let m : Nat := ks'.length
  refine seq_tail (fun σ M' => ∃ po, W po = none ∧ M' = updM W po (.lst ((List.replicate ks'.length (-1 : Int)).map D.int)) ∧ σ = [some (.tup [.tup (p.map D.str), .tup (r.map D.str), .tup (ks.map Tre.d)]), some (.tup [.tup (p.map D.str), .tup (r.map D.str), .tup (ks'.map Tre.d)]), some (.obj pw), a3, a4, some (.obj po)]) ?_ (fun N hN => ?_)
  rotate_left
  · walk_at "dl"
    refine lc_pure (ks'.map Tre.d) (fun _ => .int (-1)) (fun Kd hk => ?_) (by rw [List.length_map]; omega) (fun i d M' Q' hd _ q' => ?_) ?_
    · unfold dItems
      walk_at "dl"
      exact hk
    · walk_at "dl"
      exact q'
    · rw [show (ks'.map Tre.d).map (fun _ => D.int (-1)) = (List.replicate ks'.length (-1 : Int)).map D.int by rw [List.map_map, List.map_replicate]; exact List.map_const' ..]
      walk_at "dl"
      exact fun po hpo => hN _ _ ⟨po, hpo, rfl, rfl⟩
  rintro _ _ ⟨po, hpo, rfl, rfl⟩
  have npo : po ≠ pw := (neM hWp hpo).symm
  have hMW : ∀ q o, M q = some o → W q = some o := fun q o hq => by
    rw [hW, updM_ne (neM hq hpw)]
    exact hq
  have hEmb : (∃ f, Full (ks.map wy) f) ↔ Emb Lies ks ks' := emb_full (by rw [List.length_map]) fun i w x hi hx p => by
    rw [List.getElem?_map, hx] at hi
    have hi : some (wy x) = some w := hi
    cases hi
    constructor
    · intro h
      obtain ⟨h1, h2⟩ := List.mem_filter.mp h
      have h3 : ∃ y, ks'[((p : Nat) : Int).toNat]? = some y ∧ Lies x y := @of_decide_eq_true _ (Classical.propDecidable _) h2
      have e : ((p : Nat) : Int).toNat = p := by omega
      rw [e] at h3
      exact h3
    · rintro ⟨y, h1, h2⟩
      have e : ((p : Nat) : Int).toNat = p := by omega
      exact List.mem_filter.mpr ⟨List.mem_range.mpr (List.getElem?_eq_some_iff.mp h1).1, @decide_eq_true _ (Classical.propDecidable _) ⟨y, by rw [e]; exact h1, h2⟩⟩
  let S2 : Option D → DS := fun a4 => [some (.tup [.tup (p.map D.str), .tup (r.map D.str), .tup (ks.map Tre.d)]), some (.tup [.tup (p.map D.str), .tup (r.map D.str), .tup (ks'.map Tre.d)]), some (.obj pw), a3, a4, some (.obj po)]
  refine seq_tail (fun σ M' => ∃ (ow : List Int), (∀ q o, M q = some o → M' q = some o) ∧ (rowsO ow).Perm ((List.range ks.length).map fun i => ((i : Nat) : Int)) ∧ Legal (ks.map wy) ow) ?_ (fun N hN => ?_)
  · rintro σ M' ⟨ow, hk, hr2, hl2⟩
    walk_at "dl"
    exact ⟨M, hk, q true ⟨fun _ => lies_iff.mpr ⟨rfl, rfl, hEmb.mp (seat_all (by rw [List.length_map]; exact hr2) hl2)⟩, fun _ => rfl⟩⟩
  refine for_pure (upto 0 ks.length) (fun Kd hk => ?_) (fun i σ M' => ∃ (ow : List Int) (a4 : Option D), M' po = some (.lst (ow.map D.int)) ∧ M' pw = some (.lst ((ks.map wy).map natsD)) ∧ (∀ q o, M q = some o → M' q = some o) ∧ ow.length = ks'.length ∧ (rowsO ow).Perm ((List.range i).map fun i => ((i : Nat) : Int)) ∧ Legal (ks.map wy) ow ∧ σ = S2 a4)
    ⟨List.replicate ks'.length (-1), a4, updM_same, by rw [updM_ne npo.symm]; exact hWp, fun q o hq => by rw [updM_ne (neM (hMW q o hq) hpo)]; exact hMW q o hq, by rw [List.length_replicate], ?_, ?_, rfl⟩ ?_ ?_
  · unfold dRange1
    walk_at "dl"
    rw [e_len_obj (by rw [updM_ne npo.symm]; exact hWp), List.length_map, List.length_map]
    walk_at "dl"
    refine ⟨⟨by omega, by omega⟩, ?_⟩
    rw [show ((ks.length : Nat) : Int).toNat = ks.length by omega]
    exact hk
  · have e : rowsO (List.replicate ks'.length (-1)) = [] := List.filter_eq_nil_iff.mpr fun x hx => by
      rw [List.eq_of_mem_replicate hx]
      decide
    rw [e]
    exact List.Perm.refl _
  · intro p1 r1 h1 h2
    rw [List.eq_of_mem_replicate (List.mem_of_getElem? h1)] at h2
    exact absurd h2 (by decide)
  · rintro i d σ M1 N1 hd ⟨ow, a4, hO, hP, hk, hol, hrw, hlg, rfl⟩ hN1
    obtain ⟨rfl, hi⟩ := upto_get hd
    rw [show (0 : Int) + (i : Nat) = ((i : Nat) : Int) by omega]
    simp only [S2, nGm, List.set_cons_zero, List.set_cons_succ]
    walk_at "dl"
    refine lc_pure (ks'.map Tre.d) (fun _ => .bl false) (fun Kd hk => ?_) (by rw [List.length_map]; omega) (fun i d M' Q' hd _ q' => ?_) ?_
    · unfold dItems
      walk_at "dl"
      exact hk
    · walk_at "dl"
      exact q'
    rw [show (ks'.map Tre.d).map (fun _ => D.bl false) = (List.replicate ks'.length false).map D.bl by rw [List.map_map, List.map_replicate]; exact List.map_const' ..]
    walk_at "dl"
    intro pt hpt
    have nop : po ≠ pt := neM hO hpt
    have npp : pt ≠ pw := (neM hP hpt).symm
    refine ⟨pw, po, pt, ks.map wy, ow, List.replicate ks'.length false, i, rfl, npo, npp, nop, by rw [updM_ne npp.symm]; exact hP, by rw [updM_ne nop]; exact hO, updM_same, ?_, by rw [List.length_map]; exact hi, by rw [hol, List.length_replicate], ?_, ?_, fun ow' tr' hy => ?_, fun tr' hno => ?_⟩
    · rw [List.count_replicate_self]
      omega
    · intro w' hw'
      obtain ⟨x, _, rfl⟩ := List.mem_map.mp hw'
      refine ⟨?_, fun p1 hp1 => ?_⟩
      · have := List.length_filter_le (fun k => wf x (.int ((k : Nat) : Int))) (List.range ks'.length)
        rw [List.length_range] at this
        show (List.filter _ _).length ≤ 1000
        omega
      · rw [List.length_replicate]
        exact List.mem_range.mp (List.mem_filter.mp hp1).1
    · intro r1 hr1
      rw [List.length_map]
      by_cases h0 : 0 ≤ r1
      · have h1 : r1 ∈ rowsO ow := List.mem_filter.mpr ⟨hr1, decide_eq_true h0⟩
        obtain ⟨j, hj, e⟩ := List.mem_map.mp (hrw.mem_iff.mp h1)
        have := List.mem_range.mp hj
        omega
      · omega
    · refine ⟨true, rfl, ?_⟩
      refine hN1 _ _ ⟨ow', _, by rw [updM_ne nop, updM_same], by rw [updM_ne npp.symm, updM_ne npo.symm, updM_ne npp.symm]; exact hP, fun q1 o1 hq1 => ?_, by rw [hy.lo, hol], ?_, ?_, rfl⟩
      · have h1 := hk q1 o1 hq1
        rw [updM_ne (neM h1 hpt), updM_ne (neM (hMW q1 o1 hq1) hpo), updM_ne (neM h1 hpt)]
        exact h1
      · refine hy.rows.trans ?_
        rw [List.range_succ, List.map_append]
        exact ((hrw.cons _).trans (List.perm_append_singleton _ _).symm)
      · intro p1 r1 h1 h2
        rcases hy.ok p1 r1 h1 with h3 | h3
        · exact hlg p1 r1 h3 h2
        · exact h3
    · refine ⟨false, rfl, ?_⟩
      refine ⟨M, fun q1 o1 hq1 => ?_, q false ⟨(fun e => nomatch e), fun hl => absurd (hEmb.mpr (lies_iff.mp hl).2.2) (seat_none hno (by rw [List.length_map]; exact hi) hrw)⟩⟩
      have h1 := hk q1 o1 hq1
      rw [updM_ne (neM h1 hpt), updM_ne (neM h1 hpt)]
      exact h1
  · rintro σ M' ⟨ow, a4, _, _, hk, _, hr2, hl2, _⟩
    rw [upto_len] at hr2
    exact hN _ _ ⟨ow, hk, hr2, hl2⟩
end
end K20
namespace K20
open PySem PySem.Spec L2 DL Syn Mi Lb Bx Mt
local macro_rules | `(tactic| walk_at "st") => `(tactic| simp only [start_def, List.map_cons, List.map_nil, List.length_cons, List.length_nil, List.cons_append, List.nil_append, Nat.zero_add, Nat.reduceAdd, Nat.reduceSub, List.replicate])
local macro_rules | `(tactic| walk_at "dl") => `(tactic| simp only [dSeq, dNext, dDrop, dRet, dRetF, dRetN, dIfS, dAsg, dAug, dPar, nGm, nTup, nCons, nNil, dVar, dC, dOp, dUn, dCons, dNil, dTup, dLst, dB, dTru, dAnd, dOr, dNot, dAndV, dOrV, dNotV, dIf, dChain, dCB, dCall, dSlE, dNoPart, dPart, dRev, dS0, dS1, dBL, dBL0, dIsi, dBreak, dCont, List.set_cons_zero, List.set_cons_succ, List.getElem?_cons_zero, List.getElem?_cons_succ, ifB_t, ifB_f, e_new_f, e_new_t, e_add_int, e_add_str, e_add_tup, e_add_pl, e_len_pl, e_sl_pl, e_sl_last, e_add_lst, e_sub, e_mul, e_mul_str, e_mul_lst, e_div, e_mod, e_pow, e_neg, e_eq_int, e_eq_str, e_isN_non, e_isN_obj, e_isN_tup, e_isN_lst, e_lt_int, e_lt_str, e_le_int, e_le_str, e_gt, e_ge, e_in_str, e_t0, e_t1, e_t2, e_t3, e_t4, e_t5, e_l0, e_l1, e_l2, e_l3, e_sl_tup, e_sl_rdl, e_sl_str, e_sl_lst, e_len_str, e_len_lst, e_len_tup, e_int, e_tupC_tup, e_tupC_lst, e_iadd_int, e_iadd_str, e_isub, tru_bl, tru_int, tru_non, tru_lst, tru_tup, ex_some, bne_f, bne_t, e_nSub, cxK, cxP, cxW, decide_true, e_fld, e_sfld, e_meth, e_fldX, e_methX, lsD_lst, dDM, dDNewX, dPairs, dDisp, dFz, nSubX, dLockE, dLockS, dListV, ixX_tup, ixX_pl, ixX_lst, ixX_str, iaddX_int, iaddX_str, imul_int, e_isN_str, e_isN_int, sz0, sz1, sz2, sz3, sz4, sz5, sz6, sz7, sz8, true_and])
local macro_rules | `(tactic| walk_at "if") => `(tactic| simp only [dIfS, dVar, dC, dOp, dUn, dCons, dNil, dB, dTru, dAnd, dOr, dNot, dChain, dCB, List.getElem?_cons_zero, List.getElem?_cons_succ, ifB_t, ifB_f, e_eq_int, e_eq_str, e_lt_int, e_le_int, e_gt, e_ge, e_isN_non, e_isN_obj, e_isN_tup, e_isN_lst, e_isN_str, e_isN_int, e_len_str, e_len_lst, e_len_tup, tru_bl, tru_int, tru_non, tru_lst, tru_tup, ex_some, bne_f, bne_t, decide_true, cxK, cxP, cxW, true_and])
local macro_rules | `(tactic| walk_at "lit") => `(tactic| simp only [Int.reduceEq, Int.reduceLT, Int.reduceLE, Int.reduceMod, Int.reduceAdd, Int.reduceSub, eq_self, ne_eq, not_true_eq_false, not_false_eq_true, decide_true, decide_false, ifB_t, ifB_f, bne_f, bne_t, e_l0, e_l1, e_l2, e_l3, e_t0, e_t1, e_t2, true_and])
section
variable {P : Program} {w : World} {K : PySem.W.Frag} {mg : Str → Option Value} {base : Heap}
def oD : Option Nat → D
  | none => .non
  | some p => .int ((p : Nat) : Int)
structure WaysOk (ways : List (List Nat)) (many : Nat) : Prop where
  lw : ways.length ≤ 1000
  lm : many ≤ 1000
  ok : ∀ w ∈ ways, w.length ≤ 1000 ∧ ∀ p ∈ w, p < many
def sp_reached : SpD := fun ds M Q _ => ∃ (pw ph : Addr) (ways : List (List Nat)) (H : List (Option Nat)) (start : Nat), ds = [.obj pw, .obj ph, .int ((start : Nat) : Int)] ∧ M pw = some (.lst (ways.map natsD)) ∧ M ph = some (.lst (H.map oD)) ∧ WaysOk ways H.length ∧ (∀ (p r : Nat), H[p]? = some (some r) → r < ways.length) ∧ start < ways.length ∧
  (∀ M' pc came qs, (∀ q o, M q = some o → M' q = some o) → M' pc = some (.dic ⟨P, w⟩ (tdc nD nD came)) → Came ways H start came qs → (∀ r ∈ qs, ∃ w, ways[r]? = some w ∧ ∀ p ∈ w, p ∈ came.map (·.1)) → Q (.tup [.non, .obj pc]) M') ∧
  (∀ M' pc came qs (p r j : Nat), (∀ q o, M q = some o → M' q = some o) → M' pc = some (.dic ⟨P, w⟩ (tdc nD nD (came ++ [(p, r)]))) → Came ways H start came qs → qs[j]? = some r → p ∉ came.map (·.1) → (∃ w, ways[r]? = some w ∧ p ∈ w) → H[p]? = some none → Q (.tup [.int ((p : Nat) : Int), .obj pc]) M')
theorem ok_reached (T : Txt K mg) {f : Addr} {fd : FuncData} (F : FunD K "reached" "reached" (defArgs sreached) (defBody sreached) (defScope sreached) [] [] f fd) : FnOk P w K mg base CX0 (0 + 1) f fd Preached (LSp K ((sp_reached (P:=P) (w:=w)))) := by
  refine fnD0 F screached (fun ds M Q E h => by first | (obtain ⟨rfl, _⟩ := h; rfl) | (obtain ⟨_, rfl, _⟩ := h; rfl) | (obtain ⟨_, _, rfl, _⟩ := h; rfl) | (obtain ⟨_, _, _, rfl, _⟩ := h; rfl) | (obtain ⟨_, _, _, _, rfl, _⟩ := h; rfl) | (obtain ⟨_, _, _, _, _, rfl, _⟩ := h; rfl) | (obtain ⟨_, _, _, _, _, _, rfl, _⟩ := h; rfl) | (obtain ⟨_, _, _, _, _, _, _, rfl, _⟩ := h; rfl) | (obtain ⟨_, _, _, _, _, _, _, _, rfl, _⟩ := h; rfl) | (obtain ⟨_, _, _, _, _, _, _, _, _, rfl, _⟩ := h; rfl) | (obtain ⟨_, _, _, _, _, _, _, _, _, _, rfl, _⟩ := h; rfl) | (obtain ⟨_, _, _, _, _, _, _, _, _, _, _, rfl, _⟩ := h; rfl) | (obtain ⟨_, _, _, _, _, _, _, _, _, _, _, _, rfl, _⟩ := h; rfl) | (obtain ⟨_, _, _, _, _, _, _, _, _, _, _, _, _, rfl, _⟩ := h; rfl) | (obtain ⟨_, _, _, _, _, _, _, _, _, _, _, _, _, _, rfl, _⟩ := h; rfl) | (obtain ⟨_, _, _, _, _, _, _, _, _, _, _, _, _, _, _, rfl, _⟩ := h; rfl) | (obtain ⟨_, _, _, _, _, _, _, _, _, _, _, _, _, _, _, _, rfl, _⟩ := h; rfl) | (obtain ⟨_, _, _, _, _, _, _, _, _, _, _, _, _, _, _, _, _, rfl, _⟩ := h; rfl) | (obtain ⟨_, _, _, _, _, _, _, _, _, _, _, _, _, _, _, _, _, _, rfl, _⟩ := h; rfl) | (obtain ⟨_, _, _, _, _, _, _, _, _, _, _, _, _, _, _, _, _, _, _, rfl, _⟩ := h; rfl)) fun cdv A outer s H E F0 hr => ⟨_, (dss_cons (ds_set (i := 3) screached.nd rfl (Or.inl rfl) de_dnewX)
      (dss_cons (ds_set (i := 4) screached.nd rfl (Or.inl rfl) (de_lst (own := true) (da_cons (de_var (pv 2)) da_nil)))
      (dss_cons (ds_set (i := 5) screached.nd rfl (Or.inl rfl) de_int)
      (dss_cons (ds_while PassesOwn.never (dt_cmp (od_lt) (de_var (pv 5)) (de_callB cd_len rfl T.len (by decide +kernel) (da_cons (de_var (pv 4)) da_nil)) (nomark _)) (dss_cons (ds_for PassesOwn.never rfl (di_items (de_ixX hr.u9 (de_var (pv 0)) (de_ixX hr.u9 (de_var (pv 4)) (de_var (pv 5)) (fun _ _ => rfl)) (fun _ _ => rfl))) (dg_name (pg_name (i := 6) screached.nd rfl (Or.inl rfl))) (dss_one (ds_if (dt_cmp (od_notInX hr.units) (de_var (pv 6)) (de_var (pv 3)) rfl) (dss_cons (ds_asg (de_ixX hr.u9 (de_var (pv 4)) (de_var (pv 5)) (fun _ _ => rfl)) (dg_subX hr.u9 (de_var (pv 3)) (de_var (pv 6))))
      (dss_cons (ds_if (dt_cmp od_isN (de_ixX hr.u9 (de_var (pv 1)) (de_var (pv 6)) (fun _ _ => rfl)) de_non (nomark _)) (dss_one (ds_ret (de_tup (da_cons (de_var (pv 6)) (da_cons (de_var (pv 3)) da_nil))))) dss_nil)
      (dss_one (ds_expr (de_bl1 PySem.F.slot_list_append PySem.F.type_list_append md_append (de_var (pv 4)) (da_cons (de_ixX hr.u9 (de_var (pv 1)) (de_var (pv 6)) (fun _ _ => rfl)) da_nil)))))) dss_nil)))
      (dss_one (ds_aug (i := 5) screached.nd rfl (Or.inl rfl) de_int od_iaddX))))
      (dss_one (ds_ret (de_tup (da_cons de_non (da_cons (de_var (pv 3)) da_nil))))))))), fun ds M Q Ex h => ?_⟩
  obtain ⟨pw, ph, ways, H, start, rfl, hW, hH, hok, hrow, hst, qn, qy⟩ := h
  walk_at "st"
  have hs : sizeLine = 16777216 := sizeLine_eq
  refine seq_tail (fun σ M' => ∃ pc, M pc = none ∧ M' = updM M pc (.dic ⟨P, w⟩ (tdc nD nD [])) ∧ σ = [some (.obj pw), some (.obj ph), some (.int ((start : Nat) : Int)), some (.obj pc), none, none, none]) ?_ (fun N hN => by walk_at "dl"; exact fun pc hpc => hN _ _ ⟨pc, hpc, rfl, rfl⟩)
  rintro _ _ ⟨pc, hpc, rfl, rfl⟩
  refine seq_tail (fun σ M' => ∃ pq, M pq = none ∧ pq ≠ pc ∧ M' = updM (updM M pc (.dic ⟨P, w⟩ (tdc nD nD []))) pq (.lst [.int ((start : Nat) : Int)]) ∧ σ = [some (.obj pw), some (.obj ph), some (.int ((start : Nat) : Int)), some (.obj pc), some (.obj pq), none, none]) ?_ (fun N hN => by
    walk_at "dl"
    intro pq hpq
    have n1 : pq ≠ pc := fun e => by rw [e, updM_same] at hpq; cases hpq
    rw [updM_ne n1] at hpq
    exact hN _ _ ⟨pq, hpq, n1, rfl, rfl⟩)
  rintro _ _ ⟨pq, hpq, n1, rfl, rfl⟩
  refine seq_tail (fun σ M' => M' = updM (updM M pc (.dic ⟨P, w⟩ (tdc nD nD []))) pq (.lst [.int ((start : Nat) : Int)]) ∧ σ = [some (.obj pw), some (.obj ph), some (.int ((start : Nat) : Int)), some (.obj pc), some (.obj pq), some (.int ((0 : Nat) : Int)), none]) ?_ (fun N hN => by walk_at "dl"; exact hN _ _ ⟨rfl, rfl⟩)
  rintro _ _ ⟨rfl, rfl⟩
  let At : List (Nat × Nat) → List Nat → Mp → Prop := fun came qs M' => (∀ q o, M q = some o → M' q = some o) ∧ M' pc = some (.dic ⟨P, w⟩ (tdc nD nD came)) ∧ M' pq = some (.lst (qs.map nD)) ∧ Came ways H start came qs ∧ (∀ k ∈ came.map (·.1), k < H.length) ∧ (∀ r ∈ qs, r < ways.length)
  have hlen : ∀ {came qs M'}, At came qs M' → came.length ≤ H.length := fun {came qs M'} h => by
    have := Mi.nodup_len (m := List.range H.length) h.2.2.2.1.nd fun y hy => List.mem_range.mpr (h.2.2.2.2.1 y hy)
    rw [List.length_map, List.length_range] at this
    exact this
  let S : Nat → Option D → DS := fun j a6 => [some (.obj pw), some (.obj ph), some (.int ((start : Nat) : Int)), some (.obj pc), some (.obj pq), some (.int ((j : Nat) : Int)), a6]
  refine seq_tail (fun σ M' => ∃ came qs j a6, At came qs M' ∧ (∀ r ∈ qs, ∃ w, ways[r]? = some w ∧ ∀ p ∈ w, p ∈ came.map (·.1)) ∧ σ = S j a6) ?_ (fun N hN => ?_)
  · rintro σ M' ⟨came, qs, j, a6, hA, hc, rfl⟩
    walk_at "dl"
    exact Wk.here (qn M' pc came qs hA.1 hA.2.1 hA.2.2.2.1 hc)
  refine while_two (fun m σ M' => ∃ came qs j a6, At came qs M' ∧ (∀ i r, i < j → qs[i]? = some r → ∃ w, ways[r]? = some w ∧ ∀ p ∈ w, p ∈ came.map (·.1)) ∧ j ≤ qs.length ∧ σ = S j a6 ∧ m = H.length + 2 - j) (H.length + 2) ⟨[], [start], 0, none, ⟨fun q o hq => ?_, ?_, updM_same, Came.nil, (fun k hk => nomatch hk), fun r hr => by rw [List.mem_singleton.mp hr]; exact hst⟩, fun i r hi => by omega, by simp, rfl, rfl⟩ ?_
  · rw [updM_ne (neM hq hpq), updM_ne (neM hq hpc)]
    exact hq
  · rw [updM_ne n1.symm, updM_same]
  rintro m σ M1 N1 ⟨came, qs, j, a6, hA, hc, hj, rfl, rfl⟩ hN1
  obtain ⟨hk, hC, hQ, hCm, hkl, hql⟩ := id hA
  refine ⟨decide (j < qs.length), fun Kk hKk => ?_, ifB (fun hb => ?_) (fun hb => ?_)⟩
  · simp only [S]
    walk_at "dl"
    rw [e_len_obj hQ, List.length_map]
    walk_at "dl"
    rw [show decide (((j : Nat) : Int) < ((qs.length : Nat) : Int)) = decide (j < qs.length) by apply decide_eq_decide.mpr; omega]
    exact hKk
  · have hjl := of_decide_eq_true hb
    obtain ⟨r, hr⟩ : ∃ r, qs[j]? = some r := ⟨_, List.getElem?_eq_getElem hjl⟩
    obtain ⟨ws, hws⟩ : ∃ ws, ways[r]? = some ws := ⟨_, List.getElem?_eq_getElem (hql r (List.mem_of_getElem? hr))⟩
    obtain ⟨hwl, hwp⟩ := hok.ok ws (List.mem_of_getElem? hws)
    refine seq_tail (fun σ M' => ∃ came qs a6, At came qs M' ∧ (∀ i r, i < j + 1 → qs[i]? = some r → ∃ w, ways[r]? = some w ∧ ∀ p ∈ w, p ∈ came.map (·.1)) ∧ j < qs.length ∧ σ = S j a6) ?_ (fun N2 hN2 => ?_)
    · rintro σ M2 ⟨came, qs, a6, hA2, hc2, hj2, rfl⟩
      have h1 := hlen hA2
      have h2 := hA2.2.2.2.1.ln
      simp only [S]
      walk_at "dl"
      exact hN1 _ _ _ (by omega) ⟨came, qs, j + 1, a6, hA2, hc2, by omega, by simp only [S]; rw [show ((j : Nat) : Int) + 1 = ((j + 1 : Nat) : Int) by omega], rfl⟩
    · refine for_pure (ws.map fun p => .int ((p : Nat) : Int)) (fun Kd hk' => ?_) (fun i σ M' => ∃ came qs a6, At came qs M' ∧ (∀ i r, i < j → qs[i]? = some r → ∃ w, ways[r]? = some w ∧ ∀ p ∈ w, p ∈ came.map (·.1)) ∧ qs[j]? = some r ∧ (∀ p ∈ ws.take i, p ∈ came.map (·.1)) ∧ σ = S j a6) ⟨came, qs, a6, hA, hc, hr, (fun p hp => by simp at hp), rfl⟩ ?_ ?_
      · unfold dItems
        simp only [S]
        walk_at "dl"
        rw [ixX_obj hQ]
        refine e_ix (sqD_obj hQ) (v := nD r) (by rw [List.getElem?_map, hr] <;> rfl) ?_
        have hW1 := hk pw _ hW
        rw [ixX_obj hW1]
        refine e_ix (sqD_obj hW1) (v := natsD ws) (by rw [List.getElem?_map, hws] <;> rfl) ?_
        exact hk'
      · rintro i d σ M3 N3 hd ⟨came, qs, a6, hA, hc, hr, hall, rfl⟩ hN3
        obtain ⟨hk, hC, hQ, hCm, hkl, hql⟩ := id hA
        rw [List.getElem?_map] at hd
        obtain ⟨p, hpi, rfl⟩ := Option.map_eq_some_iff.mp hd
        have hpm := List.mem_of_getElem? hpi
        have hpl := hwp p hpm
        have htk : ws.take (i + 1) = ws.take i ++ [p] := by rw [List.take_add_one, hpi] <;> rfl
        simp only [S, nGm, List.set_cons_zero, List.set_cons_succ]
        walk_at "dl"
        refine t_in (eK := nD) (eV := nD) (k := p) (is_dic hC) ?_
        walk_at "dl"
        cases hp : tget came p with
        | some r0 =>
          refine ifB (fun h => by simp at h) (fun _ => ?_)
          refine hN3 _ _ ⟨came, qs, _, hA, hc, hr, fun q hq => ?_, rfl⟩
          rw [htk] at hq
          rcases List.mem_append.mp hq with hq | hq
          · exact hall q hq
          · rw [List.mem_singleton.mp hq]
            exact tget_isSome.mp (by rw [hp] <;> rfl)
        | none =>
          refine ifB (fun _ => ?_) (fun h => by simp at h)
          have hpn := tget_none.mp hp
          rw [ixX_obj hQ]
          refine e_ix (sqD_obj hQ) (v := nD r) (by rw [List.getElem?_map, hr] <;> rfl) ?_
          have hcl := hlen hA
          have hlm := hok.lm
          refine .inr (t_set (eK := nD) (eV := nD) (k := p) (v := r) hC (by omega) ?_)
          rw [tput_new hp]
          obtain ⟨M4, hM4⟩ : ∃ M4, M4 = updM M3 pc (.dic ⟨P, w⟩ (tdc nD nD (came ++ [(p, r)]))) := ⟨_, rfl⟩
          have hk4 : ∀ q o, M q = some o → M4 q = some o := fun q o hq => by
            rw [hM4, updM_ne (neM hq hpc)]
            exact hk q o hq
          have hC4 : M4 pc = some (.dic ⟨P, w⟩ (tdc nD nD (came ++ [(p, r)]))) := by rw [hM4, updM_same]
          have hQ4 : M4 pq = some (.lst (qs.map nD)) := by rw [hM4, updM_ne n1]; exact hQ
          have hH4 := hk4 ph _ hH
          rw [← hM4]
          obtain ⟨o, ho⟩ : ∃ o, H[p]? = some o := ⟨_, List.getElem?_eq_getElem hpl⟩
          walk_at "dl"
          rw [ixX_obj hH4]
          refine e_ix (sqD_obj hH4) (v := oD o) (by rw [List.getElem?_map, ho] <;> rfl) ?_
          cases o with
          | none =>
            simp only [oD]
            walk_at "dl"
            exact Wk.here (qy M4 pc came qs p r j hk4 hC4 hCm hr hpn ⟨ws, hws, hpm⟩ ho)
          | some y =>
            simp only [oD]
            walk_at "dl"
            rw [ixX_obj hH4]
            refine ⟨isLst_of hQ4, e_ix (sqD_obj hH4) (v := oD (some y)) (by rw [List.getElem?_map, ho] <;> rfl) ?_⟩
            have hln := hCm.ln
            rw [e_append hQ4]
            refine ⟨by rw [List.length_map]; omega, ?_⟩
            rw [show qs.map nD ++ [oD (some y)] = (qs ++ [y]).map nD by rw [List.map_append] <;> rfl]
            refine hN3 _ _ ⟨came ++ [(p, r)], qs ++ [y], _, ⟨fun q o hq => ?_, by rw [updM_ne n1.symm]; exact hC4, updM_same, hCm.add hpn hr hws hpm ho, fun k hk' => ?_, fun r' hr' => ?_⟩, fun i' r' hi' hr' => ?_, get_snoc hr, fun q hq => ?_, rfl⟩
            · rw [updM_ne (neM hq hpq)]
              exact hk4 q o hq
            · rw [List.map_append] at hk'
              rcases List.mem_append.mp hk' with h | h
              · exact hkl k h
              · rw [List.mem_singleton.mp h]
                exact hpl
            · rcases List.mem_append.mp hr' with h | h
              · exact hql r' h
              · rw [List.mem_singleton.mp h]
                exact hrow p y ho
            · have hil := (List.getElem?_eq_some_iff.mp hr).1
              rw [List.getElem?_append_left (by omega)] at hr'
              obtain ⟨w', h1, h2⟩ := hc i' r' hi' hr'
              exact ⟨w', h1, fun q hq => by rw [List.map_append]; exact List.mem_append_left _ (h2 q hq)⟩
            · rw [htk] at hq
              rw [List.map_append]
              rcases List.mem_append.mp hq with hq | hq
              · exact List.mem_append_left _ (hall q hq)
              · rw [List.mem_singleton.mp hq]
                exact List.mem_append_right _ (List.mem_singleton.mpr rfl)
      · rintro σ M3 ⟨came, qs, a6, hA, hc, hr, hall, rfl⟩
        rw [List.length_map, List.take_length] at hall
        refine hN2 _ _ ⟨came, qs, a6, hA, fun i r' hi hr' => ?_, (List.getElem?_eq_some_iff.mp hr).1, rfl⟩
        by_cases e : i = j
        · subst e
          rw [hr] at hr'
          cases hr'
          exact ⟨ws, hws, hall⟩
        · exact hc i r' (by omega) hr'
  · have hjl := of_decide_eq_false hb
    refine hN _ _ ⟨came, qs, j, a6, hA, fun r hr => ?_, rfl⟩
    obtain ⟨i, hi⟩ := List.getElem?_of_mem hr
    exact hc i r (by have := (List.getElem?_eq_some_iff.mp hi).1; omega) hi
end
end K20
namespace K20
open PySem PySem.Spec L2 DL Syn Mi Lb Bx Mt
local macro_rules | `(tactic| walk_at "st") => `(tactic| simp only [start_def, List.map_cons, List.map_nil, List.length_cons, List.length_nil, List.cons_append, List.nil_append, Nat.zero_add, Nat.reduceAdd, Nat.reduceSub, List.replicate])
local macro_rules | `(tactic| walk_at "dl") => `(tactic| simp only [dSeq, dNext, dDrop, dRet, dRetF, dRetN, dIfS, dAsg, dAug, dPar, nGm, nTup, nCons, nNil, dVar, dC, dOp, dUn, dCons, dNil, dTup, dLst, dB, dTru, dAnd, dOr, dNot, dAndV, dOrV, dNotV, dIf, dChain, dCB, dCall, dSlE, dNoPart, dPart, dRev, dS0, dS1, dBL, dBL0, dIsi, dBreak, dCont, List.set_cons_zero, List.set_cons_succ, List.getElem?_cons_zero, List.getElem?_cons_succ, ifB_t, ifB_f, e_new_f, e_new_t, e_add_int, e_add_str, e_add_tup, e_add_pl, e_len_pl, e_sl_pl, e_sl_last, e_add_lst, e_sub, e_mul, e_mul_str, e_mul_lst, e_div, e_mod, e_pow, e_neg, e_eq_int, e_eq_str, e_isN_non, e_isN_obj, e_isN_tup, e_isN_lst, e_lt_int, e_lt_str, e_le_int, e_le_str, e_gt, e_ge, e_in_str, e_t0, e_t1, e_t2, e_t3, e_t4, e_t5, e_l0, e_l1, e_l2, e_l3, e_sl_tup, e_sl_rdl, e_sl_str, e_sl_lst, e_len_str, e_len_lst, e_len_tup, e_int, e_tupC_tup, e_tupC_lst, e_iadd_int, e_iadd_str, e_isub, tru_bl, tru_int, tru_non, tru_lst, tru_tup, ex_some, bne_f, bne_t, e_nSub, cxK, cxP, cxW, decide_true, e_fld, e_sfld, e_meth, e_fldX, e_methX, lsD_lst, dDM, dDNewX, dPairs, dDisp, dFz, nSubX, dLockE, dLockS, dListV, ixX_tup, ixX_pl, ixX_lst, ixX_str, iaddX_int, iaddX_str, imul_int, e_isN_str, e_isN_int, sz0, sz1, sz2, sz3, sz4, sz5, sz6, sz7, sz8, true_and])
local macro_rules | `(tactic| walk_at "if") => `(tactic| simp only [dIfS, dVar, dC, dOp, dUn, dCons, dNil, dB, dTru, dAnd, dOr, dNot, dChain, dCB, List.getElem?_cons_zero, List.getElem?_cons_succ, ifB_t, ifB_f, e_eq_int, e_eq_str, e_lt_int, e_le_int, e_gt, e_ge, e_isN_non, e_isN_obj, e_isN_tup, e_isN_lst, e_isN_str, e_isN_int, e_len_str, e_len_lst, e_len_tup, tru_bl, tru_int, tru_non, tru_lst, tru_tup, ex_some, bne_f, bne_t, decide_true, cxK, cxP, cxW, true_and])
local macro_rules | `(tactic| walk_at "lit") => `(tactic| simp only [Int.reduceEq, Int.reduceLT, Int.reduceLE, Int.reduceMod, Int.reduceAdd, Int.reduceSub, eq_self, ne_eq, not_true_eq_false, not_false_eq_true, decide_true, decide_false, ifB_t, ifB_f, bne_f, bne_t, e_l0, e_l1, e_l2, e_l3, e_t0, e_t1, e_t2, true_and])
section
variable {P : Program} {w : World} {K : PySem.W.Frag} {mg : Str → Option Value} {base : Heap}
def sp_matched : SpD := fun ds M Q _ => ∃ (pw : Addr) (ways : List (List Nat)) (many : Nat), ds = [.obj pw, .int ((many : Nat) : Int)] ∧ M pw = some (.lst (ways.map natsD)) ∧ WaysOk ways many ∧ (∀ b M', (b = true ↔ ∃ f, Full ways f) → (∀ q o, M q = some o → M' q = some o) → Q (.bl b) M')
theorem ok_matched (T : Txt K mg) {f : Addr} {fd : FuncData} (F : FunD K "matched" "matched" (defArgs smatched) (defBody smatched) (defScope smatched) [] [] f fd) (h_reached : Callee P w K mg base CX0 (1) "reached" Preached (sp_reached (P:=P) (w:=w))) : FnOk P w K mg base CX0 (1 + 1) f fd Pmatched (LSp K (sp_matched)) := by
  refine fnD0 F scmatched (fun ds M Q E h => by first | (obtain ⟨rfl, _⟩ := h; rfl) | (obtain ⟨_, rfl, _⟩ := h; rfl) | (obtain ⟨_, _, rfl, _⟩ := h; rfl) | (obtain ⟨_, _, _, rfl, _⟩ := h; rfl) | (obtain ⟨_, _, _, _, rfl, _⟩ := h; rfl) | (obtain ⟨_, _, _, _, _, rfl, _⟩ := h; rfl) | (obtain ⟨_, _, _, _, _, _, rfl, _⟩ := h; rfl) | (obtain ⟨_, _, _, _, _, _, _, rfl, _⟩ := h; rfl) | (obtain ⟨_, _, _, _, _, _, _, _, rfl, _⟩ := h; rfl) | (obtain ⟨_, _, _, _, _, _, _, _, _, rfl, _⟩ := h; rfl) | (obtain ⟨_, _, _, _, _, _, _, _, _, _, rfl, _⟩ := h; rfl) | (obtain ⟨_, _, _, _, _, _, _, _, _, _, _, rfl, _⟩ := h; rfl) | (obtain ⟨_, _, _, _, _, _, _, _, _, _, _, _, rfl, _⟩ := h; rfl) | (obtain ⟨_, _, _, _, _, _, _, _, _, _, _, _, _, rfl, _⟩ := h; rfl) | (obtain ⟨_, _, _, _, _, _, _, _, _, _, _, _, _, _, rfl, _⟩ := h; rfl) | (obtain ⟨_, _, _, _, _, _, _, _, _, _, _, _, _, _, _, rfl, _⟩ := h; rfl) | (obtain ⟨_, _, _, _, _, _, _, _, _, _, _, _, _, _, _, _, rfl, _⟩ := h; rfl) | (obtain ⟨_, _, _, _, _, _, _, _, _, _, _, _, _, _, _, _, _, rfl, _⟩ := h; rfl) | (obtain ⟨_, _, _, _, _, _, _, _, _, _, _, _, _, _, _, _, _, _, rfl, _⟩ := h; rfl) | (obtain ⟨_, _, _, _, _, _, _, _, _, _, _, _, _, _, _, _, _, _, _, rfl, _⟩ := h; rfl)) fun cdv A outer s H E F0 hr => ⟨_, (dss_cons (ds_set (i := 2) scmatched.nd rfl (Or.inl rfl) (de_op (od_mul (own := true)) (de_lst (own := false) (da_cons de_non da_nil)) (de_var (pv 1))))
      (dss_cons (ds_set (i := 3) scmatched.nd rfl (Or.inl rfl) (de_op (od_mul (own := true)) (de_lst (own := false) (da_cons de_non da_nil)) (de_callB cd_len rfl T.len (by decide +kernel) (da_cons (de_var (pv 0)) da_nil))))
      (dss_cons (ds_for PassesOwn.never rfl (di_range1 rfl T.range (da_cons (de_callB cd_len rfl T.len (by decide +kernel) (da_cons (de_var (pv 0)) da_nil)) da_nil)) (dg_name (pg_name (i := 4) scmatched.nd rfl (Or.inl rfl))) (dss_cons (ds_asg (de_fn h_reached (hr.mono (by omega)) rfl pass0 finX0 (da_cons (de_var (pv 0)) (da_cons (de_var (pv 2)) (da_cons (de_var (pv 4)) da_nil)))) (dg_tup rfl (dgs_cons (dg_name (pg_name (i := 5) scmatched.nd rfl (Or.inl rfl))) (dgs_cons (dg_name (pg_name (i := 6) scmatched.nd rfl (Or.inl rfl))) dgs_nil))))
      (dss_cons (ds_if (dt_cmp od_isN (de_var (pv 5)) de_non (nomark _)) (dss_one (ds_ret de_bl)) dss_nil)
      (dss_one (ds_while PassesOwn.never (dt_cmp od_notN (de_var (pv 5)) de_non (nomark _)) (dss_cons (ds_set (i := 7) scmatched.nd rfl (Or.inl rfl) (de_ixX hr.u9 (de_var (pv 6)) (de_var (pv 5)) (fun _ _ => rfl)))
      (dss_cons (ds_set (i := 8) scmatched.nd rfl (Or.inl rfl) (de_ixX hr.u9 (de_var (pv 3)) (de_var (pv 7)) (fun _ _ => rfl)))
      (dss_cons (ds_asg (de_tup (da_cons (de_var (pv 7)) (da_cons (de_var (pv 5)) da_nil))) (dg_tup rfl (dgs_cons (dg_subX hr.u9 (de_var (pv 2)) (de_var (pv 5))) (dgs_cons (dg_subX hr.u9 (de_var (pv 3)) (de_var (pv 7))) dgs_nil))))
      (dss_one (ds_set (i := 5) scmatched.nd rfl (Or.inl rfl) (de_var (pv 8))))))))))))
      (dss_one (ds_ret de_bl))))), fun ds M Q Ex h => ?_⟩
  obtain ⟨pw, ways, many, rfl, hW, hok, q⟩ := h
  walk_at "st"
  have hs : sizeLine = 16777216 := sizeLine_eq
  have hlm := hok.lm
  have hlw := hok.lw
  have rep : ∀ n : Nat, (List.replicate n [D.non]).flatten = (List.replicate n (none : Option Nat)).map oD := fun n => by
    induction n with
    | zero => rfl
    | succ n ih => rw [List.replicate_succ, List.flatten_cons, ih, List.replicate_succ, List.map_cons] <;> rfl
  refine seq_tail (fun σ M' => ∃ ph, M ph = none ∧ M' = updM M ph (.lst ((List.replicate many (none : Option Nat)).map oD)) ∧ σ = [some (.obj pw), some (.int ((many : Nat) : Int)), some (.obj ph), none, none, none, none, none, none]) ?_ (fun N hN => by
    walk_at "dl"
    refine ⟨by omega, by omega, by simp; omega, ?_⟩
    intro ph hph
    refine hN _ _ ⟨ph, hph, ?_, rfl⟩
    rw [show ((many : Nat) : Int).toNat = many by omega, rep])
  rintro _ _ ⟨ph, hph, rfl, rfl⟩
  refine seq_tail (fun σ M' => ∃ pp, M pp = none ∧ pp ≠ ph ∧ M' = updM (updM M ph (.lst ((List.replicate many (none : Option Nat)).map oD))) pp (.lst ((List.replicate ways.length (none : Option Nat)).map oD)) ∧ σ = [some (.obj pw), some (.int ((many : Nat) : Int)), some (.obj ph), some (.obj pp), none, none, none, none, none]) ?_ (fun N hN => by
    walk_at "dl"
    rw [e_len_obj (by rw [updM_ne (neM hW hph)]; exact hW), List.length_map]
    walk_at "dl"
    refine ⟨by omega, by omega, by simp; omega, ?_⟩
    intro pp hpp
    have n1 : pp ≠ ph := fun e => by rw [e, updM_same] at hpp; cases hpp
    rw [updM_ne n1] at hpp
    refine hN _ _ ⟨pp, hpp, n1, ?_, rfl⟩
    rw [show ((ways.length : Nat) : Int).toNat = ways.length by omega, rep])
  rintro _ _ ⟨pp, hpp, n1, rfl, rfl⟩
  let S : Option D → Option D → Option D → Option D → Option D → DS := fun a4 a5 a6 a7 a8 => [some (.obj pw), some (.int ((many : Nat) : Int)), some (.obj ph), some (.obj pp), a4, a5, a6, a7, a8]
  let At : List (Option Nat) → List (Option Nat) → Mp → Prop := fun H Pl M' => (∀ q o, M q = some o → M' q = some o) ∧ M' ph = some (.lst (H.map oD)) ∧ M' pp = some (.lst (Pl.map oD)) ∧ H.length = many
  have hrep : ∀ (n r : Nat) (x : Option Nat), (List.replicate n (none : Option Nat))[r]? = some x → x = none := fun n r x h => List.eq_of_mem_replicate (List.mem_of_getElem? h)
  refine seq_tail (fun σ M' => ∃ H Pl a4 a5 a6 a7 a8, At H Pl M' ∧ Net ways H Pl none ∧ Pl.length = ways.length ∧ (∀ r, r < ways.length → ∃ p, Pl[r]? = some (some p)) ∧ σ = S a4 a5 a6 a7 a8) ?_ (fun N hN => ?_)
  · rintro σ M' ⟨H, Pl, a4, a5, a6, a7, a8, hA, hn, lp, hp, rfl⟩
    simp only [S]
    walk_at "dl"
    exact Wk.here (q true M' ⟨fun _ => ⟨_, net_full hn lp hp⟩, fun _ => rfl⟩ hA.1)
  refine for_pure (upto 0 ways.length) (fun Kd hk' => ?_) (fun i σ M' => ∃ H Pl a4 a5 a6 a7 a8, At H Pl M' ∧ Net ways H Pl none ∧ Pl.length = ways.length ∧ (∀ r, r < i → ∃ p, Pl[r]? = some (some p)) ∧ (∀ r, i ≤ r → r < ways.length → Pl[r]? = some none) ∧ σ = S a4 a5 a6 a7 a8) ⟨_, _, none, none, none, none, none, ⟨fun q o hq => ?_, by rw [updM_ne n1.symm, updM_same], updM_same, List.length_replicate⟩, ⟨fun r p h => (nomatch hrep _ _ _ h), fun p r _ h => (nomatch hrep _ _ _ h), fun r p e => nomatch e⟩, List.length_replicate, (fun r h => absurd h (Nat.not_lt_zero _)), fun r _ h => ?_, rfl⟩ ?_ ?_
  · unfold dRange1
    walk_at "dl"
    rw [e_len_obj (by rw [updM_ne (neM hW hpp), updM_ne (neM hW hph)]; exact hW), List.length_map]
    walk_at "dl"
    refine ⟨⟨by omega, by omega⟩, ?_⟩
    rw [show ((ways.length : Nat) : Int).toNat = ways.length by omega]
    exact hk'
  · rw [updM_ne (neM hq hpp), updM_ne (neM hq hph)]
    exact hq
  · rw [List.getElem?_replicate, if_pos h]
  · rintro i d σ M1 N1 hd ⟨H, Pl, a4, a5, a6, a7, a8, ⟨hk, hH, hP, hHl⟩, hn, lp, pl, up, rfl⟩ hN1
    obtain ⟨rfl, hi⟩ := upto_get hd
    rw [show (0 : Int) + (i : Nat) = ((i : Nat) : Int) by omega]
    simp only [S, nGm, List.set_cons_zero, List.set_cons_succ]
    have hW1 := hk pw _ hW
    have hrow : ∀ (p r : Nat), H[p]? = some (some r) → r < ways.length := fun p r h => by
      rw [← lp]
      exact (List.getElem?_eq_some_iff.mp (hn.b p r (fun e => nomatch e) h)).1
    have hnone : Pl[i]? = some none := up i (Nat.le_refl _) hi
    subst hHl
    walk_at "dl"
    refine ⟨pw, ph, ways, H, i, rfl, hW1, hH, hok, hrow, hi, fun M2 pc came qs hk2 hC2 hCm hc => ?_, fun M2 pc came qs p r j hk2 hC2 hCm hj hpn hw hf => ?_⟩
    · walk_at "dl"
      exact ⟨rfl, Wk.here (q false M2 ⟨(fun e => nomatch e), fun ⟨f, hf⟩ => absurd hf (hCm.shut hn hnone hc)⟩ (fun a o ha => hk2 a o (hk a o ha)))⟩
    · walk_at "dl"
      refine ⟨rfl, ?_⟩
      obtain ⟨wr, hwr, hpw⟩ := hw
      have hpH := hk2 ph _ hH
      have hpP := hk2 pp _ hP
      have nch : pc ≠ ph := fun e => by rw [e, hpH] at hC2; cases hC2
      have ncp : pc ≠ pp := fun e => by rw [e, hpP] at hC2; cases hC2
      have hfl := Fl.of (r := r) hCm hn lp hnone pl (fun r h1 h2 => up r (by omega) h2) hf
      have hjl := (List.getElem?_eq_some_iff.mp hj).1
      have hln := hCm.ln
      have hfr : ∀ (x y z : Nat), (came ++ [(p, r)])[x]? = some (y, z) → ∃ j, j ≤ x ∧ qs[j]? = some z ∧ ∃ w, ways[z]? = some w ∧ y ∈ w := fun x y z h => by
        rcases snoc_get h with h | ⟨rfl, e⟩
        · exact hCm.fr x y z h
        · cases e
          exact ⟨j, by omega, hj, wr, hwr, hpw⟩
      have hnd : ((came ++ [(p, r)]).map (·.1)).Nodup := by
        rw [List.map_append]
        exact nodup_snoc hCm.nd hpn
      have hpl : p < H.length := (List.getElem?_eq_some_iff.mp hf).1
      have hin : ∀ (y z : Nat), (y, z) ∈ came ++ [(p, r)] → y < H.length := fun y z h => by
        obtain ⟨x, hx⟩ := List.getElem?_of_mem h
        obtain ⟨_, _, _, w', h1, h2⟩ := hfr x y z hx
        exact (hok.ok w' (List.mem_of_getElem? h1)).2 y h2
      refine while_two (fun m σ M' => ∃ H' Pl' e a7 a8, At H' Pl' M' ∧ H'.length = H.length ∧ M' pc = some (.dic ⟨P, w⟩ (tdc nD nD (came ++ [(p, r)]))) ∧ Fl ways i (came ++ [(p, r)]) qs H' Pl' e m ∧ σ = S (some (.int ((i : Nat) : Int))) (some (oD e)) (some (.obj pc)) a7 a8) _ ⟨H, Pl, some p, a7, a8, ⟨fun a o ha => hk2 a o (hk a o ha), hpH, hpP, rfl⟩, rfl, hC2, hfl, rfl⟩ ?_
      rintro m σ M3 N3 ⟨H', Pl', e, a7, a8, ⟨hk3, hH3, hP3, _⟩, hHl, hC3, hF, rfl⟩ hN3
      cases e with
      | none =>
        refine ⟨false, fun Kk hKk => ?_, ifB (fun h => by cases h) (fun _ => ?_)⟩
        · simp only [S, oD]
          walk_at "dl"
          exact hKk
        · obtain ⟨pi, hpi⟩ := hF.fin rfl
          refine hN1 _ _ ⟨H', Pl', _, _, _, a7, a8, ⟨hk3, hH3, hP3, hHl⟩, hF.net, hF.lp, fun r' hr' => ?_, fun r' h1 h2 => hF.up r' (by omega) h2, rfl⟩
          by_cases e : r' = i
          · subst e
            exact ⟨pi, hpi⟩
          · exact hF.pl r' (by omega)
      | some y =>
        refine ⟨true, fun Kk hKk => ?_, ifB (fun _ => ?_) (fun h => by cases h)⟩
        · simp only [S, oD]
          walk_at "dl"
          exact hKk
        · obtain ⟨z, hyz, hzl⟩ := hF.lt hfr
          have hyl := hin y z hyz
          obtain ⟨x, hx⟩ := List.getElem?_of_mem hyz
          have hget : tget (came ++ [(p, r)]) y = some z := by
            cases e : tget (came ++ [(p, r)]) y with
            | none => exact absurd (List.mem_map.mpr ⟨_, hyz, rfl⟩) (tget_none.mp e)
            | some z' =>
              obtain ⟨x', hx'⟩ := List.getElem?_of_mem (tget_mem e)
              have e1 : ((came ++ [(p, r)]).map (·.1))[x]? = some y := by rw [List.getElem?_map, hx] <;> rfl
              have e2 : ((came ++ [(p, r)]).map (·.1))[x']? = some y := by rw [List.getElem?_map, hx'] <;> rfl
              have := (List.getElem?_inj (List.getElem?_eq_some_iff.mp e1).1 hnd).mp (e1.trans e2.symm)
              subst this
              rw [hx] at hx'
              cases hx'
              rfl
          obtain ⟨b, hb⟩ : ∃ b, Pl'[z]? = some b := ⟨_, List.getElem?_eq_getElem hzl⟩
          obtain ⟨m', hm', hF'⟩ := hF.step hnd hCm.q0 hfr hyz (by rw [hHl]; exact hyl) hb
          simp only [S, oD]
          walk_at "dl"
          refine t_ix (eK := nD) (eV := nD) (k := y) (is_dic hC3) hget ?_
          rw [ixX_obj hP3]
          refine e_ix (sqD_obj hP3) (v := oD b) (by rw [List.getElem?_map, hb] <;> rfl) ?_
          refine ⟨rfl, .inl ⟨ph, _, ((y : Nat) : Int), y, rfl, rfl, hH3, by rw [List.length_map, hHl]; exact ixN_at hyl, ?_⟩⟩
          have npp : pp ≠ ph := n1
          refine .inl ⟨pp, _, ((z : Nat) : Int), z, rfl, rfl, by rw [updM_ne npp]; exact hP3, by rw [List.length_map]; exact ixN_at hzl, ?_⟩
          rw [show (H'.map oD).set y (nD z) = (H'.set y (some z)).map oD by rw [List.map_set] <;> rfl, show (Pl'.map oD).set z (.int ((y : Nat) : Int)) = (Pl'.set z (some y)).map oD by rw [List.map_set] <;> rfl]
          refine hN3 m' _ _ hm' ⟨_, _, b, some (nD z), some (oD b), ⟨fun a o ha => ?_, by rw [updM_ne npp.symm, updM_same], updM_same, by rw [List.length_set]; exact hHl⟩, by rw [List.length_set]; exact hHl, by rw [updM_ne ncp, updM_ne nch]; exact hC3, hF', rfl⟩
          rw [updM_ne (neM ha hpp), updM_ne (neM ha hph)]
          exact hk3 a o ha
  · rintro σ M1 ⟨H, Pl, a4, a5, a6, a7, a8, hA, hn, lp, pl, up, rfl⟩
    rw [upto_len] at pl
    exact hN _ _ ⟨H, Pl, a4, a5, a6, a7, a8, hA, hn, lp, pl, rfl⟩
end
end K20
namespace K20
open PySem PySem.Spec L2 DL Syn Mi Lb Bx Mt
local macro_rules | `(tactic| walk_at "st") => `(tactic| simp only [start_def, List.map_cons, List.map_nil, List.length_cons, List.length_nil, List.cons_append, List.nil_append, Nat.zero_add, Nat.reduceAdd, Nat.reduceSub, List.replicate])
local macro_rules | `(tactic| walk_at "dl") => `(tactic| simp only [dSeq, dNext, dDrop, dRet, dRetF, dRetN, dIfS, dAsg, dAug, dPar, nGm, nTup, nCons, nNil, dVar, dC, dOp, dUn, dCons, dNil, dTup, dLst, dB, dTru, dAnd, dOr, dNot, dAndV, dOrV, dNotV, dIf, dChain, dCB, dCall, dSlE, dNoPart, dPart, dRev, dS0, dS1, dBL, dBL0, dIsi, dBreak, dCont, List.set_cons_zero, List.set_cons_succ, List.getElem?_cons_zero, List.getElem?_cons_succ, ifB_t, ifB_f, e_new_f, e_new_t, e_add_int, e_add_str, e_add_tup, e_add_pl, e_len_pl, e_sl_pl, e_sl_last, e_add_lst, e_sub, e_mul, e_mul_str, e_mul_lst, e_div, e_mod, e_pow, e_neg, e_eq_int, e_eq_str, e_isN_non, e_isN_obj, e_isN_tup, e_isN_lst, e_lt_int, e_lt_str, e_le_int, e_le_str, e_gt, e_ge, e_in_str, e_t0, e_t1, e_t2, e_t3, e_t4, e_t5, e_l0, e_l1, e_l2, e_l3, e_sl_tup, e_sl_rdl, e_sl_str, e_sl_lst, e_len_str, e_len_lst, e_len_tup, e_int, e_tupC_tup, e_tupC_lst, e_iadd_int, e_iadd_str, e_isub, tru_bl, tru_int, tru_non, tru_lst, tru_tup, ex_some, bne_f, bne_t, e_nSub, cxK, cxP, cxW, decide_true, e_fld, e_sfld, e_meth, e_fldX, e_methX, lsD_lst, dDM, dDNewX, dPairs, dDisp, dFz, nSubX, dLockE, dLockS, dListV, ixX_tup, ixX_pl, ixX_lst, ixX_str, iaddX_int, iaddX_str, imul_int, e_isN_str, e_isN_int, sz0, sz1, sz2, sz3, sz4, sz5, sz6, sz7, sz8, true_and])
local macro_rules | `(tactic| walk_at "if") => `(tactic| simp only [dIfS, dVar, dC, dOp, dUn, dCons, dNil, dB, dTru, dAnd, dOr, dNot, dChain, dCB, List.getElem?_cons_zero, List.getElem?_cons_succ, ifB_t, ifB_f, e_eq_int, e_eq_str, e_lt_int, e_le_int, e_gt, e_ge, e_isN_non, e_isN_obj, e_isN_tup, e_isN_lst, e_isN_str, e_isN_int, e_len_str, e_len_lst, e_len_tup, tru_bl, tru_int, tru_non, tru_lst, tru_tup, ex_some, bne_f, bne_t, decide_true, cxK, cxP, cxW, true_and])
local macro_rules | `(tactic| walk_at "lit") => `(tactic| simp only [Int.reduceEq, Int.reduceLT, Int.reduceLE, Int.reduceMod, Int.reduceAdd, Int.reduceSub, eq_self, ne_eq, not_true_eq_false, not_false_eq_true, decide_true, decide_false, ifB_t, ifB_f, bne_f, bne_t, e_l0, e_l1, e_l2, e_l3, e_t0, e_t1, e_t2, true_and])
section
variable {P : Program} {w : World} {K : PySem.W.Frag} {mg : Str → Option Value} {base : Heap}
variable {C_Nest : Addr}
def sp_ninit (C : Addr) : SpD := fun ds M Q _ => ∃ (sf : Addr) (B : Mp), ds = [.obj sf] ∧ M sf = some (.ins C []) ∧ B sf = none ∧ (∀ q o, B q = some o → M q = some o) ∧ ∀ b M', b.s = sf → NestAt ⟨P, w⟩ C b B NS.nil [] M' → Q .non M'
theorem ok_NestU_initU (T : Txt K mg) {f : Addr} {fd : FuncData} (F : FunD K "__init__" "Nest.__init__" (defArgs sNestU_initU) (defBody sNestU_initU) (defScope sNestU_initU) [] [] f fd) (fn : NF K C_Nest) : FnOk P w K mg base CX0 (0 + 1) f fd PNestU_initU (LSp K ((sp_ninit (P:=P) (w:=w) C_Nest))) := by
  refine fnD0 F scNestU_initU (fun ds M Q E h => by first | (obtain ⟨rfl, _⟩ := h; rfl) | (obtain ⟨_, rfl, _⟩ := h; rfl) | (obtain ⟨_, _, rfl, _⟩ := h; rfl) | (obtain ⟨_, _, _, rfl, _⟩ := h; rfl) | (obtain ⟨_, _, _, _, rfl, _⟩ := h; rfl) | (obtain ⟨_, _, _, _, _, rfl, _⟩ := h; rfl) | (obtain ⟨_, _, _, _, _, _, rfl, _⟩ := h; rfl) | (obtain ⟨_, _, _, _, _, _, _, rfl, _⟩ := h; rfl) | (obtain ⟨_, _, _, _, _, _, _, _, rfl, _⟩ := h; rfl) | (obtain ⟨_, _, _, _, _, _, _, _, _, rfl, _⟩ := h; rfl) | (obtain ⟨_, _, _, _, _, _, _, _, _, _, rfl, _⟩ := h; rfl) | (obtain ⟨_, _, _, _, _, _, _, _, _, _, _, rfl, _⟩ := h; rfl) | (obtain ⟨_, _, _, _, _, _, _, _, _, _, _, _, rfl, _⟩ := h; rfl) | (obtain ⟨_, _, _, _, _, _, _, _, _, _, _, _, _, rfl, _⟩ := h; rfl) | (obtain ⟨_, _, _, _, _, _, _, _, _, _, _, _, _, _, rfl, _⟩ := h; rfl) | (obtain ⟨_, _, _, _, _, _, _, _, _, _, _, _, _, _, _, rfl, _⟩ := h; rfl) | (obtain ⟨_, _, _, _, _, _, _, _, _, _, _, _, _, _, _, _, rfl, _⟩ := h; rfl) | (obtain ⟨_, _, _, _, _, _, _, _, _, _, _, _, _, _, _, _, _, rfl, _⟩ := h; rfl) | (obtain ⟨_, _, _, _, _, _, _, _, _, _, _, _, _, _, _, _, _, _, rfl, _⟩ := h; rfl) | (obtain ⟨_, _, _, _, _, _, _, _, _, _, _, _, _, _, _, _, _, _, _, rfl, _⟩ := h; rfl)) fun cdv A outer s H E F0 hr => ⟨_, (dss_cons (ds_fld (de_var (pv 0)) de_dnewX rfl)
      (dss_cons (ds_fld (de_var (pv 0)) (de_lst (own := true) da_nil) rfl)
      (dss_cons (ds_fld (de_var (pv 0)) de_dnewX rfl)
      (dss_cons (ds_fld (de_var (pv 0)) (de_lst (own := true) da_nil) rfl)
      (dss_cons (ds_fld (de_var (pv 0)) (de_lst (own := true) da_nil) rfl)
      (dss_cons (ds_fld (de_var (pv 0)) (de_lst (own := true) da_nil) rfl)
      (dss_one (ds_fld (de_var (pv 0)) de_dnewX rfl)))))))), fun ds M Q Ex h => ?_⟩
  obtain ⟨sf, B, rfl, hM, hB, hk, q⟩ := h
  walk_at "st"
  have h0 : InitAt C_Nest sf B [] [] M := ⟨hM, (fun x hx => nomatch hx), by simp, fun a ha => by simp at ha; rw [ha]; exact hB, hk⟩
  walk_at "dl"
  intro p1 e1
  refine ⟨sf, C_Nest, _, rfl, by rw [updM_ne (neM h0.at_ e1)]; exact h0.at_, fn.cls, fn.marks, (by show 0 < 1000; decide), ?_⟩
  have h1 := h0.add e1 (o := .dic ⟨P, w⟩ []) (fs' := (putD "marks" (.obj p1) []))
  walk_at "dl"
  intro p2 e2
  refine ⟨sf, C_Nest, _, rfl, by rw [updM_ne (neM h1.at_ e2)]; exact h1.at_, fn.cls, fn.told, (by show 1 < 1000; decide), ?_⟩
  have h2 := h1.add e2 (o := .lst []) (fs' := (putD "told" (.obj p2) (putD "marks" (.obj p1) [])))
  walk_at "dl"
  intro p3 e3
  refine ⟨sf, C_Nest, _, rfl, by rw [updM_ne (neM h2.at_ e3)]; exact h2.at_, fn.cls, fn.numbers, (by show 2 < 1000; decide), ?_⟩
  have h3 := h2.add e3 (o := .dic ⟨P, w⟩ []) (fs' := (putD "numbers" (.obj p3) (putD "told" (.obj p2) (putD "marks" (.obj p1) []))))
  walk_at "dl"
  intro p4 e4
  refine ⟨sf, C_Nest, _, rfl, by rw [updM_ne (neM h3.at_ e4)]; exact h3.at_, fn.cls, fn.mark_of, (by show 3 < 1000; decide), ?_⟩
  have h4 := h3.add e4 (o := .lst []) (fs' := (putD "mark_of" (.obj p4) (putD "numbers" (.obj p3) (putD "told" (.obj p2) (putD "marks" (.obj p1) [])))))
  walk_at "dl"
  intro p5 e5
  refine ⟨sf, C_Nest, _, rfl, by rw [updM_ne (neM h4.at_ e5)]; exact h4.at_, fn.cls, fn.inner, (by show 4 < 1000; decide), ?_⟩
  have h5 := h4.add e5 (o := .lst []) (fs' := (putD "inner" (.obj p5) (putD "mark_of" (.obj p4) (putD "numbers" (.obj p3) (putD "told" (.obj p2) (putD "marks" (.obj p1) []))))))
  walk_at "dl"
  intro p6 e6
  refine ⟨sf, C_Nest, _, rfl, by rw [updM_ne (neM h5.at_ e6)]; exact h5.at_, fn.cls, fn.sizes, (by show 5 < 1000; decide), ?_⟩
  have h6 := h5.add e6 (o := .lst []) (fs' := (putD "sizes" (.obj p6) (putD "inner" (.obj p5) (putD "mark_of" (.obj p4) (putD "numbers" (.obj p3) (putD "told" (.obj p2) (putD "marks" (.obj p1) [])))))))
  walk_at "dl"
  intro p7 e7
  refine ⟨sf, C_Nest, _, rfl, by rw [updM_ne (neM h6.at_ e7)]; exact h6.at_, fn.cls, fn.known, (by show 6 < 1000; decide), ?_⟩
  have h7 := h6.add e7 (o := .dic ⟨P, w⟩ []) (fs' := (putD "known" (.obj p7) (putD "sizes" (.obj p6) (putD "inner" (.obj p5) (putD "mark_of" (.obj p4) (putD "numbers" (.obj p3) (putD "told" (.obj p2) (putD "marks" (.obj p1) []))))))))
  have nd := h7.nd
  have at_ := h7.all
  have fr := h7.fr
  refine Wk.here (q ⟨sf, p1, p2, p3, p4, p5, p6, p7⟩ _ rfl ⟨h7.at_, at_ (p1, .dic ⟨P, w⟩ []) (by simp), at_ (p2, .lst []) (by simp), at_ (p3, .dic ⟨P, w⟩ []) (by simp), at_ (p4, .lst []) (by simp), at_ (p5, .lst []) (by simp), at_ (p6, .lst []) (by simp), at_ (p7, .dic ⟨P, w⟩ []) (by simp), nd, fun a ha => fr a ha, h7.kp⟩)
def sp_mark (C : Addr) : SpD := fun ds M Q _ => ∃ (b : NB) (B : Mp) (N : NS) (kn : List ((Nat × Nat) × Bool)) (p r : List Str), ds = [.obj b.s, .tup (p.map D.str), .tup (r.map D.str)] ∧ NestAt ⟨P, w⟩ C b B N kn M ∧ N.Good ∧ N.told.length < 1000 ∧
  ∀ (m : Nat) N' M', N'.Good → N.Ext N' → N'.told[m]? = some (p, r) → N'.nodes = N.nodes → N'.trs = N.trs → N'.told.length ≤ N.told.length + 1 → NestAt ⟨P, w⟩ C b B N' kn M' → Q (.int ((m : Nat) : Int)) M'
theorem ok_Nest_mark (T : Txt K mg) {f : Addr} {fd : FuncData} (F : FunD K "mark" "Nest.mark" (defArgs sNest_mark) (defBody sNest_mark) (defScope sNest_mark) [] [] f fd) (fn : NF K C_Nest) : FnOk P w K mg base CX0 (0 + 1) f fd PNest_mark (LSp K ((sp_mark (P:=P) (w:=w) C_Nest))) := by
  refine fnD0 F scNest_mark (fun ds M Q E h => by first | (obtain ⟨rfl, _⟩ := h; rfl) | (obtain ⟨_, rfl, _⟩ := h; rfl) | (obtain ⟨_, _, rfl, _⟩ := h; rfl) | (obtain ⟨_, _, _, rfl, _⟩ := h; rfl) | (obtain ⟨_, _, _, _, rfl, _⟩ := h; rfl) | (obtain ⟨_, _, _, _, _, rfl, _⟩ := h; rfl) | (obtain ⟨_, _, _, _, _, _, rfl, _⟩ := h; rfl) | (obtain ⟨_, _, _, _, _, _, _, rfl, _⟩ := h; rfl) | (obtain ⟨_, _, _, _, _, _, _, _, rfl, _⟩ := h; rfl) | (obtain ⟨_, _, _, _, _, _, _, _, _, rfl, _⟩ := h; rfl) | (obtain ⟨_, _, _, _, _, _, _, _, _, _, rfl, _⟩ := h; rfl) | (obtain ⟨_, _, _, _, _, _, _, _, _, _, _, rfl, _⟩ := h; rfl) | (obtain ⟨_, _, _, _, _, _, _, _, _, _, _, _, rfl, _⟩ := h; rfl) | (obtain ⟨_, _, _, _, _, _, _, _, _, _, _, _, _, rfl, _⟩ := h; rfl) | (obtain ⟨_, _, _, _, _, _, _, _, _, _, _, _, _, _, rfl, _⟩ := h; rfl) | (obtain ⟨_, _, _, _, _, _, _, _, _, _, _, _, _, _, _, rfl, _⟩ := h; rfl) | (obtain ⟨_, _, _, _, _, _, _, _, _, _, _, _, _, _, _, _, rfl, _⟩ := h; rfl) | (obtain ⟨_, _, _, _, _, _, _, _, _, _, _, _, _, _, _, _, _, rfl, _⟩ := h; rfl) | (obtain ⟨_, _, _, _, _, _, _, _, _, _, _, _, _, _, _, _, _, _, rfl, _⟩ := h; rfl) | (obtain ⟨_, _, _, _, _, _, _, _, _, _, _, _, _, _, _, _, _, _, _, rfl, _⟩ := h; rfl)) fun cdv A outer s H E F0 hr => ⟨_, (dss_cons (ds_set (i := 3) scNest_mark.nd rfl (Or.inl rfl) (de_tup (da_cons (de_var (pv 1)) (da_cons (de_var (pv 2)) da_nil))))
      (dss_cons (ds_if (dt_cmp (od_notInX hr.units) (de_var (pv 3)) (de_fldX (de_var (pv 0)) rfl) rfl) (dss_cons (ds_asg (de_callB cd_len rfl T.len (by decide +kernel) (da_cons (de_fldX (de_var (pv 0)) rfl) da_nil)) (dg_subX hr.u9 (de_fldX (de_var (pv 0)) rfl) (de_var (pv 3))))
      (dss_one (ds_expr (de_bl1 PySem.F.slot_list_append PySem.F.type_list_append md_append (de_fldX (de_var (pv 0)) rfl) (da_cons (de_var (pv 3)) da_nil))))) dss_nil)
      (dss_one (ds_ret (de_ixX hr.u9 (de_fldX (de_var (pv 0)) rfl) (de_var (pv 3)) (fun _ _ => rfl)))))), fun ds M Q Ex h => ?_⟩
  obtain ⟨b, B, N, kn, p, r, rfl, hA, hG, hl, q⟩ := h
  walk_at "st"
  have hs : sizeLine = 16777216 := sizeLine_eq
  refine seq_tail (fun σ M' => M' = M ∧ σ = [some (.obj b.s), some (.tup (p.map D.str)), some (.tup (r.map D.str)), some (prD (p, r))]) ?_ (fun N hN => by walk_at "dl"; exact hN _ _ ⟨rfl, rfl⟩)
  rintro _ _ ⟨rfl, rfl⟩
  refine seq_tail (fun σ M' => ∃ (m : Nat) (N' : NS), N'.Good ∧ N.Ext N' ∧ N'.told[m]? = some (p, r) ∧ N'.nodes = N.nodes ∧ N'.trs = N.trs ∧ N'.told.length ≤ N.told.length + 1 ∧ NestAt ⟨P, w⟩ C_Nest b B N' kn M' ∧ σ = [some (.obj b.s), some (.tup (p.map D.str)), some (.tup (r.map D.str)), some (prD (p, r))]) ?_ (fun Nx hN => ?_)
  · rintro _ M' ⟨m, N', g1, g2, g3, g4, g5, g6, g7, rfl⟩
    walk_at "dl"
    rw [x_get g7.at_ fn.cls fn.marks rfl]
    exact t_ix (eK := prD) (eV := nD) (k := (p, r)) (is_dic g7.k) (by show tget N'.told.zipIdx _ = _; rw [zipIdx_get _ _ g1.tn m _ g3, Nat.zero_add]) (Wk.here (q m N' M' g1 g2 g3 g4 g5 g6 g7))
  · walk_at "dl"
    rw [x_get hA.at_ fn.cls fn.marks rfl]
    refine t_in (eK := prD) (eV := nD) (k := (p, r)) (is_dic hA.k) ?_
    walk_at "dl"
    by_cases hm : (p, r) ∈ N.told
    · obtain ⟨i, hi⟩ := List.getElem?_of_mem hm
      have e : tget (N.sev kn).k (p, r) = some i := by show tget N.told.zipIdx _ = _; rw [zipIdx_get _ _ hG.tn i _ hi, Nat.zero_add]
      rw [e]
      exact ifB (fun h => by simp at h) (fun _ => hN _ _ ⟨i, N, hG, .refl, hi, rfl, rfl, by omega, hA, rfl⟩)
    · have e : tget (N.sev kn).k (p, r) = none := zipIdx_none hm
      rw [e]
      refine ifB (fun _ => ?_) (fun h => by simp at h)
      rw [x_get hA.at_ fn.cls fn.told rfl]
      rw [e_len_obj hA.t, x_get hA.at_ fn.cls fn.marks rfl, List.length_map]
      refine .inr (t_set (eK := prD) (eV := nD) (k := (p, r)) (v := N.told.length) hA.k (by show N.told.zipIdx.length < _; rw [List.length_zipIdx]; omega) ?_)
      have hA1 := hA.setK (tput (N.sev kn).k (p, r) N.told.length)
      rw [tput_new e] at hA1 ⊢
      walk_at "dl"
      rw [x_get hA1.at_ fn.cls fn.told rfl]
      refine ⟨isLst_of hA1.t, ?_⟩
      rw [e_append hA1.t]
      refine ⟨by rw [List.length_map]; show N.told.length < _; omega, ?_⟩
      have hA2 := hA1.setT (N.told ++ [(p, r)])
      obtain ⟨h1, h2⟩ := hG.tell hm
      refine hN _ _ ⟨N.told.length, N.tell (p, r), h1, h2, List.getElem?_concat_length, rfl, rfl, by unfold NS.tell; rw [List.length_append] <;> exact Nat.le_refl _, ?_, rfl⟩
      unfold NestAt NS.sev NS.tell
      rw [zipIdx_snoc]
      rw [List.map_append] at hA2
      exact hA2
def sp_node (C : Addr) : SpD := fun ds M Q _ => ∃ (b : NB) (B : Mp) (N : NS) (kn : List ((Nat × Nat) × Bool)) (m : Nat) (is : List Nat) (pr : List Str × List Str), ds = [.obj b.s, .int ((m : Nat) : Int), .lst (is.map fun i => .int ((i : Nat) : Int))] ∧ NestAt ⟨P, w⟩ C b B N kn M ∧ N.Good ∧ N.told[m]? = some pr ∧ (∀ j ∈ is, j < N.trs.length) ∧ is.length ≤ 1000 ∧ N.nodes.length < 1000 ∧ 1 + tszs (is.map N.tr) ≤ 1000 ∧
  ∀ (i : Nat) (js : List Nat) N' M', N'.Good → N.Ext N' → i < N'.trs.length → js.Perm is → N'.tr i = .mk pr.1 pr.2 (js.map N'.tr) → N'.told = N.told → N'.nodes.length ≤ N.nodes.length + 1 → NestAt ⟨P, w⟩ C b B N' kn M' → Q (.int ((i : Nat) : Int)) M'
theorem ok_Nest_node (T : Txt K mg) {f : Addr} {fd : FuncData} (F : FunD K "node" "Nest.node" (defArgs sNest_node) (defBody sNest_node) (defScope sNest_node) [] [] f fd) (fn : NF K C_Nest) : FnOk P w K mg base CX0 (0 + 1) f fd PNest_node (LSp K ((sp_node (P:=P) (w:=w) C_Nest))) := by
  refine fnD0 F scNest_node (fun ds M Q E h => by first | (obtain ⟨rfl, _⟩ := h; rfl) | (obtain ⟨_, rfl, _⟩ := h; rfl) | (obtain ⟨_, _, rfl, _⟩ := h; rfl) | (obtain ⟨_, _, _, rfl, _⟩ := h; rfl) | (obtain ⟨_, _, _, _, rfl, _⟩ := h; rfl) | (obtain ⟨_, _, _, _, _, rfl, _⟩ := h; rfl) | (obtain ⟨_, _, _, _, _, _, rfl, _⟩ := h; rfl) | (obtain ⟨_, _, _, _, _, _, _, rfl, _⟩ := h; rfl) | (obtain ⟨_, _, _, _, _, _, _, _, rfl, _⟩ := h; rfl) | (obtain ⟨_, _, _, _, _, _, _, _, _, rfl, _⟩ := h; rfl) | (obtain ⟨_, _, _, _, _, _, _, _, _, _, rfl, _⟩ := h; rfl) | (obtain ⟨_, _, _, _, _, _, _, _, _, _, _, rfl, _⟩ := h; rfl) | (obtain ⟨_, _, _, _, _, _, _, _, _, _, _, _, rfl, _⟩ := h; rfl) | (obtain ⟨_, _, _, _, _, _, _, _, _, _, _, _, _, rfl, _⟩ := h; rfl) | (obtain ⟨_, _, _, _, _, _, _, _, _, _, _, _, _, _, rfl, _⟩ := h; rfl) | (obtain ⟨_, _, _, _, _, _, _, _, _, _, _, _, _, _, _, rfl, _⟩ := h; rfl) | (obtain ⟨_, _, _, _, _, _, _, _, _, _, _, _, _, _, _, _, rfl, _⟩ := h; rfl) | (obtain ⟨_, _, _, _, _, _, _, _, _, _, _, _, _, _, _, _, _, rfl, _⟩ := h; rfl) | (obtain ⟨_, _, _, _, _, _, _, _, _, _, _, _, _, _, _, _, _, _, rfl, _⟩ := h; rfl) | (obtain ⟨_, _, _, _, _, _, _, _, _, _, _, _, _, _, _, _, _, _, _, rfl, _⟩ := h; rfl)) fun cdv A outer s H E F0 hr => ⟨_, (dss_cons (ds_set (i := 3) scNest_node.nd rfl (Or.inl rfl) (de_tup (da_cons (de_var (pv 1)) (da_cons (de_callTy cd_tuple rfl T.tuple (by decide +kernel) (da_cons (de_callB (cd_sortAny (own := false) rfl) rfl T.sorted (by decide +kernel) (da_cons (de_var (pv 2)) da_nil)) da_nil)) da_nil))))
      (dss_cons (ds_if (dt_cmp (od_notInX hr.units) (de_var (pv 3)) (de_fldX (de_var (pv 0)) rfl) rfl) (dss_cons (ds_asg (de_callB cd_len rfl T.len (by decide +kernel) (da_cons (de_fldX (de_var (pv 0)) rfl) da_nil)) (dg_subX hr.u9 (de_fldX (de_var (pv 0)) rfl) (de_var (pv 3))))
      (dss_cons (ds_expr (de_bl1 PySem.F.slot_list_append PySem.F.type_list_append md_append (de_fldX (de_var (pv 0)) rfl) (da_cons (de_var (pv 1)) da_nil)))
      (dss_cons (ds_expr (de_bl1 PySem.F.slot_list_append PySem.F.type_list_append md_append (de_fldX (de_var (pv 0)) rfl) (da_cons (de_ixX hr.u9 (de_var (pv 3)) de_int (fun _ _ => rfl)) da_nil)))
      (dss_one (ds_expr (de_bl1 PySem.F.slot_list_append PySem.F.type_list_append md_append (de_fldX (de_var (pv 0)) rfl) (da_cons (de_op (od_add (own := false)) de_int (de_callB (cd_sum rfl) rfl T.sum (by decide +kernel) (da_cons (de_lc (own := false) (x := "tree") (j := 4) rfl scNest_node.nd (di_items (de_ixX hr.u9 (de_var (pv 3)) de_int (fun _ _ => rfl))) (blkOk_by (N := NNest_node) (sc := defScope sNest_node) (by decide +kernel)) (fun _ _ _ _ _ => pg_name (i := 4) scNest_node.nd rfl (by first | exact Or.inl rfl | exact Or.inr rfl)) (fun _ _ _ _ _ => (de_ixP (pw := ⟨P, w⟩) rfl hr.u9 (de_fldP (Kk := K) rfl (de_var (pv 0)) rfl) (de_var (pv 4)) (fun _ _ => rfl)))) da_nil))) da_nil))))))) dss_nil)
      (dss_one (ds_ret (de_ixX hr.u9 (de_fldX (de_var (pv 0)) rfl) (de_var (pv 3)) (fun _ _ => rfl)))))), fun ds M Q Ex h => ?_⟩
  obtain ⟨b, B, N, kn, m, is, pr, rfl, hA, hG, hm, his, hil, hl, hbd, q⟩ := h
  obtain ⟨M0, hM0⟩ : ∃ M0, M0 = M := ⟨_, rfl⟩
  walk_at "st"
  have hs : sizeLine = 16777216 := sizeLine_eq
  refine seq_tail (fun σ M' => ∃ js, js.Perm is ∧ js.Pairwise (· ≤ ·) ∧ M' = M ∧ σ = [some (.obj b.s), some (.int ((m : Nat) : Int)), some (.lst (is.map fun i => .int ((i : Nat) : Int))), some (ndD (m, js)), none]) ?_ (fun Nx hN => ?_)
  rotate_left
  · walk_at "dl"
    refine .inl (e_sorted_nats (lsD_lst ..) hr.units (by omega) fun js h1 h2 => ?_)
    walk_at "dl"
    exact hN _ _ ⟨js, h1, h2, rfl, rfl⟩
  rintro _ _ ⟨js, hjp, hjs, rfl, rfl⟩
  have hjl : ∀ j ∈ js, j < N.trs.length := fun j hj => his j (hjp.mem_iff.mp hj)
  refine seq_tail (fun σ M' => ∃ (i : Nat) (N' : NS), N'.Good ∧ N.Ext N' ∧ N'.nodes[i]? = some (m, js) ∧ N'.told = N.told ∧ N'.nodes.length ≤ N.nodes.length + 1 ∧ NestAt ⟨P, w⟩ C_Nest b B N' kn M' ∧ σ = [some (.obj b.s), some (.int ((m : Nat) : Int)), some (.lst (is.map fun i => .int ((i : Nat) : Int))), some (ndD (m, js)), none]) ?_ (fun Nx hN => ?_)
  · rintro _ M' ⟨i, N', g1, g2, g3, g4, g5, g6, rfl⟩
    walk_at "dl"
    rw [x_get g6.at_ fn.cls fn.numbers rfl]
    obtain ⟨pr', a1, a2, a3, a4⟩ := g1.nd i m js g3
    rw [g4, hm] at a1
    cases a1
    exact t_ix (eK := ndD) (eV := nD) (k := (m, js)) (is_dic g6.n) (by show tget N'.nodes.zipIdx _ = _; rw [zipIdx_get _ _ g1.nn i _ g3, Nat.zero_add]) (Wk.here (q i js N' M' g1 g2 (by rw [g1.ln]; exact (List.getElem?_eq_some_iff.mp g3).1) hjp a2 g4 g5 g6))
  · walk_at "dl"
    rw [x_get hA.at_ fn.cls fn.numbers rfl]
    refine t_in (eK := ndD) (eV := nD) (k := (m, js)) (is_dic hA.n) ?_
    walk_at "dl"
    by_cases hmm : (m, js) ∈ N.nodes
    · obtain ⟨i, hi⟩ := List.getElem?_of_mem hmm
      have e : tget (N.sev kn).n (m, js) = some i := by show tget N.nodes.zipIdx _ = _; rw [zipIdx_get _ _ hG.nn i _ hi, Nat.zero_add]
      rw [e]
      exact ifB (fun h => by simp at h) (fun _ => hN _ _ ⟨i, N, hG, .refl, hi, rfl, by omega, hA, rfl⟩)
    · have e : tget (N.sev kn).n (m, js) = none := zipIdx_none hmm
      have hln := hG.ln
      rw [e]
      refine ifB (fun _ => ?_) (fun h => by simp at h)
      rw [x_get hA.at_ fn.cls fn.sizes rfl]
      rw [e_len_obj hA.z, x_get hA.at_ fn.cls fn.numbers rfl, List.length_map, show (N.sev kn).z.length = N.nodes.length by show (N.trs.map tsz).length = _; rw [List.length_map, hln]]
      refine .inr (t_set (eK := ndD) (eV := nD) (k := (m, js)) (v := N.nodes.length) hA.n (by show N.nodes.zipIdx.length < _; rw [List.length_zipIdx]; omega) ?_)
      have hA1 := hA.setN (tput (N.sev kn).n (m, js) N.nodes.length)
      rw [tput_new e] at hA1 ⊢
      rw [← hM0] at hA1 ⊢
      obtain ⟨M1, hM1⟩ : ∃ M1, M1 = updM M0 b.n (.dic ⟨P, w⟩ (tdc ndD nD ((N.sev kn).n ++ [((m, js), N.nodes.length)]))) := ⟨_, rfl⟩
      rw [← hM1] at hA1 ⊢
      walk_at "dl"
      rw [x_get hA1.at_ fn.cls fn.mark_of rfl]
      refine ⟨isLst_of hA1.m, ?_⟩
      rw [e_append hA1.m]
      refine ⟨by rw [List.length_map]; show (N.nodes.map (·.1)).length < _; rw [List.length_map]; omega, ?_⟩
      have hA2 := hA1.setM (N.nodes.map (·.1) ++ [m])
      rw [show (((N.sev kn).m.map nD) ++ [D.int ((m : Nat) : Int)]) = (N.nodes.map (·.1) ++ [m]).map nD by rw [List.map_append] <;> rfl]
      obtain ⟨M2, hM2⟩ : ∃ M2, M2 = updM M1 b.m (.lst ((N.nodes.map (·.1) ++ [m]).map nD)) := ⟨_, rfl⟩
      rw [← hM2] at hA2 ⊢
      rw [x_get hA2.at_ fn.cls fn.inner rfl]
      refine ⟨isLst_of hA2.i, ?_⟩
      have hnd : ndD (m, js) = .tup [.int ((m : Nat) : Int), plD js] := rfl
      rw [hnd]
      walk_at "dl"
      rw [e_append hA2.i]
      refine ⟨by rw [List.length_map]; show (N.nodes.map (·.2)).length < _; rw [List.length_map]; omega, ?_⟩
      have hA3 := hA2.setI (N.nodes.map (·.2) ++ [js])
      rw [show (((N.sev kn).i.map plD) ++ [plD js]) = (N.nodes.map (·.2) ++ [js]).map plD by rw [List.map_append] <;> rfl]
      obtain ⟨M3, hM3⟩ : ∃ M3, M3 = updM M2 b.i (.lst ((N.nodes.map (·.2) ++ [js]).map plD)) := ⟨_, rfl⟩
      rw [← hM3] at hA3 ⊢
      rw [x_get hA3.at_ fn.cls fn.sizes rfl]
      refine ⟨isLst_of hA3.z, ?_⟩
      have hjl2 : js.length = is.length := hjp.length_eq
      refine lc_pure (js.map fun j => .int ((j : Nat) : Int)) (fun d => match d with | .int k => .int ((tsz (N.tr k.toNat) : Nat) : Int) | x => x) (fun Kd hk => ?_) (by rw [List.length_map]; omega) (fun i d M' Q' hd hmono q' => ?_) ?_
      · unfold dItems
        walk_at "dl"
        exact hk
      · rw [List.getElem?_map] at hd
        obtain ⟨j, hj, rfl⟩ := Option.map_eq_some_iff.mp hd
        have hjm := hjl j (List.mem_of_getElem? hj)
        walk_at "dl"
        rw [x_get (hmono _ _ hA3.at_) fn.cls fn.sizes rfl]
        rw [ixX_obj (hmono _ _ hA3.z)]
        refine e_ix (sqD_obj (hmono _ _ hA3.z)) (v := nD (tsz (N.tr j))) ?_ ?_
        · rw [List.getElem?_map]
          show ((N.trs.map tsz)[j]?).map nD = _
          rw [List.getElem?_map, NS.tr_at hjm] <;> rfl
        · have e : ((j : Nat) : Int).toNat = j := by omega
          have q' : Q' (.int ((tsz (N.tr ((j : Nat) : Int).toNat) : Nat) : Int)) M' := q'
          rw [e] at q'
          exact q'
      · have hsum : ∀ l : List Nat, ((l.map fun j => ((tsz (N.tr j) : Nat) : Int)).sum) = ((tszs (l.map N.tr) : Nat) : Int) := fun l => by
          induction l with
          | nil => rw [List.map_nil, List.map_nil, tszs_nil]; rfl
          | cons x l ih => rw [List.map_cons, List.map_cons, List.sum_cons, ih, tszs_cons]; omega
        rw [e_new_f]
        refine ⟨js.map fun j => ((tsz (N.tr j) : Nat) : Int), ?_, ?_⟩
        · rw [List.map_map, List.map_map]
          congr 2
        rw [hsum]
        walk_at "dl"
        rw [e_append hA3.z]
        refine ⟨by rw [List.length_map]; show (N.trs.map tsz).length < _; rw [List.length_map]; omega, ?_⟩
        have hA4 := hA3.setZ ((N.trs ++ [Tre.mk pr.1 pr.2 (js.map N.tr)]).map tsz)
        obtain ⟨g1, g2, g3⟩ := hG.put hm hjl hjs hmm (by rw [tszs_perm (hjp.map N.tr)]; exact hbd)
        have ez : (((N.sev kn).z.map nD) ++ [D.int (1 + ((tszs (js.map N.tr) : Nat) : Int))]) = ((N.trs ++ [Tre.mk pr.1 pr.2 (js.map N.tr)]).map tsz).map nD := by
          rw [List.map_append, List.map_append, List.map_cons, List.map_nil, tsz_mk]
          show _ = _ ++ [D.int (((1 + tszs (js.map N.tr) : Nat) : Nat) : Int)]
          rw [show (((1 + tszs (js.map N.tr) : Nat) : Nat) : Int) = 1 + ((tszs (js.map N.tr) : Nat) : Int) by omega]
          rfl
        rw [ez]
        refine hN _ _ ⟨N.nodes.length, N.put m js (.mk pr.1 pr.2 (js.map N.tr)), g1, g2, by unfold NS.put; exact List.getElem?_concat_length, rfl, by unfold NS.put; rw [List.length_append] <;> exact Nat.le_refl _, ?_, rfl⟩
        unfold NestAt NS.sev NS.put
        rw [zipIdx_snoc, List.map_append, List.map_append]
        exact hA4
def sp_take (C : Addr) (n : Nat) : SpD := fun ds M Q _ => ∃ (b : NB) (B : Mp) (N : NS) (kn : List ((Nat × Nat) × Bool)) (t : Tre), ds = [.obj b.s, t.d] ∧ dpT t < n ∧ OkT t ∧ NestAt ⟨P, w⟩ C b B N kn M ∧ N.Good ∧ N.told.length + tsz t ≤ 1000 ∧ N.nodes.length + tsz t ≤ 1000 ∧
  ∀ (i : Nat) N' M', N'.Good → N.Ext N' → N'.Is t i → N'.told.length ≤ N.told.length + tsz t → N'.nodes.length ≤ N.nodes.length + tsz t → NestAt ⟨P, w⟩ C b B N' kn M' → Q (.int ((i : Nat) : Int)) M'
theorem ok_Nest_take (T : Txt K mg) {f : Addr} {fd : FuncData} (F : FunD K "take" "Nest.take" (defArgs sNest_take) (defBody sNest_take) (defScope sNest_take) [] [] f fd) (fn : NF K C_Nest) (h_Nest_node : Mth P w K mg base CX0 C_Nest (1) "node" PNest_node (sp_node (P:=P) (w:=w) C_Nest)) (h_Nest_take : Mth P w K mg base CX0 C_Nest (1+n) "take" PNest_take (sp_take (P:=P) (w:=w) C_Nest n)) (h_Nest_mark : Mth P w K mg base CX0 C_Nest (1) "mark" PNest_mark (sp_mark (P:=P) (w:=w) C_Nest)) : FnOk P w K mg base CX0 (1+n + 1) f fd PNest_take (LSp K ((sp_take (P:=P) (w:=w) C_Nest (n+1)))) := by
  refine fnD0 F scNest_take (fun ds M Q E h => by first | (obtain ⟨rfl, _⟩ := h; rfl) | (obtain ⟨_, rfl, _⟩ := h; rfl) | (obtain ⟨_, _, rfl, _⟩ := h; rfl) | (obtain ⟨_, _, _, rfl, _⟩ := h; rfl) | (obtain ⟨_, _, _, _, rfl, _⟩ := h; rfl) | (obtain ⟨_, _, _, _, _, rfl, _⟩ := h; rfl) | (obtain ⟨_, _, _, _, _, _, rfl, _⟩ := h; rfl) | (obtain ⟨_, _, _, _, _, _, _, rfl, _⟩ := h; rfl) | (obtain ⟨_, _, _, _, _, _, _, _, rfl, _⟩ := h; rfl) | (obtain ⟨_, _, _, _, _, _, _, _, _, rfl, _⟩ := h; rfl) | (obtain ⟨_, _, _, _, _, _, _, _, _, _, rfl, _⟩ := h; rfl) | (obtain ⟨_, _, _, _, _, _, _, _, _, _, _, rfl, _⟩ := h; rfl) | (obtain ⟨_, _, _, _, _, _, _, _, _, _, _, _, rfl, _⟩ := h; rfl) | (obtain ⟨_, _, _, _, _, _, _, _, _, _, _, _, _, rfl, _⟩ := h; rfl) | (obtain ⟨_, _, _, _, _, _, _, _, _, _, _, _, _, _, rfl, _⟩ := h; rfl) | (obtain ⟨_, _, _, _, _, _, _, _, _, _, _, _, _, _, _, rfl, _⟩ := h; rfl) | (obtain ⟨_, _, _, _, _, _, _, _, _, _, _, _, _, _, _, _, rfl, _⟩ := h; rfl) | (obtain ⟨_, _, _, _, _, _, _, _, _, _, _, _, _, _, _, _, _, rfl, _⟩ := h; rfl) | (obtain ⟨_, _, _, _, _, _, _, _, _, _, _, _, _, _, _, _, _, _, rfl, _⟩ := h; rfl) | (obtain ⟨_, _, _, _, _, _, _, _, _, _, _, _, _, _, _, _, _, _, _, rfl, _⟩ := h; rfl)) fun cdv A outer s H E F0 hr => ⟨_, (dss_cons (ds_asg (de_var (pv 1)) (dg_tup rfl (dgs_cons (dg_name (pg_name (i := 2) scNest_take.nd rfl (Or.inl rfl))) (dgs_cons (dg_name (pg_name (i := 3) scNest_take.nd rfl (Or.inl rfl))) (dgs_cons (dg_name (pg_name (i := 4) scNest_take.nd rfl (Or.inl rfl))) dgs_nil)))))
      (dss_one (ds_ret (de_mtX h_Nest_node (hr.mono (by omega)) pass0 finX0 (de_var (pv 0)) (da_cons (de_mtX h_Nest_mark (hr.mono (by omega)) pass0 finX0 (de_var (pv 0)) (da_cons (de_var (pv 2)) (da_cons (de_var (pv 3)) da_nil))) (da_cons (de_lc (own := false) (x := "one") (j := 5) rfl scNest_take.nd (di_items (de_var (pv 4))) (blkOk_by (N := NNest_take) (sc := defScope sNest_take) (by decide +kernel)) (fun _ _ _ _ _ => pg_name (i := 5) scNest_take.nd rfl (by first | exact Or.inl rfl | exact Or.inr rfl)) (fun _ _ _ _ _ => (de_mtX h_Nest_take (hr.mono (by omega)) pass0 finX0 (de_var (pv 0)) (da_cons (de_var (pv 5)) da_nil)))) da_nil)))))), fun ds M Q Ex h => ?_⟩
  obtain ⟨b, B, N, kn, t, rfl, hn, ht, hA, hG, hl1, hl2, q⟩ := h
  walk_at "st"
  have hs : sizeLine = 16777216 := sizeLine_eq
  obtain ⟨p, r, ks⟩ := t
  unfold OkT at ht
  obtain ⟨a1, a2, a3, a4, a5, a6⟩ := ht
  unfold dpT at hn
  rw [tsz_mk] at hl1 hl2 q
  have hd : Tre.d (.mk p r ks) = .tup [.tup (p.map D.str), .tup (r.map D.str), .tup (ks.map Tre.d)] := by unfold Tre.d; rw [tresD_map]
  rw [hd]
  refine seq_tail (fun σ M' => M' = M ∧ σ = [some (.obj b.s), some (.tup [.tup (p.map D.str), .tup (r.map D.str), .tup (ks.map Tre.d)]), some (.tup (p.map D.str)), some (.tup (r.map D.str)), some (.tup (ks.map Tre.d)), none]) ?_ (fun Nx hN => ?_)
  rotate_left
  · walk_at "dl"
    exact ⟨rfl, hN _ _ ⟨rfl, rfl⟩⟩
  rintro _ _ ⟨rfl, rfl⟩
  walk_at "dl"
  refine ⟨_, is_obj hA.at_, rfl, _, is_obj hA.at_, rfl, b, B, N, kn, p, r, rfl, hA, hG, by omega, fun m N1 M1 g1 g2 g3 g4 g5 g6 g7 => ?_⟩
  dsimp only
  have hsz := len_tszs ks
  refine lc_gen (fun ds M2 => ds = ks.map Tre.d ∧ M2 = M1) (fun Kd hk => ?_) (fun ds i acc M2 => ds = ks.map Tre.d ∧ ∃ N2 is, acc = is.map (fun i => D.int ((i : Nat) : Int)) ∧ N2.Good ∧ N1.Ext N2 ∧ F2 N2.Is (ks.take i) is ∧ N2.told.length ≤ N1.told.length + tszs (ks.take i) ∧ N2.nodes.length ≤ N1.nodes.length + tszs (ks.take i) ∧ NestAt ⟨P, w⟩ C_Nest b B N2 kn M2) ?_ ?_ ?_ ?_
  · unfold dItems
    walk_at "dl"
    exact hk _ _ ⟨rfl, rfl⟩
  · rintro ds M2 ⟨rfl, rfl⟩
    rw [List.length_map]
    omega
  · rintro ds M2 ⟨rfl, rfl⟩
    exact ⟨rfl, N1, [], rfl, g1, .refl, .nil, by omega, by omega, g7⟩
  · rintro ds i d acc M2 pa Q2 hd2 ⟨rfl, N2, is, rfl, k1, k2, k3, k4, k5, k6⟩ hpa hal hq
    rw [List.getElem?_map] at hd2
    obtain ⟨x, hx, rfl⟩ := Option.map_eq_some_iff.mp hd2
    have hxm := List.mem_of_getElem? hx
    have htk : ks.take (i + 1) = ks.take i ++ [x] := by rw [List.take_add_one, hx] <;> rfl
    have hsz2 : tszs (ks.take (i + 1)) = tszs (ks.take i) + tsz x := by rw [htk, tszs_app, tszs_cons, tszs_nil]; omega
    have hsz3 : tszs ks = tszs (ks.take (i + 1)) + tszs (ks.drop (i + 1)) := by rw [← tszs_app, List.take_append_drop]
    have hA2 := k6.push hpa (.lst (is.map fun i => D.int ((i : Nat) : Int)))
    have hbp := k6.base hpa
    rw [g4] at k5
    walk_at "dl"
    refine ⟨_, is_obj hA2.at_, rfl, b, _, N2, kn, x, rfl, ?_, okTs_mem a6 hxm, hA2, k1, by omega, by omega, fun j N3 M3 z1 z2 z3 z4 z5 z6 => ?_⟩
    · have := dpTs_mem hxm
      omega
    · obtain ⟨y1, y2, y3⟩ := z6.pop hbp
      rw [y3]
      refine hq _ _ y2 ⟨rfl, N3, is ++ [j], by rw [List.map_append] <;> rfl, z1, k2.trans z2, ?_, by omega, by rw [g4]; omega, y1⟩
      rw [htk]
      exact (k3.mono fun a b hab => hab.ext z2).snoc z3
  · rintro ds acc M2 hl ⟨rfl, N2, is, rfl, k1, k2, k3, k4, k5, k6⟩
    rw [List.length_map, List.take_length] at k3 k4 k5
    rw [e_new_f]
    have hlen := k3.len
    have hm2 := pre_get k2.t g3
    rw [g4] at k5
    refine ⟨b, B, N2, kn, m, is, (p, r), rfl, k6, k1, hm2, fun j hj => ?_, by omega, by omega, by rw [is_size k3]; omega, fun i js N3 M3 z1 z2 z3 z4 z5 z6 z7 z8 => ?_⟩
    · obtain ⟨i, hi⟩ := List.getElem?_of_mem hj
      exact (k3.get i _ j (List.getElem?_eq_getElem (by have := (List.getElem?_eq_some_iff.mp hi).1; omega)) hi).1
    · refine Wk.here (q i N3 M3 z1 (g2.trans (k2.trans z2)) ⟨z3, ?_⟩ (by rw [z6]; omega) (by omega) z8)
      rw [z5]
      exact equ_mk ((k3.mono fun a b hab => hab.ext z2).mono fun a b hab => hab.2) z4
end
end K20
namespace K20
open PySem PySem.Spec L2 DL Syn Mi Lb Bx Mt
local macro_rules | `(tactic| walk_at "st") => `(tactic| simp only [start_def, List.map_cons, List.map_nil, List.length_cons, List.length_nil, List.cons_append, List.nil_append, Nat.zero_add, Nat.reduceAdd, Nat.reduceSub, List.replicate])
local macro_rules | `(tactic| walk_at "dl") => `(tactic| simp only [dSeq, dNext, dDrop, dRet, dRetF, dRetN, dIfS, dAsg, dAug, dPar, nGm, nTup, nCons, nNil, dVar, dC, dOp, dUn, dCons, dNil, dTup, dLst, dB, dTru, dAnd, dOr, dNot, dAndV, dOrV, dNotV, dIf, dChain, dCB, dCall, dSlE, dNoPart, dPart, dRev, dS0, dS1, dBL, dBL0, dIsi, dBreak, dCont, List.set_cons_zero, List.set_cons_succ, List.getElem?_cons_zero, List.getElem?_cons_succ, ifB_t, ifB_f, e_new_f, e_new_t, e_add_int, e_add_str, e_add_tup, e_add_pl, e_len_pl, e_sl_pl, e_sl_last, e_add_lst, e_sub, e_mul, e_mul_str, e_mul_lst, e_div, e_mod, e_pow, e_neg, e_eq_int, e_eq_str, e_isN_non, e_isN_obj, e_isN_tup, e_isN_lst, e_lt_int, e_lt_str, e_le_int, e_le_str, e_gt, e_ge, e_in_str, e_t0, e_t1, e_t2, e_t3, e_t4, e_t5, e_l0, e_l1, e_l2, e_l3, e_sl_tup, e_sl_rdl, e_sl_str, e_sl_lst, e_len_str, e_len_lst, e_len_tup, e_int, e_tupC_tup, e_tupC_lst, e_iadd_int, e_iadd_str, e_isub, tru_bl, tru_int, tru_non, tru_lst, tru_tup, ex_some, bne_f, bne_t, e_nSub, cxK, cxP, cxW, decide_true, e_fld, e_sfld, e_meth, e_fldX, e_methX, lsD_lst, dDM, dDNewX, dPairs, dDisp, dFz, nSubX, dLockE, dLockS, dListV, ixX_tup, ixX_pl, ixX_lst, ixX_str, iaddX_int, iaddX_str, imul_int, e_isN_str, e_isN_int, sz0, sz1, sz2, sz3, sz4, sz5, sz6, sz7, sz8, true_and])
local macro_rules | `(tactic| walk_at "if") => `(tactic| simp only [dIfS, dVar, dC, dOp, dUn, dCons, dNil, dB, dTru, dAnd, dOr, dNot, dChain, dCB, List.getElem?_cons_zero, List.getElem?_cons_succ, ifB_t, ifB_f, e_eq_int, e_eq_str, e_lt_int, e_le_int, e_gt, e_ge, e_isN_non, e_isN_obj, e_isN_tup, e_isN_lst, e_isN_str, e_isN_int, e_len_str, e_len_lst, e_len_tup, tru_bl, tru_int, tru_non, tru_lst, tru_tup, ex_some, bne_f, bne_t, decide_true, cxK, cxP, cxW, true_and])
local macro_rules | `(tactic| walk_at "lit") => `(tactic| simp only [Int.reduceEq, Int.reduceLT, Int.reduceLE, Int.reduceMod, Int.reduceAdd, Int.reduceSub, eq_self, ne_eq, not_true_eq_false, not_false_eq_true, decide_true, decide_false, ifB_t, ifB_f, bne_f, bne_t, e_l0, e_l1, e_l2, e_l3, e_t0, e_t1, e_t2, true_and])
section
variable {P : Program} {w : World} {K : PySem.W.Frag} {mg : Str → Option Value} {base : Heap}
variable {C_Nest : Addr}
def sp_nlies (C : Addr) (n : Nat) : SpD := fun ds M Q _ => ∃ (b : NB) (B : Mp) (N : NS) (kn : List ((Nat × Nat) × Bool)) (i j : Nat), ds = [.obj b.s, .int ((i : Nat) : Int), .int ((j : Nat) : Int)] ∧ NestAt ⟨P, w⟩ C b B N kn M ∧ N.Good ∧ KnOk N kn ∧ i < N.trs.length ∧ j < N.trs.length ∧ dpT (N.tr i) < n ∧ N.trs.length ≤ 1000 ∧
  ∀ r kn' M', (r = true ↔ Lies (N.tr i) (N.tr j)) → KnOk N kn' → NestAt ⟨P, w⟩ C b B N kn' M' → Q (.bl r) M'
def sp_given (C : Addr) (n : Nat) : SpD := fun ds M Q _ => ∃ (b : NB) (B : Mp) (N : NS) (kn : List ((Nat × Nat) × Bool)) (is js : List Nat), ds = [.obj b.s, plD is, plD js] ∧ NestAt ⟨P, w⟩ C b B N kn M ∧ N.Good ∧ KnOk N kn ∧ (∀ i ∈ is, i < N.trs.length ∧ dpT (N.tr i) < n) ∧ (∀ j ∈ js, j < N.trs.length) ∧ is.length ≤ 1000 ∧ js.length ≤ 1000 ∧ N.trs.length ≤ 1000 ∧
  ∀ r kn' M', (r = true ↔ Emb N.R is js) → KnOk N kn' → NestAt ⟨P, w⟩ C b B N kn' M' → Q (.bl r) M'
theorem nD_eq {i j : Nat} : decide (((i : Nat) : Int) = ((j : Nat) : Int)) = decide (i = j) := decide_eq_decide.mpr (by omega)
theorem ok_Nest_lies (T : Txt K mg) {f : Addr} {fd : FuncData} (F : FunD K "lies" "Nest.lies" (defArgs sNest_lies) (defBody sNest_lies) (defScope sNest_lies) [] [] f fd) (fn : NF K C_Nest) (h_Nest_given : Mth P w K mg base CX0 C_Nest (10+3*n+2) "given" PNest_given (sp_given (P:=P) (w:=w) C_Nest n)) : FnOk P w K mg base CX0 (10+3*n+2 + 1) f fd PNest_lies (LSp K ((sp_nlies (P:=P) (w:=w) C_Nest (n+1)))) := by
  refine fnD0 F scNest_lies (fun ds M Q E h => by first | (obtain ⟨rfl, _⟩ := h; rfl) | (obtain ⟨_, rfl, _⟩ := h; rfl) | (obtain ⟨_, _, rfl, _⟩ := h; rfl) | (obtain ⟨_, _, _, rfl, _⟩ := h; rfl) | (obtain ⟨_, _, _, _, rfl, _⟩ := h; rfl) | (obtain ⟨_, _, _, _, _, rfl, _⟩ := h; rfl) | (obtain ⟨_, _, _, _, _, _, rfl, _⟩ := h; rfl) | (obtain ⟨_, _, _, _, _, _, _, rfl, _⟩ := h; rfl) | (obtain ⟨_, _, _, _, _, _, _, _, rfl, _⟩ := h; rfl) | (obtain ⟨_, _, _, _, _, _, _, _, _, rfl, _⟩ := h; rfl) | (obtain ⟨_, _, _, _, _, _, _, _, _, _, rfl, _⟩ := h; rfl) | (obtain ⟨_, _, _, _, _, _, _, _, _, _, _, rfl, _⟩ := h; rfl) | (obtain ⟨_, _, _, _, _, _, _, _, _, _, _, _, rfl, _⟩ := h; rfl) | (obtain ⟨_, _, _, _, _, _, _, _, _, _, _, _, _, rfl, _⟩ := h; rfl) | (obtain ⟨_, _, _, _, _, _, _, _, _, _, _, _, _, _, rfl, _⟩ := h; rfl) | (obtain ⟨_, _, _, _, _, _, _, _, _, _, _, _, _, _, _, rfl, _⟩ := h; rfl) | (obtain ⟨_, _, _, _, _, _, _, _, _, _, _, _, _, _, _, _, rfl, _⟩ := h; rfl) | (obtain ⟨_, _, _, _, _, _, _, _, _, _, _, _, _, _, _, _, _, rfl, _⟩ := h; rfl) | (obtain ⟨_, _, _, _, _, _, _, _, _, _, _, _, _, _, _, _, _, _, rfl, _⟩ := h; rfl) | (obtain ⟨_, _, _, _, _, _, _, _, _, _, _, _, _, _, _, _, _, _, _, rfl, _⟩ := h; rfl)) fun cdv A outer s H E F0 hr => ⟨_, (dss_cons (ds_if (dt_cmp (od_eq hr.units) (de_var (pv 1)) (de_var (pv 2)) (nomark _)) (dss_one (ds_ret de_bl)) dss_nil)
      (dss_cons (ds_if (dt_w (dw_or (dt_cmp (od_ne hr.units) (de_ixX hr.u9 (de_fldX (de_var (pv 0)) rfl) (de_var (pv 1)) (fun _ _ => rfl)) (de_ixX hr.u9 (de_fldX (de_var (pv 0)) rfl) (de_var (pv 2)) (fun _ _ => rfl)) (nomark _)) (dw_or1 (dt_cmp (od_ge) (de_ixX hr.u9 (de_fldX (de_var (pv 0)) rfl) (de_var (pv 1)) (fun _ _ => rfl)) (de_ixX hr.u9 (de_fldX (de_var (pv 0)) rfl) (de_var (pv 2)) (fun _ _ => rfl)) (nomark _))))) (dss_one (ds_ret de_bl)) dss_nil)
      (dss_one (ds_ret (de_mtX h_Nest_given (hr.mono (by omega)) pass0 finX0 (de_var (pv 0)) (da_cons (de_ixX hr.u9 (de_fldX (de_var (pv 0)) rfl) (de_var (pv 1)) (fun _ _ => rfl)) (da_cons (de_ixX hr.u9 (de_fldX (de_var (pv 0)) rfl) (de_var (pv 2)) (fun _ _ => rfl)) da_nil))))))), fun ds M Q Ex h => ?_⟩
  obtain ⟨b, B, N, kn, i, j, rfl, hA, hG, hK, hi, hj, hn, hl, q⟩ := h
  walk_at "st"
  have hs : sizeLine = 16777216 := sizeLine_eq
  obtain ⟨⟨m, is⟩, hni⟩ : ∃ x, N.nodes[i]? = some x := ⟨_, List.getElem?_eq_getElem (by rw [← hG.ln]; exact hi)⟩
  obtain ⟨⟨m', js⟩, hnj⟩ : ∃ x, N.nodes[j]? = some x := ⟨_, List.getElem?_eq_getElem (by rw [← hG.ln]; exact hj)⟩
  have gm : ∀ {k m : Nat} {is : List Nat}, N.nodes[k]? = some (m, is) → ((N.sev kn).m.map nD)[k]? = some (nD m) := fun {k m is} h => by
    rw [List.getElem?_map]
    show ((N.nodes.map (·.1))[k]?).map nD = _
    rw [List.getElem?_map, h] <;> rfl
  have gi : ∀ {k m : Nat} {is : List Nat}, N.nodes[k]? = some (m, is) → ((N.sev kn).i.map plD)[k]? = some (plD is) := fun {k m is} h => by
    rw [List.getElem?_map]
    show ((N.nodes.map (·.2))[k]?).map plD = _
    rw [List.getElem?_map, h] <;> rfl
  have gz : ∀ {k : Nat}, k < N.trs.length → ((N.sev kn).z.map nD)[k]? = some (nD (tsz (N.tr k))) := fun {k} h => by
    rw [List.getElem?_map]
    show ((N.trs.map tsz)[k]?).map nD = _
    rw [List.getElem?_map, NS.tr_at h] <;> rfl
  refine seq_tail (fun σ M' => i ≠ j ∧ M' = M ∧ σ = [some (.obj b.s), some (.int ((i : Nat) : Int)), some (.int ((j : Nat) : Int))]) ?_ (fun Nx hN => ?_)
  rotate_left
  · walk_at "dl"
    rw [nD_eq]
    refine ifB (fun h => ?_) (fun h => hN _ _ ⟨of_decide_eq_false h, rfl, rfl⟩)
    have e := of_decide_eq_true h
    subst e
    exact Wk.here (q true kn _ ⟨fun _ => lies_refl _, fun _ => rfl⟩ hK hA)
  rintro _ M ⟨hij, rfl, rfl⟩
  refine seq_tail (fun σ M' => m = m' ∧ M' = M ∧ σ = [some (.obj b.s), some (.int ((i : Nat) : Int)), some (.int ((j : Nat) : Int))]) ?_ (fun Nx hN => ?_)
  rotate_left
  · walk_at "dl"
    have no : ¬ Lies (N.tr i) (N.tr j) → Wk Q (.bl false) M := fun h => Wk.here (q false kn M ⟨(fun e => nomatch e), fun hl => absurd hl h⟩ hK hA)
    rw [x_get hA.at_ fn.cls fn.mark_of rfl, ixX_obj hA.m]
    refine e_ix (sqD_obj hA.m) (gm hni) ?_
    rw [x_get hA.at_ fn.cls fn.mark_of rfl, ixX_obj hA.m]
    refine e_ix (sqD_obj hA.m) (gm hnj) ?_
    unfold nD
    walk_at "dl"
    rw [nD_eq]
    refine ifB (fun h => no fun hl2 => ?_) (fun h => ?_)
    · have h : ¬ m = m' := by simpa using h
      exact h (hG.mark hni hnj hl2)
    have hmm : m = m' := by simpa using h
    rw [x_get hA.at_ fn.cls fn.sizes rfl, ixX_obj hA.z]
    refine e_ix (sqD_obj hA.z) (gz hi) ?_
    rw [x_get hA.at_ fn.cls fn.sizes rfl, ixX_obj hA.z]
    refine e_ix (sqD_obj hA.z) (gz hj) ?_
    unfold nD
    walk_at "dl"
    refine ifB (fun h => no fun hl2 => ?_) (fun h => ?_)
    · have h := of_decide_eq_true h
      exact hij (hG.uniq hi hj hl2 (by omega))
    exact hN _ _ ⟨hmm, rfl, rfl⟩
  rintro _ M ⟨hmm, rfl, rfl⟩
  walk_at "dl"
  refine ⟨_, is_obj hA.at_, rfl, ?_⟩
  rw [x_get hA.at_ fn.cls fn.inner rfl, ixX_obj hA.i]
  refine e_ix (sqD_obj hA.i) (gi hni) ?_
  rw [x_get hA.at_ fn.cls fn.inner rfl, ixX_obj hA.i]
  refine e_ix (sqD_obj hA.i) (gi hnj) ?_
  obtain ⟨k1, k2⟩ := hG.kids hni
  obtain ⟨k3, k4⟩ := hG.kids hnj
  have z1 := hG.bd i hi
  have z2 := hG.bd j hj
  refine ⟨b, B, N, kn, is, js, rfl, hA, hG, hK, fun k hk => ?_, fun k hk => ?_, by omega, by omega, hl, fun r kn' M' h1 h2 h3 => Wk.here (q r kn' M' (h1.trans (hG.lies hni hnj hmm).symm) h2 h3)⟩
  · obtain ⟨y1, y2⟩ := k1 k hk
    exact ⟨by omega, by omega⟩
  · have := (k3 k hk).1
    omega
theorem ok_Nest_within (T : Txt K mg) {f : Addr} {fd : FuncData} (F : FunD K "within" "Nest.within" (defArgs sNest_within) (defBody sNest_within) (defScope sNest_within) [] [] f fd) (fn : NF K C_Nest) (h_Nest_lies : Mth P w K mg base CX0 C_Nest (10+3*n) "lies" PNest_lies (sp_nlies (P:=P) (w:=w) C_Nest n)) : FnOk P w K mg base CX0 (10+3*n + 1) f fd PNest_within (LSp K ((sp_nlies (P:=P) (w:=w) C_Nest n))) := by
  refine fnD0 F scNest_within (fun ds M Q E h => by first | (obtain ⟨rfl, _⟩ := h; rfl) | (obtain ⟨_, rfl, _⟩ := h; rfl) | (obtain ⟨_, _, rfl, _⟩ := h; rfl) | (obtain ⟨_, _, _, rfl, _⟩ := h; rfl) | (obtain ⟨_, _, _, _, rfl, _⟩ := h; rfl) | (obtain ⟨_, _, _, _, _, rfl, _⟩ := h; rfl) | (obtain ⟨_, _, _, _, _, _, rfl, _⟩ := h; rfl) | (obtain ⟨_, _, _, _, _, _, _, rfl, _⟩ := h; rfl) | (obtain ⟨_, _, _, _, _, _, _, _, rfl, _⟩ := h; rfl) | (obtain ⟨_, _, _, _, _, _, _, _, _, rfl, _⟩ := h; rfl) | (obtain ⟨_, _, _, _, _, _, _, _, _, _, rfl, _⟩ := h; rfl) | (obtain ⟨_, _, _, _, _, _, _, _, _, _, _, rfl, _⟩ := h; rfl) | (obtain ⟨_, _, _, _, _, _, _, _, _, _, _, _, rfl, _⟩ := h; rfl) | (obtain ⟨_, _, _, _, _, _, _, _, _, _, _, _, _, rfl, _⟩ := h; rfl) | (obtain ⟨_, _, _, _, _, _, _, _, _, _, _, _, _, _, rfl, _⟩ := h; rfl) | (obtain ⟨_, _, _, _, _, _, _, _, _, _, _, _, _, _, _, rfl, _⟩ := h; rfl) | (obtain ⟨_, _, _, _, _, _, _, _, _, _, _, _, _, _, _, _, rfl, _⟩ := h; rfl) | (obtain ⟨_, _, _, _, _, _, _, _, _, _, _, _, _, _, _, _, _, rfl, _⟩ := h; rfl) | (obtain ⟨_, _, _, _, _, _, _, _, _, _, _, _, _, _, _, _, _, _, rfl, _⟩ := h; rfl) | (obtain ⟨_, _, _, _, _, _, _, _, _, _, _, _, _, _, _, _, _, _, _, rfl, _⟩ := h; rfl)) fun cdv A outer s H E F0 hr => ⟨_, (dss_cons (ds_set (i := 3) scNest_within.nd rfl (Or.inl rfl) (de_tup (da_cons (de_var (pv 1)) (da_cons (de_var (pv 2)) da_nil))))
      (dss_cons (ds_if (dt_cmp (od_notInX hr.units) (de_var (pv 3)) (de_fldX (de_var (pv 0)) rfl) rfl) (dss_one (ds_asg (de_mtX h_Nest_lies (hr.mono (by omega)) pass0 finX0 (de_var (pv 0)) (da_cons (de_var (pv 1)) (da_cons (de_var (pv 2)) da_nil))) (dg_subX hr.u9 (de_fldX (de_var (pv 0)) rfl) (de_var (pv 3))))) dss_nil)
      (dss_one (ds_ret (de_ixX hr.u9 (de_fldX (de_var (pv 0)) rfl) (de_var (pv 3)) (fun _ _ => rfl)))))), fun ds M Q Ex h => ?_⟩
  obtain ⟨b, B, N, kn, i, j, rfl, hA, hG, hK, hi, hj, hn, hl, q⟩ := h
  walk_at "st"
  have hs : sizeLine = 16777216 := sizeLine_eq
  refine seq_tail (fun σ M' => M' = M ∧ σ = [some (.obj b.s), some (.int ((i : Nat) : Int)), some (.int ((j : Nat) : Int)), some (kkD (i, j))]) ?_ (fun Nx hN => by walk_at "dl"; exact hN _ _ ⟨rfl, rfl⟩)
  rintro _ M ⟨rfl, rfl⟩
  refine seq_tail (fun σ M' => ∃ kn' r, (r = true ↔ Lies (N.tr i) (N.tr j)) ∧ KnOk N kn' ∧ tget kn' (i, j) = some r ∧ NestAt ⟨P, w⟩ C_Nest b B N kn' M' ∧ σ = [some (.obj b.s), some (.int ((i : Nat) : Int)), some (.int ((j : Nat) : Int)), some (kkD (i, j))]) ?_ (fun Nx hN => ?_)
  · rintro _ M' ⟨kn', r, h1, h2, h3, h4, rfl⟩
    walk_at "dl"
    rw [x_get h4.at_ fn.cls fn.known rfl]
    exact t_ix (eK := kkD) (eV := D.bl) (k := (i, j)) (is_dic h4.w) h3 (Wk.here (q r kn' M' h1 h2 h4))
  · walk_at "dl"
    rw [x_get hA.at_ fn.cls fn.known rfl]
    refine t_in (eK := kkD) (eV := D.bl) (k := (i, j)) (is_dic hA.w) ?_
    walk_at "dl"
    cases e : tget (N.sev kn).w (i, j) with
    | some r =>
      refine ifB (fun h => by simp at h) (fun _ => hN _ _ ⟨kn, r, (hK.ok _ (tget_mem e)).2.2, hK, e, hA, rfl⟩)
    | none =>
      refine ifB (fun _ => ?_) (fun h => by simp at h)
      refine ⟨_, is_obj hA.at_, rfl, b, B, N, kn, i, j, rfl, hA, hG, hK, hi, hj, hn, hl, fun r kn' M' h1 h2 h3 => ?_⟩
      dsimp only
      rw [x_get h3.at_ fn.cls fn.known rfl]
      refine .inr (t_set (eK := kkD) (eV := D.bl) (k := (i, j)) (v := r) h3.w (by rw [hs]; exact h2.small hl) ?_)
      exact hN _ _ ⟨tput kn' (i, j) r, r, h1, h2.put hi hj h1, by rw [tget_put, if_pos rfl], h3.setW _, rfl⟩
theorem ok_Nest_given (T : Txt K mg) {f : Addr} {fd : FuncData} (F : FunD K "given" "Nest.given" (defArgs sNest_given) (defBody sNest_given) (defScope sNest_given) [] [] f fd) (fn : NF K C_Nest) (h_Nest_within : Mth P w K mg base CX0 C_Nest (10+3*n+1) "within" PNest_within (sp_nlies (P:=P) (w:=w) C_Nest n)) (h_matched : Callee P w K mg base CX0 (2) "matched" Pmatched sp_matched) : FnOk P w K mg base CX0 (10+3*n+1 + 1) f fd PNest_given (LSp K ((sp_given (P:=P) (w:=w) C_Nest n))) := by
  refine fnD0 F scNest_given (fun ds M Q E h => by first | (obtain ⟨rfl, _⟩ := h; rfl) | (obtain ⟨_, rfl, _⟩ := h; rfl) | (obtain ⟨_, _, rfl, _⟩ := h; rfl) | (obtain ⟨_, _, _, rfl, _⟩ := h; rfl) | (obtain ⟨_, _, _, _, rfl, _⟩ := h; rfl) | (obtain ⟨_, _, _, _, _, rfl, _⟩ := h; rfl) | (obtain ⟨_, _, _, _, _, _, rfl, _⟩ := h; rfl) | (obtain ⟨_, _, _, _, _, _, _, rfl, _⟩ := h; rfl) | (obtain ⟨_, _, _, _, _, _, _, _, rfl, _⟩ := h; rfl) | (obtain ⟨_, _, _, _, _, _, _, _, _, rfl, _⟩ := h; rfl) | (obtain ⟨_, _, _, _, _, _, _, _, _, _, rfl, _⟩ := h; rfl) | (obtain ⟨_, _, _, _, _, _, _, _, _, _, _, rfl, _⟩ := h; rfl) | (obtain ⟨_, _, _, _, _, _, _, _, _, _, _, _, rfl, _⟩ := h; rfl) | (obtain ⟨_, _, _, _, _, _, _, _, _, _, _, _, _, rfl, _⟩ := h; rfl) | (obtain ⟨_, _, _, _, _, _, _, _, _, _, _, _, _, _, rfl, _⟩ := h; rfl) | (obtain ⟨_, _, _, _, _, _, _, _, _, _, _, _, _, _, _, rfl, _⟩ := h; rfl) | (obtain ⟨_, _, _, _, _, _, _, _, _, _, _, _, _, _, _, _, rfl, _⟩ := h; rfl) | (obtain ⟨_, _, _, _, _, _, _, _, _, _, _, _, _, _, _, _, _, rfl, _⟩ := h; rfl) | (obtain ⟨_, _, _, _, _, _, _, _, _, _, _, _, _, _, _, _, _, _, rfl, _⟩ := h; rfl) | (obtain ⟨_, _, _, _, _, _, _, _, _, _, _, _, _, _, _, _, _, _, _, rfl, _⟩ := h; rfl)) fun cdv A outer s H E F0 hr => ⟨_, (dss_cons (ds_par (i := 3) (j := 4) rfl scNest_given.nd rfl rfl (by decide) rfl rfl (da_cons (de_lst (own := true) da_nil) (da_cons (de_callTy (cd_listAny (own := true) rfl) rfl T.list (by decide +kernel) (da_cons (de_var (pv 2)) da_nil)) da_nil)) rfl)
      (dss_cons (ds_for PassesOwn.never rfl (di_items (de_var (pv 1))) (dg_name (pg_name (i := 5) scNest_given.nd rfl (Or.inr rfl))) (dss_one (ds_if (dt_cmp (od_inX hr.units) (de_var (pv 5)) (de_var (pv 4)) rfl) (dss_one (ds_expr (de_bl1 PySem.F.slot_list_remove PySem.F.type_list_remove md_remove (de_var (pv 4)) (da_cons (de_var (pv 5)) da_nil)))) (dss_one (ds_expr (de_bl1 PySem.F.slot_list_append PySem.F.type_list_append md_append (de_var (pv 3)) (da_cons (de_var (pv 5)) da_nil)))))))
      (dss_cons (ds_if (dt_cmp (od_gt) (de_callB cd_len rfl T.len (by decide +kernel) (da_cons (de_var (pv 3)) da_nil)) (de_callB cd_len rfl T.len (by decide +kernel) (da_cons (de_var (pv 4)) da_nil)) (nomark _)) (dss_one (ds_ret de_bl)) dss_nil)
      (dss_cons (ds_set (i := 6) scNest_given.nd rfl (Or.inl rfl) (de_lst (own := true) da_nil))
      (dss_cons (ds_for PassesOwn.never rfl (di_items (de_var (pv 3))) (dg_name (pg_name (i := 5) scNest_given.nd rfl (Or.inr rfl))) (dss_cons (ds_expr (de_bl1 PySem.F.slot_list_append PySem.F.type_list_append md_append (de_var (pv 6)) (da_cons (de_lcG (own := false) (ow := [("at", 7), ("other", 8)]) (put2_ok (i := 7) (j := 8) (by decide)) rfl scNest_given.nd (di_enumL rfl T.enumerate (da_cons (de_var (pv 4)) da_nil)) (blkOk_by (N := NNest_given) (sc := defScope sNest_given) (by decide +kernel)) (fun _ _ _ _ _ => pg_tup rfl (pgs_cons (pg_name (i := 7) scNest_given.nd rfl (by first | exact Or.inl rfl | exact Or.inr rfl)) (pgs_cons (pg_name (i := 8) scNest_given.nd rfl (by first | exact Or.inl rfl | exact Or.inr rfl)) pgs_nil))) (fun _ _ _ _ _ => dts_one (dt_tru (de_mtX h_Nest_within (hr.mono (by omega)) pass0 finX0 (de_var (pv 0)) (da_cons (de_var (pv 5)) (da_cons (de_var (pv 8)) da_nil))))) (fun _ _ _ _ _ => (de_var (pv 7)))) da_nil)))
      (dss_one (ds_if (dt_not (dt_tru (de_ixX hr.u9 (de_var (pv 6)) (de_un ud_neg de_int) (fun _ _ => rfl)))) (dss_one (ds_ret de_bl)) dss_nil))))
      (dss_one (ds_ret (de_fn h_matched (hr.mono (by omega)) rfl pass0 finX0 (da_cons (de_var (pv 6)) (da_cons (de_callB cd_len rfl T.len (by decide +kernel) (da_cons (de_var (pv 4)) da_nil)) da_nil)))))))))), fun ds M Q Ex h => ?_⟩
  obtain ⟨b, B, N, kn, is, js, rfl, hA, hG, hK, hi, hj, hli, hlj, hl, q⟩ := h
  walk_at "st"
  have hs : sizeLine = 16777216 := sizeLine_eq
  have refl : ∀ x, N.R x x := fun x => lies_refl _
  have trans : ∀ x y z, N.R x y → N.R y z → N.R x z := fun x y z => lies_trans
  have hpl : ∀ l : List Nat, plD l = .tup (l.map fun i => .int ((i : Nat) : Int)) := fun l => rfl
  obtain ⟨dI, hdI⟩ : ∃ dI, dI = plD is := ⟨_, rfl⟩
  obtain ⟨dJ, hdJ⟩ : ∃ dJ, dJ = plD js := ⟨_, rfl⟩
  rw [← hdI, ← hdJ]
  refine seq_tail (fun σ M' => ∃ pl pp, pl ≠ pp ∧ M pl = none ∧ M pp = none ∧ M' = updM (updM M pl (.lst [])) pp (.lst (js.map nD)) ∧ σ = [some (.obj b.s), some dI, some dJ, some (.obj pl), some (.obj pp), none, none, none, none]) ?_ (fun Nx hN => ?_)
  rotate_left
  · walk_at "dl"
    intro pl hpl0
    refine .inl ⟨js.map nD, by rw [hdJ]; rfl, ?_⟩
    intro pp hpp0
    have n1 : pp ≠ pl := fun e => by rw [e, updM_same] at hpp0; cases hpp0
    rw [updM_ne n1] at hpp0
    exact hN _ _ ⟨pl, pp, n1.symm, hpl0, hpp0, rfl, rfl⟩
  rintro _ _ ⟨pl, pp, n1, hpl1, hpp1, rfl, rfl⟩
  have opl := hA.out hpl1
  have opp := hA.out hpp1
  have bpl := hA.base hpl1
  have bpp := hA.base hpp1
  let S : Option D → Option D → Option D → Option D → DS := fun a5 a6 a7 a8 => [some (.obj b.s), some dI, some dJ, some (.obj pl), some (.obj pp), a5, a6, a7, a8]
  refine seq_tail (fun σ M' => ∃ (lf pc : List Nat) (a5 : Option D), M' pl = some (.lst (lf.map nD)) ∧ M' pp = some (.lst (pc.map nD)) ∧ NestAt ⟨P, w⟩ C_Nest b B N kn M' ∧ (Emb N.R lf pc ↔ Emb N.R is js) ∧ (∀ x ∈ lf, x ∈ is) ∧ (∀ x ∈ pc, x ∈ js) ∧ lf.length ≤ 1000 ∧ pc.length ≤ 1000 ∧ σ = S a5 none none none) ?_ (fun Nx hN => ?_)
  rotate_left
  · refine for_pure (is.map nD) (fun Kd hk => ?_) (fun i σ M' => ∃ (lf pc : List Nat) (a5 : Option D), M' pl = some (.lst (lf.map nD)) ∧ M' pp = some (.lst (pc.map nD)) ∧ NestAt ⟨P, w⟩ C_Nest b B N kn M' ∧ (Emb N.R (lf ++ is.drop i) pc ↔ Emb N.R is js) ∧ (∀ x ∈ lf, x ∈ is) ∧ (∀ x ∈ pc, x ∈ js) ∧ lf.length ≤ i ∧ pc.length ≤ js.length ∧ σ = S a5 none none none) ⟨[], js, none, by rw [updM_ne n1, updM_same] <;> rfl, updM_same, (hA.other opl bpl _).other opp bpp _, by rw [List.nil_append, List.drop_zero], (fun x hx => nomatch hx), fun x hx => hx, Nat.le_refl _, Nat.le_refl _, rfl⟩ ?_ ?_
    · unfold dItems
      rw [hdI]
      walk_at "dl"
      exact hk
    · rintro i d σ M1 N1 hd ⟨lf, pc, a5, hL, hP, hA1, he, k1, k2, k3, k4, rfl⟩ hN1
      rw [List.getElem?_map] at hd
      obtain ⟨x, hx, rfl⟩ := Option.map_eq_some_iff.mp hd
      have hxm := List.mem_of_getElem? hx
      have hil := (List.getElem?_eq_some_iff.mp hx).1
      have hdr : is.drop i = x :: is.drop (i + 1) := by
        rw [List.drop_eq_getElem_cons hil]
        congr 1
        exact (List.getElem?_eq_some_iff.mp hx).2
      rw [hdr] at he
      simp only [S, nGm, List.set_cons_zero, List.set_cons_succ]
      walk_at "dl"
      refine .inr (.inl ⟨_, sqD_obj hP, shal_nat x, fun z hz => ?_, ?_⟩)
      · obtain ⟨y, _, rfl⟩ := List.mem_map.mp hz
        exact shal_nat y
      rw [any_nats]
      walk_at "dl"
      refine ifB (fun h => ?_) (fun h => ?_)
      · have hm : x ∈ pc := of_decide_eq_true h
        obtain ⟨j, f1, f2, f3⟩ := first_at hm
        refine ⟨isLst_of hP, pp, pc.map fun k => ((k : Nat) : Int), ((x : Nat) : Int), j, rfl, rfl, by rw [List.map_map]; exact hP, by rw [List.getElem?_map, f1] <;> rfl, fun m hmj e => ?_, ?_⟩
        · rw [List.getElem?_map] at e
          obtain ⟨y, hy, e⟩ := Option.map_eq_some_iff.mp e
          have : y = x := by omega
          subst this
          exact f2 m hmj hy
        · rw [era_map, List.map_map]
          have hl1 := f3.length_eq
          rw [List.length_cons] at hl1
          refine hN1 _ _ ⟨lf, pc.eraseIdx j, _, by rw [updM_ne n1]; exact hL, updM_same, hA1.other opp bpp _, (emb_skip refl trans f3).symm.trans he, k1, fun y hy => k2 y (f3.mem_iff.mpr (List.mem_cons_of_mem _ hy)), by omega, by omega, rfl⟩
      · refine ⟨isLst_of hL, ?_⟩
        rw [e_append hL]
        refine ⟨by rw [List.length_map]; omega, ?_⟩
        rw [show lf.map nD ++ [nD x] = (lf ++ [x]).map nD by rw [List.map_append] <;> rfl]
        refine hN1 _ _ ⟨lf ++ [x], pc, _, updM_same, by rw [updM_ne n1.symm]; exact hP, hA1.other opl bpl _, by rw [List.append_assoc]; exact he, fun y hy => ?_, k2, by rw [List.length_append, List.length_singleton]; omega, k4, rfl⟩
        rcases List.mem_append.mp hy with hy | hy
        · exact k1 y hy
        · rw [List.mem_singleton.mp hy]
          exact hxm
    · rintro σ M1 ⟨lf, pc, a5, hL, hP, hA1, he, k1, k2, k3, k4, rfl⟩
      rw [List.length_map] at k3 he
      rw [List.drop_length, List.append_nil] at he
      exact hN _ _ ⟨lf, pc, a5, hL, hP, hA1, he, k1, k2, by omega, by omega, rfl⟩
  rintro _ M1 ⟨lf, pc, a5, hL, hP, hA1, he, k1, k2, k3, k4, rfl⟩
  have no : ∀ kn' M', ¬ Emb N.R lf pc → KnOk N kn' → NestAt ⟨P, w⟩ C_Nest b B N kn' M' → Wk Q (.bl false) M' := fun kn' M' h h2 h3 => Wk.here (q false kn' M' ⟨(fun e => nomatch e), fun hl => absurd (he.mpr hl) h⟩ h2 h3)
  refine seq_tail (fun σ M' => M' = M1 ∧ σ = S a5 none none none) ?_ (fun Nx hN => ?_)
  rotate_left
  · simp only [S]
    walk_at "dl"
    rw [e_len_obj hL, e_len_obj hP, List.length_map, List.length_map]
    walk_at "dl"
    refine ifB (fun h => no kn M1 (fun hl => ?_) hK hA1) (fun h => hN _ _ ⟨rfl, rfl⟩)
    have h := of_decide_eq_true h
    have := hl.len
    omega
  rintro _ M1 ⟨rfl, rfl⟩
  refine seq_tail (fun σ M' => ∃ pa, M1 pa = none ∧ M' = updM M1 pa (.lst []) ∧ σ = S a5 (some (.obj pa)) none none) ?_ (fun Nx hN => ?_)
  rotate_left
  · simp only [S]
    walk_at "dl"
    intro pa hpa
    exact hN _ _ ⟨pa, hpa, rfl, rfl⟩
  rintro _ _ ⟨pa, hpa, rfl, rfl⟩
  have n2 : pl ≠ pa := neM hL hpa
  have n3 : pp ≠ pa := neM hP hpa
  have opa := hA1.out hpa
  have bpa := hA1.base hpa
  let wf : Nat → Nat → Bool := fun x k => @decide (∃ y, pc[k]? = some y ∧ N.R x y) (Classical.propDecidable _)
  let wy : Nat → List Nat := fun x => (List.range pc.length).filter (wf x)
  have hEmb : (∃ f, Full (lf.map wy) f) ↔ Emb N.R lf pc := emb_full (by rw [List.length_map]) fun i w x hi hx p => by
    rw [List.getElem?_map, hx] at hi
    have hi : some (wy x) = some w := hi
    cases hi
    constructor
    · intro h
      obtain ⟨h1, h2⟩ := List.mem_filter.mp h
      exact @of_decide_eq_true _ (Classical.propDecidable _) h2
    · rintro ⟨y, h1, h2⟩
      exact List.mem_filter.mpr ⟨List.mem_range.mpr (List.getElem?_eq_some_iff.mp h1).1, @decide_eq_true _ (Classical.propDecidable _) ⟨y, h1, h2⟩⟩
  have hWok : WaysOk (lf.map wy) pc.length := ⟨by rw [List.length_map]; exact k3, k4, fun w hw => by
    obtain ⟨x, _, rfl⟩ := List.mem_map.mp hw
    refine ⟨?_, fun p hp => List.mem_range.mp (List.mem_filter.mp hp).1⟩
    have := List.length_filter_le (wf x) (List.range pc.length)
    rw [List.length_range] at this
    show (List.filter _ _).length ≤ 1000
    omega⟩
  let S2 : Option D → Option D → Option D → DS := fun a5 a7 a8 => S a5 (some (.obj pa)) a7 a8
  let At : List (List Nat) → List ((Nat × Nat) × Bool) → Mp → Prop := fun ws kn' M' => M' pl = some (.lst (lf.map nD)) ∧ M' pp = some (.lst (pc.map nD)) ∧ M' pa = some (.lst (ws.map natsD)) ∧ NestAt ⟨P, w⟩ C_Nest b B N kn' M' ∧ KnOk N kn'
  refine seq_tail (fun σ M' => ∃ kn' a5 a7 a8, At (lf.map wy) kn' M' ∧ σ = S2 a5 a7 a8) ?_ (fun Nx hN => ?_)
  · rintro σ M' ⟨kn', a5, a7, a8, ⟨hL2, hP2, hW2, hA2, hK2⟩, rfl⟩
    simp only [S2, S]
    walk_at "dl"
    rw [e_len_obj hP2, List.length_map]
    refine ⟨pa, lf.map wy, pc.length, rfl, hW2, hWok, fun r M3 hr hm => ?_⟩
    exact Wk.here (q r kn' M3 (hr.trans (hEmb.trans he)) hK2 (hA2.to (fun a ha => by
      obtain ⟨o, ho⟩ := hA2.some_at ha
      rw [ho]
      exact hm a o ho) hA2.fr fun a o ho => hm a o (hA2.kp a o ho)))
  · refine for_keep (lf.map nD) (fun M' => M' pl = some (.lst (lf.map nD))) (fun Kd hk => ?_) (fun i σ M' => ∃ kn' a5 a7 a8, At ((lf.take i).map wy) kn' M' ∧ σ = S2 a5 a7 a8) ⟨kn, a5, none, none, ⟨by rw [updM_ne n2]; exact hL, by rw [updM_ne n3]; exact hP, updM_same, hA1.other opa bpa _, hK⟩, rfl⟩ ?_ ?_ ?_
    · unfold dItems
      simp only [S]
      walk_at "dl"
      exact ⟨_, by rw [updM_ne n2]; exact hL, hk _ fun M' h => h⟩
    · rintro i σ M' ⟨kn', a5, a7, a8, hA2, rfl⟩
      exact hA2.1
    · rintro i d σ M2 N2 hd ⟨kn', a5, a7, a8, ⟨hL2, hP2, hW2, hA2, hK2⟩, rfl⟩ hN2
      rw [List.getElem?_map] at hd
      obtain ⟨x, hx, rfl⟩ := Option.map_eq_some_iff.mp hd
      have hxm := List.mem_of_getElem? hx
      have hil := (List.getElem?_eq_some_iff.mp hx).1
      have htk : lf.take (i + 1) = lf.take i ++ [x] := by rw [List.take_add_one, hx] <;> rfl
      obtain ⟨hxl, hxd⟩ := hi x (k1 x hxm)
      simp only [S2, S, nGm, List.set_cons_zero, List.set_cons_succ]
      refine seq_tail (fun σ M' => ∃ kn' a7 a8, At ((lf.take (i + 1)).map wy) kn' M' ∧ σ = S2 (some (nD x)) a7 a8) ?_ (fun N3 hN3 => ?_)
      · rintro σ M' ⟨kn2, a7, a8, ⟨hL3, hP3, hW3, hA3, hK3⟩, rfl⟩
        simp only [S2, S]
        walk_at "dl"
        rw [ixX_obj hW3, e_ix_at (d := natsD (wy x)) (sqD_obj hW3) (Lb.atI_last (by rw [htk, List.map_append, List.map_append, List.map_cons, List.map_nil, List.map_cons, List.map_nil, List.getLast?_concat]))]
        unfold natsD
        walk_at "dl"
        refine ifB (fun h => no kn2 M' (fun hl => ?_) hK3 hA3) (fun h => hN2 _ _ ⟨kn2, _, a7, a8, ⟨hL3, hP3, hW3, hA3, hK3⟩, rfl⟩)
        obtain ⟨f, hf1, hf2, hf3⟩ := hEmb.mpr hl
        rw [List.length_map] at hf1
        have hm := hf3 i f[i] (wy x) (List.getElem?_eq_getElem (by omega)) (by rw [List.getElem?_map, hx] <;> rfl)
        cases e : wy x with
        | nil => rw [e] at hm; cases hm
        | cons y l => rw [e] at h; simp at h
      · walk_at "dl"
        refine ⟨isLst_of hW2, ?_⟩
        refine lcg_gen (pairs (pc.map nD)) (fun M' => M' pp = some (.lst (pc.map nD))) (fun Kd hk => ?_) (by rw [pairs_len, List.length_map]; omega) (fun k acc M' => ∃ kn', acc = ((List.range k).filter (wf x)).map nD ∧ At ((lf.take i).map wy) kn' M') ⟨kn', rfl, hL2, hP2, hW2, hA2, hK2⟩ ?_ ?_ ?_
        · unfold dEnumL
          walk_at "dl"
          exact ⟨_, hP2, hk⟩
        · rintro k acc M' p ⟨kn3, rfl, hL3, hP3, hW3, hA3, hK3⟩ hp
          rw [updM_ne (neM hP3 hp)]
          exact hP3
        · rintro k d acc M' p hd ⟨kn3, rfl, hL3, hP3, hW3, hA3, hK3⟩ hacc hp
          obtain ⟨y0, hy0, rfl⟩ := pairs_of hd
          rw [List.getElem?_map] at hy0
          obtain ⟨y, hy, rfl⟩ := Option.map_eq_some_iff.mp hy0
          have hym := List.mem_of_getElem? hy
          refine ⟨_, rfl, fun Kb hKb => ?_⟩
          simp only [List.set_cons_zero, List.set_cons_succ]
          have op := hA3.out hp
          have bp := hA3.base hp
          have hA4 := hA3.other op bp (.lst (((List.range k).filter (wf x)).map nD))
          have hA5 := hA4.whole
          walk_at "dl"
          refine ⟨_, is_obj hA4.at_, rfl, b, _, N, kn3, x, y, rfl, hA5, hG, hK3, hxl, hj y (k2 y hym), hxd, hl, fun r kn4 M4 g1 g2 g3 => ?_⟩
          have gk : ∀ q o, q ∉ b.all → q ≠ p → M' q = some o → M4 q = some o := fun q o h1 h2 h3 => g3.kp q o (by rw [outM_out h1, updM_ne h2]; exact h3)
          have gp : M4 p = some (.lst (((List.range k).filter (wf x)).map nD)) := g3.kp p _ (by rw [outM_out op, updM_same])
          have hA6 := (g3.weak (B := B) fun q o hq => hA4.keep q o hq).rem op bp
          have hAt : At ((lf.take i).map wy) kn4 (remM M4 p) := ⟨by rw [remM_ne (neM hL3 hp)]; exact gk _ _ opl (neM hL3 hp) hL3, by rw [remM_ne (neM hP3 hp)]; exact gk _ _ opp (neM hP3 hp) hP3, by rw [remM_ne (neM hW3 hp)]; exact gk _ _ opa (neM hW3 hp) hW3, hA6, g2⟩
          have hb : wf x k = r := by
            have hiff : (∃ z, pc[k]? = some z ∧ N.R x z) ↔ r = true := by
              rw [g1]
              constructor
              · rintro ⟨z, h1, h2⟩
                rw [hy] at h1
                cases h1
                exact h2
              · exact fun h => ⟨y, hy, h⟩
            cases r with
            | true => exact @decide_eq_true _ (Classical.propDecidable _) (hiff.mpr rfl)
            | false => exact @decide_eq_false _ (Classical.propDecidable _) (fun h => nomatch hiff.mp h)
          have hrg : (List.range (k + 1)).filter (wf x) = (List.range k).filter (wf x) ++ (if r then [k] else []) := by
            rw [List.range_succ, List.filter_append, List.filter_cons, hb]
            cases r <;> rfl
          rw [← upd_rem gp]
          refine ⟨r, rfl, hKb r (remM M4 p) remM_at (fun hr Q' hQ' => ?_) (fun hr => ⟨kn4, by rw [hrg, hr]; simp, hAt⟩)⟩
          walk_at "dl"
          exact hQ' _ _ remM_at ⟨kn4, by rw [hrg, hr, List.map_append] <;> rfl, hAt⟩
        · rintro acc M' hacc ⟨kn3, rfl, hL3, hP3, hW3, hA3, hK3⟩
          rw [pairs_len, List.length_map] 
          rw [e_new_f, e_append hW3]
          refine ⟨by rw [List.length_map, List.length_map, List.length_take]; omega, ?_⟩
          rw [pairs_len, List.length_map] at hacc
          refine hN3 _ _ ⟨kn3, a7, a8, ⟨by rw [updM_ne n2]; exact hL3, by rw [updM_ne n3]; exact hP3, ?_, hA3.other opa bpa _, hK3⟩, rfl⟩
          rw [updM_same, htk, List.map_append, List.map_append]
          rfl
    · rintro σ M' ⟨kn', a5, a7, a8, hA2, rfl⟩
      rw [List.length_map, List.take_length] at hA2
      exact hN _ _ ⟨kn', a5, a7, a8, hA2, rfl⟩
end
end K20
namespace K20
open PySem PySem.Spec L2 DL Syn Mi Lb Bx Mt
local macro_rules | `(tactic| walk_at "st") => `(tactic| simp only [start_def, List.map_cons, List.map_nil, List.length_cons, List.length_nil, List.cons_append, List.nil_append, Nat.zero_add, Nat.reduceAdd, Nat.reduceSub, List.replicate])
local macro_rules | `(tactic| walk_at "dl") => `(tactic| simp only [dSeq, dNext, dDrop, dRet, dRetF, dRetN, dIfS, dAsg, dAug, dPar, nGm, nTup, nCons, nNil, dVar, dC, dOp, dUn, dCons, dNil, dTup, dLst, dB, dTru, dAnd, dOr, dNot, dAndV, dOrV, dNotV, dIf, dChain, dCB, dCall, dSlE, dNoPart, dPart, dRev, dS0, dS1, dBL, dBL0, dIsi, dBreak, dCont, List.set_cons_zero, List.set_cons_succ, List.getElem?_cons_zero, List.getElem?_cons_succ, ifB_t, ifB_f, e_new_f, e_new_t, e_add_int, e_add_str, e_add_tup, e_add_pl, e_len_pl, e_sl_pl, e_sl_last, e_add_lst, e_sub, e_mul, e_mul_str, e_mul_lst, e_div, e_mod, e_pow, e_neg, e_eq_int, e_eq_str, e_isN_non, e_isN_obj, e_isN_tup, e_isN_lst, e_lt_int, e_lt_str, e_le_int, e_le_str, e_gt, e_ge, e_in_str, e_t0, e_t1, e_t2, e_t3, e_t4, e_t5, e_l0, e_l1, e_l2, e_l3, e_sl_tup, e_sl_rdl, e_sl_str, e_sl_lst, e_len_str, e_len_lst, e_len_tup, e_int, e_tupC_tup, e_tupC_lst, e_iadd_int, e_iadd_str, e_isub, tru_bl, tru_int, tru_non, tru_lst, tru_tup, ex_some, bne_f, bne_t, e_nSub, cxK, cxP, cxW, decide_true, e_fld, e_sfld, e_meth, e_fldX, e_methX, lsD_lst, dDM, dDNewX, dPairs, dDisp, dFz, nSubX, dLockE, dLockS, dListV, ixX_tup, ixX_pl, ixX_lst, ixX_str, iaddX_int, iaddX_str, imul_int, e_isN_str, e_isN_int, sz0, sz1, sz2, sz3, sz4, sz5, sz6, sz7, sz8, true_and])
local macro_rules | `(tactic| walk_at "if") => `(tactic| simp only [dIfS, dVar, dC, dOp, dUn, dCons, dNil, dB, dTru, dAnd, dOr, dNot, dChain, dCB, List.getElem?_cons_zero, List.getElem?_cons_succ, ifB_t, ifB_f, e_eq_int, e_eq_str, e_lt_int, e_le_int, e_gt, e_ge, e_isN_non, e_isN_obj, e_isN_tup, e_isN_lst, e_isN_str, e_isN_int, e_len_str, e_len_lst, e_len_tup, tru_bl, tru_int, tru_non, tru_lst, tru_tup, ex_some, bne_f, bne_t, decide_true, cxK, cxP, cxW, true_and])
local macro_rules | `(tactic| walk_at "lit") => `(tactic| simp only [Int.reduceEq, Int.reduceLT, Int.reduceLE, Int.reduceMod, Int.reduceAdd, Int.reduceSub, eq_self, ne_eq, not_true_eq_false, not_false_eq_true, decide_true, decide_false, ifB_t, ifB_f, bne_f, bne_t, e_l0, e_l1, e_l2, e_l3, e_t0, e_t1, e_t2, true_and])
section
variable {P : Program} {w : World} {K : PySem.W.Frag} {mg : Str → Option Value} {base : Heap}
variable {C_Nest : Addr}
def sp_lies : SpD := fun ds M Q _ => ∃ (s t : Tre), ds = [s.d, t.d] ∧ dpT s < 20 ∧ dpT t < 20 ∧ OkT s ∧ OkT t ∧ tsz s + tsz t ≤ 900 ∧ ∀ b M', (b = true ↔ Lies s t) → (∀ q o, M q = some o → M' q = some o) → Q (.bl b) M'
theorem ok_lies (T : Txt K mg) {f : Addr} {fd : FuncData} (F : FunD K "lies" "lies" (defArgs slies) (defBody slies) (defScope slies) [] [] f fd) (fn : NF K C_Nest) (h_NestU_initU : Mkr P w K mg base CX0 C_Nest (1) "Nest" PNestU_initU (sp_ninit (P:=P) (w:=w) C_Nest)) (h_Nest_lies : Mth P w K mg base CX0 C_Nest (70) "lies" PNest_lies (sp_nlies (P:=P) (w:=w) C_Nest 20)) (h_Nest_take : Mth P w K mg base CX0 C_Nest (21) "take" PNest_take (sp_take (P:=P) (w:=w) C_Nest 20)) : FnOk P w K mg base CX0 (100 + 1) f fd Plies (LSp K (sp_lies)) := by
  refine fnD0 F sclies (fun ds M Q E h => by first | (obtain ⟨rfl, _⟩ := h; rfl) | (obtain ⟨_, rfl, _⟩ := h; rfl) | (obtain ⟨_, _, rfl, _⟩ := h; rfl) | (obtain ⟨_, _, _, rfl, _⟩ := h; rfl) | (obtain ⟨_, _, _, _, rfl, _⟩ := h; rfl) | (obtain ⟨_, _, _, _, _, rfl, _⟩ := h; rfl) | (obtain ⟨_, _, _, _, _, _, rfl, _⟩ := h; rfl) | (obtain ⟨_, _, _, _, _, _, _, rfl, _⟩ := h; rfl) | (obtain ⟨_, _, _, _, _, _, _, _, rfl, _⟩ := h; rfl) | (obtain ⟨_, _, _, _, _, _, _, _, _, rfl, _⟩ := h; rfl) | (obtain ⟨_, _, _, _, _, _, _, _, _, _, rfl, _⟩ := h; rfl) | (obtain ⟨_, _, _, _, _, _, _, _, _, _, _, rfl, _⟩ := h; rfl) | (obtain ⟨_, _, _, _, _, _, _, _, _, _, _, _, rfl, _⟩ := h; rfl) | (obtain ⟨_, _, _, _, _, _, _, _, _, _, _, _, _, rfl, _⟩ := h; rfl) | (obtain ⟨_, _, _, _, _, _, _, _, _, _, _, _, _, _, rfl, _⟩ := h; rfl) | (obtain ⟨_, _, _, _, _, _, _, _, _, _, _, _, _, _, _, rfl, _⟩ := h; rfl) | (obtain ⟨_, _, _, _, _, _, _, _, _, _, _, _, _, _, _, _, rfl, _⟩ := h; rfl) | (obtain ⟨_, _, _, _, _, _, _, _, _, _, _, _, _, _, _, _, _, rfl, _⟩ := h; rfl) | (obtain ⟨_, _, _, _, _, _, _, _, _, _, _, _, _, _, _, _, _, _, rfl, _⟩ := h; rfl) | (obtain ⟨_, _, _, _, _, _, _, _, _, _, _, _, _, _, _, _, _, _, _, rfl, _⟩ := h; rfl)) fun cdv A outer s H E F0 hr => ⟨_, (dss_cons (ds_set (i := 2) sclies.nd rfl (Or.inl rfl) (de_new0 h_NestU_initU (hr.mono (by omega)) rfl pass0 finX0))
      (dss_one (ds_ret (de_mtX h_Nest_lies (hr.mono (by omega)) pass0 finX0 (de_var (pv 2)) (da_cons (de_mtX h_Nest_take (hr.mono (by omega)) pass0 finX0 (de_var (pv 2)) (da_cons (de_var (pv 0)) da_nil)) (da_cons (de_mtX h_Nest_take (hr.mono (by omega)) pass0 finX0 (de_var (pv 2)) (da_cons (de_var (pv 1)) da_nil)) da_nil)))))), fun ds M Q Ex h => ?_⟩
  obtain ⟨s, t, rfl, hn1, hn2, hs1, ht1, hz, q⟩ := h
  walk_at "st"
  refine seq_tail (fun σ M' => ∃ b, NestAt ⟨P, w⟩ C_Nest b M NS.nil [] M' ∧ σ = [some s.d, some t.d, some (.obj b.s)]) ?_ (fun Nx hN => ?_)
  rotate_left
  · walk_at "dl"
    unfold dMake
    walk_at "dl"
    intro x hx
    refine ⟨x, M, rfl, updM_same, hx, fun q o hq => by rw [updM_ne (neM hq hx)]; exact hq, fun b M2 hb hA => ⟨rfl, ?_⟩⟩
    subst hb
    exact hN _ _ ⟨b, hA, rfl⟩
  · rintro σ M' ⟨b, hA, rfl⟩
    walk_at "dl"
    refine ⟨_, is_obj hA.at_, rfl, _, is_obj hA.at_, rfl, b, M, NS.nil, [], s, rfl, hn1, hs1, hA, NS.Good.nil, by show 0 + _ ≤ _; omega, by show 0 + _ ≤ _; omega, fun i N1 M1 g1 g2 g3 g4 g5 g6 => ?_⟩
    have g4 : N1.told.length ≤ 0 + tsz s := g4
    have g5 : N1.nodes.length ≤ 0 + tsz s := g5
    refine ⟨_, is_obj g6.at_, rfl, b, M, N1, [], t, rfl, hn2, ht1, g6, g1, by omega, by omega, fun j N2 M2 k1 k2 k3 k4 k5 k6 => ?_⟩
    obtain ⟨e1, e2⟩ := g3.ext k2
    refine ⟨b, M, N2, [], i, j, rfl, k6, k1, KnOk.nil, e1, k3.1, ?_, by have := k1.ln; omega, fun r kn' M3 h1 h2 h3 => Wk.here (q r M3 (h1.trans (equ_lies e2 k3.2).symm) h3.kp)⟩
    have := lies_depth e2.2
    omega
end
end K20
namespace K20
open PySem PySem.Spec L2 DL Syn Mi Lb Bx Mt
local macro_rules | `(tactic| walk_at "st") => `(tactic| simp only [start_def, List.map_cons, List.map_nil, List.length_cons, List.length_nil, List.cons_append, List.nil_append, Nat.zero_add, Nat.reduceAdd, Nat.reduceSub, List.replicate])
local macro_rules | `(tactic| walk_at "dl") => `(tactic| simp only [dSeq, dNext, dDrop, dRet, dRetF, dRetN, dIfS, dAsg, dAug, dPar, nGm, nTup, nCons, nNil, dVar, dC, dOp, dUn, dCons, dNil, dTup, dLst, dB, dTru, dAnd, dOr, dNot, dAndV, dOrV, dNotV, dIf, dChain, dCB, dCall, dSlE, dNoPart, dPart, dRev, dS0, dS1, dBL, dBL0, dIsi, dBreak, dCont, List.set_cons_zero, List.set_cons_succ, List.getElem?_cons_zero, List.getElem?_cons_succ, ifB_t, ifB_f, e_new_f, e_new_t, e_add_int, e_add_str, e_add_tup, e_add_pl, e_len_pl, e_sl_pl, e_sl_last, e_add_lst, e_sub, e_mul, e_mul_str, e_mul_lst, e_div, e_mod, e_pow, e_neg, e_eq_int, e_eq_str, e_isN_non, e_isN_obj, e_isN_tup, e_isN_lst, e_lt_int, e_lt_str, e_le_int, e_le_str, e_gt, e_ge, e_in_str, e_t0, e_t1, e_t2, e_t3, e_t4, e_t5, e_l0, e_l1, e_l2, e_l3, e_sl_tup, e_sl_rdl, e_sl_str, e_sl_lst, e_len_str, e_len_lst, e_len_tup, e_int, e_tupC_tup, e_tupC_lst, e_iadd_int, e_iadd_str, e_isub, tru_bl, tru_int, tru_non, tru_lst, tru_tup, ex_some, bne_f, bne_t, e_nSub, cxK, cxP, cxW, decide_true, e_fld, e_sfld, e_meth, e_fldX, e_methX, lsD_lst, dDM, dDNewX, dPairs, dDisp, dFz, nSubX, dLockE, dLockS, dListV, ixX_tup, ixX_pl, ixX_lst, ixX_str, iaddX_int, iaddX_str, imul_int, e_isN_str, e_isN_int, sz0, sz1, sz2, sz3, sz4, sz5, sz6, sz7, sz8, true_and])
local macro_rules | `(tactic| walk_at "if") => `(tactic| simp only [dIfS, dVar, dC, dOp, dUn, dCons, dNil, dB, dTru, dAnd, dOr, dNot, dChain, dCB, List.getElem?_cons_zero, List.getElem?_cons_succ, ifB_t, ifB_f, e_eq_int, e_eq_str, e_lt_int, e_le_int, e_gt, e_ge, e_isN_non, e_isN_obj, e_isN_tup, e_isN_lst, e_isN_str, e_isN_int, e_len_str, e_len_lst, e_len_tup, tru_bl, tru_int, tru_non, tru_lst, tru_tup, ex_some, bne_f, bne_t, decide_true, cxK, cxP, cxW, true_and])
local macro_rules | `(tactic| walk_at "lit") => `(tactic| simp only [Int.reduceEq, Int.reduceLT, Int.reduceLE, Int.reduceMod, Int.reduceAdd, Int.reduceSub, eq_self, ne_eq, not_true_eq_false, not_false_eq_true, decide_true, decide_false, ifB_t, ifB_f, bne_f, bne_t, e_l0, e_l1, e_l2, e_l3, e_t0, e_t1, e_t2, true_and])
section
variable {P : Program} {w : World} {K : PySem.W.Frag} {mg : Str → Option Value} {base : Heap}
theorem pick {pw : Wd} {M : Mp} {Q : DK} {a pn : Addr} {ns : List Str} {Ed : DX} (hB : BoxAt M a) (hN : M pn = some (.lst (ns.map D.str))) (hne : a ≠ pn) (h0 : 0 < ns.length) (hl : ns.length ≤ 100) (q : ∀ s M2, s ∈ ns → BoN a M M2 → Q (.str s) M2) : sp_bdraw [.obj a, .int ((ns.length : Nat) : Int)] M (fun y M2 => dIxX pw (.obj pn) y M2 Q) Ed := by
  refine ⟨a, _, rfl, by omega, by omega, hB, fun n M2 n0 n1 hb => ?_⟩
  have hN2 := hb.keep hne hN
  dsimp only
  rw [ixX_obj hN2, show n = ((n.toNat : Nat) : Int) by omega]
  have hlt : n.toNat < ns.length := by omega
  exact e_ix (sqD_obj hN2) (v := .str ns[n.toNat]) (by rw [List.getElem?_map, List.getElem?_eq_getElem hlt] <;> rfl) (q _ _ (List.getElem_mem hlt) hb)
structure NsAt (M : Mp) (p : Addr) (ns : List Str) : Prop where
  at_ : M p = some (.lst (ns.map D.str))
  pos : 0 < ns.length
  few : ns.length ≤ 100
  ok : ∀ s ∈ ns, PyData.strOk s = true
theorem NsAt.kx {M M' : Mp} {p : Addr} {ns : List Str} {S : List Addr} (h : NsAt M p ns) (k : Kx S M M') (hp : p ∉ S) : NsAt M' p ns := ⟨k p _ hp h.at_, h.pos, h.few, h.ok⟩
def sp_grow (n : Nat) : SpD := fun ds M Q _ => ∃ (a pn pv pl : Addr) (ns vs : List Str) (p : List Str) (d : Nat) (l : Int), ds = [.obj a, .tup (p.map D.str), .obj pn, .obj pv, .int ((d : Nat) : Int), .obj pl] ∧ d < n ∧ BoxAt M a ∧ NsAt M pn ns ∧ NsAt M pv vs ∧ M pl = some (.lst [.int l]) ∧ a ≠ pn ∧ a ≠ pv ∧ a ≠ pl ∧ pn ≠ pl ∧ pv ≠ pl ∧ (∀ x ∈ p, PyData.strOk x = true) ∧ p.length + d ≤ 10 ∧
  ∀ t M' (l' : Int), Gr 3 d t → t.p = p → BoxAt M' a → M' pl = some (.lst [.int l']) → Kx [a, pl] M M' → Q t.d M'
theorem ok__law_grow (T : Txt K mg) {f : Addr} {fd : FuncData} (F : FunD K "_law_grow" "_law_grow" (defArgs s_law_grow) (defBody s_law_grow) (defScope s_law_grow) [] [] f fd) (h__law_draw : Callee P w K mg base CX0 (1) "_law_draw" P_law_draw sp_bdraw) (h__law_grow : Callee P w K mg base CX0 (1+n) "_law_grow" P_law_grow (sp_grow n)) : FnOk P w K mg base CX0 (1+n + 1) f fd P_law_grow (LSp K ((sp_grow (n+1)))) := by
  refine fnD0 F sc_law_grow (fun ds M Q E h => by first | (obtain ⟨rfl, _⟩ := h; rfl) | (obtain ⟨_, rfl, _⟩ := h; rfl) | (obtain ⟨_, _, rfl, _⟩ := h; rfl) | (obtain ⟨_, _, _, rfl, _⟩ := h; rfl) | (obtain ⟨_, _, _, _, rfl, _⟩ := h; rfl) | (obtain ⟨_, _, _, _, _, rfl, _⟩ := h; rfl) | (obtain ⟨_, _, _, _, _, _, rfl, _⟩ := h; rfl) | (obtain ⟨_, _, _, _, _, _, _, rfl, _⟩ := h; rfl) | (obtain ⟨_, _, _, _, _, _, _, _, rfl, _⟩ := h; rfl) | (obtain ⟨_, _, _, _, _, _, _, _, _, rfl, _⟩ := h; rfl) | (obtain ⟨_, _, _, _, _, _, _, _, _, _, rfl, _⟩ := h; rfl) | (obtain ⟨_, _, _, _, _, _, _, _, _, _, _, rfl, _⟩ := h; rfl) | (obtain ⟨_, _, _, _, _, _, _, _, _, _, _, _, rfl, _⟩ := h; rfl) | (obtain ⟨_, _, _, _, _, _, _, _, _, _, _, _, _, rfl, _⟩ := h; rfl) | (obtain ⟨_, _, _, _, _, _, _, _, _, _, _, _, _, _, rfl, _⟩ := h; rfl) | (obtain ⟨_, _, _, _, _, _, _, _, _, _, _, _, _, _, _, rfl, _⟩ := h; rfl) | (obtain ⟨_, _, _, _, _, _, _, _, _, _, _, _, _, _, _, _, rfl, _⟩ := h; rfl) | (obtain ⟨_, _, _, _, _, _, _, _, _, _, _, _, _, _, _, _, _, rfl, _⟩ := h; rfl) | (obtain ⟨_, _, _, _, _, _, _, _, _, _, _, _, _, _, _, _, _, _, rfl, _⟩ := h; rfl) | (obtain ⟨_, _, _, _, _, _, _, _, _, _, _, _, _, _, _, _, _, _, _, rfl, _⟩ := h; rfl)) fun cdv A outer s H E F0 hr => ⟨_, (dss_cons (ds_set (i := 6) sc_law_grow.nd rfl (Or.inl rfl) (de_lst (own := true) da_nil))
      (dss_cons (ds_if (dt_cmp (od_gt) (de_var (pv 4)) de_int (nomark _)) (dss_one (ds_for PassesOwn.never rfl (di_range1 rfl T.range (da_cons (de_fn h__law_draw (hr.mono (by omega)) rfl pass0 finX0 (da_cons (de_var (pv 0)) (da_cons de_int da_nil))) da_nil)) (dg_name (pg_name (i := 7) sc_law_grow.nd rfl (Or.inl rfl))) (dss_one (ds_if (dt_cmp (od_gt) (de_ixX hr.u9 (de_var (pv 5)) de_int (fun _ _ => rfl)) de_int (nomark _)) (dss_cons (ds_asg (de_op (od_sub) (de_ixX hr.u9 (de_var (pv 5)) de_int (fun _ _ => rfl)) de_int) (dg_subX hr.u9 (de_var (pv 5)) de_int))
      (dss_cons (ds_set (i := 8) sc_law_grow.nd rfl (Or.inl rfl) (de_op (od_add (own := false)) (de_var (pv 1)) (de_tup (da_cons (de_ixX hr.u9 (de_var (pv 2)) (de_fn h__law_draw (hr.mono (by omega)) rfl pass0 finX0 (da_cons (de_var (pv 0)) (da_cons (de_callB cd_len rfl T.len (by decide +kernel) (da_cons (de_var (pv 2)) da_nil)) da_nil))) (fun _ _ => rfl)) da_nil))))
      (dss_one (ds_expr (de_bl1 PySem.F.slot_list_append PySem.F.type_list_append md_append (de_var (pv 6)) (da_cons (de_fn h__law_grow (hr.mono (by omega)) rfl pass0 finX0 (da_cons (de_var (pv 0)) (da_cons (de_var (pv 8)) (da_cons (de_var (pv 2)) (da_cons (de_var (pv 3)) (da_cons (de_op (od_sub) (de_var (pv 4)) de_int) (da_cons (de_var (pv 5)) da_nil))))))) da_nil)))))) dss_nil)))) dss_nil)
      (dss_cons (ds_set (i := 9) sc_law_grow.nd rfl (Or.inl rfl) (de_callTy cd_tuple rfl T.tuple (by decide +kernel) (da_cons (de_lc (own := false) (x := "k") (j := 7) rfl sc_law_grow.nd (di_range1 rfl T.range (da_cons (de_op (od_add (own := false)) (de_op (od_mod) (de_callB cd_len rfl T.len (by decide +kernel) (da_cons (de_var (pv 1)) da_nil)) de_int) de_int) da_nil)) (blkOk_by (N := N_law_grow) (sc := defScope s_law_grow) (by decide +kernel)) (fun _ _ _ _ _ => pg_name (i := 7) sc_law_grow.nd rfl (by first | exact Or.inl rfl | exact Or.inr rfl)) (fun _ _ _ _ _ => (de_ixP (pw := ⟨P, w⟩) rfl hr.u9 (de_var (pv 3)) (de_fn h__law_draw (hr.mono (by omega)) rfl pass0 finX0 (da_cons (de_var (pv 0)) (da_cons (de_callB cd_len rfl T.len (by decide +kernel) (da_cons (de_var (pv 3)) da_nil)) da_nil))) (fun _ _ => rfl)))) da_nil)))
      (dss_one (ds_ret (de_tup (da_cons (de_var (pv 1)) (da_cons (de_var (pv 9)) (da_cons (de_callTy cd_tuple rfl T.tuple (by decide +kernel) (da_cons (de_callB (cd_sortAny (own := false) rfl) rfl T.sorted (by decide +kernel) (da_cons (de_var (pv 6)) da_nil)) da_nil)) da_nil))))))))), fun ds M Q Ex h => ?_⟩
  obtain ⟨a, pn, pv, pl, ns, vs, p, d, l, rfl, hd, hB, hN, hV, hL, n1, n2, n3, n4, n5, hp, hpl, q⟩ := h
  have hN0 := hN
  walk_at "st"
  have hs : sizeLine = 16777216 := sizeLine_eq
  let S : D → Option D → Option D → Option D → DS := fun b a7 a8 a9 => [some (.obj a), some (.tup (p.map D.str)), some (.obj pn), some (.obj pv), some (.int ((d : Nat) : Int)), some (.obj pl), some b, a7, a8, a9]
  refine seq_tail (fun σ M' => ∃ pb, M pb = none ∧ M' = updM M pb (.lst []) ∧ σ = S (.obj pb) none none none) ?_ (fun Nx hN => by walk_at "dl"; exact fun pb hpb => hN _ _ ⟨pb, hpb, rfl, rfl⟩)
  rintro _ _ ⟨pb, hpb, rfl, rfl⟩
  have b1 : a ≠ pb := hB.ne hpb
  have b2 : pl ≠ pb := neM hL hpb
  refine seq_tail (fun σ M' => ∃ (ks : List Tre) (l' : Int) (a7 a8 : Option D), ks.length ≤ (if d = 0 then 0 else 3) ∧ (∀ k ∈ ks, Gr 3 (d - 1) k) ∧ BoxAt M' a ∧ M' pl = some (.lst [.int l']) ∧ M' pb = some (.lst (ks.map Tre.d)) ∧ Kx [a, pl] M M' ∧ σ = S (.obj pb) a7 a8 none) ?_ (fun Nx hN => ?_)
  · rintro _ M1 ⟨ks, l', a7, a8, hk1, hk2, hB1, hL1, hb1, hx1, rfl⟩
    have hN1 := hN.kx hx1 (by simp [n1.symm, n4])
    have hV1 := hV.kx hx1 (by simp [n2.symm, n5])
    refine seq_tail (fun σ M' => ∃ (r : List Str) (a7 : Option D), (∀ x ∈ r, PyData.strOk x = true) ∧ r.length ≤ 10 ∧ BoN a M1 M' ∧ σ = S (.obj pb) a7 a8 (some (.tup (r.map D.str)))) ?_ (fun Nx hN => ?_)
    · rintro _ M2 ⟨r, a7, hr1, hr2, hbn, rfl⟩
      have hb2 := hbn.keep b1 hb1
      simp only [S]
      walk_at "dl"
      have hkd : ∀ t ∈ ks, dpT t ≤ 25 := fun t ht => by
        have h1 := ((hk2 t ht).ok (by omega)).2
        omega
      refine .inl (e_sorted_trees (ts := ks) (lsD_obj.mpr hb2) hr.units hkd (by split at hk1 <;> omega) fun us hus => ?_)
      walk_at "dl"
      rw [show D.tup [.tup (p.map D.str), .tup (r.map D.str), .tup (us.map Tre.d)] = Tre.d (.mk p r us) by unfold Tre.d; rw [tresD_map]]
      refine Wk.here (q _ M2 l' (gr_iff.mpr ⟨hp, hr1, hpl, hr2, by rw [hus.length_eq]; exact hk1, fun k hk => hk2 k (hus.mem_iff.mp hk)⟩) rfl hbn.at (hbn.keep n3 hL1) (hx1.trans (hbn.kx (by simp))))
    · simp only [S]
      walk_at "dl"
      refine lc_gen (fun ds M2 => ds.length ≤ 2 ∧ M2 = M1) (fun Kd hk => ?_) (fun ds i acc M2 => ds.length ≤ 2 ∧ ∃ r : List Str, acc = r.map D.str ∧ (∀ x ∈ r, PyData.strOk x = true) ∧ BoN a M1 M2) ?_ ?_ ?_ ?_
      · unfold dRange1
        walk_at "dl"
        have e1 : 0 ≤ (((p.map D.str).length : Nat) : Int) % 2 := Int.emod_nonneg _ (by decide)
        have e2 : (((p.map D.str).length : Nat) : Int) % 2 < 2 := Int.emod_lt_of_pos _ (by decide)
        refine ⟨by decide, ⟨by omega, by omega⟩, hk _ _ ⟨by rw [upto_len]; omega, rfl⟩⟩
      · rintro ds M2 ⟨h, _⟩
        omega
      · rintro ds M2 ⟨h, rfl⟩
        exact ⟨h, [], rfl, (fun x hx => nomatch hx), .refl hB1⟩
      · rintro ds i d0 acc M2 pc Q2 hd2 ⟨hl2, r, rfl, hr1, hbn⟩ hpc hal hq
        have hB2 := hbn.at.upd (o := .lst (r.map D.str)) hpc
        have hV2 := (hV1.kx (S := [a]) (hbn.kx (by simp)) (by simp [n2.symm]))
        have nac := hbn.at.ne hpc
        have nvc : pv ≠ pc := neM hV2.at_ hpc
        simp only [List.set_cons_zero, List.set_cons_succ]
        walk_at "dl"
        rw [e_len_obj (by rw [updM_ne nvc]; exact hV2.at_), List.length_map]
        refine pick hB2 (by rw [updM_ne nvc]; exact hV2.at_) n2 hV2.pos hV2.few fun s M3 hs1 hb3 => ?_
        obtain ⟨M4, rfl, hb4⟩ := hb3.off nac
        exact hq _ _ (hb4.none hbn.at hpc) ⟨hl2, r ++ [s], by rw [List.map_append] <;> rfl, fun x hx => by
          rcases List.mem_append.mp hx with hx | hx
          · exact hr1 x hx
          · rw [List.mem_singleton.mp hx]
            exact hV2.ok s hs1, hbn.trans hb4⟩
      · rintro ds acc M2 hl2 ⟨hl3, r, rfl, hr1, hbn⟩
        rw [e_new_f]
        walk_at "dl"
        rw [List.length_map] at hl2
        exact hN _ _ ⟨r, _, hr1, by omega, hbn, rfl⟩
  · simp only [S]
    walk_at "dl"
    refine ifB (fun h => ?_) (fun h => ?_)
    · have h := of_decide_eq_true h
      have hd0 : 0 < d := by omega
      refine for_gen (fun ds M1 => ∃ m : Nat, m ≤ 3 ∧ ds = upto 0 m ∧ BoN a (updM M pb (.lst [])) M1) (fun Kd hk => ?_) (fun ds i σ M' => ds.length ≤ 3 ∧ ∃ (ks : List Tre) (l' : Int) (a7 a8 : Option D), ks.length ≤ i ∧ (∀ k ∈ ks, Gr 3 (d - 1) k) ∧ BoxAt M' a ∧ M' pl = some (.lst [.int l']) ∧ M' pb = some (.lst (ks.map Tre.d)) ∧ Kx [a, pl] M M' ∧ σ = S (.obj pb) a7 a8 none) ?_ ?_ ?_
      · unfold dRange1
        walk_at "dl"
        refine ⟨a, 4, rfl, by decide, by decide, hB.upd hpb, fun m M2 m0 m1 hb => ?_⟩
        walk_at "dl"
        exact ⟨⟨by omega, by omega⟩, hk _ _ ⟨m.toNat, by omega, rfl, hb⟩⟩
      · rintro ds M1 ⟨m, hm, rfl, hb⟩
        refine ⟨by rw [upto_len]; exact hm, [], l, none, none, Nat.le_refl _, (fun k hk => nomatch hk), hb.at, hb.keep n3 (by rw [updM_ne b2]; exact hL), hb.keep b1 updM_same, (Kx.refl.upd (.inr hpb)).trans (hb.kx (by simp)), rfl⟩
      · rintro ds i d0 σ M1 N1 hd0' ⟨hdl, ks, l', a7, a8, hk1, hk2, hB1, hL1, hb1, hx1, rfl⟩ hN1
        have hil := (List.getElem?_eq_some_iff.mp hd0').1
        have hNa := hN0.kx hx1 (by simp [n1.symm, n4])
        have hVa := hV.kx hx1 (by simp [n2.symm, n5])
        simp only [S, nGm, List.set_cons_zero, List.set_cons_succ]
        walk_at "dl"
        rw [ixX_obj hL1]
        refine e_ix (n := 0) (sqD_obj hL1) (v := .int l') rfl ?_
        walk_at "dl"
        refine ifB (fun h => ?_) (fun h => hN1 _ _ ⟨hdl, ks, l', _, a8, by omega, hk2, hB1, hL1, hb1, hx1, rfl⟩)
        rw [ixX_obj hL1]
        refine e_ix (n := 0) (sqD_obj hL1) (v := .int l') rfl ?_
        refine .inl ⟨pl, [.int l'], ((0 : Nat) : Int), 0, rfl, rfl, hL1, rfl, ?_⟩
        obtain ⟨M2, hM2⟩ : ∃ M2, M2 = updM M1 pl (.lst [.int (l' - 1)]) := ⟨_, rfl⟩
        show dSeq _ _ _ _ (updM M1 pl (.lst [.int (l' - 1)]))
        rw [← hM2]
        have hB2 : BoxAt M2 a := by rw [hM2]; exact hB1.upd' n3
        have hx2 : Kx [a, pl] M M2 := by rw [hM2]; exact hx1.upd (.inl (by simp))
        have hN2 := hN0.kx hx2 (by simp [n1.symm, n4])
        have hb2 : M2 pb = some (.lst (ks.map Tre.d)) := by rw [hM2, updM_ne b2.symm]; exact hb1
        have hL2 : M2 pl = some (.lst [.int (l' - 1)]) := by rw [hM2, updM_same]
        walk_at "dl"
        rw [e_len_obj hN2.at_, List.length_map]
        refine pick hB2 hN2.at_ n1 hN2.pos hN2.few fun s M3 hs1 hb3 => ?_
        have hx3 := hx2.trans (hb3.kx (S := [a, pl]) (by simp))
        refine ⟨by rw [List.length_map]; show p.length + 1 ≤ _; omega, isLst_of (hb3.keep b1 hb2), ?_⟩
        refine ⟨a, pn, pv, pl, ns, vs, p ++ [s], d - 1, l' - 1, ?_, by omega, hb3.at, hN0.kx hx3 (by simp [n1.symm, n4]), hV.kx hx3 (by simp [n2.symm, n5]), hb3.keep n3 hL2, n1, n2, n3, n4, n5, fun x hx => ?_, by rw [List.length_append, List.length_singleton]; omega, fun t M4 l4 g1 g2 g3 g4 g5 => ?_⟩
        · rw [List.map_append, show ((d - 1 : Nat) : Int) = ((d : Nat) : Int) - 1 by omega] <;> rfl
        · rcases List.mem_append.mp hx with hx | hx
          · exact hp x hx
          · rw [List.mem_singleton.mp hx]
            exact hN2.ok s hs1
        · have hb4 := g5 pb _ (by simp [b1.symm, b2.symm]) (hb3.keep b1 hb2)
          dsimp only
          rw [e_append hb4]
          refine ⟨by rw [List.length_map]; omega, ?_⟩
          rw [show ks.map Tre.d ++ [t.d] = (ks ++ [t]).map Tre.d by rw [List.map_append] <;> rfl]
          refine hN1 _ _ ⟨hdl, ks ++ [t], l4, _, _, by rw [List.length_append, List.length_singleton]; omega, fun k hk => ?_, g3.upd' b1, by rw [updM_ne b2]; exact g4, updM_same, (hx3.trans g5).upd (.inr hpb), rfl⟩
          rcases List.mem_append.mp hk with hk | hk
          · exact hk2 k hk
          · rw [List.mem_singleton.mp hk]
            exact g1
      · rintro ds σ M1 ⟨hdl, ks, l', a7, a8, hk1, hk2, hB1, hL1, hb1, hx1, rfl⟩
        exact hN _ _ ⟨ks, l', a7, a8, by rw [if_neg (by omega)]; omega, hk2, hB1, hL1, hb1, hx1, rfl⟩
    · have h := of_decide_eq_false h
      have e : d = 0 := by omega
      refine hN _ _ ⟨[], l, none, none, by simp, (fun k hk => nomatch hk), hB.upd hpb, by rw [updM_ne b2]; exact hL, updM_same, Kx.refl.upd (.inr hpb), rfl⟩
end
end K20
namespace K20
open PySem PySem.Spec L2 DL Syn Mi Lb Bx Mt
local macro_rules | `(tactic| walk_at "st") => `(tactic| simp only [start_def, List.map_cons, List.map_nil, List.length_cons, List.length_nil, List.cons_append, List.nil_append, Nat.zero_add, Nat.reduceAdd, Nat.reduceSub, List.replicate])
local macro_rules | `(tactic| walk_at "dl") => `(tactic| simp only [dSeq, dNext, dDrop, dRet, dRetF, dRetN, dIfS, dAsg, dAug, dPar, nGm, nTup, nCons, nNil, dVar, dC, dOp, dUn, dCons, dNil, dTup, dLst, dB, dTru, dAnd, dOr, dNot, dAndV, dOrV, dNotV, dIf, dChain, dCB, dCall, dSlE, dNoPart, dPart, dRev, dS0, dS1, dBL, dBL0, dIsi, dBreak, dCont, List.set_cons_zero, List.set_cons_succ, List.getElem?_cons_zero, List.getElem?_cons_succ, ifB_t, ifB_f, e_new_f, e_new_t, e_add_int, e_add_str, e_add_tup, e_add_pl, e_len_pl, e_sl_pl, e_sl_last, e_add_lst, e_sub, e_mul, e_mul_str, e_mul_lst, e_div, e_mod, e_pow, e_neg, e_eq_int, e_eq_str, e_isN_non, e_isN_obj, e_isN_tup, e_isN_lst, e_lt_int, e_lt_str, e_le_int, e_le_str, e_gt, e_ge, e_in_str, e_t0, e_t1, e_t2, e_t3, e_t4, e_t5, e_l0, e_l1, e_l2, e_l3, e_sl_tup, e_sl_rdl, e_sl_str, e_sl_lst, e_len_str, e_len_lst, e_len_tup, e_int, e_tupC_tup, e_tupC_lst, e_iadd_int, e_iadd_str, e_isub, tru_bl, tru_int, tru_non, tru_lst, tru_tup, ex_some, bne_f, bne_t, e_nSub, cxK, cxP, cxW, decide_true, e_fld, e_sfld, e_meth, e_fldX, e_methX, lsD_lst, dDM, dDNewX, dPairs, dDisp, dFz, nSubX, dLockE, dLockS, dListV, ixX_tup, ixX_pl, ixX_lst, ixX_str, iaddX_int, iaddX_str, imul_int, e_isN_str, e_isN_int, sz0, sz1, sz2, sz3, sz4, sz5, sz6, sz7, sz8, true_and])
local macro_rules | `(tactic| walk_at "if") => `(tactic| simp only [dIfS, dVar, dC, dOp, dUn, dCons, dNil, dB, dTru, dAnd, dOr, dNot, dChain, dCB, List.getElem?_cons_zero, List.getElem?_cons_succ, ifB_t, ifB_f, e_eq_int, e_eq_str, e_lt_int, e_le_int, e_gt, e_ge, e_isN_non, e_isN_obj, e_isN_tup, e_isN_lst, e_isN_str, e_isN_int, e_len_str, e_len_lst, e_len_tup, tru_bl, tru_int, tru_non, tru_lst, tru_tup, ex_some, bne_f, bne_t, decide_true, cxK, cxP, cxW, true_and])
local macro_rules | `(tactic| walk_at "lit") => `(tactic| simp only [Int.reduceEq, Int.reduceLT, Int.reduceLE, Int.reduceMod, Int.reduceAdd, Int.reduceSub, eq_self, ne_eq, not_true_eq_false, not_false_eq_true, decide_true, decide_false, ifB_t, ifB_f, bne_f, bne_t, e_l0, e_l1, e_l2, e_l3, e_t0, e_t1, e_t2, true_and])
section
variable {P : Program} {w : World} {K : PySem.W.Frag} {mg : Str → Option Value} {base : Heap}
theorem tre_d {p r : List Str} {ks : List Tre} : Tre.d (.mk p r ks) = .tup [.tup (p.map D.str), .tup (r.map D.str), .tup (ks.map Tre.d)] := by unfold Tre.d; rw [tresD_map]
def sp_put_in (n : Nat) : SpD := fun ds M Q _ => ∃ (a pn pv : Addr) (ns vs : List Str) (t : Tre) (d : Nat), ds = [.obj a, t.d, .obj pn, .obj pv, .int ((d : Nat) : Int)] ∧ d < n ∧ BoxAt M a ∧ NsAt M pn ns ∧ NsAt M pv vs ∧ a ≠ pn ∧ a ≠ pv ∧ Gr 3 d t ∧
  ∀ t' M', Gr 4 d t' → Lies t t' → BoxAt M' a → Kx [a] M M' → Q t'.d M'
theorem ok__law_put_in (T : Txt K mg) {f : Addr} {fd : FuncData} (F : FunD K "_law_put_in" "_law_put_in" (defArgs s_law_put_in) (defBody s_law_put_in) (defScope s_law_put_in) [] [] f fd) (h__law_draw : Callee P w K mg base CX0 (1) "_law_draw" P_law_draw sp_bdraw) (h__law_grow : Callee P w K mg base CX0 (12) "_law_grow" P_law_grow (sp_grow 11)) (h__law_put_in : Callee P w K mg base CX0 (20+n) "_law_put_in" P_law_put_in (sp_put_in n)) : FnOk P w K mg base CX0 (20+n + 1) f fd P_law_put_in (LSp K ((sp_put_in (n+1)))) := by
  refine fnD0 F sc_law_put_in (fun ds M Q E h => by first | (obtain ⟨rfl, _⟩ := h; rfl) | (obtain ⟨_, rfl, _⟩ := h; rfl) | (obtain ⟨_, _, rfl, _⟩ := h; rfl) | (obtain ⟨_, _, _, rfl, _⟩ := h; rfl) | (obtain ⟨_, _, _, _, rfl, _⟩ := h; rfl) | (obtain ⟨_, _, _, _, _, rfl, _⟩ := h; rfl) | (obtain ⟨_, _, _, _, _, _, rfl, _⟩ := h; rfl) | (obtain ⟨_, _, _, _, _, _, _, rfl, _⟩ := h; rfl) | (obtain ⟨_, _, _, _, _, _, _, _, rfl, _⟩ := h; rfl) | (obtain ⟨_, _, _, _, _, _, _, _, _, rfl, _⟩ := h; rfl) | (obtain ⟨_, _, _, _, _, _, _, _, _, _, rfl, _⟩ := h; rfl) | (obtain ⟨_, _, _, _, _, _, _, _, _, _, _, rfl, _⟩ := h; rfl) | (obtain ⟨_, _, _, _, _, _, _, _, _, _, _, _, rfl, _⟩ := h; rfl) | (obtain ⟨_, _, _, _, _, _, _, _, _, _, _, _, _, rfl, _⟩ := h; rfl) | (obtain ⟨_, _, _, _, _, _, _, _, _, _, _, _, _, _, rfl, _⟩ := h; rfl) | (obtain ⟨_, _, _, _, _, _, _, _, _, _, _, _, _, _, _, rfl, _⟩ := h; rfl) | (obtain ⟨_, _, _, _, _, _, _, _, _, _, _, _, _, _, _, _, rfl, _⟩ := h; rfl) | (obtain ⟨_, _, _, _, _, _, _, _, _, _, _, _, _, _, _, _, _, rfl, _⟩ := h; rfl) | (obtain ⟨_, _, _, _, _, _, _, _, _, _, _, _, _, _, _, _, _, _, rfl, _⟩ := h; rfl) | (obtain ⟨_, _, _, _, _, _, _, _, _, _, _, _, _, _, _, _, _, _, _, rfl, _⟩ := h; rfl)) fun cdv A outer s H E F0 hr => ⟨_, (dss_cons (ds_set (i := 5) sc_law_put_in.nd rfl (Or.inl rfl) (de_lst (own := true) da_nil))
      (dss_cons (ds_for PassesOwn.never rfl (di_items (de_ixX hr.u9 (de_var (pv 1)) de_int (fun _ _ => rfl))) (dg_name (pg_name (i := 6) sc_law_put_in.nd rfl (Or.inl rfl))) (dss_one (ds_expr (de_bl1 PySem.F.slot_list_append PySem.F.type_list_append md_append (de_var (pv 5)) (da_cons (de_fn h__law_put_in (hr.mono (by omega)) rfl pass0 finX0 (da_cons (de_var (pv 0)) (da_cons (de_var (pv 6)) (da_cons (de_var (pv 2)) (da_cons (de_var (pv 3)) (da_cons (de_op (od_sub) (de_var (pv 4)) de_int) da_nil)))))) da_nil)))))
      (dss_cons (ds_if (dt_w (dw_and (dt_cmp (od_gt) (de_var (pv 4)) de_int (nomark _)) (dw_and1 (dt_cmp (od_eq hr.units) (de_fn h__law_draw (hr.mono (by omega)) rfl pass0 finX0 (da_cons (de_var (pv 0)) (da_cons de_int da_nil))) de_int (nomark _))))) (dss_cons (ds_set (i := 7) sc_law_put_in.nd rfl (Or.inl rfl) (de_op (od_add (own := false)) (de_ixX hr.u9 (de_var (pv 1)) de_int (fun _ _ => rfl)) (de_tup (da_cons (de_ixX hr.u9 (de_var (pv 2)) (de_fn h__law_draw (hr.mono (by omega)) rfl pass0 finX0 (da_cons (de_var (pv 0)) (da_cons (de_callB cd_len rfl T.len (by decide +kernel) (da_cons (de_var (pv 2)) da_nil)) da_nil))) (fun _ _ => rfl)) da_nil))))
      (dss_one (ds_expr (de_bl1 PySem.F.slot_list_append PySem.F.type_list_append md_append (de_var (pv 5)) (da_cons (de_fn h__law_grow (hr.mono (by omega)) rfl pass0 finX0 (da_cons (de_var (pv 0)) (da_cons (de_var (pv 7)) (da_cons (de_var (pv 2)) (da_cons (de_var (pv 3)) (da_cons (de_op (od_sub) (de_var (pv 4)) de_int) (da_cons (de_lst (own := true) (da_cons de_int da_nil)) da_nil))))))) da_nil))))) dss_nil)
      (dss_one (ds_ret (de_tup (da_cons (de_ixX hr.u9 (de_var (pv 1)) de_int (fun _ _ => rfl)) (da_cons (de_ixX hr.u9 (de_var (pv 1)) de_int (fun _ _ => rfl)) (da_cons (de_callTy cd_tuple rfl T.tuple (by decide +kernel) (da_cons (de_callB (cd_sortAny (own := false) rfl) rfl T.sorted (by decide +kernel) (da_cons (de_var (pv 5)) da_nil)) da_nil)) da_nil))))))))), fun ds M Q Ex h => ?_⟩
  obtain ⟨a, pn, pv, ns, vs, t, d, rfl, hd, hB, hN, hV, n1, n2, hg, q⟩ := h
  have hN0 := hN
  walk_at "st"
  have hs : sizeLine = 16777216 := sizeLine_eq
  obtain ⟨p, r, ks⟩ := t
  obtain ⟨h1, h2, h3, h4, h5, h6⟩ := gr_iff.mp hg
  rw [tre_d]
  have hkl : ks.length ≤ 3 := by split at h5 <;> omega
  obtain ⟨dt, hdt⟩ : ∃ dt, dt = D.tup [.tup (p.map D.str), .tup (r.map D.str), .tup (ks.map Tre.d)] := ⟨_, rfl⟩
  rw [← hdt]
  let S : D → Option D → Option D → DS := fun b a6 a7 => [some (.obj a), some dt, some (.obj pn), some (.obj pv), some (.int ((d : Nat) : Int)), some b, a6, a7]
  refine seq_tail (fun σ M' => ∃ pb, M pb = none ∧ M' = updM M pb (.lst []) ∧ σ = S (.obj pb) none none) ?_ (fun Nx hN => by walk_at "dl"; exact fun pb hpb => hN _ _ ⟨pb, hpb, rfl, rfl⟩)
  rintro _ _ ⟨pb, hpb, rfl, rfl⟩
  have b1 : a ≠ pb := hB.ne hpb
  refine seq_tail (fun σ M' => ∃ (zs : List Tre) (a6 : Option D), F2 Lies ks zs ∧ (∀ z ∈ zs, Gr 4 (d - 1) z) ∧ BoxAt M' a ∧ M' pb = some (.lst (zs.map Tre.d)) ∧ Kx [a] M M' ∧ σ = S (.obj pb) a6 none) ?_ (fun Nx hN => ?_)
  rotate_left
  · refine for_pure (ks.map Tre.d) (fun Kd hk => ?_) (fun i σ M' => ∃ (zs : List Tre) (a6 : Option D), F2 Lies (ks.take i) zs ∧ (∀ z ∈ zs, Gr 4 (d - 1) z) ∧ BoxAt M' a ∧ M' pb = some (.lst (zs.map Tre.d)) ∧ Kx [a] M M' ∧ σ = S (.obj pb) a6 none) ⟨[], none, .nil, (fun z hz => nomatch hz), hB.upd hpb, updM_same, Kx.refl.upd (.inr hpb), rfl⟩ ?_ ?_
    · unfold dItems
      simp only [S]
      rw [hdt]
      walk_at "dl"
      exact hk
    · rintro i d0 σ M1 N1 hd0 ⟨zs, a6, g1, g2, g3, g4, g5, rfl⟩ hN1
      rw [List.getElem?_map] at hd0
      obtain ⟨x, hx, rfl⟩ := Option.map_eq_some_iff.mp hd0
      have hxm := List.mem_of_getElem? hx
      have htk : ks.take (i + 1) = ks.take i ++ [x] := by rw [List.take_add_one, hx] <;> rfl
      have hil := (List.getElem?_eq_some_iff.mp hx).1
      have hd1 : 0 < d := by
        split at h5
        · omega
        · omega
      simp only [S, nGm, List.set_cons_zero, List.set_cons_succ]
      walk_at "dl"
      refine ⟨isLst_of g4, a, pn, pv, ns, vs, x, d - 1, by rw [show ((d - 1 : Nat) : Int) = ((d : Nat) : Int) - 1 by omega], by omega, g3, hN0.kx g5 (by simp [n1.symm]), hV.kx g5 (by simp [n2.symm]), n1, n2, h6 x hxm, fun t' M2 k1 k2 k3 k4 => ?_⟩
      have hb2 := k4 pb _ (by simp [b1.symm]) g4
      dsimp only
      rw [e_append hb2]
      have hzl := g1.len
      refine ⟨by rw [List.length_map, ← hzl, List.length_take]; omega, ?_⟩
      rw [show zs.map Tre.d ++ [t'.d] = (zs ++ [t']).map Tre.d by rw [List.map_append] <;> rfl]
      refine hN1 _ _ ⟨zs ++ [t'], _, by rw [htk]; exact g1.snoc k2, fun z hz => ?_, k3.upd' b1, updM_same, (g5.trans k4).upd (.inr hpb), rfl⟩
      rcases List.mem_append.mp hz with hz | hz
      · exact g2 z hz
      · rw [List.mem_singleton.mp hz]
        exact k1
    · rintro σ M1 ⟨zs, a6, g1, g2, g3, g4, g5, rfl⟩
      rw [List.length_map, List.take_length] at g1
      exact hN _ _ ⟨zs, a6, g1, g2, g3, g4, g5, rfl⟩
  rintro _ M1 ⟨zs, a6, g1, g2, g3, g4, g5, rfl⟩
  have hzl := g1.len
  refine seq_tail (fun σ M' => ∃ (ex : List Tre) (a7 : Option D), zs.length + ex.length ≤ (if d = 0 then 0 else 4) ∧ (∀ z ∈ ex, Gr 4 (d - 1) z) ∧ BoxAt M' a ∧ M' pb = some (.lst ((zs ++ ex).map Tre.d)) ∧ Kx [a] M M' ∧ σ = S (.obj pb) a6 a7) ?_ (fun Nx hN => ?_)
  · rintro _ M2 ⟨ex, a7, k1, k2, k3, k4, k5, rfl⟩
    simp only [S]
    walk_at "dl"
    rw [hdt]
    walk_at "dl"
    have hall : ∀ z ∈ zs ++ ex, Gr 4 (d - 1) z := fun z hz => by
      rcases List.mem_append.mp hz with hz | hz
      · exact g2 z hz
      · exact k2 z hz
    have hkd : ∀ t ∈ zs ++ ex, dpT t ≤ 25 := fun t ht => by
      have h1 := ((hall t ht).ok (by omega)).2
      omega
    refine .inl (e_sorted_trees (ts := zs ++ ex) (lsD_obj.mpr k4) hr.units hkd (by rw [List.length_append]; split at k1 <;> omega) fun us hus => ?_)
    walk_at "dl"
    rw [← tre_d]
    refine Wk.here (q _ M2 (gr_iff.mpr ⟨h1, h2, h3, h4, by rw [hus.length_eq, List.length_append]; exact k1, fun k hk => hall k (hus.mem_iff.mp hk)⟩) (lies_iff.mpr ⟨rfl, rfl, zs, ex, hus, g1⟩) k3 k5)
  · simp only [S]
    walk_at "dl"
    have zl0 : zs.length ≤ (if d = 0 then 0 else 3) := by rw [← hzl]; exact h5
    have stay : ∀ M' a7, BoN a M1 M' → Nx (S (.obj pb) a6 a7) M' := fun M' a7 hb => hN _ _ ⟨[], a7, by rw [List.length_nil]; split at zl0 <;> split <;> omega, (fun z hz => nomatch hz), hb.at, by rw [List.append_nil]; exact hb.keep b1 g4, g5.trans (hb.kx (by simp)), rfl⟩
    refine ifB (fun h => ?_) (fun h => stay M1 none (.refl g3))
    have h := of_decide_eq_true h
    have hd1 : d ≠ 0 := by omega
    refine ⟨a, 2, rfl, by decide, by decide, g3, fun m M2 m0 m1 hb => ?_⟩
    walk_at "dl"
    refine ifB (fun h => ?_) (fun h => stay M2 none hb)
    rw [hdt]
    walk_at "dl"
    rw [← hdt]
    have hx2 := g5.trans (hb.kx (S := [a]) (by simp))
    have hN2 := hN0.kx hx2 (by simp [n1.symm])
    rw [e_len_obj hN2.at_, List.length_map]
    refine pick hb.at hN2.at_ n1 hN2.pos hN2.few fun s M3 hs1 hb3 => ?_
    have hx3 := hx2.trans (hb3.kx (S := [a]) (by simp))
    have hpb3 := hb3.keep b1 (hb.keep b1 g4)
    refine ⟨by rw [List.length_map]; show p.length + 1 ≤ _; omega, isLst_of hpb3, fun pl hpl => ?_⟩
    have hN3 := hN0.kx hx3 (by simp [n1.symm])
    have hV3 := hV.kx hx3 (by simp [n2.symm])
    have l1 : a ≠ pl := hb3.at.ne hpl
    have l2 : pn ≠ pl := neM hN3.at_ hpl
    have l3 : pv ≠ pl := neM hV3.at_ hpl
    have l4 : pb ≠ pl := neM hpb3 hpl
    have hx4 : Kx [] M3 (updM M3 pl (.lst [.int 3])) := Kx.refl.upd (.inr hpl)
    refine ⟨a, pn, pv, pl, ns, vs, p ++ [s], d - 1, 3, ?_, by omega, hb3.at.upd hpl, hN3.kx hx4 (by simp), hV3.kx hx4 (by simp), updM_same, n1, n2, l1, l2, l3, fun x hx => ?_, by rw [List.length_append, List.length_singleton]; omega, fun t M4 l' k1 k2 k3 k4 k5 => ?_⟩
    · rw [List.map_append, show ((d - 1 : Nat) : Int) = ((d : Nat) : Int) - 1 by omega] <;> rfl
    · rcases List.mem_append.mp hx with hx | hx
      · exact h1 x hx
      · rw [List.mem_singleton.mp hx]
        exact hN2.ok s hs1
    · have hb4 := k5 pb _ (by simp [b1.symm, l4]) (hx4 pb _ (by simp) hpb3)
      have hx5 : Kx [a] M3 M4 := fun q o hq hm => k5 q o (by simp at hq ⊢; exact ⟨hq, neM hm hpl⟩) (hx4 q o (by simp) hm)
      dsimp only
      rw [e_append hb4]
      refine ⟨by rw [List.length_map]; split at zl0 <;> omega, ?_⟩
      rw [show zs.map Tre.d ++ [t.d] = (zs ++ [t]).map Tre.d by rw [List.map_append] <;> rfl]
      refine hN _ _ ⟨[t], _, by rw [List.length_singleton, if_neg hd1]; rw [if_neg hd1] at zl0; omega, fun z hz => ?_, k3.upd' b1, updM_same, (hx3.trans hx5).upd (.inr hpb), rfl⟩
      rw [List.mem_singleton.mp hz]
      exact k1.mono (by omega)
end
end K20
namespace K20
open PySem PySem.Spec L2 DL Syn Mi Lb Bx Mt
local macro_rules | `(tactic| walk_at "st") => `(tactic| simp only [start_def, List.map_cons, List.map_nil, List.length_cons, List.length_nil, List.cons_append, List.nil_append, Nat.zero_add, Nat.reduceAdd, Nat.reduceSub, List.replicate])
local macro_rules | `(tactic| walk_at "dl") => `(tactic| simp only [dSeq, dNext, dDrop, dRet, dRetF, dRetN, dIfS, dAsg, dAug, dPar, nGm, nTup, nCons, nNil, dVar, dC, dOp, dUn, dCons, dNil, dTup, dLst, dB, dTru, dAnd, dOr, dNot, dAndV, dOrV, dNotV, dIf, dChain, dCB, dCall, dSlE, dNoPart, dPart, dRev, dS0, dS1, dBL, dBL0, dIsi, dBreak, dCont, List.set_cons_zero, List.set_cons_succ, List.getElem?_cons_zero, List.getElem?_cons_succ, ifB_t, ifB_f, e_new_f, e_new_t, e_add_int, e_add_str, e_add_tup, e_add_pl, e_len_pl, e_sl_pl, e_sl_last, e_add_lst, e_sub, e_mul, e_mul_str, e_mul_lst, e_div, e_mod, e_pow, e_neg, e_eq_int, e_eq_str, e_isN_non, e_isN_obj, e_isN_tup, e_isN_lst, e_lt_int, e_lt_str, e_le_int, e_le_str, e_gt, e_ge, e_in_str, e_t0, e_t1, e_t2, e_t3, e_t4, e_t5, e_l0, e_l1, e_l2, e_l3, e_sl_tup, e_sl_rdl, e_sl_str, e_sl_lst, e_len_str, e_len_lst, e_len_tup, e_int, e_tupC_tup, e_tupC_lst, e_iadd_int, e_iadd_str, e_isub, tru_bl, tru_int, tru_non, tru_lst, tru_tup, ex_some, bne_f, bne_t, e_nSub, cxK, cxP, cxW, decide_true, e_fld, e_sfld, e_meth, e_fldX, e_methX, lsD_lst, dDM, dDNewX, dPairs, dDisp, dFz, nSubX, dLockE, dLockS, dListV, ixX_tup, ixX_pl, ixX_lst, ixX_str, iaddX_int, iaddX_str, imul_int, e_isN_str, e_isN_int, sz0, sz1, sz2, sz3, sz4, sz5, sz6, sz7, sz8, true_and])
local macro_rules | `(tactic| walk_at "if") => `(tactic| simp only [dIfS, dVar, dC, dOp, dUn, dCons, dNil, dB, dTru, dAnd, dOr, dNot, dChain, dCB, List.getElem?_cons_zero, List.getElem?_cons_succ, ifB_t, ifB_f, e_eq_int, e_eq_str, e_lt_int, e_le_int, e_gt, e_ge, e_isN_non, e_isN_obj, e_isN_tup, e_isN_lst, e_isN_str, e_isN_int, e_len_str, e_len_lst, e_len_tup, tru_bl, tru_int, tru_non, tru_lst, tru_tup, ex_some, bne_f, bne_t, decide_true, cxK, cxP, cxW, true_and])
local macro_rules | `(tactic| walk_at "lit") => `(tactic| simp only [Int.reduceEq, Int.reduceLT, Int.reduceLE, Int.reduceMod, Int.reduceAdd, Int.reduceSub, eq_self, ne_eq, not_true_eq_false, not_false_eq_true, decide_true, decide_false, ifB_t, ifB_f, bne_f, bne_t, e_l0, e_l1, e_l2, e_l3, e_t0, e_t1, e_t2, true_and])
section
variable {P : Program} {w : World} {K : PySem.W.Frag} {mg : Str → Option Value} {base : Heap}
def sp_changed (n : Nat) : SpD := fun ds M Q _ => ∃ (a pv : Addr) (vs : List Str) (t : Tre) (d : Nat), ds = [.obj a, t.d, .obj pv] ∧ d < n ∧ BoxAt M a ∧ NsAt M pv vs ∧ a ≠ pv ∧ Gr 4 d t ∧
  ∀ t' M', Gr 4 d t' → BoxAt M' a → Kx [a] M M' → Q t'.d M'
def sp_is : SpD := fun ds M Q _ => ∃ x y : Bool, ds = [.bl x, .bl y] ∧ Q (.bl (decide (x = y))) M
theorem ok__law_is (T : Txt K mg) {f : Addr} {fd : FuncData} (F : FunD K "_law_is" "_law_is" (defArgs s_law_is) (defBody s_law_is) (defScope s_law_is) [] [] f fd) : FnOk P w K mg base CX0 (0 + 1) f fd P_law_is (LSp K (sp_is)) := by
  refine fnD0 F sc_law_is (fun ds M Q E h => by first | (obtain ⟨rfl, _⟩ := h; rfl) | (obtain ⟨_, rfl, _⟩ := h; rfl) | (obtain ⟨_, _, rfl, _⟩ := h; rfl) | (obtain ⟨_, _, _, rfl, _⟩ := h; rfl) | (obtain ⟨_, _, _, _, rfl, _⟩ := h; rfl) | (obtain ⟨_, _, _, _, _, rfl, _⟩ := h; rfl) | (obtain ⟨_, _, _, _, _, _, rfl, _⟩ := h; rfl) | (obtain ⟨_, _, _, _, _, _, _, rfl, _⟩ := h; rfl) | (obtain ⟨_, _, _, _, _, _, _, _, rfl, _⟩ := h; rfl) | (obtain ⟨_, _, _, _, _, _, _, _, _, rfl, _⟩ := h; rfl) | (obtain ⟨_, _, _, _, _, _, _, _, _, _, rfl, _⟩ := h; rfl) | (obtain ⟨_, _, _, _, _, _, _, _, _, _, _, rfl, _⟩ := h; rfl) | (obtain ⟨_, _, _, _, _, _, _, _, _, _, _, _, rfl, _⟩ := h; rfl) | (obtain ⟨_, _, _, _, _, _, _, _, _, _, _, _, _, rfl, _⟩ := h; rfl) | (obtain ⟨_, _, _, _, _, _, _, _, _, _, _, _, _, _, rfl, _⟩ := h; rfl) | (obtain ⟨_, _, _, _, _, _, _, _, _, _, _, _, _, _, _, rfl, _⟩ := h; rfl) | (obtain ⟨_, _, _, _, _, _, _, _, _, _, _, _, _, _, _, _, rfl, _⟩ := h; rfl) | (obtain ⟨_, _, _, _, _, _, _, _, _, _, _, _, _, _, _, _, _, rfl, _⟩ := h; rfl) | (obtain ⟨_, _, _, _, _, _, _, _, _, _, _, _, _, _, _, _, _, _, rfl, _⟩ := h; rfl) | (obtain ⟨_, _, _, _, _, _, _, _, _, _, _, _, _, _, _, _, _, _, _, rfl, _⟩ := h; rfl)) fun cdv A outer s H E F0 hr => ⟨_, (dss_one (ds_ret (de_and (de_isi (n := "bool") (de_var (pv 0)) rfl T.isinstance (pe_bltn rfl T.bool (by decide +kernel) rfl)) (de_one (de_cmp (od_eq hr.units) (de_var (pv 0)) (de_var (pv 1)) (nomark _)))))), fun ds M Q Ex h => ?_⟩
  obtain ⟨x, y, rfl, q⟩ := h
  walk_at "st"
  walk_at "dl"
  exact ⟨"bool", true, rfl, rfl, ifB (fun _ => Wk.here (by rw [show (false != decide (x = y)) = decide (x = y) by cases decide (x = y) <;> rfl]; exact q)) (fun h => nomatch h)⟩
def sp_many : SpD := fun ds M Q _ => ∃ (a pn pv : Addr) (ns vs : List Str), ds = [.obj a, .obj pn, .obj pv] ∧ BoxAt M a ∧ NsAt M pn ns ∧ NsAt M pv vs ∧ a ≠ pn ∧ a ≠ pv ∧
  ∀ r ks M', Gr 60 1 (.mk [] r ks) → BoxAt M' a → Kx [a] M M' → Q (Tre.d (.mk [] r ks)) M'
theorem ok__law_many (T : Txt K mg) {f : Addr} {fd : FuncData} (F : FunD K "_law_many" "_law_many" (defArgs s_law_many) (defBody s_law_many) (defScope s_law_many) [] [] f fd) (h__law_draw : Callee P w K mg base CX0 (1) "_law_draw" P_law_draw sp_bdraw) : FnOk P w K mg base CX0 (1 + 1) f fd P_law_many (LSp K (sp_many)) := by
  refine fnD0 F sc_law_many (fun ds M Q E h => by first | (obtain ⟨rfl, _⟩ := h; rfl) | (obtain ⟨_, rfl, _⟩ := h; rfl) | (obtain ⟨_, _, rfl, _⟩ := h; rfl) | (obtain ⟨_, _, _, rfl, _⟩ := h; rfl) | (obtain ⟨_, _, _, _, rfl, _⟩ := h; rfl) | (obtain ⟨_, _, _, _, _, rfl, _⟩ := h; rfl) | (obtain ⟨_, _, _, _, _, _, rfl, _⟩ := h; rfl) | (obtain ⟨_, _, _, _, _, _, _, rfl, _⟩ := h; rfl) | (obtain ⟨_, _, _, _, _, _, _, _, rfl, _⟩ := h; rfl) | (obtain ⟨_, _, _, _, _, _, _, _, _, rfl, _⟩ := h; rfl) | (obtain ⟨_, _, _, _, _, _, _, _, _, _, rfl, _⟩ := h; rfl) | (obtain ⟨_, _, _, _, _, _, _, _, _, _, _, rfl, _⟩ := h; rfl) | (obtain ⟨_, _, _, _, _, _, _, _, _, _, _, _, rfl, _⟩ := h; rfl) | (obtain ⟨_, _, _, _, _, _, _, _, _, _, _, _, _, rfl, _⟩ := h; rfl) | (obtain ⟨_, _, _, _, _, _, _, _, _, _, _, _, _, _, rfl, _⟩ := h; rfl) | (obtain ⟨_, _, _, _, _, _, _, _, _, _, _, _, _, _, _, rfl, _⟩ := h; rfl) | (obtain ⟨_, _, _, _, _, _, _, _, _, _, _, _, _, _, _, _, rfl, _⟩ := h; rfl) | (obtain ⟨_, _, _, _, _, _, _, _, _, _, _, _, _, _, _, _, _, rfl, _⟩ := h; rfl) | (obtain ⟨_, _, _, _, _, _, _, _, _, _, _, _, _, _, _, _, _, _, rfl, _⟩ := h; rfl) | (obtain ⟨_, _, _, _, _, _, _, _, _, _, _, _, _, _, _, _, _, _, _, rfl, _⟩ := h; rfl)) fun cdv A outer s H E F0 hr => ⟨_, (dss_cons (ds_set (i := 3) sc_law_many.nd rfl (Or.inl rfl) (de_lst (own := true) da_nil))
      (dss_cons (ds_for PassesOwn.never rfl (di_range1 rfl T.range (da_cons de_int da_nil)) (dg_name (pg_name (i := 4) sc_law_many.nd rfl (Or.inl rfl))) (dss_cons (ds_set (i := 5) sc_law_many.nd rfl (Or.inl rfl) (de_ixX hr.u9 (de_var (pv 2)) (de_fn h__law_draw (hr.mono (by omega)) rfl pass0 finX0 (da_cons (de_var (pv 0)) (da_cons (de_callB cd_len rfl T.len (by decide +kernel) (da_cons (de_var (pv 2)) da_nil)) da_nil))) (fun _ _ => rfl)))
      (dss_one (ds_for PassesOwn.never rfl (di_range1 rfl T.range (da_cons (de_fn h__law_draw (hr.mono (by omega)) rfl pass0 finX0 (da_cons (de_var (pv 0)) (da_cons de_int da_nil))) da_nil)) (dg_name (pg_name (i := 6) sc_law_many.nd rfl (Or.inl rfl))) (dss_one (ds_expr (de_bl1 PySem.F.slot_list_append PySem.F.type_list_append md_append (de_var (pv 3)) (da_cons (de_tup (da_cons (de_tup (da_cons (de_ixX hr.u9 (de_var (pv 1)) de_int (fun _ _ => rfl)) da_nil)) (da_cons (de_tup (da_cons (de_var (pv 5)) da_nil)) (da_cons (de_tup da_nil) da_nil)))) da_nil))))))))
      (dss_one (ds_ret (de_tup (da_cons (de_tup da_nil) (da_cons (de_tup (da_cons (de_ixX hr.u9 (de_var (pv 2)) de_int (fun _ _ => rfl)) da_nil)) (da_cons (de_callTy cd_tuple rfl T.tuple (by decide +kernel) (da_cons (de_callB (cd_sortAny (own := false) rfl) rfl T.sorted (by decide +kernel) (da_cons (de_var (pv 3)) da_nil)) da_nil)) da_nil)))))))), fun ds M Q Ex h => ?_⟩
  obtain ⟨a, pn, pv, ns, vs, rfl, hB, hN, hV, n1, n2, q⟩ := h
  have hN0 := hN
  walk_at "st"
  have hs : sizeLine = 16777216 := sizeLine_eq
  refine seq_tail (fun σ M' => ∃ pb, M pb = none ∧ M' = updM M pb (.lst []) ∧ σ = [some (.obj a), some (.obj pn), some (.obj pv), some (.obj pb), none, none, none]) ?_ (fun Nx hN => by walk_at "dl"; exact fun pb hpb => hN _ _ ⟨pb, hpb, rfl, rfl⟩)
  rintro _ _ ⟨pb, hpb, rfl, rfl⟩
  have b1 : a ≠ pb := hB.ne hpb
  let S : Option D → Option D → Option D → DS := fun a4 a5 a6 => [some (.obj a), some (.obj pn), some (.obj pv), some (.obj pb), a4, a5, a6]
  let At : Nat → List Tre → Mp → Prop := fun k ks M' => ks.length ≤ k ∧ (∀ t ∈ ks, Gr 60 0 t) ∧ BoxAt M' a ∧ M' pb = some (.lst (ks.map Tre.d)) ∧ Kx [a] M M'
  refine seq_tail (fun σ M' => ∃ ks a4 a5 a6, At 60 ks M' ∧ σ = S a4 a5 a6) ?_ (fun Nx hN => ?_)
  · rintro _ M1 ⟨ks, a4, a5, a6, ⟨g1, g2, g3, g4, g5⟩, rfl⟩
    simp only [S]
    walk_at "dl"
    have hV1 := hV.kx g5 (by simp [n2.symm])
    obtain ⟨v0, hv0⟩ : ∃ v0, vs[0]? = some v0 := ⟨_, List.getElem?_eq_getElem hV1.pos⟩
    rw [ixX_obj hV1.at_]
    refine e_ix (n := 0) (sqD_obj hV1.at_) (v := .str v0) (by rw [List.getElem?_map, hv0] <;> rfl) ?_
    have hkd : ∀ t ∈ ks, dpT t ≤ 25 := fun t ht => by
      have h1 := ((g2 t ht).ok (by omega)).2
      omega
    refine .inl (e_sorted_trees (ts := ks) (lsD_obj.mpr g4) hr.units hkd (by omega) fun us hus => ?_)
    walk_at "dl"
    have e := tre_d (p := []) (r := [v0]) (ks := us)
    rw [List.map_nil, List.map_cons, List.map_nil] at e
    rw [← e]
    refine Wk.here (q _ _ M1 (gr_iff.mpr ⟨(fun x hx => nomatch hx), fun x hx => ?_, by simp, by simp, by rw [if_neg (by omega), hus.length_eq]; exact g1, fun k hk => g2 k (hus.mem_iff.mp hk)⟩) g3 g5)
    rw [List.mem_singleton.mp hx]
    exact hV1.ok v0 (List.mem_of_getElem? hv0)
  · refine for_pure (upto 0 3) (fun Kd hk => ?_) (fun i σ M' => ∃ ks a4 a5 a6, At (20 * i) ks M' ∧ σ = S a4 a5 a6) ⟨[], none, none, none, ⟨Nat.zero_le _, (fun t ht => nomatch ht), hB.upd hpb, updM_same, Kx.refl.upd (.inr hpb)⟩, rfl⟩ ?_ ?_
    · unfold dRange1
      walk_at "dl"
      exact ⟨⟨by omega, by omega⟩, hk⟩
    · rintro i d0 σ M1 N1 hd0 ⟨ks, a4, a5, a6, ⟨g1, g2, g3, g4, g5⟩, rfl⟩ hN1
      obtain ⟨rfl, hi3⟩ := upto_get hd0
      simp only [S, nGm, List.set_cons_zero, List.set_cons_succ]
      have hV1 := hV.kx g5 (by simp [n2.symm])
      walk_at "dl"
      rw [e_len_obj hV1.at_, List.length_map]
      refine pick g3 hV1.at_ n2 hV1.pos hV1.few fun s M2 hs1 hb => ?_
      have hx2 := g5.trans (hb.kx (S := [a]) (by simp))
      refine for_gen (fun ds M3 => ∃ m : Nat, m ≤ 19 ∧ ds = upto 0 m ∧ BoN a M2 M3) (fun Kd hk => ?_) (fun ds j σ M' => ds.length ≤ 19 ∧ ∃ ks a6, At (20 * i + j) ks M' ∧ σ = S (some (.int (0 + ((i : Nat) : Int)))) (some (.str s)) a6) ?_ ?_ ?_
      · unfold dRange1
        walk_at "dl"
        refine ⟨a, 20, rfl, by decide, by decide, hb.at, fun m M3 m0 m1 hb2 => ?_⟩
        walk_at "dl"
        exact ⟨⟨by omega, by omega⟩, hk _ _ ⟨m.toNat, by omega, rfl, hb2⟩⟩
      · rintro ds M3 ⟨m, hm, rfl, hb2⟩
        exact ⟨by rw [upto_len]; exact hm, ks, a6, ⟨by omega, g2, hb2.at, hb2.keep b1 (hb.keep b1 g4), hx2.trans (hb2.kx (by simp))⟩, rfl⟩
      · rintro ds j d1 σ M3 N3 hd1 ⟨hdl, ks2, a6, ⟨k1, k2, k3, k4, k5⟩, rfl⟩ hN3
        have hjl := (List.getElem?_eq_some_iff.mp hd1).1
        simp only [S, nGm, List.set_cons_zero, List.set_cons_succ]
        walk_at "dl"
        have hN1 := hN0.kx k5 (by simp [n1.symm])
        obtain ⟨v0, hv0⟩ : ∃ v0, ns[0]? = some v0 := ⟨_, List.getElem?_eq_getElem hN1.pos⟩
        refine ⟨isLst_of k4, ?_⟩
        rw [ixX_obj hN1.at_]
        refine e_ix (n := 0) (sqD_obj hN1.at_) (v := .str v0) (by rw [List.getElem?_map, hv0] <;> rfl) ?_
        rw [e_append k4]
        refine ⟨by rw [List.length_map]; omega, ?_⟩
        have e := tre_d (p := [v0]) (r := [s]) (ks := [])
        rw [List.map_nil, List.map_cons, List.map_nil, List.map_cons, List.map_nil] at e
        rw [← e]
        rw [show ks2.map Tre.d ++ [Tre.d (.mk [v0] [s] [])] = (ks2 ++ [Tre.mk [v0] [s] []]).map Tre.d by rw [List.map_append] <;> rfl]
        refine hN3 _ _ ⟨hdl, ks2 ++ [Tre.mk [v0] [s] []], _, ⟨by rw [List.length_append, List.length_singleton]; omega, fun t ht => ?_, k3.upd' b1, updM_same, k5.upd (.inr hpb)⟩, rfl⟩
        rcases List.mem_append.mp ht with ht | ht
        · exact k2 t ht
        · rw [List.mem_singleton.mp ht]
          refine gr_iff.mpr ⟨fun x hx => ?_, fun x hx => ?_, by simp, by simp, by simp, fun k hk => nomatch hk⟩
          · rw [List.mem_singleton.mp hx]
            exact hN1.ok v0 (List.mem_of_getElem? hv0)
          · rw [List.mem_singleton.mp hx]
            exact hV1.ok s hs1
      · rintro ds σ M3 ⟨hdl, ks2, a6, ⟨k1, k2, k3, k4, k5⟩, rfl⟩
        exact hN1 _ _ ⟨ks2, _, _, a6, ⟨by omega, k2, k3, k4, k5⟩, rfl⟩
    · rintro σ M1 ⟨ks, a4, a5, a6, ⟨g1, g2, g3, g4, g5⟩, rfl⟩
      exact hN _ _ ⟨ks, a4, a5, a6, ⟨by rw [upto_len] at g1; exact g1, g2, g3, g4, g5⟩, rfl⟩
theorem ok__law_changed (T : Txt K mg) {f : Addr} {fd : FuncData} (F : FunD K "_law_changed" "_law_changed" (defArgs s_law_changed) (defBody s_law_changed) (defScope s_law_changed) [] [] f fd) (h__law_draw : Callee P w K mg base CX0 (1) "_law_draw" P_law_draw sp_bdraw) (h__law_changed : Callee P w K mg base CX0 (20+n) "_law_changed" P_law_changed (sp_changed n)) : FnOk P w K mg base CX0 (20+n + 1) f fd P_law_changed (LSp K ((sp_changed (n+1)))) := by
  refine fnD0 F sc_law_changed (fun ds M Q E h => by first | (obtain ⟨rfl, _⟩ := h; rfl) | (obtain ⟨_, rfl, _⟩ := h; rfl) | (obtain ⟨_, _, rfl, _⟩ := h; rfl) | (obtain ⟨_, _, _, rfl, _⟩ := h; rfl) | (obtain ⟨_, _, _, _, rfl, _⟩ := h; rfl) | (obtain ⟨_, _, _, _, _, rfl, _⟩ := h; rfl) | (obtain ⟨_, _, _, _, _, _, rfl, _⟩ := h; rfl) | (obtain ⟨_, _, _, _, _, _, _, rfl, _⟩ := h; rfl) | (obtain ⟨_, _, _, _, _, _, _, _, rfl, _⟩ := h; rfl) | (obtain ⟨_, _, _, _, _, _, _, _, _, rfl, _⟩ := h; rfl) | (obtain ⟨_, _, _, _, _, _, _, _, _, _, rfl, _⟩ := h; rfl) | (obtain ⟨_, _, _, _, _, _, _, _, _, _, _, rfl, _⟩ := h; rfl) | (obtain ⟨_, _, _, _, _, _, _, _, _, _, _, _, rfl, _⟩ := h; rfl) | (obtain ⟨_, _, _, _, _, _, _, _, _, _, _, _, _, rfl, _⟩ := h; rfl) | (obtain ⟨_, _, _, _, _, _, _, _, _, _, _, _, _, _, rfl, _⟩ := h; rfl) | (obtain ⟨_, _, _, _, _, _, _, _, _, _, _, _, _, _, _, rfl, _⟩ := h; rfl) | (obtain ⟨_, _, _, _, _, _, _, _, _, _, _, _, _, _, _, _, rfl, _⟩ := h; rfl) | (obtain ⟨_, _, _, _, _, _, _, _, _, _, _, _, _, _, _, _, _, rfl, _⟩ := h; rfl) | (obtain ⟨_, _, _, _, _, _, _, _, _, _, _, _, _, _, _, _, _, _, rfl, _⟩ := h; rfl) | (obtain ⟨_, _, _, _, _, _, _, _, _, _, _, _, _, _, _, _, _, _, _, rfl, _⟩ := h; rfl)) fun cdv A outer s H E F0 hr => ⟨_, (dss_cons (ds_if (dt_w (dw_and (dt_cmp (od_gt) (de_callB cd_len rfl T.len (by decide +kernel) (da_cons (de_ixX hr.u9 (de_var (pv 1)) de_int (fun _ _ => rfl)) da_nil)) de_int (nomark _)) (dw_and1 (dt_cmp (od_gt) (de_fn h__law_draw (hr.mono (by omega)) rfl pass0 finX0 (da_cons (de_var (pv 0)) (da_cons de_int da_nil))) de_int (nomark _))))) (dss_cons (ds_set (i := 3) sc_law_changed.nd rfl (Or.inl rfl) (de_fn h__law_draw (hr.mono (by omega)) rfl pass0 finX0 (da_cons (de_var (pv 0)) (da_cons (de_callB cd_len rfl T.len (by decide +kernel) (da_cons (de_ixX hr.u9 (de_var (pv 1)) de_int (fun _ _ => rfl)) da_nil)) da_nil))))
      (dss_cons (ds_set (i := 4) sc_law_changed.nd rfl (Or.inl rfl) (de_fn h__law_changed (hr.mono (by omega)) rfl pass0 finX0 (da_cons (de_var (pv 0)) (da_cons (de_ixX hr.u9 (de_ixX hr.u9 (de_var (pv 1)) de_int (fun _ _ => rfl)) (de_var (pv 3)) (fun _ _ => rfl)) (da_cons (de_var (pv 2)) da_nil)))))
      (dss_one (ds_ret (de_tup (da_cons (de_ixX hr.u9 (de_var (pv 1)) de_int (fun _ _ => rfl)) (da_cons (de_ixX hr.u9 (de_var (pv 1)) de_int (fun _ _ => rfl)) (da_cons (de_callTy cd_tuple rfl T.tuple (by decide +kernel) (da_cons (de_callB (cd_sortT (own := false)) rfl T.sorted (by decide +kernel) (da_cons (de_op (od_add (own := false)) (de_op (od_add (own := false)) (de_sl (own := false) (de_ixX hr.u9 (de_var (pv 1)) de_int (fun _ _ => rfl)) do_none (do_some (de_var (pv 3)))) (de_tup (da_cons (de_var (pv 4)) da_nil))) (de_sl (own := false) (de_ixX hr.u9 (de_var (pv 1)) de_int (fun _ _ => rfl)) (do_some (de_op (od_add (own := false)) (de_var (pv 3)) de_int)) do_none)) da_nil)) da_nil)) da_nil)))))))) dss_nil)
      (dss_one (ds_ret (de_tup (da_cons (de_ixX hr.u9 (de_var (pv 1)) de_int (fun _ _ => rfl)) (da_cons (de_op (od_add (own := false)) (de_tup (da_cons (de_ixX hr.u9 (de_var (pv 2)) (de_fn h__law_draw (hr.mono (by omega)) rfl pass0 finX0 (da_cons (de_var (pv 0)) (da_cons (de_callB cd_len rfl T.len (by decide +kernel) (da_cons (de_var (pv 2)) da_nil)) da_nil))) (fun _ _ => rfl)) da_nil)) (de_sl (own := false) (de_ixX hr.u9 (de_var (pv 1)) de_int (fun _ _ => rfl)) (do_some de_int) do_none)) (da_cons (de_sl (own := false) (de_ixX hr.u9 (de_var (pv 1)) de_int (fun _ _ => rfl)) (do_some de_int) do_none) da_nil))))))), fun ds M Q Ex h => ?_⟩
  obtain ⟨a, pv, vs, t, d, rfl, hd, hB, hV, n2, hg, q⟩ := h
  walk_at "st"
  have hs : sizeLine = 16777216 := sizeLine_eq
  obtain ⟨p, r, ks⟩ := t
  obtain ⟨h1, h2, h3, h4, h5, h6⟩ := gr_iff.mp hg
  rw [tre_d]
  have hkl : ks.length ≤ 4 := by split at h5 <;> omega
  obtain ⟨dt, hdt⟩ : ∃ dt, dt = D.tup [.tup (p.map D.str), .tup (r.map D.str), .tup (ks.map Tre.d)] := ⟨_, rfl⟩
  rw [← hdt]
  refine seq_tail (fun σ M' => BoN a M M' ∧ σ = [some (.obj a), some dt, some (.obj pv), none, none]) ?_ (fun Nx hN => ?_)
  · rintro _ M1 ⟨hb, rfl⟩
    rw [hdt]
    walk_at "dl"
    have hV1 := hV.kx (hb.kx (S := [a]) (by simp)) (by simp [n2.symm])
    rw [e_len_obj hV1.at_, List.length_map]
    refine pick hb.at hV1.at_ n2 hV1.pos hV1.few fun s M2 hs1 hb2 => ?_
    have c1 : ∀ {α : Type} (l : List α), cutL l (some 1) none = l.drop 1 := fun l => cut_from (n := 1)
    rw [c1, c1]
    refine ⟨by rw [List.length_drop, List.length_map]; show 1 + _ ≤ _; omega, ?_⟩
    have e := tre_d (p := p) (r := s :: r.drop 1) (ks := ks.drop 1)
    rw [List.map_cons, List.map_drop, List.map_drop] at e
    rw [show [D.str s] ++ (r.map D.str).drop 1 = D.str s :: (r.map D.str).drop 1 from rfl, ← e]
    refine Wk.here (q _ M2 (gr_iff.mpr ⟨h1, fun x hx => ?_, h3, by rw [List.length_cons, List.length_drop]; omega, by rw [List.length_drop]; split at h5 <;> split <;> omega, fun k hk => h6 k (List.mem_of_mem_drop hk)⟩) hb2.at ((hb.trans hb2).kx (by simp)))
    rcases List.mem_cons.mp hx with rfl | hx
    · exact hV1.ok _ hs1
    · exact h2 x (List.mem_of_mem_drop hx)
  · rw [hdt]
    walk_at "dl"
    rw [← hdt]
    refine ifB (fun h => ?_) (fun h => hN _ _ ⟨.refl hB, rfl⟩)
    have hkp := of_decide_eq_true h
    rw [List.length_map] at hkp
    refine ⟨a, 3, rfl, by decide, by decide, hB, fun m M2 m0 m1 hb => ?_⟩
    walk_at "dl"
    refine ifB (fun h => ?_) (fun h => hN _ _ ⟨hb, rfl⟩)
    rw [List.length_map]
    refine ⟨a, _, rfl, by omega, by omega, hb.at, fun j M3 j0 j1 hb3 => ?_⟩
    obtain ⟨j, rfl⟩ : ∃ j' : Nat, j = ((j' : Nat) : Int) := ⟨j.toNat, by omega⟩
    have hjl : j < ks.length := by omega
    obtain ⟨x, hx⟩ : ∃ x, ks[j]? = some x := ⟨_, List.getElem?_eq_getElem hjl⟩
    have hxm := List.mem_of_getElem? hx
    have hd1 : d ≠ 0 := fun e => by rw [if_pos e] at h5; omega
    dsimp only
    refine e_ix (sqD_tup ..) (v := x.d) (by rw [List.getElem?_map, hx] <;> rfl) ?_
    have hx3 := (hb.trans hb3).kx (S := [a]) (by simp)
    refine ⟨a, pv, vs, x, d - 1, rfl, by omega, hb3.at, hV.kx hx3 (by simp [n2.symm]), n2, h6 x hxm, fun t' M4 g1 g2 g3 => ?_⟩
    dsimp only
    walk_at "dl"
    rw [cut_to, show ((j : Nat) : Int) + 1 = ((j + 1 : Nat) : Int) by omega, cut_from]
    have hks : (ks.map Tre.d).take j ++ [t'.d] ++ (ks.map Tre.d).drop (j + 1) = (ks.take j ++ t' :: ks.drop (j + 1)).map Tre.d := by
      rw [List.map_append, List.map_cons, List.map_take, List.map_drop, List.append_assoc] <;> rfl
    have hln : (ks.take j ++ t' :: ks.drop (j + 1)).length = ks.length := by
      rw [List.length_append, List.length_cons, List.length_take, List.length_drop]
      omega
    have hall : ∀ k ∈ ks.take j ++ t' :: ks.drop (j + 1), Gr 4 (d - 1) k := fun k hk => by
      rcases List.mem_append.mp hk with hk | hk
      · exact h6 k (List.mem_of_mem_take hk)
      · rcases List.mem_cons.mp hk with rfl | hk
        · exact g1
        · exact h6 k (List.mem_of_mem_drop hk)
    rw [hks]
    refine ⟨by rw [List.length_take, List.length_map]; show _ + 1 ≤ _; omega, by rw [List.length_append, List.length_take, List.length_drop, List.length_map]; show _ + 1 + _ ≤ _; omega, ?_⟩
    refine e_sorted_tup hr.units (fun t ht => ?_) (by omega) fun us hus => ?_
    · have := ((hall t ht).ok (by omega)).2
      omega
    · walk_at "dl"
      rw [← tre_d]
      exact Wk.here (q _ M4 (gr_iff.mpr ⟨h1, h2, h3, h4, by rw [hus.length_eq, hln]; exact h5, fun k hk => hall k (hus.mem_iff.mp hk)⟩) g2 (hx3.trans g3))
end
end K20
namespace K20
open PySem PySem.Spec L2 DL Syn Mi Lb Bx Mt
local macro_rules | `(tactic| walk_at "st") => `(tactic| simp only [start_def, List.map_cons, List.map_nil, List.length_cons, List.length_nil, List.cons_append, List.nil_append, Nat.zero_add, Nat.reduceAdd, Nat.reduceSub, List.replicate])
local macro_rules | `(tactic| walk_at "dl") => `(tactic| simp only [dSeq, dNext, dDrop, dRet, dRetF, dRetN, dIfS, dAsg, dAug, dPar, nGm, nTup, nCons, nNil, dVar, dC, dOp, dUn, dCons, dNil, dTup, dLst, dB, dTru, dAnd, dOr, dNot, dAndV, dOrV, dNotV, dIf, dChain, dCB, dCall, dSlE, dNoPart, dPart, dRev, dS0, dS1, dBL, dBL0, dIsi, dBreak, dCont, List.set_cons_zero, List.set_cons_succ, List.getElem?_cons_zero, List.getElem?_cons_succ, ifB_t, ifB_f, e_new_f, e_new_t, e_add_int, e_add_str, e_add_tup, e_add_pl, e_len_pl, e_sl_pl, e_sl_last, e_add_lst, e_sub, e_mul, e_mul_str, e_mul_lst, e_div, e_mod, e_pow, e_neg, e_eq_int, e_eq_str, e_isN_non, e_isN_obj, e_isN_tup, e_isN_lst, e_lt_int, e_lt_str, e_le_int, e_le_str, e_gt, e_ge, e_in_str, e_t0, e_t1, e_t2, e_t3, e_t4, e_t5, e_l0, e_l1, e_l2, e_l3, e_sl_tup, e_sl_rdl, e_sl_str, e_sl_lst, e_len_str, e_len_lst, e_len_tup, e_int, e_tupC_tup, e_tupC_lst, e_iadd_int, e_iadd_str, e_isub, tru_bl, tru_int, tru_non, tru_lst, tru_tup, ex_some, bne_f, bne_t, e_nSub, cxK, cxP, cxW, decide_true, e_fld, e_sfld, e_meth, e_fldX, e_methX, lsD_lst, dDM, dDNewX, dPairs, dDisp, dFz, nSubX, dLockE, dLockS, dListV, ixX_tup, ixX_pl, ixX_lst, ixX_str, iaddX_int, iaddX_str, imul_int, e_isN_str, e_isN_int, sz0, sz1, sz2, sz3, sz4, sz5, sz6, sz7, sz8, true_and])
local macro_rules | `(tactic| walk_at "if") => `(tactic| simp only [dIfS, dVar, dC, dOp, dUn, dCons, dNil, dB, dTru, dAnd, dOr, dNot, dChain, dCB, List.getElem?_cons_zero, List.getElem?_cons_succ, ifB_t, ifB_f, e_eq_int, e_eq_str, e_lt_int, e_le_int, e_gt, e_ge, e_isN_non, e_isN_obj, e_isN_tup, e_isN_lst, e_isN_str, e_isN_int, e_len_str, e_len_lst, e_len_tup, tru_bl, tru_int, tru_non, tru_lst, tru_tup, ex_some, bne_f, bne_t, decide_true, cxK, cxP, cxW, true_and])
local macro_rules | `(tactic| walk_at "lit") => `(tactic| simp only [Int.reduceEq, Int.reduceLT, Int.reduceLE, Int.reduceMod, Int.reduceAdd, Int.reduceSub, eq_self, ne_eq, not_true_eq_false, not_false_eq_true, decide_true, decide_false, ifB_t, ifB_f, bne_f, bne_t, e_l0, e_l1, e_l2, e_l3, e_t0, e_t1, e_t2, true_and])
section
variable {P : Program} {w : World} {K : PySem.W.Frag} {mg : Str → Option Value} {base : Heap}
def wdR (k : Nat) : Str := ("V" : Str) ++ (toString ((100 : Int) + ((k : Nat) : Int)) : String)
theorem wdR_ok : ∀ k, k < 8 → PyData.strOk (wdR k) = true := by decide +kernel
theorem wdR_log : ∀ k : Nat, k < 8 → ((100 : Int) + ((k : Nat) : Int)).natAbs.log2 < 1920 := by decide +kernel
theorem wdR_len : ∀ k : Nat, k < 8 → ((toString ((100 : Int) + ((k : Nat) : Int)) : String) : Str).length ≤ 100 := by decide +kernel
def leafR (n0 n1 : Str) (k : Nat) : Tre := .mk [n0, n1] [wdR k] []
def fstR (n0 n1 : Str) (k : Nat) : Tre := .mk [n0] [] [leafR n0 n1 k]
theorem leaf_d {n0 n1 : Str} {k : Nat} : D.tup [.tup [.str n0, .str n1], .tup [.str (wdR k)], .tup []] = (leafR n0 n1 k).d := by unfold leafR; rw [tre_d] <;> rfl
theorem one_d {n0 : Str} {ks : List Tre} : D.tup [.tup [.str n0], .tup [], .tup (ks.map Tre.d)] = Tre.d (.mk [n0] [] ks) := by rw [tre_d] <;> rfl
theorem gr_leaf {n0 n1 : Str} (o0 : PyData.strOk n0 = true) (o1 : PyData.strOk n1 = true) {k : Nat} (hk : k < 8) : Gr 8 0 (leafR n0 n1 k) := gr_iff.mpr ⟨fun x hx => by simp at hx; rcases hx with rfl | rfl <;> assumption, fun x hx => by rw [List.mem_singleton.mp hx]; exact wdR_ok k hk, by simp, by simp, by simp, fun k hk => nomatch hk⟩
theorem gr_one {n0 : Str} (o0 : PyData.strOk n0 = true) {ks : List Tre} (h : ks.length ≤ 8) (hk : ∀ k ∈ ks, Gr 8 0 k) : Gr 8 1 (.mk [n0] [] ks) := gr_iff.mpr ⟨fun x hx => by rw [List.mem_singleton.mp hx]; exact o0, (fun x hx => nomatch hx), by simp, by simp, by rw [if_neg (by omega)]; exact h, hk⟩
def OthR (n0 n1 : Str) (many br : Nat) (k : Nat) (o : Tre) : Prop := (k = br ∧ o = .mk [n0] [] []) ∨ (k ≠ br ∧ ∃ us, us.Perm [leafR n0 n1 k, leafR n0 n1 ((k + 1) % many)] ∧ o = .mk [n0] [] us)
theorem ring_yes {n0 n1 : Str} {many br : Nat} {fs os us ts : List Tre} (hf : fs = (List.range many).map (fstR n0 n1)) (ho : F2 (OthR n0 n1 many br) (List.range many) os) (hu : us.Perm fs) (ht : ts.Perm os) (hb : many ≤ br) : Lies (.mk [] [] us) (.mk [] [] ts) := by
  refine lies_iff.mpr ⟨rfl, rfl, Emb.perm hu.symm ht.symm ⟨os, [], by rw [List.append_nil], F2.of (by rw [hf, List.length_map]; exact ho.len) fun i x y hx hy => ?_⟩⟩
  rw [hf, List.getElem?_map] at hx
  obtain ⟨k, hk, rfl⟩ := Option.map_eq_some_iff.mp hx
  have h := ho.get i k y hk hy
  have hkm := List.mem_range.mp (List.mem_of_getElem? hk)
  rcases h with ⟨e, _⟩ | ⟨_, vs, hv, rfl⟩
  · omega
  · exact lies_iff.mpr ⟨rfl, rfl, [leafR n0 n1 k], [leafR n0 n1 ((k + 1) % many)], hv, .cons (lies_refl _) .nil⟩
theorem ring_no {n0 n1 : Str} {many br : Nat} {fs os us ts : List Tre} (hf : fs = (List.range many).map (fstR n0 n1)) (ho : F2 (OthR n0 n1 many br) (List.range many) os) (hu : us.Perm fs) (ht : ts.Perm os) (hb : br < many) : ¬ Lies (.mk [] [] us) (.mk [] [] ts) := fun hl => by
  obtain ⟨zs, rest, hp, h⟩ := Emb.perm hu ht (lies_iff.mp hl).2.2
  have e1 := hp.length_eq
  have e2 := h.len
  have e3 := ho.len
  rw [hf, List.length_map] at e2
  rw [List.length_append] at e1
  have hr : rest = [] := List.eq_nil_of_length_eq_zero (by omega)
  subst hr
  rw [List.append_nil] at hp
  obtain ⟨o, hb2⟩ : ∃ o, os[br]? = some o := ⟨_, List.getElem?_eq_getElem (by rw [← e3, List.length_range]; exact hb)⟩
  have ho2 := ho.get br br o (by rw [List.getElem?_range hb]) hb2
  rcases ho2 with ⟨_, rfl⟩ | ⟨hne, _⟩
  · have hm := hp.mem_iff.mp (List.mem_of_getElem? hb2)
    obtain ⟨i, hi⟩ := List.getElem?_of_mem hm
    have hil := (List.getElem?_eq_some_iff.mp hi).1
    rw [List.length_range] at e2
    have hx : fs[i]? = some (fstR n0 n1 i) := by
      rw [hf, List.getElem?_map, List.getElem?_range (by omega)] <;> rfl
    have := (lies_iff.mp (h.get i _ _ hx hi)).2.2.len
    simp at this
  · exact hne rfl
def sp_ring : SpD := fun ds M Q _ => ∃ (a pn : Addr) (ns : List Str) (many br : Nat), ds = [.obj a, .obj pn, .int ((many : Nat) : Int), .int ((br : Nat) : Int)] ∧ NsAt M pn ns ∧ ns.length = 2 ∧ 2 ≤ many ∧ many ≤ 8 ∧
  ∀ s t M', Gr 8 2 s → Gr 8 2 t → (many ≤ br → Lies s t) → (br < many → ¬ Lies s t) → Kx [] M M' → Q (.lst [s.d, t.d]) M'
theorem ok__law_ring (T : Txt K mg) {f : Addr} {fd : FuncData} (F : FunD K "_law_ring" "_law_ring" (defArgs s_law_ring) (defBody s_law_ring) (defScope s_law_ring) [] [] f fd) : FnOk P w K mg base CX0 (0 + 1) f fd P_law_ring (LSp K (sp_ring)) := by
  refine fnD0 F sc_law_ring (fun ds M Q E h => by first | (obtain ⟨rfl, _⟩ := h; rfl) | (obtain ⟨_, rfl, _⟩ := h; rfl) | (obtain ⟨_, _, rfl, _⟩ := h; rfl) | (obtain ⟨_, _, _, rfl, _⟩ := h; rfl) | (obtain ⟨_, _, _, _, rfl, _⟩ := h; rfl) | (obtain ⟨_, _, _, _, _, rfl, _⟩ := h; rfl) | (obtain ⟨_, _, _, _, _, _, rfl, _⟩ := h; rfl) | (obtain ⟨_, _, _, _, _, _, _, rfl, _⟩ := h; rfl) | (obtain ⟨_, _, _, _, _, _, _, _, rfl, _⟩ := h; rfl) | (obtain ⟨_, _, _, _, _, _, _, _, _, rfl, _⟩ := h; rfl) | (obtain ⟨_, _, _, _, _, _, _, _, _, _, rfl, _⟩ := h; rfl) | (obtain ⟨_, _, _, _, _, _, _, _, _, _, _, rfl, _⟩ := h; rfl) | (obtain ⟨_, _, _, _, _, _, _, _, _, _, _, _, rfl, _⟩ := h; rfl) | (obtain ⟨_, _, _, _, _, _, _, _, _, _, _, _, _, rfl, _⟩ := h; rfl) | (obtain ⟨_, _, _, _, _, _, _, _, _, _, _, _, _, _, rfl, _⟩ := h; rfl) | (obtain ⟨_, _, _, _, _, _, _, _, _, _, _, _, _, _, _, rfl, _⟩ := h; rfl) | (obtain ⟨_, _, _, _, _, _, _, _, _, _, _, _, _, _, _, _, rfl, _⟩ := h; rfl) | (obtain ⟨_, _, _, _, _, _, _, _, _, _, _, _, _, _, _, _, _, rfl, _⟩ := h; rfl) | (obtain ⟨_, _, _, _, _, _, _, _, _, _, _, _, _, _, _, _, _, _, rfl, _⟩ := h; rfl) | (obtain ⟨_, _, _, _, _, _, _, _, _, _, _, _, _, _, _, _, _, _, _, rfl, _⟩ := h; rfl)) fun cdv A outer s H E F0 hr => ⟨_, (dss_cons (ds_set (i := 4) sc_law_ring.nd rfl (Or.inl rfl) (de_lst (own := false) (da_cons (de_tup (da_cons (de_ixX hr.u9 (de_var (pv 1)) de_int (fun _ _ => rfl)) (da_cons (de_ixX hr.u9 (de_var (pv 1)) de_int (fun _ _ => rfl)) da_nil))) da_nil)))
      (dss_cons (ds_setLc (own := false) (x := "k") (j := 6) rfl sc_law_ring.nd (i := 5) rfl rfl (sw_true rfl rfl rfl (by decide +kernel)) (di_range1 rfl T.range (da_cons (de_var (pv 2)) da_nil)) (blkOk_by (N := N_law_ring) (sc := defScope s_law_ring) (by decide +kernel)) (fun _ _ _ _ _ => pg_name (i := 6) sc_law_ring.nd rfl (by first | exact Or.inl rfl | exact Or.inr rfl)) (fun _ _ _ _ _ => (de_op (od_add (own := false)) de_str (de_callTy cd_strI rfl T.str (by decide +kernel) (da_cons (de_op (od_add (own := false)) de_int (de_var (pv 6))) da_nil)))))
      (dss_cons (ds_set (i := 7) sc_law_ring.nd rfl (Or.inl rfl) (de_lst (own := true) da_nil))
      (dss_cons (ds_set (i := 8) sc_law_ring.nd rfl (Or.inl rfl) (de_lst (own := true) da_nil))
      (dss_cons (ds_for PassesOwn.never rfl (di_range1 rfl T.range (da_cons (de_var (pv 2)) da_nil)) (dg_name (pg_name (i := 6) sc_law_ring.nd rfl (Or.inl rfl))) (dss_cons (ds_set (i := 9) sc_law_ring.nd rfl (Or.inl rfl) (de_tup (da_cons (de_ixX hr.u9 (de_var (pv 4)) de_int (fun _ _ => rfl)) (da_cons (de_tup (da_cons (de_ixX hr.u9 (de_var (pv 5)) (de_var (pv 6)) (fun _ _ => rfl)) da_nil)) (da_cons (de_tup da_nil) da_nil)))))
      (dss_cons (ds_set (i := 10) sc_law_ring.nd rfl (Or.inl rfl) (de_tup (da_cons (de_ixX hr.u9 (de_var (pv 4)) de_int (fun _ _ => rfl)) (da_cons (de_tup (da_cons (de_ixX hr.u9 (de_var (pv 5)) (de_op (od_mod) (de_callTy cd_int rfl T.int (by decide +kernel) (da_cons (de_op (od_add (own := false)) (de_var (pv 6)) de_int) da_nil)) (de_var (pv 2))) (fun _ _ => rfl)) da_nil)) (da_cons (de_tup da_nil) da_nil)))))
      (dss_cons (ds_expr (de_bl1 PySem.F.slot_list_append PySem.F.type_list_append md_append (de_var (pv 7)) (da_cons (de_tup (da_cons (de_tup (da_cons (de_ixX hr.u9 (de_var (pv 1)) de_int (fun _ _ => rfl)) da_nil)) (da_cons (de_tup da_nil) (da_cons (de_tup (da_cons (de_var (pv 9)) da_nil)) da_nil)))) da_nil)))
      (dss_one (ds_if (dt_cmp (od_eq hr.units) (de_var (pv 6)) (de_var (pv 3)) (nomark _)) (dss_one (ds_expr (de_bl1 PySem.F.slot_list_append PySem.F.type_list_append md_append (de_var (pv 8)) (da_cons (de_tup (da_cons (de_tup (da_cons (de_ixX hr.u9 (de_var (pv 1)) de_int (fun _ _ => rfl)) da_nil)) (da_cons (de_tup da_nil) (da_cons (de_tup da_nil) da_nil)))) da_nil)))) (dss_one (ds_expr (de_bl1 PySem.F.slot_list_append PySem.F.type_list_append md_append (de_var (pv 8)) (da_cons (de_tup (da_cons (de_tup (da_cons (de_ixX hr.u9 (de_var (pv 1)) de_int (fun _ _ => rfl)) da_nil)) (da_cons (de_tup da_nil) (da_cons (de_callTy cd_tuple rfl T.tuple (by decide +kernel) (da_cons (de_callB (cd_sortAny (own := false) rfl) rfl T.sorted (by decide +kernel) (da_cons (de_lst (own := false) (da_cons (de_var (pv 9)) (da_cons (de_var (pv 10)) da_nil))) da_nil)) da_nil)) da_nil)))) da_nil))))))))))
      (dss_one (ds_ret (de_lst (own := false) (da_cons (de_tup (da_cons (de_tup da_nil) (da_cons (de_tup da_nil) (da_cons (de_callTy cd_tuple rfl T.tuple (by decide +kernel) (da_cons (de_callB (cd_sortAny (own := false) rfl) rfl T.sorted (by decide +kernel) (da_cons (de_var (pv 7)) da_nil)) da_nil)) da_nil)))) (da_cons (de_tup (da_cons (de_tup da_nil) (da_cons (de_tup da_nil) (da_cons (de_callTy cd_tuple rfl T.tuple (by decide +kernel) (da_cons (de_callB (cd_sortAny (own := false) rfl) rfl T.sorted (by decide +kernel) (da_cons (de_var (pv 8)) da_nil)) da_nil)) da_nil)))) da_nil)))))))))), fun ds M Q Ex h => ?_⟩
  obtain ⟨a, pn, ns, many, br, rfl, hN, hnl, hm2, hm8, q⟩ := h
  walk_at "st"
  have hs : sizeLine = 16777216 := sizeLine_eq
  obtain ⟨n0, n1, rfl⟩ : ∃ n0 n1, ns = [n0, n1] := by
    match ns, hnl with
    | [x, y], _ => exact ⟨x, y, rfl⟩
  have hNa := hN.at_
  have o0 : PyData.strOk n0 = true := hN.ok n0 (by simp)
  have o1 : PyData.strOk n1 = true := hN.ok n1 (by simp)
  refine seq_tail (fun σ M' => M' = M ∧ σ = [some (.obj a), some (.obj pn), some (.int ((many : Nat) : Int)), some (.int ((br : Nat) : Int)), some (.lst [.tup [.str n0, .str n1]]), none, none, none, none, none, none]) ?_ (fun Nx hN => ?_)
  rotate_left
  · walk_at "dl"
    rw [ixX_obj hNa]
    refine e_ix (n := 0) (sqD_obj hNa) (v := .str n0) rfl ?_
    rw [ixX_obj hNa]
    refine e_ix (n := 1) (sqD_obj hNa) (v := .str n1) rfl ?_
    exact hN _ _ ⟨rfl, rfl⟩
  rintro _ M ⟨rfl, rfl⟩
  refine seq_tail (fun σ M' => M' = M ∧ σ = [some (.obj a), some (.obj pn), some (.int ((many : Nat) : Int)), some (.int ((br : Nat) : Int)), some (.lst [.tup [.str n0, .str n1]]), some (.lst ((List.range many).map fun k => .str (wdR k))), none, none, none, none, none]) ?_ (fun Nx hN => ?_)
  rotate_left
  · walk_at "dl"
    refine lc_pure (upto 0 many) (fun d => match d with | .int k => .str (wdR k.toNat) | x => x) (fun Kd hk => ?_) (by rw [upto_len]; omega) (fun i d M' Q' hd hmono q' => ?_) ?_
    · unfold dRange1
      walk_at "dl"
      refine ⟨⟨by omega, by omega⟩, ?_⟩
      rw [show ((many : Nat) : Int).toNat = many by omega]
      exact hk
    · obtain ⟨rfl, hi⟩ := upto_get hd
      rw [show (0 : Int) + (i : Nat) = ((i : Nat) : Int) by omega] at q' ⊢
      have q' : Q' (.str (wdR ((i : Nat) : Int).toNat)) M' := q'
      rw [show ((i : Nat) : Int).toNat = i by omega] at q'
      simp only [List.set_cons_zero, List.set_cons_succ]
      walk_at "dl"
      refine ⟨_, rfl, wdR_log i (by omega), ?_⟩
      walk_at "dl"
      have := wdR_len i (by omega)
      exact ⟨by show 1 + _ ≤ _; omega, q'⟩
    · rw [e_new_f]
      have e : (upto 0 many).map (fun d => match d with | .int k => D.str (wdR k.toNat) | x => x) = (List.range many).map fun k => .str (wdR k) := by
        unfold upto
        rw [List.map_map]
        apply List.map_congr_left
        intro k _
        show D.str (wdR ((0 : Int) + (k : Nat)).toNat) = _
        rw [show ((0 : Int) + (k : Nat)).toNat = k by omega]
      rw [e]
      exact hN _ _ ⟨rfl, rfl⟩
  rintro _ M ⟨rfl, rfl⟩
  obtain ⟨wl, hwl⟩ : ∃ wl, wl = D.lst ((List.range many).map fun k => .str (wdR k)) := ⟨_, rfl⟩
  rw [← hwl]
  have hwi : ∀ k, k < many → ((List.range many).map fun k => D.str (wdR k))[k]? = some (.str (wdR k)) := fun k hk => by
    rw [List.getElem?_map, List.getElem?_range hk] <;> rfl
  let S : Option D → Option D → Option D → Option D → Option D → DS := fun a6 a7 a8 a9 a10 => [some (.obj a), some (.obj pn), some (.int ((many : Nat) : Int)), some (.int ((br : Nat) : Int)), some (.lst [.tup [.str n0, .str n1]]), some wl, a6, a7, a8, a9, a10]
  refine seq_tail (fun σ M' => ∃ pf, M pf = none ∧ M' = updM M pf (.lst []) ∧ σ = S none (some (.obj pf)) none none none) ?_ (fun Nx hN => by walk_at "dl"; exact fun pf hpf => hN _ _ ⟨pf, hpf, rfl, rfl⟩)
  rintro _ _ ⟨pf, hpf, rfl, rfl⟩
  refine seq_tail (fun σ M' => ∃ po, M po = none ∧ po ≠ pf ∧ M' = updM (updM M pf (.lst [])) po (.lst []) ∧ σ = S none (some (.obj pf)) (some (.obj po)) none none) ?_ (fun Nx hN => by
    simp only [S]
    walk_at "dl"
    intro po hpo
    have n1 : po ≠ pf := fun e => by rw [e, updM_same] at hpo; cases hpo
    rw [updM_ne n1] at hpo
    exact hN _ _ ⟨po, hpo, n1, rfl, rfl⟩)
  rintro _ _ ⟨po, hpo, nfo, rfl, rfl⟩
  refine seq_tail (fun σ M' => ∃ os a6 a9 a10, M' pf = some (.lst (((List.range many).map (fstR n0 n1)).map Tre.d)) ∧ M' po = some (.lst (os.map Tre.d)) ∧ F2 (OthR n0 n1 many br) (List.range many) os ∧ (∀ o ∈ os, Gr 8 1 o) ∧ Kx [] M M' ∧ σ = S a6 (some (.obj pf)) (some (.obj po)) a9 a10) ?_ (fun Nx hN => ?_)
  · rintro _ M1 ⟨os, a6, a9, a10, g1, g2, g3, g4, g5, rfl⟩
    simp only [S]
    walk_at "dl"
    have hfg : ∀ t ∈ (List.range many).map (fstR n0 n1), Gr 8 1 t := fun t ht => by
      obtain ⟨k, hk, rfl⟩ := List.mem_map.mp ht
      have := List.mem_range.mp hk
      refine gr_one o0 (by simp) fun x hx => ?_
      rw [List.mem_singleton.mp hx]
      exact gr_leaf o0 o1 (by omega)
    have hol := g3.len
    rw [List.length_range] at hol
    have dep : ∀ (l : List Tre), (∀ t ∈ l, Gr 8 1 t) → ∀ t ∈ l, dpT t ≤ 25 := fun l hl t ht => by
      have := ((hl t ht).ok (by omega)).2
      omega
    refine .inl (e_sorted_trees (lsD_obj.mpr g1) hr.units (dep _ hfg) (by rw [List.length_map, List.length_range]; omega) fun us hus => ?_)
    walk_at "dl"
    refine .inl (e_sorted_trees (lsD_obj.mpr g2) hr.units (dep _ g4) (by omega) fun ts hts => ?_)
    walk_at "dl"
    have top : ∀ l : List Tre, D.tup [.tup [], .tup [], .tup (l.map Tre.d)] = Tre.d (.mk [] [] l) := fun l => by rw [tre_d] <;> rfl
    have gtop : ∀ l : List Tre, l.length = many → (∀ t ∈ l, Gr 8 1 t) → Gr 8 2 (.mk [] [] l) := fun l hl hg => gr_iff.mpr ⟨(fun x hx => nomatch hx), (fun x hx => nomatch hx), by simp, by simp, by rw [if_neg (by omega)]; omega, hg⟩
    rw [top, top]
    exact Wk.here (q _ _ M1 (gtop _ (by rw [hus.length_eq, List.length_map, List.length_range]) fun t ht => hfg t (hus.mem_iff.mp ht)) (gtop _ (by rw [hts.length_eq]; exact hol.symm) fun t ht => g4 t (hts.mem_iff.mp ht)) (ring_yes rfl g3 hus hts) (ring_no rfl g3 hus hts) g5)
  · refine for_pure (upto 0 many) (fun Kd hk => ?_) (fun i σ M' => ∃ os a6 a9 a10, M' pf = some (.lst (((List.range i).map (fstR n0 n1)).map Tre.d)) ∧ M' po = some (.lst (os.map Tre.d)) ∧ F2 (OthR n0 n1 many br) (List.range i) os ∧ (∀ o ∈ os, Gr 8 1 o) ∧ Kx [] M M' ∧ σ = S a6 (some (.obj pf)) (some (.obj po)) a9 a10) ⟨[], none, none, none, by rw [updM_ne nfo.symm, updM_same] <;> rfl, updM_same, .nil, (fun o ho => nomatch ho), (Kx.refl.upd (.inr hpf)).upd (.inr hpo), rfl⟩ ?_ ?_
    · unfold dRange1
      simp only [S]
      walk_at "dl"
      refine ⟨⟨by omega, by omega⟩, ?_⟩
      rw [show ((many : Nat) : Int).toNat = many by omega]
      exact hk
    · rintro i d0 σ M1 N1 hd0 ⟨os, a6, a9, a10, g1, g2, g3, g4, g5, rfl⟩ hN1
      obtain ⟨rfl, hi⟩ := upto_get hd0
      rw [show (0 : Int) + (i : Nat) = ((i : Nat) : Int) by omega]
      simp only [S, nGm, List.set_cons_zero, List.set_cons_succ]
      rw [hwl]
      walk_at "dl"
      have hrs : ∀ {α : Type} (f : Nat → α), (List.range (i + 1)).map f = (List.range i).map f ++ [f i] := fun f => by rw [List.range_succ, List.map_append] <;> rfl
      refine e_ix (sqD_lst ..) (hwi i hi) ?_
      refine ⟨by omega, ?_⟩
      have hmd : (i + 1) % many < many := Nat.mod_lt _ (by omega)
      rw [show (((i : Nat) : Int) + 1) % ((many : Nat) : Int) = (((i + 1) % many : Nat) : Int) by rw [Int.natCast_emod, Int.natCast_add] <;> rfl]
      refine e_ix (sqD_lst ..) (hwi _ hmd) ?_
      have hN2 := g5 pn _ (by simp) hNa
      refine ⟨isLst_of g1, ?_⟩
      rw [ixX_obj hN2]
      refine e_ix (n := 0) (sqD_obj hN2) (v := .str n0) rfl ?_
      rw [leaf_d, leaf_d, e_append g1]
      refine ⟨by rw [List.length_map, List.length_map, List.length_range]; omega, ?_⟩
      have ef : D.tup [.tup [.str n0], .tup [], .tup [(leafR n0 n1 i).d]] = (fstR n0 n1 i).d := one_d (ks := [leafR n0 n1 i])
      rw [ef, show ((List.range i).map (fstR n0 n1)).map Tre.d ++ [(fstR n0 n1 i).d] = ((List.range (i + 1)).map (fstR n0 n1)).map Tre.d by rw [hrs, List.map_append] <;> rfl]
      obtain ⟨M2, hM2⟩ : ∃ M2, M2 = updM M1 pf (.lst (((List.range (i + 1)).map (fstR n0 n1)).map Tre.d)) := ⟨_, rfl⟩
      rw [← hM2]
      have k2 : M2 po = some (.lst (os.map Tre.d)) := by rw [hM2, updM_ne nfo]; exact g2
      have k1 : M2 pf = some (.lst (((List.range (i + 1)).map (fstR n0 n1)).map Tre.d)) := by rw [hM2, updM_same]
      have k5 : Kx [] M M2 := by rw [hM2]; exact g5.upd (.inr hpf)
      have kN := k5 pn _ (by simp) hNa
      have hol := g3.len
      rw [List.length_range] at hol
      have fin : ∀ o, OthR n0 n1 many br i o → Gr 8 1 o → ∀ M3, M3 = updM M2 po (.lst (os.map Tre.d ++ [o.d])) → N1 (S (some (.int ((i : Nat) : Int))) (some (.obj pf)) (some (.obj po)) (some (leafR n0 n1 i).d) (some (leafR n0 n1 ((i + 1) % many)).d)) M3 := fun o h1 h2 M3 h3 => by
        subst h3
        refine hN1 _ _ ⟨os ++ [o], _, _, _, by rw [updM_ne nfo.symm]; exact k1, by rw [updM_same, List.map_append] <;> rfl, by rw [List.range_succ]; exact g3.snoc h1, fun x hx => ?_, k5.upd (.inr hpo), rfl⟩
        rcases List.mem_append.mp hx with hx | hx
        · exact g4 x hx
        · rw [List.mem_singleton.mp hx]
          exact h2
      rw [nD_eq]
      simp only [S] at fin
      rw [hwl] at fin
      refine ifB (fun h => ?_) (fun h => ?_)
      · have e := of_decide_eq_true h
        refine ⟨isLst_of k2, ?_⟩
        rw [ixX_obj kN]
        refine e_ix (n := 0) (sqD_obj kN) (v := .str n0) rfl ?_
        rw [e_append k2]
        refine ⟨by rw [List.length_map]; omega, fin (.mk [n0] [] []) (.inl ⟨e, rfl⟩) (gr_one o0 (by simp) fun k hk => nomatch hk) _ ?_⟩
        rw [← one_d] <;> rfl
      · have e := of_decide_eq_false h
        refine ⟨isLst_of k2, ?_⟩
        rw [ixX_obj kN]
        refine e_ix (n := 0) (sqD_obj kN) (v := .str n0) rfl ?_
        have hg2 : ∀ t ∈ [leafR n0 n1 i, leafR n0 n1 ((i + 1) % many)], Gr 8 0 t := fun t ht => by
          simp at ht
          rcases ht with rfl | rfl
          · exact gr_leaf o0 o1 (by omega)
          · exact gr_leaf o0 o1 (by omega)
        refine .inl (e_sorted_trees (ts := [leafR n0 n1 i, leafR n0 n1 ((i + 1) % many)]) (lsD_lst ..) hr.units (fun t ht => ?_) (by show 2 ≤ _; omega) fun us hus => ?_)
        · have := ((hg2 t ht).ok (by omega)).2
          omega
        walk_at "dl"
        rw [one_d, e_append k2]
        refine ⟨by rw [List.length_map]; omega, fin (.mk [n0] [] us) (.inr ⟨e, us, hus, rfl⟩) (gr_one o0 (by rw [hus.length_eq]; show 2 ≤ 8; omega) fun k hk => hg2 k (hus.mem_iff.mp hk)) _ rfl⟩
    · rintro σ M1 ⟨os, a6, a9, a10, g1, g2, g3, g4, g5, rfl⟩
      rw [upto_len] at g1 g3
      exact hN _ _ ⟨os, a6, a9, a10, g1, g2, g3, g4, g5, rfl⟩
end
end K20
namespace K20
open PySem PySem.Spec L2 DL Syn Mi Lb Bx Mt
local macro_rules | `(tactic| walk_at "st") => `(tactic| simp only [start_def, List.map_cons, List.map_nil, List.length_cons, List.length_nil, List.cons_append, List.nil_append, Nat.zero_add, Nat.reduceAdd, Nat.reduceSub, List.replicate])
local macro_rules | `(tactic| walk_at "dl") => `(tactic| simp only [dSeq, dNext, dDrop, dRet, dRetF, dRetN, dIfS, dAsg, dAug, dPar, nGm, nTup, nCons, nNil, dVar, dC, dOp, dUn, dCons, dNil, dTup, dLst, dB, dTru, dAnd, dOr, dNot, dAndV, dOrV, dNotV, dIf, dChain, dCB, dCall, dSlE, dNoPart, dPart, dRev, dS0, dS1, dBL, dBL0, dIsi, dBreak, dCont, List.set_cons_zero, List.set_cons_succ, List.getElem?_cons_zero, List.getElem?_cons_succ, ifB_t, ifB_f, e_new_f, e_new_t, e_add_int, e_add_str, e_add_tup, e_add_pl, e_len_pl, e_sl_pl, e_sl_last, e_add_lst, e_sub, e_mul, e_mul_str, e_mul_lst, e_div, e_mod, e_pow, e_neg, e_eq_int, e_eq_str, e_isN_non, e_isN_obj, e_isN_tup, e_isN_lst, e_lt_int, e_lt_str, e_le_int, e_le_str, e_gt, e_ge, e_in_str, e_t0, e_t1, e_t2, e_t3, e_t4, e_t5, e_l0, e_l1, e_l2, e_l3, e_sl_tup, e_sl_rdl, e_sl_str, e_sl_lst, e_len_str, e_len_lst, e_len_tup, e_int, e_tupC_tup, e_tupC_lst, e_iadd_int, e_iadd_str, e_isub, tru_bl, tru_int, tru_non, tru_lst, tru_tup, ex_some, bne_f, bne_t, e_nSub, cxK, cxP, cxW, decide_true, e_fld, e_sfld, e_meth, e_fldX, e_methX, lsD_lst, dDM, dDNewX, dPairs, dDisp, dFz, nSubX, dLockE, dLockS, dListV, ixX_tup, ixX_pl, ixX_lst, ixX_str, iaddX_int, iaddX_str, imul_int, e_isN_str, e_isN_int, sz0, sz1, sz2, sz3, sz4, sz5, sz6, sz7, sz8, true_and])
local macro_rules | `(tactic| walk_at "if") => `(tactic| simp only [dIfS, dVar, dC, dOp, dUn, dCons, dNil, dB, dTru, dAnd, dOr, dNot, dChain, dCB, List.getElem?_cons_zero, List.getElem?_cons_succ, ifB_t, ifB_f, e_eq_int, e_eq_str, e_lt_int, e_le_int, e_gt, e_ge, e_isN_non, e_isN_obj, e_isN_tup, e_isN_lst, e_isN_str, e_isN_int, e_len_str, e_len_lst, e_len_tup, tru_bl, tru_int, tru_non, tru_lst, tru_tup, ex_some, bne_f, bne_t, decide_true, cxK, cxP, cxW, true_and])
local macro_rules | `(tactic| walk_at "lit") => `(tactic| simp only [Int.reduceEq, Int.reduceLT, Int.reduceLE, Int.reduceMod, Int.reduceAdd, Int.reduceSub, eq_self, ne_eq, not_true_eq_false, not_false_eq_true, decide_true, decide_false, ifB_t, ifB_f, bne_f, bne_t, e_l0, e_l1, e_l2, e_l3, e_t0, e_t1, e_t2, true_and])
section
variable {P : Program} {w : World} {K : PySem.W.Frag} {mg : Str → Option Value} {base : Heap}
structure PairsOk (l : List (Tre × Tre)) : Prop where
  len : l.length = 13
  sm : ∀ x ∈ l, Sm x.1 ∧ Sm x.2
  yes : ∀ k, k = 0 ∨ k = 2 ∨ k = 5 ∨ k = 8 ∨ k = 12 → ∀ x, l[k]? = some x → Lies x.1 x.2
  no : ∀ x, l[6]? = some x → ¬ Lies x.1 x.2
def pairD (x : Tre × Tre) : D := .lst [x.1.d, x.2.d]
def sp_pairs : SpD := fun ds M Q _ => ∃ a : Addr, ds = [.obj a] ∧ BoxAt M a ∧ ∀ l M', PairsOk l → Kx [a] M M' → Q (.lst (l.map pairD)) M'
theorem ok__law_pairs (T : Txt K mg) {f : Addr} {fd : FuncData} (F : FunD K "_law_pairs" "_law_pairs" (defArgs s_law_pairs) (defBody s_law_pairs) (defScope s_law_pairs) [] [] f fd) (h__law_name : Callee P w K mg base CX0 (2) "_law_name" P_law_name sp_bname) (h__law_grow : Callee P w K mg base CX0 (12) "_law_grow" P_law_grow (sp_grow 11)) (h__law_draw : Callee P w K mg base CX0 (1) "_law_draw" P_law_draw sp_bdraw) (h__law_put_in : Callee P w K mg base CX0 (31) "_law_put_in" P_law_put_in (sp_put_in 11)) (h__law_ring : Callee P w K mg base CX0 (1) "_law_ring" P_law_ring sp_ring) (h__law_many : Callee P w K mg base CX0 (2) "_law_many" P_law_many sp_many) (h__law_changed : Callee P w K mg base CX0 (31) "_law_changed" P_law_changed (sp_changed 11)) : FnOk P w K mg base CX0 (40 + 1) f fd P_law_pairs (LSp K (sp_pairs)) := by
  refine fnD0 F sc_law_pairs (fun ds M Q E h => by first | (obtain ⟨rfl, _⟩ := h; rfl) | (obtain ⟨_, rfl, _⟩ := h; rfl) | (obtain ⟨_, _, rfl, _⟩ := h; rfl) | (obtain ⟨_, _, _, rfl, _⟩ := h; rfl) | (obtain ⟨_, _, _, _, rfl, _⟩ := h; rfl) | (obtain ⟨_, _, _, _, _, rfl, _⟩ := h; rfl) | (obtain ⟨_, _, _, _, _, _, rfl, _⟩ := h; rfl) | (obtain ⟨_, _, _, _, _, _, _, rfl, _⟩ := h; rfl) | (obtain ⟨_, _, _, _, _, _, _, _, rfl, _⟩ := h; rfl) | (obtain ⟨_, _, _, _, _, _, _, _, _, rfl, _⟩ := h; rfl) | (obtain ⟨_, _, _, _, _, _, _, _, _, _, rfl, _⟩ := h; rfl) | (obtain ⟨_, _, _, _, _, _, _, _, _, _, _, rfl, _⟩ := h; rfl) | (obtain ⟨_, _, _, _, _, _, _, _, _, _, _, _, rfl, _⟩ := h; rfl) | (obtain ⟨_, _, _, _, _, _, _, _, _, _, _, _, _, rfl, _⟩ := h; rfl) | (obtain ⟨_, _, _, _, _, _, _, _, _, _, _, _, _, _, rfl, _⟩ := h; rfl) | (obtain ⟨_, _, _, _, _, _, _, _, _, _, _, _, _, _, _, rfl, _⟩ := h; rfl) | (obtain ⟨_, _, _, _, _, _, _, _, _, _, _, _, _, _, _, _, rfl, _⟩ := h; rfl) | (obtain ⟨_, _, _, _, _, _, _, _, _, _, _, _, _, _, _, _, _, rfl, _⟩ := h; rfl) | (obtain ⟨_, _, _, _, _, _, _, _, _, _, _, _, _, _, _, _, _, _, rfl, _⟩ := h; rfl) | (obtain ⟨_, _, _, _, _, _, _, _, _, _, _, _, _, _, _, _, _, _, _, rfl, _⟩ := h; rfl)) fun cdv A outer s H E F0 hr => ⟨_, (dss_cons (ds_set (i := 1) sc_law_pairs.nd rfl (Or.inl rfl) (de_lst (own := true) da_nil))
      (dss_cons (ds_set (i := 2) sc_law_pairs.nd rfl (Or.inl rfl) (de_lst (own := true) da_nil))
      (dss_cons (ds_for PassesOwn.never rfl (di_range1 rfl T.range (da_cons de_int da_nil)) (dg_name (pg_name (i := 3) sc_law_pairs.nd rfl (Or.inl rfl))) (dss_cons (ds_set (i := 4) sc_law_pairs.nd rfl (Or.inl rfl) (de_fn h__law_name (hr.mono (by omega)) rfl pass0 finX0 (da_cons (de_var (pv 0)) (da_cons (de_var (pv 1)) (da_cons de_bl da_nil)))))
      (dss_one (ds_set (i := 5) sc_law_pairs.nd rfl (Or.inl rfl) (de_fn h__law_name (hr.mono (by omega)) rfl pass0 finX0 (da_cons (de_var (pv 0)) (da_cons (de_var (pv 2)) (da_cons de_bl da_nil))))))))
      (dss_cons (ds_set (i := 6) sc_law_pairs.nd rfl (Or.inl rfl) (de_fn h__law_grow (hr.mono (by omega)) rfl pass0 finX0 (da_cons (de_var (pv 0)) (da_cons (de_tup da_nil) (da_cons (de_var (pv 1)) (da_cons (de_var (pv 2)) (da_cons de_int (da_cons (de_lst (own := true) (da_cons (de_fn h__law_draw (hr.mono (by omega)) rfl pass0 finX0 (da_cons (de_var (pv 0)) (da_cons de_int da_nil))) da_nil)) da_nil))))))))
      (dss_cons (ds_set (i := 7) sc_law_pairs.nd rfl (Or.inl rfl) (de_fn h__law_put_in (hr.mono (by omega)) rfl pass0 finX0 (da_cons (de_var (pv 0)) (da_cons (de_var (pv 6)) (da_cons (de_var (pv 1)) (da_cons (de_var (pv 2)) (da_cons de_int da_nil)))))))
      (dss_cons (ds_set (i := 8) sc_law_pairs.nd rfl (Or.inl rfl) (de_fn h__law_grow (hr.mono (by omega)) rfl pass0 finX0 (da_cons (de_var (pv 0)) (da_cons (de_tup da_nil) (da_cons (de_var (pv 1)) (da_cons (de_var (pv 2)) (da_cons de_int (da_cons (de_lst (own := true) (da_cons (de_fn h__law_draw (hr.mono (by omega)) rfl pass0 finX0 (da_cons (de_var (pv 0)) (da_cons de_int da_nil))) da_nil)) da_nil))))))))
      (dss_cons (ds_set (i := 9) sc_law_pairs.nd rfl (Or.inl rfl) (de_op (od_add (own := false)) de_int (de_fn h__law_draw (hr.mono (by omega)) rfl pass0 finX0 (da_cons (de_var (pv 0)) (da_cons de_int da_nil)))))
      (dss_cons (ds_set (i := 10) sc_law_pairs.nd rfl (Or.inl rfl) (de_fn h__law_ring (hr.mono (by omega)) rfl pass0 finX0 (da_cons (de_var (pv 0)) (da_cons (de_var (pv 1)) (da_cons (de_var (pv 9)) (da_cons (de_var (pv 9)) da_nil))))))
      (dss_cons (ds_set (i := 11) sc_law_pairs.nd rfl (Or.inl rfl) (de_fn h__law_ring (hr.mono (by omega)) rfl pass0 finX0 (da_cons (de_var (pv 0)) (da_cons (de_var (pv 1)) (da_cons (de_var (pv 9)) (da_cons (de_fn h__law_draw (hr.mono (by omega)) rfl pass0 finX0 (da_cons (de_var (pv 0)) (da_cons (de_var (pv 9)) da_nil))) da_nil))))))
      (dss_cons (ds_set (i := 12) sc_law_pairs.nd rfl (Or.inl rfl) (de_fn h__law_many (hr.mono (by omega)) rfl pass0 finX0 (da_cons (de_var (pv 0)) (da_cons (de_var (pv 1)) (da_cons (de_var (pv 2)) da_nil)))))
      (dss_cons (ds_set (i := 13) sc_law_pairs.nd rfl (Or.inl rfl) (de_tup (da_cons (de_tup da_nil) (da_cons (de_ixX hr.u9 (de_var (pv 12)) de_int (fun _ _ => rfl)) (da_cons (de_sl (own := false) (de_ixX hr.u9 (de_var (pv 12)) de_int (fun _ _ => rfl)) do_none (do_some (de_fn h__law_draw (hr.mono (by omega)) rfl pass0 finX0 (da_cons (de_var (pv 0)) (da_cons (de_op (od_add (own := false)) (de_callB cd_len rfl T.len (by decide +kernel) (da_cons (de_ixX hr.u9 (de_var (pv 12)) de_int (fun _ _ => rfl)) da_nil)) de_int) da_nil))))) da_nil)))))
      (dss_cons (ds_set (i := 14) sc_law_pairs.nd rfl (Or.inl rfl) (de_lst (own := false) (da_cons (de_lst (own := false) (da_cons (de_var (pv 6)) (da_cons (de_var (pv 7)) da_nil))) (da_cons (de_lst (own := false) (da_cons (de_var (pv 7)) (da_cons (de_var (pv 6)) da_nil))) (da_cons (de_lst (own := false) (da_cons (de_var (pv 6)) (da_cons (de_var (pv 6)) da_nil))) (da_cons (de_lst (own := false) (da_cons (de_var (pv 8)) (da_cons (de_var (pv 6)) da_nil))) (da_cons (de_lst (own := false) (da_cons (de_var (pv 6)) (da_cons (de_var (pv 8)) da_nil))) (da_cons (de_var (pv 10)) (da_cons (de_var (pv 11)) (da_cons (de_lst (own := false) (da_cons (de_var (pv 12)) (da_cons (de_var (pv 13)) da_nil))) (da_cons (de_lst (own := false) (da_cons (de_var (pv 13)) (da_cons (de_var (pv 12)) da_nil))) da_nil)))))))))))
      (dss_cons (ds_set (i := 15) sc_law_pairs.nd rfl (Or.inl rfl) (de_fn h__law_changed (hr.mono (by omega)) rfl pass0 finX0 (da_cons (de_var (pv 0)) (da_cons (de_var (pv 7)) (da_cons (de_var (pv 2)) da_nil)))))
      (dss_one (ds_ret (de_op (od_add (own := false)) (de_var (pv 14)) (de_lst (own := false) (da_cons (de_lst (own := false) (da_cons (de_var (pv 6)) (da_cons (de_var (pv 15)) da_nil))) (da_cons (de_lst (own := false) (da_cons (de_var (pv 15)) (da_cons (de_var (pv 6)) da_nil))) (da_cons (de_lst (own := false) (da_cons (de_var (pv 12)) (da_cons (de_fn h__law_many (hr.mono (by omega)) rfl pass0 finX0 (da_cons (de_var (pv 0)) (da_cons (de_var (pv 1)) (da_cons (de_var (pv 2)) da_nil)))) da_nil))) (da_cons (de_lst (own := false) (da_cons (de_var (pv 8)) (da_cons (de_fn h__law_put_in (hr.mono (by omega)) rfl pass0 finX0 (da_cons (de_var (pv 0)) (da_cons (de_var (pv 8)) (da_cons (de_var (pv 1)) (da_cons (de_var (pv 2)) (da_cons de_int da_nil)))))) da_nil))) da_nil))))))))))))))))))))), fun ds M Q Ex h => ?_⟩
  obtain ⟨a, rfl, hB, q⟩ := h
  walk_at "st"
  have hs : sizeLine = 16777216 := sizeLine_eq
  refine seq_tail (fun σ M' => ∃ pn, M pn = none ∧ M' = updM M pn (.lst []) ∧ σ = [some (.obj a), some (.obj pn), none, none, none, none, none, none, none, none, none, none, none, none, none, none]) ?_ (fun Nx hN => by walk_at "dl"; exact fun pn hpn => hN _ _ ⟨pn, hpn, rfl, rfl⟩)
  rintro _ _ ⟨pn, hpn, rfl, rfl⟩
  refine seq_tail (fun σ M' => ∃ pv, M pv = none ∧ pv ≠ pn ∧ M' = updM (updM M pn (.lst [])) pv (.lst []) ∧ σ = [some (.obj a), some (.obj pn), some (.obj pv), none, none, none, none, none, none, none, none, none, none, none, none, none]) ?_ (fun Nx hN => by
    walk_at "dl"
    intro pv hpv
    have n1 : pv ≠ pn := fun e => by rw [e, updM_same] at hpv; cases hpv
    rw [updM_ne n1] at hpv
    exact hN _ _ ⟨pv, hpv, n1, rfl, rfl⟩)
  rintro _ _ ⟨pv, hpv, nvn, rfl, rfl⟩
  have n1 : a ≠ pn := hB.ne hpn
  have n2 : a ≠ pv := hB.ne hpv
  refine seq_tail (fun σ M' => ∃ ns vs a3 a4 a5, ns.length = 2 ∧ vs.length = 2 ∧ BoxAt M' a ∧ NsAt M' pn ns ∧ NsAt M' pv vs ∧ Kx [a] M M' ∧ σ = [some (.obj a), some (.obj pn), some (.obj pv), a3, a4, a5, none, none, none, none, none, none, none, none, none, none]) ?_ (fun Nx hN => ?_)
  rotate_left
  · refine for_pure (upto 0 2) (fun Kd hk => ?_) (fun i σ M' => ∃ (ns vs : List Str) (a3 a4 a5 : Option D), ns.length = i ∧ vs.length = i ∧ BoxAt M' a ∧ M' pn = some (.lst (ns.map D.str)) ∧ M' pv = some (.lst (vs.map D.str)) ∧ (∀ s ∈ ns, PyData.strOk s = true) ∧ (∀ s ∈ vs, PyData.strOk s = true) ∧ Kx [a] M M' ∧ σ = [some (.obj a), some (.obj pn), some (.obj pv), a3, a4, a5, none, none, none, none, none, none, none, none, none, none]) ⟨[], [], none, none, none, rfl, rfl, (hB.upd hpn).upd (by rw [updM_ne nvn]; exact hpv), by rw [updM_ne nvn.symm, updM_same] <;> rfl, updM_same, (fun s hs => nomatch hs), (fun s hs => nomatch hs), (Kx.refl.upd (.inr hpn)).upd (.inr hpv), rfl⟩ ?_ ?_
    · unfold dRange1
      walk_at "dl"
      exact ⟨⟨by omega, by omega⟩, hk⟩
    · rintro i d0 σ M1 N1 hd0 ⟨ns, vs, a3, a4, a5, h1, h2, g1, g2, g3, g4, g5, g6, rfl⟩ hN1
      obtain ⟨rfl, hi⟩ := upto_get hd0
      simp only [nGm, List.set_cons_zero, List.set_cons_succ]
      walk_at "dl"
      refine ⟨a, pn, ns, true, rfl, g1, g2, n1, by omega, fun n M2 k1 k2 => ?_⟩
      walk_at "dl"
      have k3 : updM M2 pn (.lst ((ns ++ [n]).map D.str)) pv = some (.lst (vs.map D.str)) := by rw [updM_ne nvn]; exact k2.keep n2 g3
      refine ⟨a, pv, vs, true, rfl, k2.at.upd' n1, k3, n2, by omega, fun v M3 k4 k5 => ?_⟩
      walk_at "dl"
      refine hN1 _ _ ⟨ns ++ [n], vs ++ [v], _, _, _, by rw [List.length_append, h1] <;> rfl, by rw [List.length_append, h2] <;> rfl, k5.at.upd' n2, by rw [updM_ne nvn.symm]; exact k5.keep n1 updM_same, updM_same, fun s hs => ?_, fun s hs => ?_, ((((g6.trans (k2.kx (by simp))).upd (.inr hpn)).trans (k5.kx (by simp))).upd (.inr hpv)), rfl⟩
      · rcases List.mem_append.mp hs with hs | hs
        · exact g4 s hs
        · rw [List.mem_singleton.mp hs]
          exact k1.1
      · rcases List.mem_append.mp hs with hs | hs
        · exact g5 s hs
        · rw [List.mem_singleton.mp hs]
          exact k4.1
    · rintro σ M1 ⟨ns, vs, a3, a4, a5, h1, h2, g1, g2, g3, g4, g5, g6, rfl⟩
      rw [upto_len] at h1 h2
      exact hN _ _ ⟨ns, vs, a3, a4, a5, h1, h2, g1, ⟨g2, by omega, by omega, g4⟩, ⟨g3, by omega, by omega, g5⟩, g6, rfl⟩
  rintro _ M1 ⟨ns, vs, a3, a4, a5, hnl, hvl, hB1, hN1, hV1, hx1, rfl⟩
  let St : Mp → Prop := fun M' => BoxAt M' a ∧ NsAt M' pn ns ∧ NsAt M' pv vs ∧ Kx [a] M M'
  have st1 : St M1 := ⟨hB1, hN1, hV1, hx1⟩
  have stK : ∀ {M2 M3}, St M2 → BoxAt M3 a → Kx [a] M2 M3 → St M3 := fun {M2 M3} h hb hk => ⟨hb, h.2.1.kx hk (by simp [n1.symm]), h.2.2.1.kx hk (by simp [n2.symm]), h.2.2.2.trans hk⟩
  have growP : ∀ {Mx : Mp} {Q' : DK} {Ed Ed' : DX}, St Mx → (∀ t M', Gr 3 3 t → St M' → Q' t.d M') → sp_bdraw [.obj a, .int 12] Mx (fun x M1 => ∀ p, M1 p = none → sp_grow 11 [.obj a, .tup [], .obj pn, .obj pv, .int 3, .obj p] (updM M1 p (.lst [x])) Q' Ed') Ed := by
    intro Mx Q' Ed Ed' hst hq
    refine ⟨a, 12, rfl, by decide, by decide, hst.1, fun l My l0 l1 hb => ?_⟩
    dsimp only
    intro pl hpl
    have sty := stK hst hb.at (hb.kx (by simp))
    have l1 : a ≠ pl := sty.1.ne hpl
    have l2 : pn ≠ pl := neM sty.2.1.at_ hpl
    have l3 : pv ≠ pl := neM sty.2.2.1.at_ hpl
    have hx4 : Kx [] My (updM My pl (.lst [.int l])) := Kx.refl.upd (.inr hpl)
    refine ⟨a, pn, pv, pl, ns, vs, [], 3, l, rfl, by omega, sty.1.upd hpl, sty.2.1.kx hx4 (by simp), sty.2.2.1.kx hx4 (by simp), updM_same, n1, n2, l1, l2, l3, (fun x hx => nomatch hx), by simp, fun t M4 l' k1 k2 k3 k4 k5 => hq t M4 k1 (stK sty k3 fun q o hq hm => k5 q o (by simp at hq ⊢; exact ⟨hq, neM hm hpl⟩) (hx4 q o (by simp) hm))⟩
  have putP : ∀ {Mx : Mp} {Q' : DK} {Ed : DX} {t : Tre}, Gr 3 3 t → St Mx → (∀ t' M', Gr 4 3 t' → Lies t t' → St M' → Q' t'.d M') → sp_put_in 11 [.obj a, t.d, .obj pn, .obj pv, .int 3] Mx Q' Ed := by
    intro Mx Q' Ed t hg hst hq
    exact ⟨a, pn, pv, ns, vs, t, 3, rfl, by omega, hst.1, hst.2.1, hst.2.2.1, n1, n2, hg, fun t' M' k1 k2 k3 k4 => hq t' M' k1 k2 (stK hst k3 k4)⟩
  have manyP : ∀ {Mx : Mp} {Q' : DK} {Ed : DX}, St Mx → (∀ r ks M', Gr 60 1 (.mk [] r ks) → St M' → Q' (Tre.d (.mk [] r ks)) M') → sp_many [.obj a, .obj pn, .obj pv] Mx Q' Ed := by
    intro Mx Q' Ed hst hq
    exact ⟨a, pn, pv, ns, vs, rfl, hst.1, hst.2.1, hst.2.2.1, n1, n2, fun r ks M' k1 k2 k3 => hq r ks M' k1 (stK hst k2 k3)⟩
  have ringP : ∀ {Mx : Mp} {Q' : DK} {Ed : DX} {m br : Nat}, 2 ≤ m → m ≤ 8 → St Mx → (∀ s t M', Gr 8 2 s → Gr 8 2 t → (m ≤ br → Lies s t) → (br < m → ¬ Lies s t) → St M' → Q' (.lst [s.d, t.d]) M') → sp_ring [.obj a, .obj pn, .int ((m : Nat) : Int), .int ((br : Nat) : Int)] Mx Q' Ed := by
    intro Mx Q' Ed m br hm2 hm8 hst hq
    exact ⟨a, pn, ns, m, br, rfl, hst.2.1, hnl, hm2, hm8, fun s t M' k1 k2 k3 k4 k5 => hq s t M' k1 k2 k3 k4 (stK hst (by
      obtain ⟨o, h1, h2⟩ := hst.1
      exact ⟨o, k5 a _ (by simp) h1, h2⟩) (k5.more fun q hq => nomatch hq))⟩
  try walk_at "dl"
  refine growP st1 fun t1 M2 gt1 st2 => ?_
  try walk_at "dl"
  refine putP gt1 st2 fun t2 M3 gt2 hl12 st3 => ?_
  try walk_at "dl"
  refine growP st3 fun t3 M4 gt3 st4 => ?_
  try walk_at "dl"
  refine ⟨a, 7, rfl, by decide, by decide, st4.1, fun m M5 m0 m1 hb5 => ?_⟩
  obtain ⟨m, rfl⟩ : ∃ m' : Nat, m = ((m' : Nat) : Int) := ⟨m.toNat, by omega⟩
  have st5 := stK st4 hb5.at (hb5.kx (by simp))
  try walk_at "dl"
  rw [show (2 : Int) + ((m : Nat) : Int) = ((2 + m : Nat) : Int) by omega]
  refine ringP (by omega) (by omega) st5 fun r1 r2 M6 gr1 gr2 hy1 _ st6 => ?_
  try walk_at "dl"
  refine ⟨a, _, rfl, by omega, by omega, st6.1, fun j M7 j0 j1 hb7 => ?_⟩
  obtain ⟨j, rfl⟩ : ∃ j' : Nat, j = ((j' : Nat) : Int) := ⟨j.toNat, by omega⟩
  have st7 := stK st6 hb7.at (hb7.kx (by simp))
  try dsimp only
  refine ringP (by omega) (by omega) st7 fun g1 g2 M8 gg1 gg2 _ hg2 st8 => ?_
  try walk_at "dl"
  refine manyP st8 fun cr cks M9 gc st9 => ?_
  rw [tre_d, List.map_nil]
  try walk_at "dl"
  have top : ∀ l : List Tre, D.tup [.tup [], .tup (cr.map D.str), .tup (l.map Tre.d)] = Tre.d (.mk [] cr l) := fun l => by rw [tre_d] <;> rfl
  obtain ⟨c1, c2, c3, c4, c5, c6⟩ := gr_iff.mp gc
  rw [if_neg (by omega)] at c5
  rw [List.length_map]
  refine ⟨a, _, rfl, by omega, by omega, st9.1, fun i M10 i0 i1 hb10 => ?_⟩
  obtain ⟨i, rfl⟩ : ∃ i' : Nat, i = ((i' : Nat) : Int) := ⟨i.toNat, by omega⟩
  have st10 := stK st9 hb10.at (hb10.kx (by simp))
  dsimp only
  rw [cut_to, ← List.map_take, top, top]
  have gf : Gr 60 1 (.mk [] cr (cks.take i)) := gr_iff.mpr ⟨c1, c2, c3, c4, by rw [if_neg (by omega), List.length_take]; omega, fun k hk => c6 k (List.mem_of_mem_take hk)⟩
  have hfc : Lies (.mk [] cr (cks.take i)) (.mk [] cr cks) := lies_iff.mpr ⟨rfl, rfl, cks.take i, cks.drop i, by rw [List.take_append_drop], F2.of rfl fun k x y hx hy => by
    rw [hx] at hy
    cases hy
    exact lies_refl x⟩
  refine ⟨by show 9 ≤ _; omega, a, pv, vs, t2, 3, rfl, by omega, st10.1, st10.2.2.1, n2, gt2, fun t4 M11 gt4 k1 k2 => ?_⟩
  have st11 := stK st10 k1 k2
  dsimp only
  refine manyP st11 fun cr' cks' M12 gc' st12 => ?_
  try dsimp only
  refine putP gt3 st12 fun t5 M13 gt5 hl35 st13 => ?_
  try dsimp only
  have sm : ∀ {c d : Nat} {t : Tre}, c ≤ 60 → d ≤ 3 → gsz c d ≤ 400 → Gr c d t → Sm t := fun {c d t} h1 h2 h3 hg => by
    obtain ⟨e1, e2⟩ := hg.ok (by omega)
    have e3 := hg.sz
    exact ⟨e1, by omega, by omega⟩
  have s1 : Sm t1 := sm (by omega) (by omega) (by decide) gt1
  have s2 : Sm t2 := sm (by omega) (by omega) (by decide) gt2
  have s3 : Sm t3 := sm (by omega) (by omega) (by decide) gt3
  have s4 : Sm t4 := sm (by omega) (by omega) (by decide) gt4
  have s5 : Sm t5 := sm (by omega) (by omega) (by decide) gt5
  have sr1 : Sm r1 := sm (by omega) (by omega) (by decide) gr1
  have sr2 : Sm r2 := sm (by omega) (by omega) (by decide) gr2
  have sg1 : Sm g1 := sm (by omega) (by omega) (by decide) gg1
  have sg2 : Sm g2 := sm (by omega) (by omega) (by decide) gg2
  have sc : Sm (.mk [] cr cks) := sm (by omega) (by omega) (by decide) gc
  have sf : Sm (.mk [] cr (cks.take i)) := sm (by omega) (by omega) (by decide) gf
  have sc' : Sm (.mk [] cr' cks') := sm (by omega) (by omega) (by decide) gc'
  refine ⟨by show 13 ≤ _; omega, Wk.here (q [(t1, t2), (t2, t1), (t1, t1), (t3, t1), (t1, t3), (r1, r2), (g1, g2), (.mk [] cr cks, .mk [] cr (cks.take i)), (.mk [] cr (cks.take i), .mk [] cr cks), (t1, t4), (t4, t1), (.mk [] cr cks, .mk [] cr' cks'), (t3, t5)] M13 ⟨rfl, ?_, ?_, ?_⟩ st13.2.2.2)⟩
  · intro x hx
    simp only [List.mem_cons, List.not_mem_nil, or_false] at hx
    rcases hx with rfl | rfl | rfl | rfl | rfl | rfl | rfl | rfl | rfl | rfl | rfl | rfl | rfl <;> exact ⟨by assumption, by assumption⟩
  · rintro k (rfl | rfl | rfl | rfl | rfl) x hx <;> cases hx
    · exact hl12
    · exact lies_refl _
    · exact hy1 (Nat.le_refl _)
    · exact hfc
    · exact hl35
  · intro x hx
    cases hx
    exact hg2 (by omega)
end
end K20
namespace K20
open PySem PySem.Spec L2 DL Syn Mi Lb Bx Mt
local macro_rules | `(tactic| walk_at "st") => `(tactic| simp only [start_def, List.map_cons, List.map_nil, List.length_cons, List.length_nil, List.cons_append, List.nil_append, Nat.zero_add, Nat.reduceAdd, Nat.reduceSub, List.replicate])
local macro_rules | `(tactic| walk_at "dl") => `(tactic| simp only [dSeq, dNext, dDrop, dRet, dRetF, dRetN, dIfS, dAsg, dAug, dPar, nGm, nTup, nCons, nNil, dVar, dC, dOp, dUn, dCons, dNil, dTup, dLst, dB, dTru, dAnd, dOr, dNot, dAndV, dOrV, dNotV, dIf, dChain, dCB, dCall, dSlE, dNoPart, dPart, dRev, dS0, dS1, dBL, dBL0, dIsi, dBreak, dCont, List.set_cons_zero, List.set_cons_succ, List.getElem?_cons_zero, List.getElem?_cons_succ, ifB_t, ifB_f, e_new_f, e_new_t, e_add_int, e_add_str, e_add_tup, e_add_pl, e_len_pl, e_sl_pl, e_sl_last, e_add_lst, e_sub, e_mul, e_mul_str, e_mul_lst, e_div, e_mod, e_pow, e_neg, e_eq_int, e_eq_str, e_isN_non, e_isN_obj, e_isN_tup, e_isN_lst, e_lt_int, e_lt_str, e_le_int, e_le_str, e_gt, e_ge, e_in_str, e_t0, e_t1, e_t2, e_t3, e_t4, e_t5, e_l0, e_l1, e_l2, e_l3, e_sl_tup, e_sl_rdl, e_sl_str, e_sl_lst, e_len_str, e_len_lst, e_len_tup, e_int, e_tupC_tup, e_tupC_lst, e_iadd_int, e_iadd_str, e_isub, tru_bl, tru_int, tru_non, tru_lst, tru_tup, ex_some, bne_f, bne_t, e_nSub, cxK, cxP, cxW, decide_true, e_fld, e_sfld, e_meth, e_fldX, e_methX, lsD_lst, dDM, dDNewX, dPairs, dDisp, dFz, nSubX, dLockE, dLockS, dListV, ixX_tup, ixX_pl, ixX_lst, ixX_str, iaddX_int, iaddX_str, imul_int, e_isN_str, e_isN_int, sz0, sz1, sz2, sz3, sz4, sz5, sz6, sz7, sz8, true_and])
local macro_rules | `(tactic| walk_at "if") => `(tactic| simp only [dIfS, dVar, dC, dOp, dUn, dCons, dNil, dB, dTru, dAnd, dOr, dNot, dChain, dCB, List.getElem?_cons_zero, List.getElem?_cons_succ, ifB_t, ifB_f, e_eq_int, e_eq_str, e_lt_int, e_le_int, e_gt, e_ge, e_isN_non, e_isN_obj, e_isN_tup, e_isN_lst, e_isN_str, e_isN_int, e_len_str, e_len_lst, e_len_tup, tru_bl, tru_int, tru_non, tru_lst, tru_tup, ex_some, bne_f, bne_t, decide_true, cxK, cxP, cxW, true_and])
local macro_rules | `(tactic| walk_at "lit") => `(tactic| simp only [Int.reduceEq, Int.reduceLT, Int.reduceLE, Int.reduceMod, Int.reduceAdd, Int.reduceSub, eq_self, ne_eq, not_true_eq_false, not_false_eq_true, decide_true, decide_false, ifB_t, ifB_f, bne_f, bne_t, e_l0, e_l1, e_l2, e_l3, e_t0, e_t1, e_t2, true_and])
section
variable {P : Program} {w : World} {K : PySem.W.Frag} {mg : Str → Option Value} {base : Heap}
def sp_law : SpD := fun ds M Q _ => ∃ ns : List Int, ds = [.rdl ns] ∧ ns.length ≤ 63 ∧ ∀ M', Q (.bl true) M'
theorem ok_law (T : Txt K mg) {f : Addr} {fd : FuncData} (F : FunD K "law" "law" (defArgs slaw) (defBody slaw) (defScope slaw) [] [] f fd) (h__law_box : Callee P w K mg base CX0 (1) "_law_box" P_law_box sp_box) (h__law_pairs : Callee P w K mg base CX0 (41) "_law_pairs" P_law_pairs sp_pairs) (h__law_lies : Callee P w K mg base CX0 (120) "_law_lies" P_law_lies (sp_llies 20)) (h__law_is : Callee P w K mg base CX0 (1) "_law_is" P_law_is sp_is) (h_lies : Callee P w K mg base CX0 (101) "lies" Plies sp_lies) (hs_lies : CalleeS P w K mg base CX0 (101) "lies" "one" "other" sp_lies) : FnOk P w K mg base CX0 (121 + 1) f fd Plaw (LSp K (sp_law)) := by
  refine fnD0 F sclaw (fun ds M Q E h => by first | (obtain ⟨rfl, _⟩ := h; rfl) | (obtain ⟨_, rfl, _⟩ := h; rfl) | (obtain ⟨_, _, rfl, _⟩ := h; rfl) | (obtain ⟨_, _, _, rfl, _⟩ := h; rfl) | (obtain ⟨_, _, _, _, rfl, _⟩ := h; rfl) | (obtain ⟨_, _, _, _, _, rfl, _⟩ := h; rfl) | (obtain ⟨_, _, _, _, _, _, rfl, _⟩ := h; rfl) | (obtain ⟨_, _, _, _, _, _, _, rfl, _⟩ := h; rfl) | (obtain ⟨_, _, _, _, _, _, _, _, rfl, _⟩ := h; rfl) | (obtain ⟨_, _, _, _, _, _, _, _, _, rfl, _⟩ := h; rfl) | (obtain ⟨_, _, _, _, _, _, _, _, _, _, rfl, _⟩ := h; rfl) | (obtain ⟨_, _, _, _, _, _, _, _, _, _, _, rfl, _⟩ := h; rfl) | (obtain ⟨_, _, _, _, _, _, _, _, _, _, _, _, rfl, _⟩ := h; rfl) | (obtain ⟨_, _, _, _, _, _, _, _, _, _, _, _, _, rfl, _⟩ := h; rfl) | (obtain ⟨_, _, _, _, _, _, _, _, _, _, _, _, _, _, rfl, _⟩ := h; rfl) | (obtain ⟨_, _, _, _, _, _, _, _, _, _, _, _, _, _, _, rfl, _⟩ := h; rfl) | (obtain ⟨_, _, _, _, _, _, _, _, _, _, _, _, _, _, _, _, rfl, _⟩ := h; rfl) | (obtain ⟨_, _, _, _, _, _, _, _, _, _, _, _, _, _, _, _, _, rfl, _⟩ := h; rfl) | (obtain ⟨_, _, _, _, _, _, _, _, _, _, _, _, _, _, _, _, _, _, rfl, _⟩ := h; rfl) | (obtain ⟨_, _, _, _, _, _, _, _, _, _, _, _, _, _, _, _, _, _, _, rfl, _⟩ := h; rfl)) fun cdv A outer s H E F0 hr => ⟨_, (dss_cons (ds_set (i := 1) sclaw.nd rfl (Or.inl rfl) (de_fn h__law_box (hr.mono (by omega)) rfl pass0 finX0 (da_cons (de_var (pv 0)) da_nil)))
      (dss_cons (ds_set (i := 2) sclaw.nd rfl (Or.inl rfl) (de_fn h__law_pairs (hr.mono (by omega)) rfl pass0 finX0 (da_cons (de_var (pv 1)) da_nil)))
      (dss_cons (ds_for PassesOwn.never rfl (di_range1 rfl T.range (da_cons (de_callB cd_len rfl T.len (by decide +kernel) (da_cons (de_var (pv 2)) da_nil)) da_nil)) (dg_name (pg_name (i := 3) sclaw.nd rfl (Or.inl rfl))) (dss_cons (ds_asg (de_ixX hr.u9 (de_var (pv 2)) (de_var (pv 3)) (fun _ _ => rfl)) (dg_tupL rfl (dgs_cons (dg_name (pg_name (i := 4) sclaw.nd rfl (Or.inl rfl))) (dgs_cons (dg_name (pg_name (i := 5) sclaw.nd rfl (Or.inl rfl))) dgs_nil))))
      (dss_cons (ds_set (i := 6) sclaw.nd rfl (Or.inl rfl) (de_fn h__law_lies (hr.mono (by omega)) rfl pass0 finX0 (da_cons (de_var (pv 4)) (da_cons (de_var (pv 5)) da_nil))))
      (dss_cons (ds_if (dt_w (dw_or (dt_w (dw_and (dt_cmp (od_inX hr.units) (de_var (pv 3)) (de_tup (da_cons de_int (da_cons de_int (da_cons de_int (da_cons de_int (da_cons de_int da_nil)))))) rfl) (dw_and1 (dt_not (dt_tru (de_var (pv 6))))))) (dw_or1 (dt_w (dw_and (dt_cmp (od_eq hr.units) (de_var (pv 3)) de_int (nomark _)) (dw_and1 (dt_tru (de_var (pv 6))))))))) (dss_one (ds_ret de_bl)) dss_nil)
      (dss_one (ds_if (dt_w (dw_or (dt_not (dt_tru (de_fn h__law_is (hr.mono (by omega)) rfl pass0 finX0 (da_cons (de_fn h_lies (hr.mono (by omega)) rfl pass0 finX0 (da_cons (de_var (pv 4)) (da_cons (de_var (pv 5)) da_nil))) (da_cons (de_var (pv 6)) da_nil))))) (dw_or1 (dt_not (dt_tru (de_fn h__law_is (hr.mono (by omega)) rfl pass0 finX0 (da_cons (de_fnKS hs_lies (hr.mono (by omega)) rfl pass0 finX0 (dk_cons (de_var (pv 5)) (dk_cons (de_var (pv 4)) dk_nil))) (da_cons (de_var (pv 6)) da_nil)))))))) (dss_one (ds_ret de_bl)) dss_nil))))))
      (dss_one (ds_ret de_bl))))), fun ds M Q Ex h => ?_⟩
  obtain ⟨ns, rfl, hn, q⟩ := h
  walk_at "st"
  have hs : sizeLine = 16777216 := sizeLine_eq
  refine seq_tail (fun σ M' => ∃ a, BoxAt M' a ∧ σ = [some (.rdl ns), some (.obj a), none, none, none, none, none]) ?_ (fun N hN => ?_)
  rotate_left
  · walk_at "dl"
    exact ⟨ns, rfl, hn, fun a o ha hO => hN _ _ ⟨a, ⟨o, updM_same, hO⟩, rfl⟩⟩
  rintro _ M1 ⟨a, hB, rfl⟩
  refine seq_tail (fun σ M' => ∃ l, PairsOk l ∧ σ = [some (.rdl ns), some (.obj a), some (.lst (l.map pairD)), none, none, none, none]) ?_ (fun N hN => ?_)
  rotate_left
  · walk_at "dl"
    exact ⟨a, rfl, hB, fun l M' h1 _ => hN _ _ ⟨l, h1, rfl⟩⟩
  rintro _ M2 ⟨l, hl, rfl⟩
  have hlen := hl.len
  refine seq_tail (fun σ M' => ∃ a3 a4 a5 a6, σ = [some (.rdl ns), some (.obj a), some (.lst (l.map pairD)), a3, a4, a5, a6]) ?_ (fun N hN => ?_)
  · rintro _ M3 ⟨a3, a4, a5, a6, rfl⟩
    walk_at "dl"
    exact Wk.here (q _)
  refine for_pure (upto 0 13) (fun Kd hk => ?_) (fun i σ M' => ∃ a3 a4 a5 a6, σ = [some (.rdl ns), some (.obj a), some (.lst (l.map pairD)), a3, a4, a5, a6]) ⟨none, none, none, none, rfl⟩ ?_ ?_
  · unfold dRange1
    walk_at "dl"
    rw [List.length_map, hlen]
    exact ⟨⟨by omega, by omega⟩, hk⟩
  · rintro i d0 σ M3 N3 hd0 ⟨a3, a4, a5, a6, rfl⟩ hN3
    obtain ⟨rfl, hi⟩ := upto_get hd0
    rw [show (0 : Int) + (i : Nat) = ((i : Nat) : Int) by omega]
    simp only [nGm, List.set_cons_zero, List.set_cons_succ]
    obtain ⟨⟨s, t⟩, hx⟩ : ∃ x, l[i]? = some x := ⟨_, List.getElem?_eq_getElem (by omega)⟩
    obtain ⟨⟨s1, s2, s3⟩, t1, t2, t3⟩ := hl.sm _ (List.mem_of_getElem? hx)
    have hy : (i = 0 ∨ i = 2 ∨ i = 5 ∨ i = 8 ∨ i = 12) → Lies s t := fun h => hl.yes i h _ hx
    have hno : i = 6 → ¬ Lies s t := fun e => by
      subst e
      exact hl.no _ hx
    walk_at "dl"
    refine e_ix (sqD_lst ..) (v := pairD (s, t)) (by rw [List.getElem?_map, hx] <;> rfl) ?_
    unfold pairD
    refine ⟨rfl, ?_⟩
    simp only [nCons, nNil, nGm, List.set_cons_zero, List.set_cons_succ]
    obtain ⟨lw, hlw⟩ : ∃ lw, lw = D.lst (l.map fun x => .lst [x.1.d, x.2.d]) := ⟨_, rfl⟩
    have hlw2 : D.lst (l.map pairD) = lw := by rw [hlw] <;> rfl
    rw [← hlw]
    let S : Bool → DS := fun due => [some (.rdl ns), some (.obj a), some lw, some (.int ((i : Nat) : Int)), some s.d, some t.d, some (.bl due)]
    refine ⟨trivial, ?_⟩
    refine seq_tail (fun σ M' => ∃ due, (due = true ↔ Lies s t) ∧ σ = S due) ?_ (fun N4 hN4 => ?_)
    rotate_left
    · walk_at "dl"
      exact ⟨s, t, rfl, s2, s1, t1, fun due hdue => hN4 _ _ ⟨due, hdue, rfl⟩⟩
    rintro _ M4 ⟨due, hdue, rfl⟩
    refine seq_tail (fun σ M' => σ = S due) ?_ (fun N4 hN4 => ?_)
    rotate_left
    · simp only [S]
      walk_at "dl"
      refine .inr (.inl ⟨[(0 : Nat), 2, 5, 8, 12].map nD, rfl, shal_nat i, fun z hz => ?_, ?_⟩)
      · obtain ⟨y, _, rfl⟩ := List.mem_map.mp hz
        exact shal_nat y
      rw [show (D.int ((i : Nat) : Int)) = nD i from rfl, any_nats]
      unfold nD
      dsimp only
      have six : IfB (decide (((i : Nat) : Int) = 6)) (IfB due (Wk Q (D.bl false) M4) (N4 (S due) M4)) (N4 (S due) M4) := by
        refine ifB (fun h => ?_) (fun h => hN4 _ _ rfl)
        have h := of_decide_eq_true h
        refine ifB (fun hd => ?_) (fun hd => hN4 _ _ rfl)
        exact absurd (hdue.mp hd) (hno (by omega))
      refine ifB (fun h => ?_) (fun h => ?_)
      · have h : decide (i ∈ [(0 : Nat), 2, 5, 8, 12]) = true := by simpa using h
        have h := of_decide_eq_true h
        have hl2 := hy (by simpa using h)
        have e := hdue.mpr hl2
        refine ifB (fun h => ?_) (fun _ => six)
        rw [e] at h
        cases h
      · exact six
    rintro _ M5 rfl
    simp only [S]
    walk_at "dl"
    have hz : tsz s + tsz t ≤ 900 := by
      have z1 : tsz s ≤ 400 := s3
      have z2 : tsz t ≤ 400 := t3
      omega
    have same : ∀ r : Bool, (r = true ↔ Lies s t) → decide (r = due) = true := fun r hr => decide_eq_true (by
      have h := hr.trans hdue.symm
      cases r <;> cases due <;> simp at h <;> rfl)
    refine ⟨s, t, rfl, s2, t2, s1, t1, hz, fun r M6 hr _ => ?_⟩
    refine ⟨r, due, rfl, ?_⟩
    refine ⟨_, rfl, ?_⟩
    rw [same r hr]
    refine ifB (fun h => by simp at h) (fun _ => ?_)
    unfold dCallS
    walk_at "dl"
    refine ⟨s, t, rfl, s2, t2, s1, t1, hz, fun r M7 hr _ => ?_⟩
    refine ⟨r, due, rfl, ?_⟩
    refine ⟨_, rfl, ?_⟩
    rw [same r hr]
    refine ifB (fun h => by simp at h) (fun _ => ?_)
    rw [← hlw2]
    exact hN3 _ _ ⟨_, _, _, _, rfl⟩
  · rintro σ M3 ⟨a3, a4, a5, a6, rfl⟩
    exact hN _ _ ⟨a3, a4, a5, a6, rfl⟩
end
end K20
namespace K20
open PySem PySem.Spec PyProof.Rows L2 DL Syn Mi Lb Bx Mt
abbrev dD (i : Nat) (x : Str) : He.DefD := ⟨(x, none), x, x, defArgs (topS i), defBody (topS i), defScope (topS i), [], []⟩
abbrev dM (i j : Nat) (c m : Str) : He.DefD := ⟨(c, some m), m, c ++ "." ++ m, defArgs (inClass (topS i) j), defBody (inClass (topS i) j), defScope (inClass (topS i) j), [], []⟩
def fn : List He.DefD := [dD 7 "_law_box", dD 8 "_law_draw", dD 9 "_law_name", dD 10 "_law_seat", dD 11 "_law_lies", dD 3 "reached", dD 2 "matched", dM 1 0 "Nest" "__init__", dM 1 1 "Nest" "mark", dM 1 2 "Nest" "node", dM 1 3 "Nest" "take", dM 1 5 "Nest" "lies", dM 1 7 "Nest" "within", dM 1 6 "Nest" "given", dD 5 "lies", dD 15 "_law_grow", dD 16 "_law_put_in", dD 20 "_law_is", dD 19 "_law_many", dD 17 "_law_changed", dD 18 "_law_ring", dD 21 "_law_pairs", dD 22 "law"]
def fa : List He.Fa := [.glo "_law_box", .glo "_law_draw", .glo "_law_name", .glo "_law_seat", .glo "_law_lies", .glo "reached", .glo "matched", .glo "lies", .glo "_law_grow", .glo "_law_put_in", .glo "_law_is", .glo "_law_many", .glo "_law_changed", .glo "_law_ring", .glo "_law_pairs", .glo "law", .free "len", .free "tuple", .free "sorted", .free "sum", .free "list", .free "enumerate", .free "range", .free "int", .free "str", .free "isinstance", .free "bool", .glo "Nest", .cls "Nest", .noat "Nest" "marks", .noat "Nest" "told", .noat "Nest" "numbers", .noat "Nest" "mark_of", .noat "Nest" "inner", .noat "Nest" "sizes", .noat "Nest" "known", .mkr "Nest", .meth "Nest" "mark", .meth "Nest" "node", .meth "Nest" "take", .meth "Nest" "lies", .meth "Nest" "within", .meth "Nest" "given"]
abbrev R : PySem.W.OpenRow := PySem.W.OpenLaw.row PySem.Challenge.rw_outlived_k20_trees_lie_within
def ex (K : PySem.W.Frag) : Bool := true
abbrev hk : PySem.W.Hook := hookP 4 fa fn ex
def ob (s : PySem.W.SharedT) : AlP := obsP 4 fa fn ex (HandSHeadRun.getT s)
theorem ob_eq (s : PySem.W.SharedT) : ob s = hk.obs s.abs := obsP_eq (HandSHeadRun.getT_eq s)
abbrev LOOSE : List Str := [("Nest" : Str), ("matched" : Str), ("reached" : Str), ("lies" : Str), ("_law_box" : Str), ("_law_draw" : Str), ("_law_name" : Str), ("_law_seat" : Str), ("_law_lies" : Str), ("_law_size" : Str), ("_law_any_lies" : Str), ("_law_least" : Str), ("_law_grow" : Str), ("_law_put_in" : Str), ("_law_changed" : Str), ("_law_ring" : Str), ("_law_many" : Str), ("_law_is" : Str), ("_law_pairs" : Str)]
theorem run (w : World) : HandSHeadRun.RunEq R (PySem.W.view R.prog [22]) hk ob 4000 LOOSE w := by
  intro os
  kernel_rfl
theorem facts {P : Program} {w : World} {K : PySem.W.Frag} {h : Heap} {mg : Str → Option Value} {f : Addr} (X : K.In h) (G : h.Ns mainGlobals mg) (hfa : mg ("law" : Str) = some (.ref f)) (c : He.SaysD fa fn K) (ce : ex K = true) :
    ∃ fd : FuncData, (∀ (s : Shared) (v : Value), BindsTo s fd ⟨[v], []⟩ [("script", v)]) ∧ ∀ base : Heap, K.In base → base.Ns mainGlobals mg → FnOk P w K mg base CX0 (121 + 1) f fd ["script"] (LSp K sp_law) := by
  obtain ⟨fd__law_box, F__law_box⟩ := c.def_ 0 (d := dD 7 "_law_box") rfl
  obtain ⟨fd__law_draw, F__law_draw⟩ := c.def_ 1 (d := dD 8 "_law_draw") rfl
  obtain ⟨fd__law_name, F__law_name⟩ := c.def_ 2 (d := dD 9 "_law_name") rfl
  obtain ⟨fd__law_seat, F__law_seat⟩ := c.def_ 3 (d := dD 10 "_law_seat") rfl
  obtain ⟨fd__law_lies, F__law_lies⟩ := c.def_ 4 (d := dD 11 "_law_lies") rfl
  obtain ⟨fd_reached, F_reached⟩ := c.def_ 5 (d := dD 3 "reached") rfl
  obtain ⟨fd_matched, F_matched⟩ := c.def_ 6 (d := dD 2 "matched") rfl
  obtain ⟨fd_NestU_initU, F_NestU_initU⟩ := c.def_ 7 (d := dM 1 0 "Nest" "__init__") rfl
  obtain ⟨fd_Nest_mark, F_Nest_mark⟩ := c.def_ 8 (d := dM 1 1 "Nest" "mark") rfl
  obtain ⟨fd_Nest_node, F_Nest_node⟩ := c.def_ 9 (d := dM 1 2 "Nest" "node") rfl
  obtain ⟨fd_Nest_take, F_Nest_take⟩ := c.def_ 10 (d := dM 1 3 "Nest" "take") rfl
  obtain ⟨fd_Nest_lies, F_Nest_lies⟩ := c.def_ 11 (d := dM 1 5 "Nest" "lies") rfl
  obtain ⟨fd_Nest_within, F_Nest_within⟩ := c.def_ 12 (d := dM 1 7 "Nest" "within") rfl
  obtain ⟨fd_Nest_given, F_Nest_given⟩ := c.def_ 13 (d := dM 1 6 "Nest" "given") rfl
  obtain ⟨fd_lies, F_lies⟩ := c.def_ 14 (d := dD 5 "lies") rfl
  obtain ⟨fd__law_grow, F__law_grow⟩ := c.def_ 15 (d := dD 15 "_law_grow") rfl
  obtain ⟨fd__law_put_in, F__law_put_in⟩ := c.def_ 16 (d := dD 16 "_law_put_in") rfl
  obtain ⟨fd__law_is, F__law_is⟩ := c.def_ 17 (d := dD 20 "_law_is") rfl
  obtain ⟨fd__law_many, F__law_many⟩ := c.def_ 18 (d := dD 19 "_law_many") rfl
  obtain ⟨fd__law_changed, F__law_changed⟩ := c.def_ 19 (d := dD 17 "_law_changed") rfl
  obtain ⟨fd__law_ring, F__law_ring⟩ := c.def_ 20 (d := dD 18 "_law_ring") rfl
  obtain ⟨fd__law_pairs, F__law_pairs⟩ := c.def_ 21 (d := dD 21 "_law_pairs") rfl
  obtain ⟨fd_law, F_law⟩ := c.def_ 22 (d := dD 22 "law") rfl
  have T : Txt K mg := { len := He.free_ok X G (c.fact 16 (f := .free "len") rfl), tuple := He.free_ok X G (c.fact 17 (f := .free "tuple") rfl), sorted := He.free_ok X G (c.fact 18 (f := .free "sorted") rfl), sum := He.free_ok X G (c.fact 19 (f := .free "sum") rfl), list := He.free_ok X G (c.fact 20 (f := .free "list") rfl), enumerate := He.free_ok X G (c.fact 21 (f := .free "enumerate") rfl), range := He.free_ok X G (c.fact 22 (f := .free "range") rfl), int := He.free_ok X G (c.fact 23 (f := .free "int") rfl), str := He.free_ok X G (c.fact 24 (f := .free "str") rfl), isinstance := He.free_ok X G (c.fact 25 (f := .free "isinstance") rfl), bool := He.free_ok X G (c.fact 26 (f := .free "bool") rfl) }
  have e := hfa.symm.trans (He.glo_ok X G (c.fact 15 (f := .glo "law") rfl))
  cases e
  have b := FunD.bindsA (ps := ["script"]) F_law fun _ _ _ _ _ _ us hl => match us, hl with | [_], _ => rfl
  refine ⟨fd_law, fun s v => b s [v] rfl, fun base _ _ => ?_⟩
  have g_Nest := He.glo_ok X G (c.fact 27 (f := .glo "Nest") rfl) 
  have k_Nest := He.cls_ok (c.fact 28 (f := .cls "Nest") rfl) 
  have f_Nest : NF K (He.ga K "Nest") := ⟨k_Nest, He.noat_ok (c.fact 29 (f := .noat "Nest" "marks") rfl), He.noat_ok (c.fact 30 (f := .noat "Nest" "told") rfl), He.noat_ok (c.fact 31 (f := .noat "Nest" "numbers") rfl), He.noat_ok (c.fact 32 (f := .noat "Nest" "mark_of") rfl), He.noat_ok (c.fact 33 (f := .noat "Nest" "inner") rfl), He.noat_ok (c.fact 34 (f := .noat "Nest" "sizes") rfl), He.noat_ok (c.fact 35 (f := .noat "Nest" "known") rfl)⟩ 
  have m__law_box : ∀ {k : Nat} {sp : SpD}, FnOk P w K mg base CX0 k (He.ga K "_law_box") fd__law_box P_law_box (LSp K sp) → Callee P w K mg base CX0 k "_law_box" P_law_box sp := fun ok => callee_of F__law_box ok (He.glo_ok X G (c.fact 0 (f := .glo "_law_box") rfl)) (fun _ _ _ _ _ _ us hl => match us, hl with | [_], _ => rfl) (fun _ _ _ _ _ _ us hl => match us, hl with | [_], _ => rfl) 
  have m__law_draw : ∀ {k : Nat} {sp : SpD}, FnOk P w K mg base CX0 k (He.ga K "_law_draw") fd__law_draw P_law_draw (LSp K sp) → Callee P w K mg base CX0 k "_law_draw" P_law_draw sp := fun ok => callee_of F__law_draw ok (He.glo_ok X G (c.fact 1 (f := .glo "_law_draw") rfl)) (fun _ _ _ _ _ _ us hl => match us, hl with | [_, _], _ => rfl) (fun _ _ _ _ _ _ us hl => match us, hl with | [_, _], _ => rfl) 
  have m__law_name : ∀ {k : Nat} {sp : SpD}, FnOk P w K mg base CX0 k (He.ga K "_law_name") fd__law_name P_law_name (LSp K sp) → Callee P w K mg base CX0 k "_law_name" P_law_name sp := fun ok => callee_of F__law_name ok (He.glo_ok X G (c.fact 2 (f := .glo "_law_name") rfl)) (fun _ _ _ _ _ _ us hl => match us, hl with | [_, _, _], _ => rfl) (fun _ _ _ _ _ _ us hl => match us, hl with | [_, _, _], _ => rfl) 
  have m__law_seat : ∀ {k : Nat} {sp : SpD}, FnOk P w K mg base CX0 k (He.ga K "_law_seat") fd__law_seat P_law_seat (LSp K sp) → Callee P w K mg base CX0 k "_law_seat" P_law_seat sp := fun ok => callee_of F__law_seat ok (He.glo_ok X G (c.fact 3 (f := .glo "_law_seat") rfl)) (fun _ _ _ _ _ _ us hl => match us, hl with | [_, _, _, _], _ => rfl) (fun _ _ _ _ _ _ us hl => match us, hl with | [_, _, _, _], _ => rfl) 
  have m__law_lies : ∀ {k : Nat} {sp : SpD}, FnOk P w K mg base CX0 k (He.ga K "_law_lies") fd__law_lies P_law_lies (LSp K sp) → Callee P w K mg base CX0 k "_law_lies" P_law_lies sp := fun ok => callee_of F__law_lies ok (He.glo_ok X G (c.fact 4 (f := .glo "_law_lies") rfl)) (fun _ _ _ _ _ _ us hl => match us, hl with | [_, _], _ => rfl) (fun _ _ _ _ _ _ us hl => match us, hl with | [_, _], _ => rfl) 
  have m_reached : ∀ {k : Nat} {sp : SpD}, FnOk P w K mg base CX0 k (He.ga K "reached") fd_reached Preached (LSp K sp) → Callee P w K mg base CX0 k "reached" Preached sp := fun ok => callee_of F_reached ok (He.glo_ok X G (c.fact 5 (f := .glo "reached") rfl)) (fun _ _ _ _ _ _ us hl => match us, hl with | [_, _, _], _ => rfl) (fun _ _ _ _ _ _ us hl => match us, hl with | [_, _, _], _ => rfl) 
  have m_matched : ∀ {k : Nat} {sp : SpD}, FnOk P w K mg base CX0 k (He.ga K "matched") fd_matched Pmatched (LSp K sp) → Callee P w K mg base CX0 k "matched" Pmatched sp := fun ok => callee_of F_matched ok (He.glo_ok X G (c.fact 6 (f := .glo "matched") rfl)) (fun _ _ _ _ _ _ us hl => match us, hl with | [_, _], _ => rfl) (fun _ _ _ _ _ _ us hl => match us, hl with | [_, _], _ => rfl) 
  have m_NestU_initU : ∀ {k : Nat} {sp : SpD}, FnOk P w K mg base CX0 k (He.ma K (He.ga K "Nest") "__init__") fd_NestU_initU PNestU_initU (LSp K sp) → Mkr P w K mg base CX0 (He.ga K "Nest") k "Nest" PNestU_initU sp := fun ok => ⟨_, _, ok, He.mkr_ok (c.fact 36 (f := .mkr "Nest") rfl), g_Nest, F_NestU_initU.bindsN (fun _ _ _ _ _ _ us hl => match us, hl with | [_], _ => rfl)⟩ 
  have m_Nest_mark : ∀ {k : Nat} {sp : SpD}, FnOk P w K mg base CX0 k (He.ma K (He.ga K "Nest") "mark") fd_Nest_mark PNest_mark (LSp K sp) → Mth P w K mg base CX0 (He.ga K "Nest") k "mark" PNest_mark sp := fun ok => ⟨_, _, ok, k_Nest, He.meth_ok (c.fact 37 (f := .meth "Nest" "mark") rfl), F_Nest_mark.bindsN (fun _ _ _ _ _ _ us hl => match us, hl with | [_, _, _], _ => rfl)⟩ 
  have m_Nest_node : ∀ {k : Nat} {sp : SpD}, FnOk P w K mg base CX0 k (He.ma K (He.ga K "Nest") "node") fd_Nest_node PNest_node (LSp K sp) → Mth P w K mg base CX0 (He.ga K "Nest") k "node" PNest_node sp := fun ok => ⟨_, _, ok, k_Nest, He.meth_ok (c.fact 38 (f := .meth "Nest" "node") rfl), F_Nest_node.bindsN (fun _ _ _ _ _ _ us hl => match us, hl with | [_, _, _], _ => rfl)⟩ 
  have m_Nest_take : ∀ {k : Nat} {sp : SpD}, FnOk P w K mg base CX0 k (He.ma K (He.ga K "Nest") "take") fd_Nest_take PNest_take (LSp K sp) → Mth P w K mg base CX0 (He.ga K "Nest") k "take" PNest_take sp := fun ok => ⟨_, _, ok, k_Nest, He.meth_ok (c.fact 39 (f := .meth "Nest" "take") rfl), F_Nest_take.bindsN (fun _ _ _ _ _ _ us hl => match us, hl with | [_, _], _ => rfl)⟩ 
  have m_Nest_lies : ∀ {k : Nat} {sp : SpD}, FnOk P w K mg base CX0 k (He.ma K (He.ga K "Nest") "lies") fd_Nest_lies PNest_lies (LSp K sp) → Mth P w K mg base CX0 (He.ga K "Nest") k "lies" PNest_lies sp := fun ok => ⟨_, _, ok, k_Nest, He.meth_ok (c.fact 40 (f := .meth "Nest" "lies") rfl), F_Nest_lies.bindsN (fun _ _ _ _ _ _ us hl => match us, hl with | [_, _, _], _ => rfl)⟩ 
  have m_Nest_within : ∀ {k : Nat} {sp : SpD}, FnOk P w K mg base CX0 k (He.ma K (He.ga K "Nest") "within") fd_Nest_within PNest_within (LSp K sp) → Mth P w K mg base CX0 (He.ga K "Nest") k "within" PNest_within sp := fun ok => ⟨_, _, ok, k_Nest, He.meth_ok (c.fact 41 (f := .meth "Nest" "within") rfl), F_Nest_within.bindsN (fun _ _ _ _ _ _ us hl => match us, hl with | [_, _, _], _ => rfl)⟩ 
  have m_Nest_given : ∀ {k : Nat} {sp : SpD}, FnOk P w K mg base CX0 k (He.ma K (He.ga K "Nest") "given") fd_Nest_given PNest_given (LSp K sp) → Mth P w K mg base CX0 (He.ga K "Nest") k "given" PNest_given sp := fun ok => ⟨_, _, ok, k_Nest, He.meth_ok (c.fact 42 (f := .meth "Nest" "given") rfl), F_Nest_given.bindsN (fun _ _ _ _ _ _ us hl => match us, hl with | [_, _, _], _ => rfl)⟩ 
  have m_lies : ∀ {k : Nat} {sp : SpD}, FnOk P w K mg base CX0 k (He.ga K "lies") fd_lies Plies (LSp K sp) → Callee P w K mg base CX0 k "lies" Plies sp := fun ok => callee_of F_lies ok (He.glo_ok X G (c.fact 7 (f := .glo "lies") rfl)) (fun _ _ _ _ _ _ us hl => match us, hl with | [_, _], _ => rfl) (fun _ _ _ _ _ _ us hl => match us, hl with | [_, _], _ => rfl) 
  have m__law_grow : ∀ {k : Nat} {sp : SpD}, FnOk P w K mg base CX0 k (He.ga K "_law_grow") fd__law_grow P_law_grow (LSp K sp) → Callee P w K mg base CX0 k "_law_grow" P_law_grow sp := fun ok => callee_of F__law_grow ok (He.glo_ok X G (c.fact 8 (f := .glo "_law_grow") rfl)) (fun _ _ _ _ _ _ us hl => match us, hl with | [_, _, _, _, _, _], _ => rfl) (fun _ _ _ _ _ _ us hl => match us, hl with | [_, _, _, _, _, _], _ => rfl) 
  have m__law_put_in : ∀ {k : Nat} {sp : SpD}, FnOk P w K mg base CX0 k (He.ga K "_law_put_in") fd__law_put_in P_law_put_in (LSp K sp) → Callee P w K mg base CX0 k "_law_put_in" P_law_put_in sp := fun ok => callee_of F__law_put_in ok (He.glo_ok X G (c.fact 9 (f := .glo "_law_put_in") rfl)) (fun _ _ _ _ _ _ us hl => match us, hl with | [_, _, _, _, _], _ => rfl) (fun _ _ _ _ _ _ us hl => match us, hl with | [_, _, _, _, _], _ => rfl) 
  have m__law_is : ∀ {k : Nat} {sp : SpD}, FnOk P w K mg base CX0 k (He.ga K "_law_is") fd__law_is P_law_is (LSp K sp) → Callee P w K mg base CX0 k "_law_is" P_law_is sp := fun ok => callee_of F__law_is ok (He.glo_ok X G (c.fact 10 (f := .glo "_law_is") rfl)) (fun _ _ _ _ _ _ us hl => match us, hl with | [_, _], _ => rfl) (fun _ _ _ _ _ _ us hl => match us, hl with | [_, _], _ => rfl) 
  have m__law_many : ∀ {k : Nat} {sp : SpD}, FnOk P w K mg base CX0 k (He.ga K "_law_many") fd__law_many P_law_many (LSp K sp) → Callee P w K mg base CX0 k "_law_many" P_law_many sp := fun ok => callee_of F__law_many ok (He.glo_ok X G (c.fact 11 (f := .glo "_law_many") rfl)) (fun _ _ _ _ _ _ us hl => match us, hl with | [_, _, _], _ => rfl) (fun _ _ _ _ _ _ us hl => match us, hl with | [_, _, _], _ => rfl) 
  have m__law_changed : ∀ {k : Nat} {sp : SpD}, FnOk P w K mg base CX0 k (He.ga K "_law_changed") fd__law_changed P_law_changed (LSp K sp) → Callee P w K mg base CX0 k "_law_changed" P_law_changed sp := fun ok => callee_of F__law_changed ok (He.glo_ok X G (c.fact 12 (f := .glo "_law_changed") rfl)) (fun _ _ _ _ _ _ us hl => match us, hl with | [_, _, _], _ => rfl) (fun _ _ _ _ _ _ us hl => match us, hl with | [_, _, _], _ => rfl) 
  have m__law_ring : ∀ {k : Nat} {sp : SpD}, FnOk P w K mg base CX0 k (He.ga K "_law_ring") fd__law_ring P_law_ring (LSp K sp) → Callee P w K mg base CX0 k "_law_ring" P_law_ring sp := fun ok => callee_of F__law_ring ok (He.glo_ok X G (c.fact 13 (f := .glo "_law_ring") rfl)) (fun _ _ _ _ _ _ us hl => match us, hl with | [_, _, _, _], _ => rfl) (fun _ _ _ _ _ _ us hl => match us, hl with | [_, _, _, _], _ => rfl) 
  have m__law_pairs : ∀ {k : Nat} {sp : SpD}, FnOk P w K mg base CX0 k (He.ga K "_law_pairs") fd__law_pairs P_law_pairs (LSp K sp) → Callee P w K mg base CX0 k "_law_pairs" P_law_pairs sp := fun ok => callee_of F__law_pairs ok (He.glo_ok X G (c.fact 14 (f := .glo "_law_pairs") rfl)) (fun _ _ _ _ _ _ us hl => match us, hl with | [_], _ => rfl) (fun _ _ _ _ _ _ us hl => match us, hl with | [_], _ => rfl) 
  have c__law_box := m__law_box (ok__law_box T F__law_box ) 
  have c__law_draw := m__law_draw (ok__law_draw T F__law_draw ) 
  have c__law_name := m__law_name (ok__law_name T F__law_name c__law_draw) 
  have c__law_seat : ∀ n, Callee P w K mg base CX0 (0+n) "_law_seat" P_law_seat (sp_seat n) := fun n => by 
    induction n with 
    | zero => exact m__law_seat (fnok_no fun _ _ _ _ h => by first | (obtain ⟨_, h, _⟩ := h; exact absurd h (Nat.not_lt_zero _)) | (obtain ⟨_, _, h, _⟩ := h; exact absurd h (Nat.not_lt_zero _)) | (obtain ⟨_, _, _, h, _⟩ := h; exact absurd h (Nat.not_lt_zero _)) | (obtain ⟨_, _, _, _, h, _⟩ := h; exact absurd h (Nat.not_lt_zero _)) | (obtain ⟨_, _, _, _, _, h, _⟩ := h; exact absurd h (Nat.not_lt_zero _)) | (obtain ⟨_, _, _, _, _, _, h, _⟩ := h; exact absurd h (Nat.not_lt_zero _)) | (obtain ⟨_, _, _, _, _, _, _, h, _⟩ := h; exact absurd h (Nat.not_lt_zero _)) | (obtain ⟨_, _, _, _, _, _, _, _, h, _⟩ := h; exact absurd h (Nat.not_lt_zero _)) | (obtain ⟨_, _, _, _, _, _, _, _, _, h, _⟩ := h; exact absurd h (Nat.not_lt_zero _)) | (obtain ⟨_, _, _, _, _, _, _, _, _, _, h, _⟩ := h; exact absurd h (Nat.not_lt_zero _)) | (obtain ⟨_, _, _, _, _, _, _, _, _, _, _, h, _⟩ := h; exact absurd h (Nat.not_lt_zero _)) | (obtain ⟨_, _, _, _, _, _, _, _, _, _, _, _, h, _⟩ := h; exact absurd h (Nat.not_lt_zero _)) | (obtain ⟨_, _, _, _, _, _, _, _, _, _, _, _, _, h, _⟩ := h; exact absurd h (Nat.not_lt_zero _)) | (obtain ⟨_, _, _, _, _, _, _, _, _, _, _, _, _, _, h, _⟩ := h; exact absurd h (Nat.not_lt_zero _)) | (obtain ⟨_, _, _, _, _, _, _, _, _, _, _, _, _, _, _, h, _⟩ := h; exact absurd h (Nat.not_lt_zero _)) | (obtain ⟨_, _, _, _, _, _, _, _, _, _, _, _, _, _, _, _, h, _⟩ := h; exact absurd h (Nat.not_lt_zero _)) | (obtain ⟨_, _, _, _, _, _, _, _, _, _, _, _, _, _, _, _, _, h, _⟩ := h; exact absurd h (Nat.not_lt_zero _)) | (obtain ⟨_, _, _, _, _, _, _, _, _, _, _, _, _, _, _, _, _, _, h, _⟩ := h; exact absurd h (Nat.not_lt_zero _)) | (obtain ⟨_, _, _, _, _, _, _, _, _, _, _, _, _, _, _, _, _, _, _, h, _⟩ := h; exact absurd h (Nat.not_lt_zero _))) 
    | succ n ih => exact m__law_seat (ok__law_seat T F__law_seat ih) 
  have c__law_lies : ∀ n, Callee P w K mg base CX0 (100+n) "_law_lies" P_law_lies (sp_llies n) := fun n => by 
    induction n with 
    | zero => exact m__law_lies (fnok_no fun _ _ _ _ h => by first | (obtain ⟨_, h, _⟩ := h; exact absurd h (Nat.not_lt_zero _)) | (obtain ⟨_, _, h, _⟩ := h; exact absurd h (Nat.not_lt_zero _)) | (obtain ⟨_, _, _, h, _⟩ := h; exact absurd h (Nat.not_lt_zero _)) | (obtain ⟨_, _, _, _, h, _⟩ := h; exact absurd h (Nat.not_lt_zero _)) | (obtain ⟨_, _, _, _, _, h, _⟩ := h; exact absurd h (Nat.not_lt_zero _)) | (obtain ⟨_, _, _, _, _, _, h, _⟩ := h; exact absurd h (Nat.not_lt_zero _)) | (obtain ⟨_, _, _, _, _, _, _, h, _⟩ := h; exact absurd h (Nat.not_lt_zero _)) | (obtain ⟨_, _, _, _, _, _, _, _, h, _⟩ := h; exact absurd h (Nat.not_lt_zero _)) | (obtain ⟨_, _, _, _, _, _, _, _, _, h, _⟩ := h; exact absurd h (Nat.not_lt_zero _)) | (obtain ⟨_, _, _, _, _, _, _, _, _, _, h, _⟩ := h; exact absurd h (Nat.not_lt_zero _)) | (obtain ⟨_, _, _, _, _, _, _, _, _, _, _, h, _⟩ := h; exact absurd h (Nat.not_lt_zero _)) | (obtain ⟨_, _, _, _, _, _, _, _, _, _, _, _, h, _⟩ := h; exact absurd h (Nat.not_lt_zero _)) | (obtain ⟨_, _, _, _, _, _, _, _, _, _, _, _, _, h, _⟩ := h; exact absurd h (Nat.not_lt_zero _)) | (obtain ⟨_, _, _, _, _, _, _, _, _, _, _, _, _, _, h, _⟩ := h; exact absurd h (Nat.not_lt_zero _)) | (obtain ⟨_, _, _, _, _, _, _, _, _, _, _, _, _, _, _, h, _⟩ := h; exact absurd h (Nat.not_lt_zero _)) | (obtain ⟨_, _, _, _, _, _, _, _, _, _, _, _, _, _, _, _, h, _⟩ := h; exact absurd h (Nat.not_lt_zero _)) | (obtain ⟨_, _, _, _, _, _, _, _, _, _, _, _, _, _, _, _, _, h, _⟩ := h; exact absurd h (Nat.not_lt_zero _)) | (obtain ⟨_, _, _, _, _, _, _, _, _, _, _, _, _, _, _, _, _, _, h, _⟩ := h; exact absurd h (Nat.not_lt_zero _)) | (obtain ⟨_, _, _, _, _, _, _, _, _, _, _, _, _, _, _, _, _, _, _, h, _⟩ := h; exact absurd h (Nat.not_lt_zero _))) 
    | succ n ih => exact m__law_lies (ok__law_lies T F__law_lies ih (c__law_seat 100)) 
  have c_reached := m_reached (ok_reached T F_reached ) 
  have c_matched := m_matched (ok_matched T F_matched c_reached) 
  have c_NestU_initU := m_NestU_initU (sp := (sp_ninit (P:=P) (w:=w) (He.ga K "Nest"))) (ok_NestU_initU T F_NestU_initU f_Nest) 
  have c_Nest_mark := m_Nest_mark (sp := (sp_mark (P:=P) (w:=w) (He.ga K "Nest"))) (ok_Nest_mark T F_Nest_mark f_Nest) 
  have c_Nest_node := m_Nest_node (sp := (sp_node (P:=P) (w:=w) (He.ga K "Nest"))) (ok_Nest_node T F_Nest_node f_Nest) 
  have c_Nest_take : ∀ n, Mth P w K mg base CX0 (He.ga K "Nest") (1+n) "take" PNest_take (sp_take (P:=P) (w:=w) (He.ga K "Nest") n) := fun n => by 
    induction n with 
    | zero => exact m_Nest_take (fnok_no fun _ _ _ _ h => by first | (obtain ⟨_, h, _⟩ := h; exact absurd h (Nat.not_lt_zero _)) | (obtain ⟨_, _, h, _⟩ := h; exact absurd h (Nat.not_lt_zero _)) | (obtain ⟨_, _, _, h, _⟩ := h; exact absurd h (Nat.not_lt_zero _)) | (obtain ⟨_, _, _, _, h, _⟩ := h; exact absurd h (Nat.not_lt_zero _)) | (obtain ⟨_, _, _, _, _, h, _⟩ := h; exact absurd h (Nat.not_lt_zero _)) | (obtain ⟨_, _, _, _, _, _, h, _⟩ := h; exact absurd h (Nat.not_lt_zero _)) | (obtain ⟨_, _, _, _, _, _, _, h, _⟩ := h; exact absurd h (Nat.not_lt_zero _)) | (obtain ⟨_, _, _, _, _, _, _, _, h, _⟩ := h; exact absurd h (Nat.not_lt_zero _)) | (obtain ⟨_, _, _, _, _, _, _, _, _, h, _⟩ := h; exact absurd h (Nat.not_lt_zero _)) | (obtain ⟨_, _, _, _, _, _, _, _, _, _, h, _⟩ := h; exact absurd h (Nat.not_lt_zero _)) | (obtain ⟨_, _, _, _, _, _, _, _, _, _, _, h, _⟩ := h; exact absurd h (Nat.not_lt_zero _)) | (obtain ⟨_, _, _, _, _, _, _, _, _, _, _, _, h, _⟩ := h; exact absurd h (Nat.not_lt_zero _)) | (obtain ⟨_, _, _, _, _, _, _, _, _, _, _, _, _, h, _⟩ := h; exact absurd h (Nat.not_lt_zero _)) | (obtain ⟨_, _, _, _, _, _, _, _, _, _, _, _, _, _, h, _⟩ := h; exact absurd h (Nat.not_lt_zero _)) | (obtain ⟨_, _, _, _, _, _, _, _, _, _, _, _, _, _, _, h, _⟩ := h; exact absurd h (Nat.not_lt_zero _)) | (obtain ⟨_, _, _, _, _, _, _, _, _, _, _, _, _, _, _, _, h, _⟩ := h; exact absurd h (Nat.not_lt_zero _)) | (obtain ⟨_, _, _, _, _, _, _, _, _, _, _, _, _, _, _, _, _, h, _⟩ := h; exact absurd h (Nat.not_lt_zero _)) | (obtain ⟨_, _, _, _, _, _, _, _, _, _, _, _, _, _, _, _, _, _, h, _⟩ := h; exact absurd h (Nat.not_lt_zero _)) | (obtain ⟨_, _, _, _, _, _, _, _, _, _, _, _, _, _, _, _, _, _, _, h, _⟩ := h; exact absurd h (Nat.not_lt_zero _))) 
    | succ n ih => exact m_Nest_take (ok_Nest_take T F_Nest_take f_Nest c_Nest_node ih c_Nest_mark) 
  have c_Nest_lies : ∀ n, Mth P w K mg base CX0 (He.ga K "Nest") (10 + 3 * n) "lies" PNest_lies (sp_nlies (P := P) (w := w) (He.ga K "Nest") n) := fun n => by 
    induction n with 
    | zero => exact m_Nest_lies (fnok_no fun _ _ _ _ h => by first | (obtain ⟨_, h, _⟩ := h; exact absurd h (Nat.not_lt_zero _)) | (obtain ⟨_, _, h, _⟩ := h; exact absurd h (Nat.not_lt_zero _)) | (obtain ⟨_, _, _, h, _⟩ := h; exact absurd h (Nat.not_lt_zero _)) | (obtain ⟨_, _, _, _, h, _⟩ := h; exact absurd h (Nat.not_lt_zero _)) | (obtain ⟨_, _, _, _, _, h, _⟩ := h; exact absurd h (Nat.not_lt_zero _)) | (obtain ⟨_, _, _, _, _, _, h, _⟩ := h; exact absurd h (Nat.not_lt_zero _)) | (obtain ⟨_, _, _, _, _, _, _, h, _⟩ := h; exact absurd h (Nat.not_lt_zero _)) | (obtain ⟨_, _, _, _, _, _, _, _, h, _⟩ := h; exact absurd h (Nat.not_lt_zero _)) | (obtain ⟨_, _, _, _, _, _, _, _, _, h, _⟩ := h; exact absurd h (Nat.not_lt_zero _)) | (obtain ⟨_, _, _, _, _, _, _, _, _, _, h, _⟩ := h; exact absurd h (Nat.not_lt_zero _)) | (obtain ⟨_, _, _, _, _, _, _, _, _, _, _, h, _⟩ := h; exact absurd h (Nat.not_lt_zero _)) | (obtain ⟨_, _, _, _, _, _, _, _, _, _, _, _, h, _⟩ := h; exact absurd h (Nat.not_lt_zero _)) | (obtain ⟨_, _, _, _, _, _, _, _, _, _, _, _, _, h, _⟩ := h; exact absurd h (Nat.not_lt_zero _)) | (obtain ⟨_, _, _, _, _, _, _, _, _, _, _, _, _, _, h, _⟩ := h; exact absurd h (Nat.not_lt_zero _)) | (obtain ⟨_, _, _, _, _, _, _, _, _, _, _, _, _, _, _, h, _⟩ := h; exact absurd h (Nat.not_lt_zero _)) | (obtain ⟨_, _, _, _, _, _, _, _, _, _, _, _, _, _, _, _, h, _⟩ := h; exact absurd h (Nat.not_lt_zero _)) | (obtain ⟨_, _, _, _, _, _, _, _, _, _, _, _, _, _, _, _, _, h, _⟩ := h; exact absurd h (Nat.not_lt_zero _)) | (obtain ⟨_, _, _, _, _, _, _, _, _, _, _, _, _, _, _, _, _, _, h, _⟩ := h; exact absurd h (Nat.not_lt_zero _)) | (obtain ⟨_, _, _, _, _, _, _, _, _, _, _, _, _, _, _, _, _, _, _, h, _⟩ := h; exact absurd h (Nat.not_lt_zero _))) 
    | succ n ih => 
      have cw : Mth P w K mg base CX0 (He.ga K "Nest") (10 + 3 * n + 1) "within" PNest_within (sp_nlies (P := P) (w := w) (He.ga K "Nest") n) := m_Nest_within (ok_Nest_within (n := n) T F_Nest_within f_Nest ih) 
      have cg : Mth P w K mg base CX0 (He.ga K "Nest") (10 + 3 * n + 2) "given" PNest_given (sp_given (P := P) (w := w) (He.ga K "Nest") n) := m_Nest_given (ok_Nest_given (n := n) T F_Nest_given f_Nest cw c_matched) 
      exact m_Nest_lies (ok_Nest_lies (n := n) T F_Nest_lies f_Nest cg) 
  have c_lies := m_lies (ok_lies T F_lies f_Nest c_NestU_initU (c_Nest_lies 20) (c_Nest_take 20)) 
  have cs_lies : CalleeS P w K mg base CX0 (100 + 1) "lies" "one" "other" sp_lies := calleeS_of F_lies (ok_lies T F_lies f_Nest c_NestU_initU (c_Nest_lies 20) (c_Nest_take 20)) (He.glo_ok X G (c.fact 7 (f := .glo "lies") rfl)) (fun _ _ _ _ _ _ _ _ => rfl) 
  have c__law_grow : ∀ n, Callee P w K mg base CX0 (1+n) "_law_grow" P_law_grow (sp_grow n) := fun n => by 
    induction n with 
    | zero => exact m__law_grow (fnok_no fun _ _ _ _ h => by first | (obtain ⟨_, h, _⟩ := h; exact absurd h (Nat.not_lt_zero _)) | (obtain ⟨_, _, h, _⟩ := h; exact absurd h (Nat.not_lt_zero _)) | (obtain ⟨_, _, _, h, _⟩ := h; exact absurd h (Nat.not_lt_zero _)) | (obtain ⟨_, _, _, _, h, _⟩ := h; exact absurd h (Nat.not_lt_zero _)) | (obtain ⟨_, _, _, _, _, h, _⟩ := h; exact absurd h (Nat.not_lt_zero _)) | (obtain ⟨_, _, _, _, _, _, h, _⟩ := h; exact absurd h (Nat.not_lt_zero _)) | (obtain ⟨_, _, _, _, _, _, _, h, _⟩ := h; exact absurd h (Nat.not_lt_zero _)) | (obtain ⟨_, _, _, _, _, _, _, _, h, _⟩ := h; exact absurd h (Nat.not_lt_zero _)) | (obtain ⟨_, _, _, _, _, _, _, _, _, h, _⟩ := h; exact absurd h (Nat.not_lt_zero _)) | (obtain ⟨_, _, _, _, _, _, _, _, _, _, h, _⟩ := h; exact absurd h (Nat.not_lt_zero _)) | (obtain ⟨_, _, _, _, _, _, _, _, _, _, _, h, _⟩ := h; exact absurd h (Nat.not_lt_zero _)) | (obtain ⟨_, _, _, _, _, _, _, _, _, _, _, _, h, _⟩ := h; exact absurd h (Nat.not_lt_zero _)) | (obtain ⟨_, _, _, _, _, _, _, _, _, _, _, _, _, h, _⟩ := h; exact absurd h (Nat.not_lt_zero _)) | (obtain ⟨_, _, _, _, _, _, _, _, _, _, _, _, _, _, h, _⟩ := h; exact absurd h (Nat.not_lt_zero _)) | (obtain ⟨_, _, _, _, _, _, _, _, _, _, _, _, _, _, _, h, _⟩ := h; exact absurd h (Nat.not_lt_zero _)) | (obtain ⟨_, _, _, _, _, _, _, _, _, _, _, _, _, _, _, _, h, _⟩ := h; exact absurd h (Nat.not_lt_zero _)) | (obtain ⟨_, _, _, _, _, _, _, _, _, _, _, _, _, _, _, _, _, h, _⟩ := h; exact absurd h (Nat.not_lt_zero _)) | (obtain ⟨_, _, _, _, _, _, _, _, _, _, _, _, _, _, _, _, _, _, h, _⟩ := h; exact absurd h (Nat.not_lt_zero _)) | (obtain ⟨_, _, _, _, _, _, _, _, _, _, _, _, _, _, _, _, _, _, _, h, _⟩ := h; exact absurd h (Nat.not_lt_zero _))) 
    | succ n ih => exact m__law_grow (ok__law_grow T F__law_grow c__law_draw ih) 
  have c__law_put_in : ∀ n, Callee P w K mg base CX0 (20+n) "_law_put_in" P_law_put_in (sp_put_in n) := fun n => by 
    induction n with 
    | zero => exact m__law_put_in (fnok_no fun _ _ _ _ h => by first | (obtain ⟨_, h, _⟩ := h; exact absurd h (Nat.not_lt_zero _)) | (obtain ⟨_, _, h, _⟩ := h; exact absurd h (Nat.not_lt_zero _)) | (obtain ⟨_, _, _, h, _⟩ := h; exact absurd h (Nat.not_lt_zero _)) | (obtain ⟨_, _, _, _, h, _⟩ := h; exact absurd h (Nat.not_lt_zero _)) | (obtain ⟨_, _, _, _, _, h, _⟩ := h; exact absurd h (Nat.not_lt_zero _)) | (obtain ⟨_, _, _, _, _, _, h, _⟩ := h; exact absurd h (Nat.not_lt_zero _)) | (obtain ⟨_, _, _, _, _, _, _, h, _⟩ := h; exact absurd h (Nat.not_lt_zero _)) | (obtain ⟨_, _, _, _, _, _, _, _, h, _⟩ := h; exact absurd h (Nat.not_lt_zero _)) | (obtain ⟨_, _, _, _, _, _, _, _, _, h, _⟩ := h; exact absurd h (Nat.not_lt_zero _)) | (obtain ⟨_, _, _, _, _, _, _, _, _, _, h, _⟩ := h; exact absurd h (Nat.not_lt_zero _)) | (obtain ⟨_, _, _, _, _, _, _, _, _, _, _, h, _⟩ := h; exact absurd h (Nat.not_lt_zero _)) | (obtain ⟨_, _, _, _, _, _, _, _, _, _, _, _, h, _⟩ := h; exact absurd h (Nat.not_lt_zero _)) | (obtain ⟨_, _, _, _, _, _, _, _, _, _, _, _, _, h, _⟩ := h; exact absurd h (Nat.not_lt_zero _)) | (obtain ⟨_, _, _, _, _, _, _, _, _, _, _, _, _, _, h, _⟩ := h; exact absurd h (Nat.not_lt_zero _)) | (obtain ⟨_, _, _, _, _, _, _, _, _, _, _, _, _, _, _, h, _⟩ := h; exact absurd h (Nat.not_lt_zero _)) | (obtain ⟨_, _, _, _, _, _, _, _, _, _, _, _, _, _, _, _, h, _⟩ := h; exact absurd h (Nat.not_lt_zero _)) | (obtain ⟨_, _, _, _, _, _, _, _, _, _, _, _, _, _, _, _, _, h, _⟩ := h; exact absurd h (Nat.not_lt_zero _)) | (obtain ⟨_, _, _, _, _, _, _, _, _, _, _, _, _, _, _, _, _, _, h, _⟩ := h; exact absurd h (Nat.not_lt_zero _)) | (obtain ⟨_, _, _, _, _, _, _, _, _, _, _, _, _, _, _, _, _, _, _, h, _⟩ := h; exact absurd h (Nat.not_lt_zero _))) 
    | succ n ih => exact m__law_put_in (ok__law_put_in T F__law_put_in c__law_draw (c__law_grow 11) ih) 
  have c__law_is := m__law_is (ok__law_is T F__law_is ) 
  have c__law_many := m__law_many (ok__law_many T F__law_many c__law_draw) 
  have c__law_changed : ∀ n, Callee P w K mg base CX0 (20+n) "_law_changed" P_law_changed (sp_changed n) := fun n => by 
    induction n with 
    | zero => exact m__law_changed (fnok_no fun _ _ _ _ h => by first | (obtain ⟨_, h, _⟩ := h; exact absurd h (Nat.not_lt_zero _)) | (obtain ⟨_, _, h, _⟩ := h; exact absurd h (Nat.not_lt_zero _)) | (obtain ⟨_, _, _, h, _⟩ := h; exact absurd h (Nat.not_lt_zero _)) | (obtain ⟨_, _, _, _, h, _⟩ := h; exact absurd h (Nat.not_lt_zero _)) | (obtain ⟨_, _, _, _, _, h, _⟩ := h; exact absurd h (Nat.not_lt_zero _)) | (obtain ⟨_, _, _, _, _, _, h, _⟩ := h; exact absurd h (Nat.not_lt_zero _)) | (obtain ⟨_, _, _, _, _, _, _, h, _⟩ := h; exact absurd h (Nat.not_lt_zero _)) | (obtain ⟨_, _, _, _, _, _, _, _, h, _⟩ := h; exact absurd h (Nat.not_lt_zero _)) | (obtain ⟨_, _, _, _, _, _, _, _, _, h, _⟩ := h; exact absurd h (Nat.not_lt_zero _)) | (obtain ⟨_, _, _, _, _, _, _, _, _, _, h, _⟩ := h; exact absurd h (Nat.not_lt_zero _)) | (obtain ⟨_, _, _, _, _, _, _, _, _, _, _, h, _⟩ := h; exact absurd h (Nat.not_lt_zero _)) | (obtain ⟨_, _, _, _, _, _, _, _, _, _, _, _, h, _⟩ := h; exact absurd h (Nat.not_lt_zero _)) | (obtain ⟨_, _, _, _, _, _, _, _, _, _, _, _, _, h, _⟩ := h; exact absurd h (Nat.not_lt_zero _)) | (obtain ⟨_, _, _, _, _, _, _, _, _, _, _, _, _, _, h, _⟩ := h; exact absurd h (Nat.not_lt_zero _)) | (obtain ⟨_, _, _, _, _, _, _, _, _, _, _, _, _, _, _, h, _⟩ := h; exact absurd h (Nat.not_lt_zero _)) | (obtain ⟨_, _, _, _, _, _, _, _, _, _, _, _, _, _, _, _, h, _⟩ := h; exact absurd h (Nat.not_lt_zero _)) | (obtain ⟨_, _, _, _, _, _, _, _, _, _, _, _, _, _, _, _, _, h, _⟩ := h; exact absurd h (Nat.not_lt_zero _)) | (obtain ⟨_, _, _, _, _, _, _, _, _, _, _, _, _, _, _, _, _, _, h, _⟩ := h; exact absurd h (Nat.not_lt_zero _)) | (obtain ⟨_, _, _, _, _, _, _, _, _, _, _, _, _, _, _, _, _, _, _, h, _⟩ := h; exact absurd h (Nat.not_lt_zero _))) 
    | succ n ih => exact m__law_changed (ok__law_changed T F__law_changed c__law_draw ih) 
  have c__law_ring := m__law_ring (ok__law_ring T F__law_ring ) 
  have c__law_pairs := m__law_pairs (ok__law_pairs T F__law_pairs c__law_name (c__law_grow 11) c__law_draw (c__law_put_in 11) c__law_ring c__law_many (c__law_changed 11)) 
  exact ok_law T F_law c__law_box c__law_pairs (c__law_lies 20) c__law_is c_lies cs_lies 
end K20
open PySem PySem.W PySem.Calls PyProof.Rows
theorem PySem.Challenge.cw_outlived_k20_trees_lie_within_holds : PySem.Challenge.rw_outlived_k20_trees_lie_within.Holds := by
  w_on; o_law
  refine HandSHeadRun.head_any (r := OpenLaw.row PySem.Challenge.rw_outlived_k20_trees_lie_within) (q := view (OpenLaw.row PySem.Challenge.rw_outlived_k20_trees_lie_within).prog [22]) (H := K20.hk) (ob := K20.ob) (M := 4000) (loose := K20.LOOSE) (d := HandSHeadRun.topDef (OpenLaw.row PySem.Challenge.rw_outlived_k20_trees_lie_within).prog 22) (kwd := []) K20.ob_eq
    (by kernel_rfl) (fun s => by kernel_rfl) K20.run (by kernel_rfl) (by kernel_rfl) (by kernel_rfl) (by rfl) (by first | assumption | decide +kernel) (by decide +kernel) ⟨rfl, rfl, rfl, rfl, rfl, by decide +kernel⟩ ?hw ?hc
  case hw => w_witness2
  case hc =>
    refine L2.walk_ofE (l := PySem.Challenge.rw_outlived_k20_trees_lie_within) (n := 63) (k := 121 + 1) (x := "script") (CX := L2.CX0) rfl (by decide) (by kernel_rfl) ⟨rfl, by decide, by decide⟩ ?F (fun _ _ _ _ z => z)
    intro w mg fa h Y G hmg0
    obtain ⟨K, KX, c, ce⟩ := Y
    have hmg : mg ("law" : PySem.Str) = some (.ref fa) := by
      have e : (HandSHeadRun.topDef (OpenLaw.row PySem.Challenge.rw_outlived_k20_trees_lie_within).prog 22).name = ("law" : PySem.Str) := by kernel_rfl
      rw [← e]
      exact hmg0
    obtain ⟨fd, hb, hF⟩ := K20.facts (P := (PySem.Challenge.rw_outlived_k20_trees_lie_within).prog) (w := w) KX G hmg c ce
    exact ⟨K, fd, DL.LSp K K20.sp_law, KX, hb, fun H a ns hl _ hS => DL.law_sp hl hS fun M Q E q => ⟨ns, rfl, hl, q⟩, hF⟩
