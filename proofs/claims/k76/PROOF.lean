import PyProof.Rows.All
import Wide.All
import OpenK.AllK
import Wide.FinOn
import HandS.ForMost
import HandS.TupAny
import HandS.IsInst
import HandS.Deep
import HandS.SetKeys
import HandS.Rev
import HandS.Zip
import HandS.Flow
import HandS.More
import PyProof.StrLawsRepr
import HandS.Ends
import PySem.Challenge.RW_redo_k76_a_watch
set_option Elab.async false
set_option linter.all false
set_option maxRecDepth 100000
namespace DL
open PySem PySem.Spec PyProof.Rows L2

/-! ## deep values -/
inductive DV where
  | non | bl (b : Bool) | int (i : Int) | str (x : List Nat) | tup (ds : List DV) | lst (ds : List DV) | scr (ns : List Int) | ref (a : Addr) | ty (n : String)

def sOf (x : List Nat) : Str := ⟨x.toArray⟩
theorem sOf_inj {a b : List Nat} (h : sOf a = sOf b) : a = b := by
  unfold sOf at h
  have e : a.toArray = b.toArray := by injection h
  simpa using congrArg Array.toList e
theorem sOf_beq (a b : List Nat) : (sOf a == sOf b) = (a == b) := by
  by_cases h : a = b
  · subst h; simp
  · have h2 : sOf a ≠ sOf b := fun e => h (sOf_inj e)
    rw [beq_eq_false_iff_ne.mpr h, beq_eq_false_iff_ne.mpr h2]

inductive Cell where
  | lst (ds : List DV) | dic (kvs : List (List Nat × DV)) | ins (C : Addr) (fs : List (List Nat × DV))

abbrev DH := Addr → Option Cell
def put (S : DH) (a : Addr) (c : Cell) : DH := fun b => if b = a then some c else S b
theorem put_same {S : DH} {a : Addr} {c : Cell} : put S a c a = some c := by unfold put; rw [if_pos rfl]
theorem put_ne {S : DH} {a b : Addr} {c : Cell} (h : b ≠ a) : put S a c b = S b := by unfold put; rw [if_neg h]
theorem put_old {S : DH} {a b : Addr} {c c' : Cell} (h : S b = some c') (n : S a = none) : put S a c b = some c' := by
  rw [put_ne, h]; intro e; subst e; rw [h] at n; cases n
theorem put_put {S : DH} {a : Addr} {c c' : Cell} : put (put S a c) a c' = put S a c' := by
  funext b; unfold put; split <;> rfl

/-- the law's script: it never changes -/
def Scr (K : PySem.W.Frag) (H : Hp) (a : Addr) (ns : List Int) : Prop := (∃ o, H a = some (.frz o (.lst (ns.map V.int)))) ∨
  ∃ (o : Obj) (its : Array Value) (n : Nat), K.lookup a = some o ∧ o.cls = .type "list" ∧ o.dict = none ∧ o.data = .seq its n ∧ its.size ≤ sizeLine ∧ Vals (ns.map V.int) its.toList
theorem Scr.sq {K : PySem.W.Frag} {H : Hp} {a : Addr} {ns : List Int} (h : Scr K H a ns) : SqL K H a (ns.map V.int) := by
  rcases h with ⟨o, h⟩ | h
  · exact .inl (.inr ⟨o, h⟩)
  · exact .inr h
theorem Scr.of {K : PySem.W.Frag} {H : Hp} {a : Addr} {ns : List Int} (o : Only H) (h : SqL K H a (ns.map V.int)) : Scr K H a ns := by
  rcases h with (h | ⟨ob, h⟩) | h
  · rcases o a with q | ⟨ob, xs, q⟩
    · rw [h] at q; cases q
    · rw [h] at q; cases q
  · exact .inl ⟨ob, h⟩
  · exact .inr h

mutual
inductive Rep (K : PySem.W.Frag) (S : DH) (H : Hp) : V → DV → Prop
  | non : Rep K S H .non .non
  | bl (b : Bool) : Rep K S H (.bl b) (.bl b)
  | int (i : Int) : Rep K S H (.int i) (.int i)
  | str (x : List Nat) : Rep K S H (.str (sOf x)) (.str x)
  | ty (n : String) : Rep K S H (.ty n) (.ty n)
  | ref (a : Addr) : Rep K S H (.ref a) (.ref a)
  | tup {a : Addr} {vs : List V} {ds : List DV} : SqT K H a vs → Reps K S H vs ds → Rep K S H (.ref a) (.tup ds)
  | lst {a : Addr} {vs : List V} {ds : List DV} : H a = some (.lst vs) → S a = none → Reps K S H vs ds → Rep K S H (.ref a) (.lst ds)
  | scr {a : Addr} {ns : List Int} : Scr K H a ns → Rep K S H (.ref a) (.scr ns)
inductive Reps (K : PySem.W.Frag) (S : DH) (H : Hp) : List V → List DV → Prop
  | nil : Reps K S H [] []
  | cons {v : V} {vs : List V} {d : DV} {ds : List DV} : Rep K S H v d → Reps K S H vs ds → Reps K S H (v :: vs) (d :: ds)
end

def KRep (K : PySem.W.Frag) (S : DH) (H : Hp) : List (Key × V) → List (List Nat × DV) → Prop
  | [], [] => True
  | (k, v) :: r, (x, d) :: q => k = .inr (sOf x) ∧ Rep K S H v d ∧ KRep K S H r q
  | _, _ => False
def FRep (K : PySem.W.Frag) (S : DH) (H : Hp) : List (Str × V) → List (List Nat × DV) → Prop
  | [], [] => True
  | (k, v) :: r, (x, d) :: q => k = sOf x ∧ Rep K S H v d ∧ FRep K S H r q
  | _, _ => False

def putD (x : List Nat) (d : DV) : List (List Nat × DV) → List (List Nat × DV)
  | [] => [(x, d)]
  | (k, e) :: r => if k = x then (k, d) :: r else (k, e) :: putD x d r
def CRep (K : PySem.W.Frag) (S : DH) (H : Hp) (p : Addr) : Cell → Prop
  | .lst ds => ∃ vs, H p = some (.lst vs) ∧ Reps K S H vs ds
  | .dic kvs => ∃ ks, H p = some (.dK ks) ∧ KRep K S H ks kvs
  | .ins C fs => ∃ dx gs, H p = some (.ins C dx gs) ∧ FRep K S H gs fs
def HRep (K : PySem.W.Frag) (S : DH) (H : Hp) : Prop := ∀ p c, S p = some c → CRep K S H p c

/-- from (S, H) to (S', H'): what was tracked and is not of S stays; what is new in S was not tracked -/
structure Go (S : DH) (H : Hp) (S' : DH) (H' : Hp) : Prop where
  keep : ∀ a o, H a = some o → S a = none → H' a = some o
  dom : ∀ a, S a = none → H a ≠ none → S' a = none

theorem HRep.trk {K : PySem.W.Frag} {S : DH} {H : Hp} (h : HRep K S H) {p : Addr} (n : H p = none) : S p = none := by
  cases e : S p with
  | none => rfl
  | some c =>
    have q := h p c e
    cases c with
    | lst ds => obtain ⟨vs, q, _⟩ := q; rw [n] at q; cases q
    | dic ds => obtain ⟨vs, q, _⟩ := q; rw [n] at q; cases q
    | ins C ds => obtain ⟨dx, vs, q, _⟩ := q; rw [n] at q; cases q
theorem Go.refl (S : DH) (H : Hp) : Go S H S H := ⟨fun _ _ e _ => e, fun _ e _ => e⟩
theorem Go.trans {S S1 S2 : DH} {H H1 H2 : Hp} (a : Go S H S1 H1) (b : Go S1 H1 S2 H2) : Go S H S2 H2 where
  keep := fun x o e n => b.keep x o (a.keep x o e n) (a.dom x n (by rw [e]; exact Option.some_ne_none _))
  dom := fun x n e => b.dom x (a.dom x n e) (by
    cases q : H x with
    | none => exact absurd q e
    | some o => rw [a.keep x o q n]; exact Option.some_ne_none _)

section
variable {K : PySem.W.Frag} {S S' : DH} {H H' : Hp}
theorem HRep.tup (h : HRep K S H) {a : Addr} {vs : List V} (e : H a = some (.tup vs)) : S a = none := by
  cases q : S a with
  | none => rfl
  | some c =>
    have z := h a c q
    cases c with
    | lst ds => obtain ⟨_, z, _⟩ := z; rw [e] at z; cases z
    | dic ds => obtain ⟨_, z, _⟩ := z; rw [e] at z; cases z
    | ins C ds => obtain ⟨_, _, z, _⟩ := z; rw [e] at z; cases z
theorem HRep.frz (h : HRep K S H) {a : Addr} {o : Obj} {u : HO} (e : H a = some (.frz o u)) : S a = none := by
  cases q : S a with
  | none => rfl
  | some c =>
    have z := h a c q
    cases c with
    | lst ds => obtain ⟨_, z, _⟩ := z; rw [e] at z; cases z
    | dic ds => obtain ⟨_, z, _⟩ := z; rw [e] at z; cases z
    | ins C ds => obtain ⟨_, _, z, _⟩ := z; rw [e] at z; cases z
theorem SqT.go (h : HRep K S H) (g : Go S H S' H') {a : Addr} {vs : List V} (q : SqT K H a vs) : SqT K H' a vs := by
  rcases q with (q | ⟨o, q⟩) | q
  · exact .inl (.inl (g.keep _ _ q (h.tup q)))
  · exact .inl (.inr ⟨o, g.keep _ _ q (h.frz q)⟩)
  · exact .inr q
theorem Scr.go (h : HRep K S H) (g : Go S H S' H') {a : Addr} {ns : List Int} (q : Scr K H a ns) : Scr K H' a ns := by
  rcases q with ⟨o, q⟩ | q
  · exact .inl ⟨o, g.keep _ _ q (h.frz q)⟩
  · exact .inr q
mutual
theorem Rep.go (h : HRep K S H) (g : Go S H S' H') : ∀ {v : V} {d : DV}, Rep K S H v d → Rep K S' H' v d
  | _, _, .non => .non
  | _, _, .bl b => .bl b
  | _, _, .int b => .int b
  | _, _, .str b => .str b
  | _, _, .ty b => .ty b
  | _, _, .ref b => .ref b
  | _, _, .tup q r => .tup (SqT.go h g q) (Reps.go h g r)
  | _, _, .lst q n r => .lst (g.keep _ _ q n) (g.dom _ n (by rw [q]; exact Option.some_ne_none _)) (Reps.go h g r)
  | _, _, .scr q => .scr (Scr.go h g q)
theorem Reps.go (h : HRep K S H) (g : Go S H S' H') : ∀ {vs : List V} {ds : List DV}, Reps K S H vs ds → Reps K S' H' vs ds
  | _, _, .nil => .nil
  | _, _, .cons r q => .cons (Rep.go h g r) (Reps.go h g q)
end
theorem Reps.length : ∀ {vs : List V} {ds : List DV}, Reps K S H vs ds → vs.length = ds.length
  | _, _, .nil => rfl
  | _, _, .cons _ q => congrArg (· + 1) (Reps.length q)
theorem Reps.get : ∀ {vs : List V} {ds : List DV} {i : Nat} {d : DV}, Reps K S H vs ds → ds[i]? = some d → ∃ v, vs[i]? = some v ∧ Rep K S H v d
  | _, _, _, _, .nil, e => by simp at e
  | _, _, 0, _, .cons r _, e => by simp at e; subst e; exact ⟨_, rfl, r⟩
  | _, _, i + 1, _, .cons _ q, e => by
    obtain ⟨v, h1, h2⟩ := Reps.get (i := i) q (by simpa using e)
    exact ⟨v, by simpa using h1, h2⟩
theorem Reps.getV : ∀ {vs : List V} {ds : List DV} {i : Nat} {v : V}, Reps K S H vs ds → vs[i]? = some v → ∃ d, ds[i]? = some d ∧ Rep K S H v d
  | _, _, _, _, .nil, e => by simp at e
  | _, _, 0, _, .cons r _, e => by simp at e; subst e; exact ⟨_, rfl, r⟩
  | _, _, i + 1, _, .cons _ q, e => by
    obtain ⟨v, h1, h2⟩ := Reps.getV (i := i) q (by simpa using e)
    exact ⟨v, by simpa using h1, h2⟩
theorem Reps.append : ∀ {vs us : List V} {ds es : List DV}, Reps K S H vs ds → Reps K S H us es → Reps K S H (vs ++ us) (ds ++ es)
  | _, _, _, _, .nil, s => s
  | _, _, _, _, .cons r t, s => .cons r (Reps.append t s)
theorem Reps.one {v : V} {d : DV} (r : Rep K S H v d) : Reps K S H [v] [d] := .cons r .nil
theorem Reps.set : ∀ {vs : List V} {ds : List DV} (i : Nat) {v : V} {d : DV}, Reps K S H vs ds → Rep K S H v d → Reps K S H (vs.set i v) (ds.set i d)
  | _, _, _, _, _, .nil, _ => .nil
  | _, _, 0, _, _, .cons _ t, s => .cons s t
  | _, _, i + 1, _, _, .cons r t, s => .cons r (Reps.set i t s)
theorem Reps.take : ∀ {vs : List V} {ds : List DV} (i : Nat), Reps K S H vs ds → Reps K S H (vs.take i) (ds.take i)
  | _, _, _, .nil => by simp; exact .nil
  | _, _, 0, .cons _ t => .nil
  | _, _, i + 1, .cons r t => .cons r (Reps.take i t)
theorem Reps.drop : ∀ {vs : List V} {ds : List DV} (i : Nat), Reps K S H vs ds → Reps K S H (vs.drop i) (ds.drop i)
  | _, _, _, .nil => by simp; exact .nil
  | _, _, 0, .cons r t => .cons r t
  | _, _, i + 1, .cons r t => Reps.drop i t
theorem Reps.reverse {vs : List V} {ds : List DV} (r : Reps K S H vs ds) : Reps K S H vs.reverse ds.reverse := by
  induction vs generalizing ds with
  | nil => cases r; exact .nil
  | cons v vs ih =>
    cases r with
    | cons a b => rw [List.reverse_cons, List.reverse_cons]; exact (ih b).append (.one a)
theorem Reps.eraseIdx : ∀ {vs : List V} {ds : List DV} (i : Nat), Reps K S H vs ds → Reps K S H (vs.eraseIdx i) (ds.eraseIdx i)
  | _, _, _, .nil => by simp; exact .nil
  | _, _, 0, .cons r t => t
  | _, _, i + 1, .cons r t => .cons r (Reps.eraseIdx i t)
theorem KRep.go (h : HRep K S H) (g : Go S H S' H') : ∀ {vs : List (Key × V)} {ds : List (List Nat × DV)}, KRep K S H vs ds → KRep K S' H' vs ds
  | [], [], _ => trivial
  | (_, _) :: _, (_, _) :: _, q => ⟨q.1, Rep.go h g q.2.1, KRep.go h g q.2.2⟩
  | [], _ :: _, q => q.elim
  | _ :: _, [], q => q.elim
theorem FRep.go (h : HRep K S H) (g : Go S H S' H') : ∀ {vs : List (Str × V)} {ds : List (List Nat × DV)}, FRep K S H vs ds → FRep K S' H' vs ds
  | [], [], _ => trivial
  | (_, _) :: _, (_, _) :: _, q => ⟨q.1, Rep.go h g q.2.1, FRep.go h g q.2.2⟩
  | [], _ :: _, q => q.elim
  | _ :: _, [], q => q.elim
theorem FRep.get : ∀ {vs : List (Str × V)} {ds : List (List Nat × DV)} {x : List Nat} {d : DV}, FRep K S H vs ds → ds.lookup x = some d → ∃ v, vs.lookup (sOf x) = some v ∧ Rep K S H v d
  | [], [], _, _, _, e => by simp at e
  | (k, v) :: r, (k', d') :: q, x, d, h, e => by
    obtain ⟨h1, h2, h3⟩ := h
    subst h1
    rw [List.lookup_cons] at e ⊢
    rw [sOf_beq]
    cases hx : (x == k') with
    | true => rw [hx] at e; cases e; exact ⟨v, rfl, h2⟩
    | false => rw [hx] at e; exact FRep.get h3 e
  | [], _ :: _, _, _, q, _ => q.elim
  | _ :: _, [], _, _, q, _ => q.elim
theorem FRep.none : ∀ {vs : List (Str × V)} {ds : List (List Nat × DV)} {x : List Nat}, FRep K S H vs ds → ds.lookup x = none → vs.lookup (sOf x) = none
  | [], [], _, _, e => rfl
  | (k, v) :: r, (k', d') :: q, x, h, e => by
    obtain ⟨h1, h2, h3⟩ := h
    subst h1
    rw [List.lookup_cons] at e ⊢
    rw [sOf_beq]
    cases hx : (x == k') with
    | true => rw [hx] at e; cases e
    | false => rw [hx] at e; exact FRep.none h3 e
  | [], _ :: _, _, q, _ => q.elim
  | _ :: _, [], _, q, _ => q.elim
theorem FRep.length : ∀ {vs : List (Str × V)} {ds : List (List Nat × DV)}, FRep K S H vs ds → vs.length = ds.length
  | [], [], _ => rfl
  | (_, _) :: _, (_, _) :: _, q => congrArg (· + 1) (FRep.length q.2.2)
  | [], _ :: _, q => q.elim
  | _ :: _, [], q => q.elim
theorem FRep.put : ∀ {vs : List (Str × V)} {ds : List (List Nat × DV)} (x : List Nat) {v : V} {d : DV}, FRep K S H vs ds → Rep K S H v d → FRep K S H (putF (sOf x) v vs) (putD x d ds)
  | [], [], x, v, d, _, r => ⟨rfl, r, trivial⟩
  | (k, v0) :: r, (k', d') :: q, x, v, d, h, rd => by
    obtain ⟨h1, h2, h3⟩ := h
    subst h1
    unfold putF putD
    by_cases e : k' = x
    · subst e; rw [if_pos rfl, if_pos rfl]; exact ⟨rfl, rd, h3⟩
    · rw [if_neg e, if_neg (fun z => e (sOf_inj z))]; exact ⟨rfl, h2, FRep.put x h3 rd⟩
  | [], _ :: _, _, _, _, q, _ => q.elim
  | _ :: _, [], _, _, _, q, _ => q.elim
theorem KRep.length : ∀ {vs : List (Key × V)} {ds : List (List Nat × DV)}, KRep K S H vs ds → vs.length = ds.length
  | [], [], _ => rfl
  | (_, _) :: _, (_, _) :: _, q => congrArg (· + 1) (KRep.length q.2.2)
  | [], _ :: _, q => q.elim
  | _ :: _, [], q => q.elim
theorem CRep.go (h : HRep K S H) (g : Go S H S' H') {p p' : Addr} {c : Cell} (e : ∀ o, H p = some o → H' p' = some o) (q : CRep K S H p c) : CRep K S' H' p' c := by
  cases c with
  | lst ds => obtain ⟨vs, q, r⟩ := q; exact ⟨vs, e _ q, Reps.go h g r⟩
  | dic ds => obtain ⟨vs, q, r⟩ := q; exact ⟨vs, e _ q, KRep.go h g r⟩
  | ins C ds => obtain ⟨dx, vs, q, r⟩ := q; exact ⟨dx, vs, e _ q, FRep.go h g r⟩

/-- a new untracked address takes an object; S as it was -/
theorem Go.grow {p : Addr} {o : HO} (n : H p = none) : Go S H S (upd H p o) where
  keep := fun a u e _ => by rw [upd_ne (by intro q; subst q; rw [n] at e; cases e)]; exact e
  dom := fun _ e _ => e
theorem HRep.grow (h : HRep K S H) {p : Addr} {o : HO} (n : H p = none) : HRep K S (upd H p o) := fun q c e => by
  have hp : S p = none := h.trk n
  refine CRep.go h (Go.grow n) (fun u e2 => ?_) (h q c e)
  rw [upd_ne (by intro z; subst z; rw [hp] at e; cases e)]; exact e2
/-- a new cell -/
theorem Go.new {p : Addr} {o : HO} {c : Cell} (n : H p = none) : Go S H (put S p c) (upd H p o) where
  keep := fun a u e _ => by rw [upd_ne (by intro q; subst q; rw [n] at e; cases e)]; exact e
  dom := fun a e ne => by rw [put_ne (by intro q; subst q; exact ne n)]; exact e
theorem HRep.new (h : HRep K S H) {p : Addr} {o : HO} {c : Cell} (n : H p = none) (q : CRep K (put S p c) (upd H p o) p c) : HRep K (put S p c) (upd H p o) := fun a c' e => by
  by_cases z : a = p
  · subst z; rw [put_same] at e; cases e; exact q
  · rw [put_ne z] at e
    exact CRep.go h (Go.new n) (fun u e2 => by rw [upd_ne z]; exact e2) (h a c' e)
/-- a cell written -/
theorem Go.write {p : Addr} {o : HO} {c c' : Cell} (e : S p = some c) : Go S H (put S p c') (upd H p o) where
  keep := fun a u e2 n => by rw [upd_ne (by intro q; subst q; rw [n] at e; cases e)]; exact e2
  dom := fun a n ne => by rw [put_ne (by intro q; subst q; rw [n] at e; cases e)]; exact n
theorem HRep.write (h : HRep K S H) {p : Addr} {o : HO} {c c' : Cell} (e : S p = some c) (q : CRep K (put S p c') (upd H p o) p c') : HRep K (put S p c') (upd H p o) := fun a c2 e2 => by
  by_cases z : a = p
  · subst z; rw [put_same] at e2; cases e2; exact q
  · rw [put_ne z] at e2
    exact CRep.go h (Go.write e) (fun u e3 => by rw [upd_ne z]; exact e3) (h a c2 e2)
end

/-! ## local names -/
abbrev Env' := List (Option DV)
def ORep (K : PySem.W.Frag) (S : DH) (H : Hp) : L2.St → Env' → Prop
  | [], [] => True
  | v :: r, d :: q => (∀ x, d = some x → ∃ y, v = some y ∧ Rep K S H y x) ∧ ORep K S H r q
  | _, _ => False
section
variable {K : PySem.W.Frag} {S S' : DH} {H H' : Hp}
theorem ORep.go (h : HRep K S H) (g : Go S H S' H') : ∀ {σ : L2.St} {ρ : Env'}, ORep K S H σ ρ → ORep K S' H' σ ρ
  | [], [], _ => trivial
  | _ :: _, _ :: _, q => ⟨fun x e => let ⟨y, e1, e2⟩ := q.1 x e; ⟨y, e1, Rep.go h g e2⟩, ORep.go h g q.2⟩
  | [], _ :: _, q => q.elim
  | _ :: _, [], q => q.elim
theorem ORep.get : ∀ {σ : L2.St} {ρ : Env'} {i : Nat} {d : DV}, ORep K S H σ ρ → ρ[i]? = some (some d) → ∃ v, σ[i]? = some (some v) ∧ Rep K S H v d
  | [], [], _, _, _, e => by simp at e
  | _ :: _, _ :: _, 0, d, q, e => by
    simp at e
    obtain ⟨y, e1, e2⟩ := q.1 d e
    exact ⟨y, by simp [e1], e2⟩
  | _ :: _, _ :: _, i + 1, d, q, e => by
    obtain ⟨y, e1, e2⟩ := ORep.get (i := i) q.2 (by simpa using e)
    exact ⟨y, by simpa using e1, e2⟩
  | [], _ :: _, _, _, q, _ => q.elim
  | _ :: _, [], _, _, q, _ => q.elim
theorem ORep.set : ∀ {σ : L2.St} {ρ : Env'} (i : Nat) {v : V} {d : DV}, ORep K S H σ ρ → Rep K S H v d → ORep K S H (σ.set i (some v)) (ρ.set i (some d))
  | [], [], _, _, _, _, _ => trivial
  | _ :: _, _ :: _, 0, v, d, q, r => ⟨fun x e => by cases e; exact ⟨v, rfl, r⟩, q.2⟩
  | _ :: _, _ :: _, i + 1, v, d, q, r => ⟨q.1, ORep.set i q.2 r⟩
  | [], _ :: _, _, _, _, q, _ => q.elim
  | _ :: _, [], _, _, _, q, _ => q.elim
theorem ORep.wipe1 : ∀ {σ : L2.St} {ρ : Env'} (i : Nat), ORep K S H σ ρ → ORep K S H (σ.set i none) (ρ.set i none)
  | [], [], _, _ => trivial
  | _ :: _, _ :: _, 0, q => ⟨fun x e => (by cases e), q.2⟩
  | _ :: _, _ :: _, i + 1, q => ⟨q.1, ORep.wipe1 i q.2⟩
  | [], _ :: _, _, q => q.elim
  | _ :: _, [], _, q => q.elim
def wip (ρ : Env') : List Nat → Env'
  | [] => ρ
  | v :: vs => (wip ρ vs).set v none
theorem ORep.wipe {σ : L2.St} {ρ : Env'} (r : ORep K S H σ ρ) : ∀ vs, ORep K S H (L2.wipe σ vs) (wip ρ vs)
  | [] => r
  | v :: vs => ORep.wipe1 v (ORep.wipe r vs)
theorem ORep.start {vs : List V} {ds : List DV} (r : Reps K S H vs ds) (n : Nat) : ORep K S H (vs.map some ++ List.replicate n none) (ds.map some ++ List.replicate n none) := by
  induction vs generalizing ds with
  | nil =>
    cases r
    induction n with
    | zero => exact trivial
    | succ n ih => exact ⟨fun x e => (by cases e), ih⟩
  | cons v vs ih =>
    cases r with
    | cons a b => exact ⟨fun x e => by cases e; exact ⟨v, rfl, a⟩, ih b⟩
end

/-! ## readings -/
abbrev DK := DV → DH → Prop
abbrev WE := Env' → DH → DK → Prop
abbrev WT := Env' → DH → (Bool → DH → Prop) → Prop
abbrev WA := Env' → DH → (List DV → DH → Prop) → Prop
structure DEnds where
  nx : Env' → DH → Prop
  rt : DV → DH → Prop
  bk : Env' → DH → Prop := fun _ _ => False
  ct : Env' → DH → Prop := fun _ _ => False
abbrev WS := DEnds → Env' → DH → Prop
abbrev WG := DV → Env' → DH → (Env' → DH → Prop) → Prop
abbrev WGs := List DV → Env' → DH → (Env' → DH → Prop) → Prop

def up (K : PySem.W.Frag) (S : DH) (H : Hp) (Q' : DK) (Q : VK) : Prop := ∀ d S', Q' d S' → ∀ v H', Go S H S' H' → Rep K S' H' v d → HRep K S' H' → Q v H'
def upT (K : PySem.W.Frag) (S : DH) (H : Hp) (Q' : Bool → DH → Prop) (Q : Bool → Hp → Prop) : Prop := ∀ d S', Q' d S' → ∀ H', Go S H S' H' → HRep K S' H' → Q d H'
def upA (K : PySem.W.Frag) (S : DH) (H : Hp) (Q' : List DV → DH → Prop) (Q : List V → Hp → Prop) : Prop := ∀ d S', Q' d S' → ∀ v H', Go S H S' H' → Reps K S' H' v d → HRep K S' H' → Q v H'
def upN (K : PySem.W.Frag) (S : DH) (H : Hp) (Q' : Env' → DH → Prop) (Q : L2.St → Hp → Prop) : Prop := ∀ ρ S', Q' ρ S' → ∀ σ H', Go S H S' H' → ORep K S' H' σ ρ → HRep K S' H' → Q σ H'
structure upS (K : PySem.W.Frag) (S : DH) (H : Hp) (D' : DEnds) (D : Ends) : Prop where
  nx : upN K S H D'.nx D.nx
  rt : up K S H D'.rt D.rt
  bk : upN K S H D'.bk D.bk
  ct : upN K S H D'.ct D.ct
section
variable {K : PySem.W.Frag} {S S' : DH} {H H' : Hp}
theorem up.go {Q' : DK} {Q : VK} (u : up K S H Q' Q) (g : Go S H S' H') : up K S' H' Q' Q := fun d S2 q v H2 g2 => u d S2 q v H2 (g.trans g2)
theorem upT.go {Q' : Bool → DH → Prop} {Q : Bool → Hp → Prop} (u : upT K S H Q' Q) (g : Go S H S' H') : upT K S' H' Q' Q := fun d S2 q H2 g2 => u d S2 q H2 (g.trans g2)
theorem upA.go {Q' : List DV → DH → Prop} {Q : List V → Hp → Prop} (u : upA K S H Q' Q) (g : Go S H S' H') : upA K S' H' Q' Q := fun d S2 q v H2 g2 => u d S2 q v H2 (g.trans g2)
theorem upN.go {Q' : Env' → DH → Prop} {Q : L2.St → Hp → Prop} (u : upN K S H Q' Q) (g : Go S H S' H') : upN K S' H' Q' Q := fun d S2 q v H2 g2 => u d S2 q v H2 (g.trans g2)
theorem upS.go {D' : DEnds} {D : Ends} (u : upS K S H D' D) (g : Go S H S' H') : upS K S' H' D' D := ⟨u.nx.go g, u.rt.go g, u.bk.go g, u.ct.go g⟩
end

def lE (K : PySem.W.Frag) (w : WE) : TE := fun σ H Q => ∃ ρ S Q', ORep K S H σ ρ ∧ HRep K S H ∧ w ρ S Q' ∧ up K S H Q' Q
def lT (K : PySem.W.Frag) (w : WT) : TT := fun σ H Q => ∃ ρ S Q', ORep K S H σ ρ ∧ HRep K S H ∧ w ρ S Q' ∧ upT K S H Q' Q
def lA (K : PySem.W.Frag) (w : WA) : TA := fun σ H Q => ∃ ρ S Q', ORep K S H σ ρ ∧ HRep K S H ∧ w ρ S Q' ∧ upA K S H Q' Q
def lS (K : PySem.W.Frag) (w : WS) : TS := fun D σ H => ∃ ρ S D', ORep K S H σ ρ ∧ HRep K S H ∧ w D' ρ S ∧ upS K S H D' D
def lG (K : PySem.W.Frag) (w : WG) : TG := fun v σ H Q => ∃ d ρ S Q', Rep K S H v d ∧ ORep K S H σ ρ ∧ HRep K S H ∧ w d ρ S Q' ∧ upN K S H Q' Q
def lGs (K : PySem.W.Frag) (w : WGs) : TGs := fun v σ H Q => ∃ d ρ S Q', Reps K S H v d ∧ ORep K S H σ ρ ∧ HRep K S H ∧ w d ρ S Q' ∧ upN K S H Q' Q

def DE (X : Cx) (e : Expr) (w : WE) : Prop := PE X e (lE X.K w)
def DT (X : Cx) (e : Expr) (w : WT) : Prop := PT X e (lT X.K w)
def DW (X : Cx) (e : Expr) (w : WT) : Prop := PW X e (lT X.K w)
def DA (X : Cx) (es : List Expr) (w : WA) : Prop := PA X es (lA X.K w)
def DS (X : Cx) (st : Stmt) (w : WS) : Prop := PS X st (lS X.K w)
def DSs (X : Cx) (st : List Stmt) (w : WS) : Prop := PSs X st (lS X.K w)
def DG (X : Cx) (e : Expr) (w : WG) : Prop := PG X e (lG X.K w)
def DGs (X : Cx) (e : List Expr) (w : WGs) : Prop := PGs X e (lGs X.K w)
end DL

set_option Elab.async false
set_option linter.all false
set_option maxRecDepth 100000
namespace DL
open PySem PySem.Spec PyProof.Rows L2

def gd (b : Bool) (p : Prop) : Prop := match b with | true => p | false => False
theorem gd_iff {b : Bool} {p : Prop} : gd b p ↔ b = true ∧ p := by cases b <;> simp [gd]
def br (b : Bool) (p q : Prop) : Prop := match b with | true => p | false => q
theorem br_iff {b : Bool} {p q : Prop} : br b p q ↔ if b = true then p else q := by cases b <;> simp [br]
theorem br_split {b : Bool} {p q : Prop} (h1 : b = true → p) (h2 : b = false → q) : br b p q := by cases b; exact h2 rfl; exact h1 rfl
theorem br_t {b : Bool} {p q : Prop} (e : b = true) (h : p) : br b p q := by subst e; exact h
theorem br_f {b : Bool} {p q : Prop} (e : b = false) (h : q) : br b p q := by subst e; exact h
theorem gd_t {b : Bool} {p : Prop} (e : b = true) (h : p) : gd b p := by subst e; exact h
theorem le_line {n : Nat} (h : decide (n ≤ 16777216) = true) : n ≤ sizeLine := by rw [sizeLine_eq]; exact of_decide_eq_true h
theorem lt_line {n : Nat} (h : decide (n < 16777216) = true) : n < sizeLine := by rw [sizeLine_eq]; exact of_decide_eq_true h

/-! ## weakening of the old rules -/
section
variable {X : Cx}
theorem PE.imp {e : Expr} {t t' : TE} (h : PE X e t) (i : ∀ σ H Q, t' σ H Q → t σ H Q) : PE X e t' := ⟨fun pins s σ H Q I q => h.run pins s σ H Q I (i _ _ _ q)⟩
theorem PT.imp {e : Expr} {t t' : TT} (h : PT X e t) (i : ∀ σ H Q, t' σ H Q → t σ H Q) : PT X e t' := ⟨fun pins s σ H Q I q => h.run pins s σ H Q I (i _ _ _ q)⟩
theorem PW.imp {e : Expr} {t t' : TT} (h : PW X e t) (i : ∀ σ H Q, t' σ H Q → t σ H Q) : PW X e t' := ⟨fun wh pins s σ H Q I q => h.run wh pins s σ H Q I (i _ _ _ q)⟩
theorem PA.imp {e : List Expr} {t t' : TA} (h : PA X e t) (i : ∀ σ H Q, t' σ H Q → t σ H Q) : PA X e t' := ⟨fun pos pins s σ H Q I q => h.run pos pins s σ H Q I (i _ _ _ q)⟩
theorem PS.imp {e : Stmt} {t t' : TS} (h : PS X e t) (i : ∀ D σ H, t' D σ H → t D σ H) : PS X e t' := ⟨fun pins s σ H D I q => h.run pins s σ H D I (i _ _ _ q)⟩
theorem PSs.imp {e : List Stmt} {t t' : TS} (h : PSs X e t) (i : ∀ D σ H, t' D σ H → t D σ H) : PSs X e t' := ⟨fun pins s σ H D I q => h.run pins s σ H D I (i _ _ _ q)⟩
theorem PG.imp {e : Expr} {t t' : TG} (h : PG X e t) (i : ∀ v σ H Q, t' v σ H Q → t v σ H Q) : PG X e t' := ⟨fun pins s σ H v u Q I r q => h.run pins s σ H v u Q I r (i _ _ _ _ q)⟩
theorem PGs.imp {e : List Expr} {t t' : TGs} (h : PGs X e t) (i : ∀ v σ H Q, t' v σ H Q → t v σ H Q) : PGs X e t' := ⟨fun pins s σ H v u Q I r q => h.run pins s σ H v u Q I r (i _ _ _ _ q)⟩
theorem OpR.imp {f : Value → Value → Sem Value} {r r' : R2} (h : OpR X f r) (i : ∀ x y H Q, r' x y H Q → r x y H Q) : OpR X f r' := fun pins s σ H x y v u Q I rx ry q => h pins s σ H x y v u Q I rx ry (i _ _ _ _ q)
theorem IxR.imp {r r' : R2} (h : IxR X r) (i : ∀ x y H Q, r' x y H Q → r x y H Q) : IxR X r' := fun va sl pins s σ H x y v u Q I rx ry q z => h va sl pins s σ H x y v u Q I rx ry (i _ _ _ _ q) z
theorem CallR.imp {f : Value} {r r' : List V → Hp → VK → Prop} (h : CallR X f r) (i : ∀ xs H Q, r' xs H Q → r xs H Q) : CallR X f r' := fun pins s σ H x v Q I rx q => h pins s σ H x v Q I rx (i _ _ _ q)
theorem SlR.imp {r r' : V → Option Int → Option Int → Hp → VK → Prop} (h : SlR X r) (i : ∀ x lo hi H Q, r' x lo hi H Q → r x lo hi H Q) : SlR X r' := fun pins s σ H x v vl vu lo hi sl Q I rx hs pl pu q => h pins s σ H x v vl vu lo hi sl Q I rx hs pl pu (i _ _ _ _ _ q)
theorem MtR.imp {id : String} {r r' : V → List V → Hp → VK → Prop} (h : MtR X id r) (i : ∀ x xs H Q, r' x xs H Q → r x xs H Q) : MtR X id r' := fun pins s σ H x xs v us Q I rx rs q => h pins s σ H x xs v us Q I rx rs (i _ _ _ _ q)
theorem PE.tru {e : Expr} {t : TE} (h : PE X e t) : PE X e t := h
end

/-! ## lists by value -/
def asL (S : DH) : DV → Option (List DV)
  | .lst ds => some ds
  | .ref p => match S p with | some (.lst ds) => some ds | _ => none
  | _ => none
section
variable {K : PySem.W.Frag} {S : DH} {H : Hp}
theorem asL_rep (h : HRep K S H) : ∀ {v : V} {d : DV} {ds : List DV}, Rep K S H v d → asL S d = some ds → ∃ a vs, v = .ref a ∧ H a = some (.lst vs) ∧ Reps K S H vs ds := by
  intro v d ds r e
  cases d with
  | lst es => cases e; cases r with | lst q n r => exact ⟨_, _, rfl, q, r⟩
  | ref p =>
    cases r
    unfold asL at e
    dsimp only at e
    cases q : S p with
    | none => rw [q] at e; cases e
    | some c =>
      rw [q] at e
      cases c with
      | lst es => cases e; obtain ⟨vs, q, r⟩ := h p _ q; exact ⟨_, _, rfl, q, r⟩
      | dic es => cases e
      | ins C es => cases e
  | _ => cases e
end

/-! ## expressions -/
def gv : Env' → Nat → Option DV
  | [], _ => none
  | d :: _, 0 => d
  | _ :: r, n + 1 => gv r n
theorem gv_eq : ∀ {ρ : Env'} {i : Nat} {d : DV}, gv ρ i = some d → ρ[i]? = some (some d)
  | [], _, _, e => by cases e
  | _ :: _, 0, _, e => by simp only [gv] at e; subst e; rfl
  | _ :: r, n + 1, _, e => by simpa using gv_eq (ρ := r) e
def wVar (i : Nat) : WE := fun ρ S Q => match gv ρ i with | some d => Q d S | none => False
def wC (d : DV) : WE := fun _ S Q => Q d S
def wBin (f : DV → DV → DH → DK → Prop) (wa wb : WE) : WE := fun ρ S Q => wa ρ S fun x S1 => wb ρ S1 fun y S2 => f x y S2 Q
def wUn (f : DV → DH → DK → Prop) (wa : WE) : WE := fun ρ S Q => wa ρ S fun x S1 => f x S1 Q
def wNil : WA := fun _ S Q => Q [] S
def wCons (w : WE) (ws : WA) : WA := fun ρ S Q => w ρ S fun x S1 => ws ρ S1 fun xs S2 => Q (x :: xs) S2
def wTup (ws : WA) : WE := fun ρ S Q => ws ρ S fun ds S1 => gd (decide (ds.length ≤ 16777216)) (Q (.tup ds) S1)
def wLst (ws : WA) : WE := fun ρ S Q => ws ρ S fun ds S1 => gd (decide (ds.length ≤ 16777216)) (Q (.lst ds) S1)
def wLstM (ws : WA) : WE := fun ρ S Q => ws ρ S fun ds S1 => gd (decide (ds.length ≤ 16777216)) (∀ p, S1 p = none → Q (.ref p) (put S1 p (.lst ds)))

section
variable {X : Cx} {pos : Pos}
/-- running a part: what it tells, and what stays -/
theorem lE_bind {K : PySem.W.Frag} {w : WE} {σ : L2.St} {H : Hp} {ρ : Env'} {S : DH} {F : DK} {Q : VK} (r : ORep K S H σ ρ) (h : HRep K S H) (q : w ρ S F)
    (k : ∀ d S1 v H1, F d S1 → Go S H S1 H1 → Rep K S1 H1 v d → HRep K S1 H1 → Q v H1) : lE K w σ H Q := ⟨ρ, S, F, r, h, q, fun d S1 f v H1 g rp hr => k d S1 v H1 f g rp hr⟩
theorem lA_bind {K : PySem.W.Frag} {w : WA} {σ : L2.St} {H : Hp} {ρ : Env'} {S : DH} {F : List DV → DH → Prop} {Q : List V → Hp → Prop} (r : ORep K S H σ ρ) (h : HRep K S H) (q : w ρ S F)
    (k : ∀ d S1 v H1, F d S1 → Go S H S1 H1 → Reps K S1 H1 v d → HRep K S1 H1 → Q v H1) : lA K w σ H Q := ⟨ρ, S, F, r, h, q, fun d S1 f v H1 g rp hr => k d S1 v H1 f g rp hr⟩
theorem lT_bind {K : PySem.W.Frag} {w : WT} {σ : L2.St} {H : Hp} {ρ : Env'} {S : DH} {F : Bool → DH → Prop} {Q : Bool → Hp → Prop} (r : ORep K S H σ ρ) (h : HRep K S H) (q : w ρ S F)
    (k : ∀ d S1 H1, F d S1 → Go S H S1 H1 → HRep K S1 H1 → Q d H1) : lT K w σ H Q := ⟨ρ, S, F, r, h, q, fun d S1 f H1 g hr => k d S1 H1 f g hr⟩

theorem de_var {i : Nat} {x : Str} (hN : X.N[i]? = some x) (hv : Vis X.env.scope x) (hd : (x == ("__debug__" : Str)) = false := by decide) (hcd : (x == ("__classdict__" : Str)) = false := by decide) : DE X (.Name x pos) (wVar i) :=
  PE.imp (pe_var hN hv hd hcd) fun σ H Q ⟨ρ, S, Q', r, h, q, u⟩ => by
    unfold wVar at q
    cases e : gv ρ i with
    | none => rw [e] at q; exact q.elim
    | some d =>
      rw [e] at q
      obtain ⟨v, e1, rp⟩ := r.get (gv_eq e)
      exact ⟨v, e1, u d S q v H (Go.refl _ _) rp h⟩
theorem de_const {e : Expr} {v : V} {d : DV} (h : PE X e (tC v)) (rep : ∀ K S H, Rep K S H v d) : DE X e (wC d) :=
  PE.imp h fun σ H Q ⟨ρ, S, Q', r, h, q, u⟩ => u d S q v H (Go.refl _ _) (rep _ _ _) h
theorem de_int {i j} : DE X (.Constant (.int i) j pos) (wC (.int i)) := de_const pe_int fun _ _ _ => .int i
theorem de_bl {b j} : DE X (.Constant (.bool b) j pos) (wC (.bl b)) := de_const pe_bl fun _ _ _ => .bl b
theorem de_non {j} : DE X (.Constant .none j pos) (wC .non) := de_const pe_non fun _ _ _ => .non
theorem de_str {x : Str} {l : List Nat} {j} (e : x = sOf l) : DE X (.Constant (.str x) j pos) (wC (.str l)) := by
  subst e; exact de_const pe_str fun _ _ _ => .str l

def lOp (K : PySem.W.Frag) (f : DV → DV → DH → DK → Prop) : R2 := fun x y H Q => ∃ dx dy S Q', Rep K S H x dx ∧ Rep K S H y dy ∧ HRep K S H ∧ f dx dy S Q' ∧ up K S H Q' Q
def DOp (X : Cx) (g : Value → Value → Sem Value) (f : DV → DV → DH → DK → Prop) : Prop := OpR X g (lOp X.K f)
theorem de_bin {op : Operator} {f : DV → DV → DH → DK → Prop} {a b : Expr} {wa wb : WE} (ho : DOp X (binaryOp op) f) (ha : DE X a wa) (hb : DE X b wb) : DE X (.BinOp a op b pos) (wBin f wa wb) :=
  PE.imp (pe_op ho ha hb) fun σ H Q ⟨ρ, S, Q', r, h, q, u⟩ =>
    lE_bind r h q fun x S1 v H1 q1 g1 r1 h1 => lE_bind (r.go h g1) h1 q1 fun y S2 v2 H2 q2 g2 r2 h2 => ⟨x, y, S2, Q', r1.go h1 g2, r2, h2, q2, u.go (g1.trans g2)⟩
theorem de_cmp {op : CmpOp} {f : DV → DV → DH → DK → Prop} {a b : Expr} {wa wb : WE} (ho : DOp X (compareOp op) f) (ha : DE X a wa) (hb : DE X b wb) (hm : behindInMarks op b = false) : DE X (.Compare a [op] [b] pos) (wBin f wa wb) :=
  PE.imp (pe_cmpR ho ha hb hm) fun σ H Q ⟨ρ, S, Q', r, h, q, u⟩ =>
    lE_bind r h q fun x S1 v H1 q1 g1 r1 h1 => lE_bind (r.go h g1) h1 q1 fun y S2 v2 H2 q2 g2 r2 h2 => ⟨x, y, S2, Q', r1.go h1 g2, r2, h2, q2, u.go (g1.trans g2)⟩
/-- a comparison as a test -/
def wBinT (f : DV → DV → DH → DK → Prop) (wa wb : WE) : WT := fun ρ S Q => wa ρ S fun x S1 => wb ρ S1 fun y S2 => f x y S2 fun z S3 => match z with | .bl k => Q k S3 | _ => False
theorem dt_cmp {op : CmpOp} {f : DV → DV → DH → DK → Prop} {a b : Expr} {wa wb : WE} (ho : DOp X (compareOp op) f) (ha : DE X a wa) (hb : DE X b wb) (hm : behindInMarks op b = false) : DT X (.Compare a [op] [b] pos) (wBinT f wa wb) :=
  PT.imp (pt_cmpR ho ha hb hm) fun σ H Q ⟨ρ, S, Q', r, h, q, u⟩ =>
    lE_bind r h q fun x S1 v H1 q1 g1 r1 h1 => lE_bind (r.go h g1) h1 q1 fun y S2 v2 H2 q2 g2 r2 h2 => ⟨x, y, S2, _, r1.go h1 g2, r2, h2, q2, fun z S3 q3 v3 H3 g3 r3 h3 => by
      cases z with
      | bl k => cases r3; exact ⟨k, rfl, u k S3 q3 H3 ((g1.trans g2).trans g3) h3⟩
      | _ => exact q3.elim⟩
/-- a < b < c -/
def wChain (f f' : DV → DV → DH → DK → Prop) (wa wb wc : WE) : WE := fun ρ S Q => wa ρ S fun x S1 => wb ρ S1 fun y S2 => f x y S2 fun z S3 => match z with
  | .bl k => br k (wc ρ S3 fun z2 S4 => f' y z2 S4 Q) (Q (.bl false) S3)
  | _ => False
def wChainT (f f' : DV → DV → DH → DK → Prop) (wa wb wc : WE) : WT := fun ρ S Q => wa ρ S fun x S1 => wb ρ S1 fun y S2 => f x y S2 fun z S3 => match z with
  | .bl k => br k (wc ρ S3 fun z2 S4 => f' y z2 S4 fun z3 S5 => match z3 with | .bl k => Q k S5 | _ => False) (Q false S3)
  | _ => False
end
end DL

set_option Elab.async false
set_option linter.all false
set_option maxRecDepth 100000
namespace DL
open PySem PySem.Spec PyProof.Rows L2

/-! ## equality of data -/
mutual
def toP : DV → Option PyData
  | .non => some .none
  | .bl b => some (.bool b)
  | .int i => some (.int i)
  | .str x => some (.str (sOf x))
  | .tup ds => (toPs ds).map .tuple
  | .lst ds => (toPs ds).map .list
  | .scr _ => none
  | .ref _ => none
  | .ty _ => none
def toPs : List DV → Option (List PyData)
  | [] => some []
  | d :: ds => match toP d, toPs ds with
    | some p, some q => some (p :: q)
    | _, _ => none
end
section
variable {K : PySem.W.Frag} {S : DH} {H : Hp}
mutual
theorem toP_dp : ∀ {d : DV} {p : PyData} {v : V}, toP d = some p → Rep K S H v d → Dp K H v p
  | .non, p, v, e, r => by cases r; simp only [toP] at e; cases e; exact .non
  | .bl b, p, v, e, r => by cases r; simp only [toP] at e; cases e; exact .bl b
  | .int i, p, v, e, r => by cases r; simp only [toP] at e; cases e; exact .int i
  | .str x, p, v, e, r => by cases r; simp only [toP] at e; cases e; exact .str _
  | .tup ds, p, v, e, r => by
    cases r with
    | tup q rs =>
      simp only [toP] at e
      cases h : toPs ds with
      | none => rw [h] at e; cases e
      | some ps => rw [h] at e; cases e; exact .tup q (toPs_dp h rs)
  | .lst ds, p, v, e, r => by
    cases r with
    | lst q n rs =>
      simp only [toP] at e
      cases h : toPs ds with
      | none => rw [h] at e; cases e
      | some ps => rw [h] at e; cases e; exact .lst (.of q) (toPs_dp h rs)
  | .scr _, p, v, e, r => by simp only [toP] at e; cases e
  | .ref _, p, v, e, r => by simp only [toP] at e; cases e
  | .ty _, p, v, e, r => by simp only [toP] at e; cases e
theorem toPs_dp : ∀ {ds : List DV} {ps : List PyData} {vs : List V}, toPs ds = some ps → Reps K S H vs ds → DpAll K H vs ps
  | [], ps, vs, e, r => by cases r; simp only [toPs] at e; cases e; exact .nil
  | d :: ds, ps, vs, e, r => by
    cases r with
    | cons r rs =>
      simp only [toPs] at e
      cases h1 : toP d with
      | none => rw [h1] at e; simp at e
      | some p =>
        cases h2 : toPs ds with
        | none => rw [h1, h2] at e; simp at e
        | some q => rw [h1, h2] at e; simp at e; subst e; exact .cons (toP_dp h1 r) (toPs_dp h2 rs)
end
end
/-- a list in the store as a list by value -/
def res (S : DH) (d : DV) : DV := match asL S d with | some ds => .lst ds | none => d
def okE (d : DV) : Bool := match toP d with | some p => SeqAt.shaped p | none => false
def deqv (x y : DV) : Bool := match toP x, toP y with | some p, some q => PyData.eqv p q | _, _ => false
section
variable {K : PySem.W.Frag} {S : DH} {H : Hp}
theorem res_dp (h : HRep K S H) {v : V} {d : DV} {p : PyData} (r : Rep K S H v d) (e : toP (res S d) = some p) : Dp K H v p := by
  unfold res at e
  cases q : asL S d with
  | none => rw [q] at e; exact toP_dp e r
  | some ds =>
    rw [q] at e
    obtain ⟨a, vs, rfl, ha, rs⟩ := asL_rep h r q
    simp only [toP] at e
    cases h2 : toPs ds with
    | none => rw [h2] at e; cases e
    | some ps => rw [h2] at e; cases e; exact .lst (.of ha) (toPs_dp h2 rs)
theorem okE_some {d : DV} (h : okE d = true) : ∃ p, toP d = some p ∧ SeqAt.shaped p = true := by
  unfold okE at h
  cases e : toP d with
  | none => rw [e] at h; cases h
  | some p => rw [e] at h; exact ⟨p, rfl, h⟩
end
def dEqG (neg : Bool) (x y : DV) (S : DH) (Q : DK) : Prop := gd (okE (res S x) && okE (res S y)) (Q (.bl (neg ^^ deqv (res S x) (res S y))) S)
def dEq (x y : DV) (S : DH) (Q : DK) : Prop := match x, y with
  | .int i, .int j => Q (.bl (decide (i = j))) S
  | .str i, .str j => Q (.bl (decide (i = j))) S
  | x, y => dEqG false x y S Q
def dNe (x y : DV) (S : DH) (Q : DK) : Prop := match x, y with
  | .int i, .int j => Q (.bl (!decide (i = j))) S
  | .str i, .str j => Q (.bl (!decide (i = j))) S
  | x, y => dEqG true x y S Q
theorem sOf_eq {a b : List Nat} : decide (V.str (sOf a) = V.str (sOf b)) = decide (a = b) := by
  by_cases h : a = b
  · subst h; simp
  · rw [decide_eq_false h, decide_eq_false]
    intro q; exact h (sOf_inj (V.str.inj q))
theorem int_eq {i j : Int} : decide (V.int i = V.int j) = decide (i = j) := by
  by_cases h : i = j
  · subst h; simp
  · rw [decide_eq_false h, decide_eq_false]
    intro q; exact h (V.int.inj q)
section
variable {X : Cx}
theorem dop_eq (hu : X.A.units + 64 < cLine) : DOp X (compareOp .Eq) dEq := by
  refine OpR.imp (op_eq.or (op_eqD hu)) fun x y H Q ⟨dx, dy, S, Q', rx, ry, h, q, u⟩ => ?_
  have gen : dEqG false dx dy S Q' → rEq x y H Q ∨ rEqD X.K x y H Q := fun q => by
    obtain ⟨e, q⟩ := gd_iff.mp q
    obtain ⟨e1, e2⟩ := Bool.and_eq_true_iff.mp e
    obtain ⟨p1, f1, s1⟩ := okE_some e1
    obtain ⟨p2, f2, s2⟩ := okE_some e2
    refine .inr ⟨p1, p2, res_dp h rx f1, res_dp h ry f2, s1, s2, u _ S q _ H (Go.refl _ _) ?_ h⟩
    rw [show (false ^^ deqv (res S dx) (res S dy)) = PyData.eqv p1 p2 by simp only [deqv, f1, f2, Bool.false_xor]]
    exact .bl _
  unfold dEq at q
  split at q
  · cases rx; cases ry
    exact .inl ⟨rfl, u _ S q _ H (Go.refl _ _) (by rw [int_eq]; exact .bl _) h⟩
  · cases rx; cases ry
    exact .inl ⟨rfl, u _ S q _ H (Go.refl _ _) (by rw [sOf_eq]; exact .bl _) h⟩
  · exact gen q
theorem dop_ne (hu : X.A.units + 64 < cLine) : DOp X (compareOp .NotEq) dNe := by
  refine OpR.imp (op_ne.or (op_neD hu)) fun x y H Q ⟨dx, dy, S, Q', rx, ry, h, q, u⟩ => ?_
  have gen : dEqG true dx dy S Q' → rNe x y H Q ∨ rNeD X.K x y H Q := fun q => by
    obtain ⟨e, q⟩ := gd_iff.mp q
    obtain ⟨e1, e2⟩ := Bool.and_eq_true_iff.mp e
    obtain ⟨p1, f1, s1⟩ := okE_some e1
    obtain ⟨p2, f2, s2⟩ := okE_some e2
    refine .inr ⟨p1, p2, res_dp h rx f1, res_dp h ry f2, s1, s2, u _ S q _ H (Go.refl _ _) ?_ h⟩
    rw [show (true ^^ deqv (res S dx) (res S dy)) = !PyData.eqv p1 p2 by simp only [deqv, f1, f2, Bool.true_xor]]
    exact .bl _
  unfold dNe at q
  split at q
  · cases rx; cases ry
    exact .inl ⟨rfl, u _ S q _ H (Go.refl _ _) (by rw [int_eq]; exact .bl _) h⟩
  · cases rx; cases ry
    exact .inl ⟨rfl, u _ S q _ H (Go.refl _ _) (by rw [sOf_eq]; exact .bl _) h⟩
  · exact gen q

/-! ## arithmetic -/
/-- comparisons of whole numbers that may be reckoned by heart -/
def ltI : Int → Int → Bool
  | .ofNat a, .ofNat b => Nat.blt a b
  | .ofNat _, .negSucc _ => false
  | .negSucc _, .ofNat _ => true
  | .negSucc a, .negSucc b => Nat.blt b a
def leI (i j : Int) : Bool := match ltI j i with | true => false | false => true
theorem ltI_eq (i j : Int) : ltI i j = decide (i < j) := by
  have key : ltI i j = true ↔ i < j := by
    cases i <;> cases j <;> simp [ltI, Nat.blt_eq] <;> omega
  cases h : ltI i j with
  | true => exact (decide_eq_true (key.mp h)).symm
  | false => exact (decide_eq_false fun q => by rw [key.mpr q] at h; cases h).symm
theorem leI_eq (i j : Int) : leI i j = decide (i ≤ j) := by
  unfold leI
  rw [ltI_eq]
  by_cases h : j < i
  · rw [decide_eq_true h, decide_eq_false (by omega)]
  · rw [decide_eq_false h, decide_eq_true (by omega)]
theorem ltI_iff {i j : Int} : ltI i j = true ↔ i < j := by rw [ltI_eq]; simp
theorem leI_iff {i j : Int} : leI i j = true ↔ i ≤ j := by rw [leI_eq]; simp
theorem ltI_f {i j : Int} : ltI i j = false ↔ j ≤ i := by rw [ltI_eq]; simp
theorem leI_f {i j : Int} : leI i j = false ↔ j < i := by rw [leI_eq]; simp
def dInt (g : Int → Int → DV) (x y : DV) (S : DH) (Q : DK) : Prop := match x, y with
  | .int i, .int j => Q (g i j) S
  | _, _ => False
def dIntC (c : Int → Int → Bool) (g : Int → Int → DV) (x y : DV) (S : DH) (Q : DK) : Prop := match x, y with
  | .int i, .int j => gd (c i j) (Q (g i j) S)
  | _, _ => False
theorem dop_int {f : Value → Value → Sem Value} {g : Int → Int → V} {g' : Int → Int → DV} (ho : OpR X f (rI0 g)) (rg : ∀ i j K S H, Rep K S H (g i j) (g' i j)) : DOp X f (dInt g') := by
  refine OpR.imp ho fun x y H Q ⟨dx, dy, S, Q', rx, ry, h, q, u⟩ => ?_
  unfold dInt at q
  split at q
  · cases rx; cases ry
    exact ⟨_, _, rfl, rfl, u _ S q _ H (Go.refl _ _) (rg _ _ _ _ _) h⟩
  · exact q.elim
theorem dop_intC {f : Value → Value → Sem Value} {C : Int → Int → Prop} {c : Int → Int → Bool} {g : Int → Int → V} {g' : Int → Int → DV} (ho : OpR X f (rI C g)) (hc : ∀ i j, c i j = true → C i j) (rg : ∀ i j K S H, Rep K S H (g i j) (g' i j)) : DOp X f (dIntC c g') := by
  refine OpR.imp ho fun x y H Q ⟨dx, dy, S, Q', rx, ry, h, q, u⟩ => ?_
  unfold dIntC at q
  split at q
  · cases rx; cases ry
    obtain ⟨e, q⟩ := gd_iff.mp q
    exact ⟨_, _, rfl, rfl, hc _ _ e, u _ S q _ H (Go.refl _ _) (rg _ _ _ _ _) h⟩
  · exact q.elim
def dSub := dInt fun i j => .int (i - j)
def dMulC (i j : Int) : Bool := (ltI (-18446744073709551616) i && ltI i 18446744073709551616) || (ltI (-18446744073709551616) j && ltI j 18446744073709551616)
def dMul := dIntC dMulC fun i j => .int (i * j)
def dMod := dIntC (fun _ j => ltI 0 j) fun i j => .int (i % j)
def dDiv := dIntC (fun _ j => ltI 0 j && ltI j 1073741824) fun i j => .int (i / j)
def dShr := dIntC (fun _ j => leI 0 j) fun i j => .int (i / 2 ^ j.toNat)
def dPow := dIntC (fun i j => leI 0 j && leI j 1000000 && Nat.blt i.natAbs 18446744073709551616) fun i j => .int (i ^ j.toNat)
def dLt := dInt fun i j => .bl (ltI i j)
def dLe := dInt fun i j => .bl (leI i j)
def dGt := dInt fun i j => .bl (ltI j i)
def dGe := dInt fun i j => .bl (leI j i)
theorem dop_sub : DOp X (binaryOp .Sub) dSub := dop_int op_sub fun _ _ _ _ _ => .int _
theorem dop_mul : DOp X (binaryOp .Mult) dMul := dop_intC op_mul (fun i j h => by
  unfold dMulC at h
  simp only [Bool.or_eq_true, Bool.and_eq_true, ltI_iff] at h
  unfold CMul
  omega) fun _ _ _ _ _ => .int _
theorem dop_mod : DOp X (binaryOp .Mod) dMod := dop_intC op_mod (fun i j h => ltI_iff.mp h) fun _ _ _ _ _ => .int _
theorem dop_div : DOp X (binaryOp .FloorDiv) dDiv := dop_intC op_fdiv (fun i j h => by simp only [Bool.and_eq_true, ltI_iff] at h; exact h) fun _ _ _ _ _ => .int _
theorem dop_shr : DOp X (binaryOp .RShift) dShr := dop_intC op_shr (fun i j h => leI_iff.mp h) fun _ _ _ _ _ => .int _
theorem dop_pow : DOp X (binaryOp .Pow) dPow := dop_intC op_pow (fun i j h => by
  simp only [Bool.and_eq_true, leI_iff, Nat.blt_eq] at h
  unfold CPow; omega) fun _ _ _ _ _ => .int _
theorem dop_lt : DOp X (compareOp .Lt) dLt := dop_int op_lt fun _ _ _ _ _ => by rw [ltI_eq]; exact .bl _
theorem dop_le : DOp X (compareOp .LtE) dLe := dop_int op_le fun _ _ _ _ _ => by rw [leI_eq]; exact .bl _
theorem dop_gt : DOp X (compareOp .Gt) dGt := dop_int op_gt fun _ _ _ _ _ => by rw [ltI_eq]; exact .bl _
theorem dop_ge : DOp X (compareOp .GtE) dGe := dop_int op_ge fun _ _ _ _ _ => by rw [leI_eq]; exact .bl _
def dNeg (x : DV) (S : DH) (Q : DK) : Prop := match x with | .int i => Q (.int (-i)) S | _ => False
theorem de_neg {a : Expr} {pos : Pos} {wa : WE} (ha : DE X a wa) : DE X (.UnaryOp .USub a pos) (wUn dNeg wa) :=
  PE.imp (pe_un un_neg ha) fun σ H Q ⟨ρ, S, Q', r, h, q, u⟩ => lE_bind r h q fun x S1 v H1 q1 g1 r1 h1 => by
    cases x with
    | int i => cases r1; exact ⟨i, rfl, u _ S1 q1 _ H1 g1 (.int _) h1⟩
    | _ => exact q1.elim
/-! ## + -/
def dAddL (x y : DV) (S : DH) (Q : DK) : Prop := match asL S x, asL S y with
  | some a, some b => gd (decide (a.length + b.length ≤ 16777216)) (Q (.lst (a ++ b)) S)
  | _, _ => False
def dAdd (x y : DV) (S : DH) (Q : DK) : Prop := match x, y with
  | .int i, .int j => Q (.int (i + j)) S
  | .str a, .str b => gd (decide (a.length + b.length ≤ 16777216)) (Q (.str (a ++ b)) S)
  | .tup a, .tup b => gd (decide (a.length + b.length ≤ 16777216)) (Q (.tup (a ++ b)) S)
  | x, y => dAddL x y S Q
theorem sOf_app (a b : List Nat) : sOf a ++ sOf b = sOf (a ++ b) := by
  apply PySem.Str.ext'
  show (a.toArray ++ b.toArray) = (a ++ b).toArray
  simp
theorem sOf_len (a : List Nat) : (sOf a).length = a.length := by simp [sOf, PySem.Str.length]
theorem dop_add : DOp X (binaryOp .Add) dAdd := by
  refine OpR.imp (op_add.or (op_add_str.or (op_catA.or op_cat))) fun x y H Q ⟨dx, dy, S, Q', rx, ry, h, q, u⟩ => ?_
  unfold dAdd at q
  split at q
  · cases rx; cases ry
    exact .inl ⟨_, _, rfl, rfl, u _ S q _ H (Go.refl _ _) (.int _) h⟩
  · cases rx; cases ry
    obtain ⟨e, q⟩ := gd_iff.mp q
    refine .inr (.inl ⟨_, _, rfl, rfl, ?_, ?_⟩)
    · rw [sOf_len, sOf_len]; exact le_line e
    · rw [sOf_app]; exact u _ S q _ H (Go.refl _ _) (.str _) h
  · obtain ⟨e, q⟩ := gd_iff.mp q
    cases rx with
    | tup qx rsx =>
      cases ry with
      | tup qy rsy =>
        refine .inr (.inr (.inl ⟨_, _, _, _, rfl, rfl, qx, qy, ?_, fun e0 => ?_, fun n0 e0 => ?_, fun n0 n1 p np => ?_⟩))
        · rw [rsx.length, rsy.length]; exact le_line e
        · subst e0; cases rsx; exact u _ S q _ H (Go.refl _ _) (.tup qy rsy) h
        · subst e0; cases rsy
          refine u _ S q _ H (Go.refl _ _) ?_ h
          rw [List.append_nil]; exact .tup qx rsx
        · refine u _ S q _ _ (Go.grow np) ?_ (h.grow np)
          exact .tup (.of upd_same) ((rsx.go h (Go.grow np)).append (rsy.go h (Go.grow np)))
  · unfold dAddL at q
    cases e1 : asL S dx with
    | none => rw [e1] at q; exact q.elim
    | some a =>
      cases e2 : asL S dy with
      | none => rw [e1, e2] at q; exact q.elim
      | some b =>
        rw [e1, e2] at q
        obtain ⟨e, q⟩ := gd_iff.mp q
        obtain ⟨l, vs, rfl, hl, rs⟩ := asL_rep h rx e1
        obtain ⟨l2, vs2, rfl, hl2, rs2⟩ := asL_rep h ry e2
        refine .inr (.inr (.inr ⟨l, l2, vs, vs2, rfl, rfl, hl, hl2, ?_, fun p np => ?_⟩))
        · rw [rs.length, rs2.length]; exact le_line e
        · exact u _ S q _ _ (Go.grow np) (.lst upd_same (h.trk np) ((rs.go h (Go.grow np)).append (rs2.go h (Go.grow np)))) (h.grow np)
/-! ## is None -/
def isNon : DV → Bool | .non => true | _ => false
def dIsN (x _ : DV) (S : DH) (Q : DK) : Prop := Q (.bl (isNon x)) S
def dNotN (x _ : DV) (S : DH) (Q : DK) : Prop := Q (.bl (!isNon x)) S
theorem rep_non {K : PySem.W.Frag} {S : DH} {H : Hp} {v : V} {d : DV} (r : Rep K S H v d) : decide (v = .non) = isNon d := by
  cases r <;> simp [isNon]
theorem de_isN {a : Expr} {wa : WE} {pos pos' : Pos} {j} (ha : DE X a wa) : DE X (.Compare a [.Is] [.Constant .none j pos'] pos) (wUn (fun x S Q => Q (.bl (isNon x)) S) wa) :=
  PE.imp (pe_cmp (pc_isN ha) rfl) fun σ H Q ⟨ρ, S, Q', r, h, q, u⟩ => lE_bind r h q fun x S1 v H1 q1 g1 r1 h1 => u _ S1 q1 _ H1 g1 (by rw [rep_non r1]; exact .bl _) h1
theorem de_notN {a : Expr} {wa : WE} {pos pos' : Pos} {j} (ha : DE X a wa) : DE X (.Compare a [.IsNot] [.Constant .none j pos'] pos) (wUn (fun x S Q => Q (.bl (!isNon x)) S) wa) :=
  PE.imp (pe_cmp (pc_notN ha) rfl) fun σ H Q ⟨ρ, S, Q', r, h, q, u⟩ => lE_bind r h q fun x S1 v H1 q1 g1 r1 h1 => u _ S1 q1 _ H1 g1 (by rw [rep_non r1]; exact .bl _) h1
/-! ## chains -/
theorem de_chain {op op' : CmpOp} {f f' : DV → DV → DH → DK → Prop} {a b c : Expr} {wa wb wc : WE} {pos : Pos} (ho : DOp X (compareOp op) f) (ho' : DOp X (compareOp op') f') (ha : DE X a wa) (hb : DE X b wb) (hc : DE X c wc)
    (hm : lastMarks [op, op'] [b, c] = false := by with_unfolding_all rfl) : DE X (.Compare a [op, op'] [b, c] pos) (wChain f f' wa wb wc) :=
  PE.imp (pe_chain ho ho' ha hb hc hm) fun σ H Q ⟨ρ, S, Q', r, h, q, u⟩ =>
    lE_bind r h q fun x S1 v H1 q1 g1 r1 h1 => lE_bind (r.go h g1) h1 q1 fun y S2 v2 H2 q2 g2 r2 h2 => ⟨x, y, S2, _, r1.go h1 g2, r2, h2, q2, fun z S3 q3 v3 H3 g3 r3 h3 => by
      cases z with
      | bl k =>
        cases r3
        refine ⟨k, rfl, ?_⟩
        have q3 := br_iff.mp q3
        cases k with
        | true =>
          rw [if_pos rfl] at q3 ⊢
          exact lE_bind (r.go h ((g1.trans g2).trans g3)) h3 q3 fun z2 S4 v4 H4 q4 g4 r4 h4 => ⟨y, z2, S4, Q', (r2.go h2 g3).go h3 g4, r4, h4, q4, u.go (((g1.trans g2).trans g3).trans g4)⟩
        | false =>
          rw [if_neg Bool.false_ne_true] at q3 ⊢
          exact u _ S3 q3 _ H3 ((g1.trans g2).trans g3) (.bl _) h3
      | _ => exact q3.elim⟩
theorem dt_chain {op op' : CmpOp} {f f' : DV → DV → DH → DK → Prop} {a b c : Expr} {wa wb wc : WE} {pos : Pos} (ho : DOp X (compareOp op) f) (ho' : DOp X (compareOp op') f') (ha : DE X a wa) (hb : DE X b wb) (hc : DE X c wc)
    (hm : lastMarks [op, op'] [b, c] = false := by with_unfolding_all rfl) : DT X (.Compare a [op, op'] [b, c] pos) (wChainT f f' wa wb wc) :=
  PT.imp (pt_chain ho ho' ha hb hc hm) fun σ H Q ⟨ρ, S, Q', r, h, q, u⟩ =>
    lE_bind r h q fun x S1 v H1 q1 g1 r1 h1 => lE_bind (r.go h g1) h1 q1 fun y S2 v2 H2 q2 g2 r2 h2 => ⟨x, y, S2, _, r1.go h1 g2, r2, h2, q2, fun z S3 q3 v3 H3 g3 r3 h3 => by
      cases z with
      | bl k =>
        cases r3
        refine ⟨k, rfl, ?_⟩
        have q3 := br_iff.mp q3
        cases k with
        | true =>
          rw [if_pos rfl] at q3 ⊢
          refine lE_bind (r.go h ((g1.trans g2).trans g3)) h3 q3 fun z2 S4 v4 H4 q4 g4 r4 h4 => ⟨y, z2, S4, _, (r2.go h2 g3).go h3 g4, r4, h4, q4, fun z5 S5 q5 v5 H5 g5 r5 h5 => ?_⟩
          cases z5 with
          | bl k5 => cases r5; exact ⟨k5, rfl, u _ S5 q5 H5 ((((g1.trans g2).trans g3).trans g4).trans g5) h5⟩
          | _ => exact q5.elim
        | false =>
          rw [if_neg Bool.false_ne_true] at q3 ⊢
          exact ⟨false, rfl, u _ S3 q3 H3 ((g1.trans g2).trans g3) h3⟩
      | _ => exact q3.elim⟩
end
end DL

set_option Elab.async false
set_option linter.all false
set_option maxRecDepth 100000
namespace DL
open PySem PySem.Spec PyProof.Rows L2

/-! ## dicts in the store -/
theorem KRep.val {K : PySem.W.Frag} {S : DH} {H : Hp} : ∀ {vs : List (Key × V)} {ds : List (List Nat × DV)} (x : List Nat), KRep K S H vs ds → match ds.lookup x with
    | some d => ∃ v, valV vs (.inr (sOf x)) = some v ∧ Rep K S H v d
    | none => valV vs (.inr (sOf x)) = none
  | [], [], _, _ => rfl
  | (k, v) :: r, (y, d) :: q, x, h => by
    obtain ⟨h1, h2, h3⟩ := h
    subst h1
    rw [List.lookup_cons]
    cases hx : (x == y) with
    | true =>
      have e : x = y := by simpa using hx
      subst e
      exact ⟨v, valV_pos rfl, h2⟩
    | false =>
      have ne : ¬ ((Sum.inr (sOf y) : Key) = Sum.inr (sOf x)) := fun z => by
        have := sOf_inj (Sum.inr.inj z)
        subst this; simp at hx
      have ih := KRep.val x h3
      rw [show valV ((Sum.inr (sOf y), v) :: r) (Sum.inr (sOf x)) = valV r (Sum.inr (sOf x)) from valV_neg ne]
      exact ih
  | [], _ :: _, _, q => q.elim
  | _ :: _, [], _, q => q.elim

/-! ## x in y -/
def dInG (neg : Bool) (x y : DV) (S : DH) (Q : DK) : Prop := match y with
  | .tup ds => gd (okE x && okE (.tup ds)) (Q (.bl (neg ^^ ds.any fun z => deqv z x)) S)
  | .str b => match x with
    | .str [c] => Q (.bl (neg ^^ decide (c ∈ b))) S
    | _ => False
  | y => match asL S y with
    | some ds => gd (okE x && okE (.lst ds)) (Q (.bl (neg ^^ ds.any fun z => deqv z x)) S)
    | none => match y with
      | .ref p => match S p with
        | some (.dic kvs) => match x with
          | .str k => Q (.bl (neg ^^ (kvs.lookup k).isSome)) S
          | _ => False
        | _ => False
      | _ => False
def dIn := dInG false
def dNotIn := dInG true
theorem any_deqv {x : DV} {p : PyData} (e : toP x = some p) : ∀ {ds : List DV} {ps : List PyData}, toPs ds = some ps → (ps.any fun z => PyData.eqv z p) = ds.any fun z => deqv z x
  | [], ps, h => by simp only [toPs] at h; cases h; rfl
  | d :: ds, ps, h => by
    simp only [toPs] at h
    cases h1 : toP d with
    | none => rw [h1] at h; simp at h
    | some p1 =>
      cases h2 : toPs ds with
      | none => rw [h1, h2] at h; simp at h
      | some q =>
        rw [h1, h2] at h; simp at h; subst h
        rw [List.any_cons, List.any_cons, any_deqv e h2]
        simp only [deqv, h1, e]
section
variable {X : Cx}
def rInT (K : PySem.W.Frag) (neg : Bool) : R2 := fun x y H Q => ∃ d ds, Dp K H x d ∧ Dp K H y (.tuple ds) ∧ SeqAt.shaped d = true ∧ SeqAt.shaped (.tuple ds) = true ∧ Q (.bl (neg ^^ ds.any fun z => PyData.eqv z d)) H
theorem op_inT (hu : X.A.units + 70 < cLine) : OpR X (compareOp .In) (rInT X.K false) := by
  intro pins s σ H x y v u Q I rx ry h
  obtain ⟨d, ds, hd, he, sd, se, q⟩ := h
  obtain ⟨as, r1⟩ := Dp.reads I d x v hd rx
  obtain ⟨bs, r2⟩ := Dp.reads I (.tuple ds) y u he ry
  have c1 := SeqAt.canLay_of_shaped se
  have c2 := SeqAt.depth_of_shaped sd
  refine SeqAt.in_tuple_reads r2 r1 (by simpa [PyData.canLay0] using c1) (SeqAt.canLay_of_shaped sd) ?_ ⟨.bl _, H, I, rfl, by simpa using q⟩
  have := Nat.min_le_right (PyData.depthAll ds) d.depth
  omega
theorem op_notInT (hu : X.A.units + 70 < cLine) : OpR X (compareOp .NotIn) (rInT X.K true) := by
  intro pins s σ H x y v u Q I rx ry h
  obtain ⟨d, ds, hd, he, sd, se, q⟩ := h
  obtain ⟨as, r1⟩ := Dp.reads I d x v hd rx
  obtain ⟨bs, r2⟩ := Dp.reads I (.tuple ds) y u he ry
  have c1 := SeqAt.canLay_of_shaped se
  have c2 := SeqAt.depth_of_shaped sd
  refine SeqAt.notIn_tuple_reads r2 r1 (by simpa [PyData.canLay0] using c1) (SeqAt.canLay_of_shaped sd) ?_ ⟨.bl _, H, I, rfl, by simpa using q⟩
  have := Nat.min_le_right (PyData.depthAll ds) d.depth
  omega
theorem op_din (hu : X.A.units + 70 < cLine) : OpR X (compareOp .In) (fun y x H Q => ∃ a o, x = .ref a ∧ DGet H a y o ∧ Q (.bl o.isSome) H) := by
  intro pins s σ H y x u v Q I ry rx h
  obtain ⟨a, o, rfl, g, q⟩ := h
  cases rx
  exact d_in (by omega) I g ry fun s' I' => ⟨.bl _, H, I', rfl, q⟩
theorem op_dnotIn (hu : X.A.units + 70 < cLine) : OpR X (compareOp .NotIn) (fun y x H Q => ∃ a o, x = .ref a ∧ DGet H a y o ∧ Q (.bl (!o.isSome)) H) := by
  intro pins s σ H y x u v Q I ry rx h
  obtain ⟨a, o, rfl, g, q⟩ := h
  cases rx
  exact d_notIn (by omega) I g ry fun s' I' => ⟨.bl _, H, I', rfl, q⟩

theorem inG_cases {neg : Bool} {K : PySem.W.Frag} {dx dy : DV} {S : DH} {Q' : DK} {H : Hp} {x y : V} (rx : Rep K S H x dx) (ry : Rep K S H y dy) (h : HRep K S H) (q : dInG neg dx dy S Q') :
    (∃ d ds, Dp K H x d ∧ Dp K H y (.tuple ds) ∧ SeqAt.shaped d = true ∧ SeqAt.shaped (.tuple ds) = true ∧ Q' (.bl (neg ^^ ds.any fun z => PyData.eqv z d)) S) ∨
    (∃ d ds, Dp K H x d ∧ Dp K H y (.list ds) ∧ SeqAt.shaped d = true ∧ SeqAt.shaped (.list ds) = true ∧ Q' (.bl (neg ^^ ds.any fun z => PyData.eqv z d)) S) ∨
    (∃ (c : Nat) (z : Str), x = .str ⟨#[c]⟩ ∧ y = .str z ∧ Q' (.bl (neg ^^ decide (c ∈ z.cps.toList))) S) ∨
    (∃ a o, y = .ref a ∧ DGet H a x o ∧ Q' (.bl (neg ^^ o.isSome)) S) := by
  have lists : ∀ ds, asL S dy = some ds → gd (okE dx && okE (.lst ds)) (Q' (.bl (neg ^^ ds.any fun z => deqv z dx)) S) → ∃ d es, Dp K H x d ∧ Dp K H y (.list es) ∧ SeqAt.shaped d = true ∧ SeqAt.shaped (.list es) = true ∧ Q' (.bl (neg ^^ es.any fun z => PyData.eqv z d)) S := fun ds e q => by
    obtain ⟨e0, q⟩ := gd_iff.mp q
    obtain ⟨e1, e2⟩ := Bool.and_eq_true_iff.mp e0
    obtain ⟨p1, f1, s1⟩ := okE_some e1
    obtain ⟨p2, f2, s2⟩ := okE_some e2
    simp only [toP] at f2
    cases h2 : toPs ds with
    | none => rw [h2] at f2; cases f2
    | some ps =>
      rw [h2] at f2; cases f2
      obtain ⟨a, vs, rfl, ha, rs⟩ := asL_rep h ry e
      exact ⟨p1, ps, toP_dp f1 rx, .lst (.of ha) (toPs_dp h2 rs), s1, s2, by rw [any_deqv f1 h2]; exact q⟩
  unfold dInG at q
  split at q
  · rename_i ds
    obtain ⟨e0, q⟩ := gd_iff.mp q
    obtain ⟨e1, e2⟩ := Bool.and_eq_true_iff.mp e0
    obtain ⟨p1, f1, s1⟩ := okE_some e1
    obtain ⟨p2, f2, s2⟩ := okE_some e2
    have f3 := f2
    simp only [toP] at f3
    cases h2 : toPs ds with
    | none => rw [h2] at f3; cases f3
    | some ps =>
      rw [h2] at f3; cases f3
      exact .inl ⟨p1, ps, toP_dp f1 rx, toP_dp f2 ry, s1, s2, by rw [any_deqv f1 h2]; exact q⟩
  · split at q
    · cases rx; cases ry
      exact .inr (.inr (.inl ⟨_, _, rfl, rfl, q⟩))
    · exact q.elim
  · split at q
    · rename_i ds e
      exact .inr (.inl (lists ds e q))
    · split at q
      · rename_i p _ _ _
        split at q
        · rename_i kvs e
          split at q
          · cases rx; cases ry
            obtain ⟨ks, hk, rk⟩ := h _ _ e
            rename_i k
            have z := KRep.val k rk
            refine .inr (.inr (.inr ⟨_, valV ks (.inr (sOf k)), rfl, DGet.k (k := Sum.inr (sOf k)) hk, ?_⟩))
            cases e3 : kvs.lookup k with
            | none => rw [e3] at z q; simp only at z; rw [z]; exact q
            | some d => rw [e3] at z q; simp only at z; obtain ⟨v, z, _⟩ := z; rw [z]; exact q
          · exact q.elim
        · exact q.elim
      · exact q.elim
theorem dop_in (hu : X.A.units + 70 < cLine) : DOp X (compareOp .In) dIn := by
  refine OpR.imp ((op_inT hu).or ((op_inD (by omega)).or (op_in_sign.or (op_din hu)))) fun x y H Q ⟨dx, dy, S, Q', rx, ry, h, q, u⟩ => ?_
  rcases inG_cases rx ry h q with ⟨d, ds, h1, h2, h3, h4, q⟩ | ⟨d, ds, h1, h2, h3, h4, q⟩ | ⟨c, z, rfl, rfl, q⟩ | ⟨a, o, rfl, g, q⟩
  · exact .inl ⟨d, ds, h1, h2, h3, h4, u _ S q _ H (Go.refl _ _) (.bl _) h⟩
  · exact .inr (.inl ⟨d, ds, h1, h2, h3, h4, u _ S q _ H (Go.refl _ _) (by rw [Bool.false_xor]; exact .bl _) h⟩)
  · exact .inr (.inr (.inl ⟨c, z, rfl, rfl, u _ S q _ H (Go.refl _ _) (by rw [Bool.false_xor]; exact .bl _) h⟩))
  · exact .inr (.inr (.inr ⟨a, o, rfl, g, u _ S q _ H (Go.refl _ _) (by rw [Bool.false_xor]; exact .bl _) h⟩))
theorem dop_notIn (hu : X.A.units + 70 < cLine) : DOp X (compareOp .NotIn) dNotIn := by
  refine OpR.imp ((op_notInT hu).or ((op_notInD (by omega)).or (op_notIn_sign.or (op_dnotIn hu)))) fun x y H Q ⟨dx, dy, S, Q', rx, ry, h, q, u⟩ => ?_
  rcases inG_cases rx ry h q with ⟨d, ds, h1, h2, h3, h4, q⟩ | ⟨d, ds, h1, h2, h3, h4, q⟩ | ⟨c, z, rfl, rfl, q⟩ | ⟨a, o, rfl, g, q⟩
  · exact .inl ⟨d, ds, h1, h2, h3, h4, u _ S q _ H (Go.refl _ _) (.bl _) h⟩
  · exact .inr (.inl ⟨d, ds, h1, h2, h3, h4, u _ S q _ H (Go.refl _ _) (by rw [Bool.true_xor]; exact .bl _) h⟩)
  · exact .inr (.inr (.inl ⟨c, z, rfl, rfl, u _ S q _ H (Go.refl _ _) (by rw [Bool.true_xor]; exact .bl _) h⟩))
  · exact .inr (.inr (.inr ⟨a, o, rfl, g, u _ S q _ H (Go.refl _ _) (by rw [Bool.true_xor]; exact .bl _) h⟩))

/-! ## tests -/
def wBt (w : WE) : WT := fun ρ S Q => w ρ S fun d S1 => match d with | .bl k => Q k S1 | _ => False
theorem dt_val {e : Expr} {w : WE} (h : DE X e w) (he : ∀ whole, isTrue e X.env whole = (do let v ← whole; standAt e.pos; holding [v] (truthy v)) := by intro _; rfl) : DT X e (wBt w) :=
  PT.imp (pt_val h he) fun σ H Q ⟨ρ, S, Q', r, h, q, u⟩ => lE_bind r h q fun d S1 v H1 q1 g1 r1 h1 => by
    cases d with
    | bl k => cases r1; exact ⟨k, rfl, u k S1 q1 H1 g1 h1⟩
    | _ => exact q1.elim
def wAnd (a b : WT) : WT := fun ρ S Q => a ρ S fun c S1 => br c (b ρ S1 Q) (Q false S1)
def wOr (a b : WT) : WT := fun ρ S Q => a ρ S fun c S1 => br c (Q true S1) (b ρ S1 Q)
def wNot (a : WT) : WT := fun ρ S Q => a ρ S fun c S1 => Q (!c) S1
section
variable {a b : Expr} {rest : List Expr} {pos : Pos} {wa wb : WT}
theorem dw_and1 (ha : DT X a wa) : DW X (.BoolOp .And [a] pos) wa := pw_and1 ha
theorem dw_or1 (ha : DT X a wa) : DW X (.BoolOp .Or [a] pos) wa := pw_or1 ha
theorem dw_and (ha : DT X a wa) (hb : DW X (.BoolOp .And (b :: rest) pos) wb) : DW X (.BoolOp .And (a :: b :: rest) pos) (wAnd wa wb) :=
  PW.imp (pw_and ha hb) fun σ H Q ⟨ρ, S, Q', r, h, q, u⟩ => lT_bind r h q fun c S1 H1 q1 g1 h1 => by
    have q1 := br_iff.mp q1
    cases c with
    | true => rw [if_pos rfl] at q1 ⊢; exact ⟨ρ, S1, Q', r.go h g1, h1, q1, u.go g1⟩
    | false => rw [if_neg Bool.false_ne_true] at q1 ⊢; exact u _ S1 q1 H1 g1 h1
theorem dw_or (ha : DT X a wa) (hb : DW X (.BoolOp .Or (b :: rest) pos) wb) : DW X (.BoolOp .Or (a :: b :: rest) pos) (wOr wa wb) :=
  PW.imp (pw_or ha hb) fun σ H Q ⟨ρ, S, Q', r, h, q, u⟩ => lT_bind r h q fun c S1 H1 q1 g1 h1 => by
    have q1 := br_iff.mp q1
    cases c with
    | false => rw [if_neg Bool.false_ne_true] at q1 ⊢; exact ⟨ρ, S1, Q', r.go h g1, h1, q1, u.go g1⟩
    | true => rw [if_pos rfl] at q1 ⊢; exact u _ S1 q1 H1 g1 h1
theorem DW.dt {e : Expr} {w : WT} (h : DW X e w) : DT X e w := PW.pt h
theorem dt_not (ha : DT X a wa) : DT X (.UnaryOp .Not a pos) (wNot wa) :=
  PT.imp (pt_not ha) fun σ H Q ⟨ρ, S, Q', r, h, q, u⟩ => lT_bind r h q fun c S1 H1 q1 g1 h1 => u _ S1 q1 H1 g1 h1
end
/-- and, or, not as values of truths -/
def wAndV (a b : WE) : WE := fun ρ S Q => a ρ S fun d S1 => match d with | .bl c => br c (b ρ S1 Q) (Q (.bl false) S1) | _ => False
def wOrV (a b : WE) : WE := fun ρ S Q => a ρ S fun d S1 => match d with | .bl c => br c (Q (.bl true) S1) (b ρ S1 Q) | _ => False
def wNotV (a : WE) : WE := fun ρ S Q => a ρ S fun d S1 => match d with | .bl c => Q (.bl (!c)) S1 | _ => False
def wIfE (c : WT) (a b : WE) : WE := fun ρ S Q => c ρ S fun k S1 => br k (a ρ S1 Q) (b ρ S1 Q)
end
end DL

set_option Elab.async false
set_option linter.all false
set_option maxRecDepth 100000
namespace DL
open PySem PySem.Spec PyProof.Rows L2
section
variable {X : Cx}
section
variable {a b : Expr} {rest : List Expr} {pos : Pos} {wa wb : WE}
theorem de_one {op} (ha : DE X a wa) : DE X (.BoolOp op [a] pos) wa := pe_one ha
theorem de_and (ha : DE X a wa) (hb : DE X (.BoolOp .And (b :: rest) pos) wb) : DE X (.BoolOp .And (a :: b :: rest) pos) (wAndV wa wb) :=
  PE.imp (pe_and ha hb) fun σ H Q ⟨ρ, S, Q', r, h, q, u⟩ => lE_bind r h q fun d S1 v H1 q1 g1 r1 h1 => by
    cases d with
    | bl c =>
      cases r1
      refine ⟨c, rfl, ?_⟩
      have q1 := br_iff.mp q1
      cases c with
      | true => rw [if_pos rfl] at q1 ⊢; exact ⟨ρ, S1, Q', r.go h g1, h1, q1, u.go g1⟩
      | false => rw [if_neg Bool.false_ne_true] at q1 ⊢; exact u _ S1 q1 _ H1 g1 (.bl _) h1
    | _ => exact q1.elim
theorem de_or (ha : DE X a wa) (hb : DE X (.BoolOp .Or (b :: rest) pos) wb) : DE X (.BoolOp .Or (a :: b :: rest) pos) (wOrV wa wb) :=
  PE.imp (pe_or ha hb) fun σ H Q ⟨ρ, S, Q', r, h, q, u⟩ => lE_bind r h q fun d S1 v H1 q1 g1 r1 h1 => by
    cases d with
    | bl c =>
      cases r1
      refine ⟨c, rfl, ?_⟩
      have q1 := br_iff.mp q1
      cases c with
      | false => rw [if_neg Bool.false_ne_true] at q1 ⊢; exact ⟨ρ, S1, Q', r.go h g1, h1, q1, u.go g1⟩
      | true => rw [if_pos rfl] at q1 ⊢; exact u _ S1 q1 _ H1 g1 (.bl _) h1
    | _ => exact q1.elim
theorem de_not (ha : DE X a wa) : DE X (.UnaryOp .Not a pos) (wNotV wa) :=
  PE.imp (pe_not ha) fun σ H Q ⟨ρ, S, Q', r, h, q, u⟩ => lE_bind r h q fun d S1 v H1 q1 g1 r1 h1 => by
    cases d with
    | bl c => cases r1; exact ⟨c, rfl, u _ S1 q1 _ H1 g1 (.bl _) h1⟩
    | _ => exact q1.elim
theorem de_ifE {c : Expr} {wc : WT} (hc : DT X c wc) (ha : DE X a wa) (hb : DE X b wb) : DE X (.IfExp c a b pos) (wIfE wc wa wb) :=
  PE.imp (pe_ifExp hc ha hb) fun σ H Q ⟨ρ, S, Q', r, h, q, u⟩ => lT_bind r h q fun c S1 H1 q1 g1 h1 => by
    have q1 := br_iff.mp q1
    cases c with
    | true => rw [if_pos rfl] at q1 ⊢; exact ⟨ρ, S1, Q', r.go h g1, h1, q1, u.go g1⟩
    | false => rw [if_neg Bool.false_ne_true] at q1 ⊢; exact ⟨ρ, S1, Q', r.go h g1, h1, q1, u.go g1⟩
end

/-! ## argument lists, displays -/
section
variable {e : Expr} {es : List Expr} {w : WE} {ws : WA} {pos : Pos}
theorem da_nil : DA X [] wNil := PA.imp pa_nil fun σ H Q ⟨ρ, S, Q', r, h, q, u⟩ => u [] S q [] H (Go.refl _ _) .nil h
theorem da_cons (ha : DE X e w) (hr : DA X es ws) (hs : starEach (e :: es) X.env = (false, eval e X.env) :: starEach es X.env := by rfl) : DA X (e :: es) (wCons w ws) :=
  PA.imp (pa_cons ha hr hs) fun σ H Q ⟨ρ, S, Q', r, h, q, u⟩ =>
    lE_bind r h q fun x S1 v H1 q1 g1 r1 h1 => lA_bind (r.go h g1) h1 q1 fun xs S2 vs H2 q2 g2 r2 h2 => u _ S2 q2 _ H2 (g1.trans g2) (.cons (r1.go h1 g2) r2) h2
theorem de_tup {x1} (ha : DA X es ws) : DE X (.Tuple es x1 pos) (wTup ws) :=
  PE.imp (pe_tup ha) fun σ H Q ⟨ρ, S, Q', r, h, q, u⟩ => lA_bind r h q fun ds S1 vs H1 q1 g1 r1 h1 => by
    obtain ⟨e, q1⟩ := gd_iff.mp q1
    refine ⟨by rw [r1.length]; exact le_line e, fun p np => ?_⟩
    exact u _ S1 q1 _ _ (g1.trans (Go.grow np)) (.tup (.of upd_same) (r1.go h1 (Go.grow np))) (h1.grow np)
theorem de_lst (ha : DA X es ws) : DE X (.List es pos) (wLst ws) :=
  PE.imp (pe_lst ha) fun σ H Q ⟨ρ, S, Q', r, h, q, u⟩ => lA_bind r h q fun ds S1 vs H1 q1 g1 r1 h1 => by
    obtain ⟨e, q1⟩ := gd_iff.mp q1
    refine ⟨by rw [r1.length]; exact le_line e, fun p np => ?_⟩
    exact u _ S1 q1 _ _ (g1.trans (Go.grow np)) (.lst upd_same (h1.trk np) (r1.go h1 (Go.grow np))) (h1.grow np)
theorem de_lstM (ha : DA X es ws) : DE X (.List es pos) (wLstM ws) :=
  PE.imp (pe_lst ha) fun σ H Q ⟨ρ, S, Q', r, h, q, u⟩ => lA_bind r h q fun ds S1 vs H1 q1 g1 r1 h1 => by
    obtain ⟨e, q1⟩ := gd_iff.mp q1
    refine ⟨by rw [r1.length]; exact le_line e, fun p np => ?_⟩
    refine u _ _ (q1 p (h1.trk np)) _ _ (g1.trans (Go.new np)) (.ref p) (h1.new np ⟨vs, upd_same, r1.go h1 (Go.new np)⟩)
def wDicM : WE := fun _ S Q => ∀ p, S p = none → Q (.ref p) (put S p (.dic []))
theorem de_dicM : DE X (.Dict [] [] pos) wDicM :=
  PE.imp pe_dnewK fun σ H Q ⟨ρ, S, Q', r, h, q, u⟩ p np =>
    u _ _ (q p (h.trk np)) _ _ (Go.new np) (.ref p) (h.new np ⟨[], upd_same, trivial⟩)
end

/-! ## subscripts -/
/-- what is there, if it is there -/
def opt {α : Type} (o : Option α) (k : α → Prop) : Prop := match o with
  | some d => k d
  | none => False
theorem opt_iff {α : Type} {o : Option α} {k : α → Prop} : opt o k ↔ ∃ d, o = some d ∧ k d := by cases o <;> simp [opt]
theorem opt_some {α : Type} {o : Option α} {k : α → Prop} {d : α} (e : o = some d) (h : k d) : opt o k := by subst e; exact h
def getN {α : Type} : List α → Nat → Option α
  | [], _ => none
  | x :: _, 0 => some x
  | _ :: r, n + 1 => getN r n
theorem getN_eq {α : Type} : ∀ (xs : List α) (n : Nat), getN xs n = xs[n]?
  | [], n => by simp [getN]
  | x :: r, 0 => rfl
  | x :: r, n + 1 => by simp [getN, getN_eq r n]
def atD {α : Type} (xs : List α) (i : Int) : Option α := match i with
  | .ofNat n => getN xs n
  | .negSucc n => getN xs.reverse n
theorem atD_atI {α : Type} {xs : List α} {i : Int} {x : α} (h : atD xs i = some x) : atI xs i = some x := by
  unfold atD at h
  split at h
  · rw [getN_eq] at h; exact atI_nat h
  · rename_i n
    rw [getN_eq] at h
    have hn : n < xs.length := by
      have := (List.getElem?_eq_some_iff.mp h).1
      simpa using this
    rw [List.getElem?_reverse hn] at h
    unfold atI
    have e : ixN xs.length (Int.negSucc n) = some (xs.length - 1 - n) := by
      unfold ixN
      rw [if_neg (by omega), if_pos (by omega)]
      exact congrArg some (by omega)
    rw [e]
    exact h
theorem atI_rep {K : PySem.W.Frag} {S : DH} {H : Hp} {vs : List V} {ds : List DV} {i : Int} {d : DV} (r : Reps K S H vs ds) (e : atI ds i = some d) : ∃ v, atI vs i = some v ∧ Rep K S H v d := by
  unfold atI at e ⊢
  rw [r.length]
  cases h : ixN ds.length i with
  | none => rw [h] at e; cases e
  | some j => rw [h] at e; obtain ⟨v, e1, e2⟩ := r.get e; exact ⟨v, e1, e2⟩
theorem atI_map {α β : Type} (f : α → β) {xs : List α} {i : Int} {x : α} (e : atI xs i = some x) : atI (xs.map f) i = some (f x) := by
  unfold atI at e ⊢
  rw [List.length_map]
  cases h : ixN xs.length i with
  | none => rw [h] at e; cases e
  | some j =>
    rw [h] at e
    show (xs.map f)[j]? = _
    rw [List.getElem?_map, show xs[j]? = some x from e]; rfl
def dDix (x y : DV) (S : DH) (Q : DK) : Prop := match x with
  | .ref p => match S p with
    | some (.dic kvs) => match y with
      | .str k => opt (kvs.lookup k) fun d => Q d S
      | _ => False
    | _ => False
  | _ => False
/-- a subscript by values: a sequence -/
def dIxS (x y : DV) (S : DH) (Q : DK) : Prop := match x with
  | .tup ds => match y with
    | .int i => opt (atD ds i) fun d => Q d S
    | _ => False
  | .str z => match y with
    | .int i => gd (decide (z.length ≤ 16777216)) (opt (atD z i) fun c => Q (.str [c]) S)
    | _ => False
  | .scr ns => match y with
    | .int i => opt (atD ns i) fun n => Q (.int n) S
    | _ => False
  | x => match asL S x with
    | some ds => match y with
      | .int i => opt (atD ds i) fun d => Q d S
      | _ => False
    | none => False
theorem tl_sOf (z : List Nat) : (sOf z).cps.toList = z := rfl
theorem ixr_seq : IxR X (lOp X.K dIxS) := by
  refine IxR.imp (ix_list.or (ix_tup.or ix_str)) fun x y H Q ⟨dx, dy, S, Q', rx, ry, h, q, u⟩ => ?_
  unfold dIxS at q
  split at q
  · split at q
    · obtain ⟨d, e, q⟩ := opt_iff.mp q
      cases ry
      cases rx with
      | tup qx rs =>
        obtain ⟨v, e1, r1⟩ := atI_rep rs (atD_atI e)
        exact .inr (.inl ⟨_, _, _, v, rfl, rfl, qx, e1, u _ S q _ H (Go.refl _ _) r1 h⟩)
    · exact q.elim
  · split at q
    · obtain ⟨e0, q⟩ := gd_iff.mp q
      obtain ⟨d, e, q⟩ := opt_iff.mp q
      cases ry; cases rx
      refine .inr (.inr ⟨_, _, _, rfl, rfl, ?_, atD_atI e, u _ S q _ H (Go.refl _ _) (.str _) h⟩)
      rw [sOf_len]; exact le_line e0
    · exact q.elim
  · split at q
    · obtain ⟨d, e, q⟩ := opt_iff.mp q
      cases ry
      cases rx with
      | scr sc => exact .inl ⟨_, _, _, _, rfl, rfl, sc.sq, atI_map _ (atD_atI e), u _ S q _ H (Go.refl _ _) (.int _) h⟩
    · exact q.elim
  · split at q
    · rename_i ds e0
      split at q
      · obtain ⟨d, e, q⟩ := opt_iff.mp q
        cases ry
        obtain ⟨a, vs, rfl, ha, rs⟩ := asL_rep h rx e0
        obtain ⟨v, e1, r1⟩ := atI_rep rs (atD_atI e)
        exact .inl ⟨_, _, _, v, rfl, rfl, .of ha, e1, u _ S q _ H (Go.refl _ _) r1 h⟩
      · exact q.elim
    · exact q.elim
theorem de_ix {a b : Expr} {wa wb : WE} {pos : Pos} (ha : DE X a wa) (hb : DE X b wb) (hs : PlainIx b) : DE X (.Subscript a b pos) (wBin dIxS wa wb) :=
  PE.imp (pe_ix ixr_seq ha hb hs) fun σ H Q ⟨ρ, S, Q', r, h, q, u⟩ =>
    lE_bind r h q fun x S1 v H1 q1 g1 r1 h1 => lE_bind (r.go h g1) h1 q1 fun y S2 v2 H2 q2 g2 r2 h2 => ⟨x, y, S2, Q', r1.go h1 g2, r2, h2, q2, u.go (g1.trans g2)⟩
/-- d[k] of a dict -/
theorem de_dix {a b : Expr} {wa wb : WE} {pos : Pos} (hu : X.A.units + 70 < cLine) (ha : DE X a wa) (hb : DE X b wb) (hs : NoSl b) : DE X (.Subscript a b pos) (wBin dDix wa wb) :=
  PE.imp (pe_dget (by omega) ha hb hs) fun σ H Q ⟨ρ, S, Q', r, h, q, u⟩ =>
    lE_bind r h q fun x S1 v H1 q1 g1 r1 h1 => lE_bind (r.go h g1) h1 q1 fun y S2 v2 H2 q2 g2 r2 h2 => by
      unfold dDix at q2
      split at q2
      · split at q2
        · rename_i p kvs e
          split at q2
          · rename_i k _
            obtain ⟨d, e3, q2⟩ := opt_iff.mp q2
            cases r1; cases r2
            obtain ⟨ks, hk, rk⟩ := h2 _ _ e
            rename_i k _
            have z := KRep.val k rk
            rw [e3] at z
            obtain ⟨v', z, rv⟩ := z
            exact ⟨_, v', rfl, .inl ⟨ks, .inr (sOf k), .inl hk, rfl, z.symm⟩, u _ S2 q2 _ H2 (g1.trans g2) rv h2⟩
          · exact q2.elim
        · exact q2.elim
      · exact q2.elim

/-! ## slices -/
abbrev WO := Env' → DH → (Option Int → DH → Prop) → Prop
def lO (K : PySem.W.Frag) (w : WO) : TO := fun σ H Q => ∃ ρ S Q', ORep K S H σ ρ ∧ HRep K S H ∧ w ρ S Q' ∧ (∀ d S', Q' d S' → ∀ H', Go S H S' H' → HRep K S' H' → Q d H')
def DO' (X : Cx) (e : Option Expr) (w : WO) : Prop := PO X e (lO X.K w)
theorem PO.imp {e : Option Expr} {t t' : TO} (h : PO X e t) (i : ∀ σ H Q, t' σ H Q → t σ H Q) : PO X e t' := ⟨fun pins s σ H Q I q => h.run pins s σ H Q I (i _ _ _ q)⟩
def wNoPart : WO := fun _ S Q => Q none S
def wPart (w : WE) : WO := fun ρ S Q => w ρ S fun x S1 => match x with | .int i => Q (some i) S1 | _ => False
theorem do_none : DO' X none wNoPart := PO.imp po_none fun σ H Q ⟨ρ, S, Q', r, h, q, u⟩ => u none S q H (Go.refl _ _) h
theorem do_some {e : Expr} {w : WE} (he : DE X e w) : DO' X (some e) (wPart w) := PO.imp (po_some he) fun σ H Q ⟨ρ, S, Q', r, h, q, u⟩ => lE_bind r h q fun x S1 v H1 q1 g1 r1 h1 => by
  cases x with
  | int i => cases r1; exact ⟨i, rfl, u _ S1 q1 H1 g1 h1⟩
  | _ => exact q1.elim
def cutD {α : Type} (xs : List α) (lo hi : Option Int) : List α := (xs.drop (HT.sIx xs.length 0 lo)).take (HT.sIx xs.length xs.length hi - HT.sIx xs.length 0 lo)
def dSl (x : DV) (lo hi : Option Int) (S : DH) (Q : DK) : Prop := match x with
  | .tup ds => Q (.tup (cutD ds lo hi)) S
  | .str z => gd (decide (z.length ≤ 16777216)) (Q (.str (cutD z lo hi)) S)
  | x => match asL S x with
    | some ds => Q (.lst (cutD ds lo hi)) S
    | none => False
def wSl (wa : WE) (wl wh : WO) : WE := fun ρ S Q => wa ρ S fun x S1 => wl ρ S1 fun lo S2 => wh ρ S2 fun hi S3 => dSl x lo hi S3 Q
theorem cut_rep {K : PySem.W.Frag} {S : DH} {H : Hp} {vs : List V} {ds : List DV} (r : Reps K S H vs ds) (lo hi : Option Int) : Reps K S H (cutV vs lo hi) (cutD ds lo hi) := by
  unfold cutV cutD
  rw [r.length]
  exact (r.drop _).take _
def lSl (K : PySem.W.Frag) : V → Option Int → Option Int → Hp → VK → Prop := fun x lo hi H Q => ∃ dx S Q', Rep K S H x dx ∧ HRep K S H ∧ dSl dx lo hi S Q' ∧ up K S H Q' Q
theorem slr_any : SlR X (lSl X.K) := by
  refine SlR.imp (sl_tupA.or (sl_str.or sl_list)) fun x lo hi H Q ⟨dx, S, Q', rx, h, q, u⟩ => ?_
  unfold dSl at q
  split at q
  · rename_i ds
    cases rx with
    | tup qx rs =>
      refine .inl ⟨_, _, rfl, qx, fun ⟨e1, e2⟩ => ?_, fun _ p np => ?_⟩
      · have z : cutD ds lo hi = ds := by
          unfold cutD
          rw [← rs.length, e1, e2, List.drop_zero, Nat.sub_zero]
          exact List.take_of_length_le (by rw [rs.length]; exact Nat.le_refl _)
        rw [z] at q
        exact u _ S q _ H (Go.refl _ _) (.tup qx rs) h
      · exact u _ S q _ _ (Go.grow np) (.tup (.of upd_same) ((cut_rep rs lo hi).go h (Go.grow np))) (h.grow np)
  · rename_i z
    obtain ⟨e0, q⟩ := gd_iff.mp q
    cases rx
    refine .inr (.inl ⟨_, rfl, ?_, ?_⟩)
    · rw [sOf_len]; exact le_line e0
    · have e : cutS (sOf z) lo hi = sOf (cutD z lo hi) := by
        unfold cutS cutD sOf
        simp [PySem.Str.length]
      rw [e]
      exact u _ S q _ H (Go.refl _ _) (.str _) h
  · split at q
    · rename_i ds e0
      obtain ⟨a, vs, rfl, ha, rs⟩ := asL_rep h rx e0
      refine .inr (.inr ⟨_, _, rfl, .of ha, fun p np => ?_⟩)
      exact u _ S q _ _ (Go.grow np) (.lst upd_same (h.trk np) ((cut_rep rs lo hi).go h (Go.grow np))) (h.grow np)
    · exact q.elim
theorem de_slice {e : Expr} {lo hi : Option Expr} {w : WE} {wl wh : WO} {p2 pos : Pos} (he : DE X e w) (hl : DO' X lo wl) (hh : DO' X hi wh) : DE X (.Subscript e (.Slice lo hi none p2) pos) (wSl w wl wh) :=
  PE.imp (pe_slice slr_any he hl hh) fun σ H Q ⟨ρ, S, Q', r, h, q, u⟩ =>
    lE_bind r h q fun x S1 v H1 q1 g1 r1 h1 => ⟨ρ, S1, _, r.go h g1, h1, q1, fun a S2 q2 H2 g2 h2 => ⟨ρ, S2, _, r.go h (g1.trans g2), h2, q2, fun b S3 q3 H3 g3 h3 =>
      ⟨x, S3, Q', (r1.go h1 g2).go h2 g3, h3, q3, u.go ((g1.trans g2).trans g3)⟩⟩⟩
end
end DL

set_option Elab.async false
set_option linter.all false
set_option maxRecDepth 100000
namespace DL
open PySem PySem.Spec PyProof.Rows L2

/-! ## what is walked -/
abbrev Cs := List (Addr × List DV)
def okcs (cs : Cs) (S : DH) : Prop := ∀ q ∈ cs, S q.1 = some (.lst q.2)
def okc (cs : Cs) (S : DH) (p : Prop) : Prop := match cs with
  | [] => p
  | (a, ds) :: r => S a = some (.lst ds) ∧ okc r S p
theorem okc_iff {S : DH} {p : Prop} : ∀ {cs : Cs}, okc cs S p ↔ okcs cs S ∧ p
  | [] => ⟨fun h => ⟨fun _ z => (by simp at z), h⟩, fun h => h.2⟩
  | (a, ds) :: r => by
    have ih := okc_iff (S := S) (p := p) (cs := r)
    constructor
    · intro ⟨h1, h2⟩
      obtain ⟨h3, h4⟩ := ih.mp h2
      refine ⟨fun q hq => ?_, h4⟩
      rcases List.mem_cons.mp hq with e | e
      · subst e; exact h1
      · exact h3 q e
    · intro ⟨h1, h2⟩
      exact ⟨h1 (a, ds) (List.mem_cons_self ..), ih.mpr ⟨fun q hq => h1 q (List.mem_cons_of_mem _ hq), h2⟩⟩
def JRep (K : PySem.W.Frag) (J : It) (items : List DV) (cs : Cs) (S0 : DH) (H0 : Hp) : Prop := ∀ S H, Go S0 H0 S H → HRep K S H → okcs cs S → ∀ i,
  (i < items.length → J.go i H ∧ ∀ x H', J.yld i H x H' → ∃ d, items[i]? = some d ∧ Go S H S H' ∧ HRep K S H' ∧ Rep K S H' x d) ∧ (items.length ≤ i → J.stop i H)
abbrev WI := Env' → DH → (List DV → Cs → DH → Prop) → Prop
def lI (K : PySem.W.Frag) (w : WI) : TI := fun σ H R => ∃ ρ S R', ORep K S H σ ρ ∧ HRep K S H ∧ w ρ S R' ∧ ∀ items cs S', R' items cs S' → ∀ J H', Go S H S' H' → HRep K S' H' → JRep K J items cs S' H' → R J H'
def DI (X : Cx) (tg e : Expr) (w : WI) : Prop := PI X tg e (lI X.K w)
theorem PI.imp {X : Cx} {tg e : Expr} {t t' : TI} (h : PI X tg e t) (i : ∀ σ H R, t' σ H R → t σ H R) : PI X tg e t' := ⟨fun pins s σ H R I q => h.run pins s σ H R I (i _ _ _ q)⟩

def srcL (S : DH) : DV → Option (List DV × Cs)
  | .lst ds => some (ds, [])
  | .scr ns => some (ns.map .int, [])
  | .ref p => match S p with | some (.lst ds) => some (ds, [(p, ds)]) | _ => none
  | _ => none
theorem reps_ints {K : PySem.W.Frag} {S : DH} {H : Hp} : ∀ ns : List Int, Reps K S H (ns.map V.int) (ns.map DV.int)
  | [] => .nil
  | n :: r => .cons (.int n) (reps_ints r)
theorem srcL_rep {K : PySem.W.Frag} {S : DH} {H : Hp} {v : V} {d : DV} {ds : List DV} {cs : Cs} (h : HRep K S H) (r : Rep K S H v d) (e : srcL S d = some (ds, cs)) :
    ∃ a, v = .ref a ∧ ∀ S' H', Go S H S' H' → HRep K S' H' → okcs cs S' → ∃ vs, SqL K H' a vs ∧ Reps K S' H' vs ds := by
  cases d with
  | lst es =>
    cases e
    cases r with
    | lst q n rs => exact ⟨_, rfl, fun S' H' g h' _ => ⟨_, .of (g.keep _ _ q n), rs.go h g⟩⟩
  | scr ns =>
    cases e
    cases r with
    | scr q => exact ⟨_, rfl, fun S' H' g h' _ => ⟨_, (q.go h g).sq, reps_ints ns⟩⟩
  | ref p =>
    cases r
    unfold srcL at e
    dsimp only at e
    cases q : S p with
    | none => rw [q] at e; cases e
    | some c =>
      rw [q] at e
      cases c with
      | lst es =>
        cases e
        refine ⟨p, rfl, fun S' H' g h' ok => ?_⟩
        obtain ⟨vs, q2, rs⟩ := h' p _ (ok (p, ds) (List.mem_cons_self ..))
        exact ⟨vs, .of q2, rs⟩
      | dic es => cases e
      | ins C es => cases e
  | _ => cases e

theorem srcL_ok {S : DH} {d : DV} {ds : List DV} {cs : Cs} (e : srcL S d = some (ds, cs)) : okcs cs S := by
  cases d with
  | lst es => cases e; intro z hz; simp at hz
  | scr es => cases e; intro z hz; simp at hz
  | ref p =>
    unfold srcL at e
    dsimp only at e
    cases q : S p with
    | none => rw [q] at e; cases e
    | some c =>
      rw [q] at e
      cases c with
      | lst es => cases e; intro z hz; simp at hz; subst hz; exact q
      | dic es => cases e
      | ins C es => cases e
  | _ => cases e

/-- a list, a tuple, a text -/
def wSeq1 (we : WE) : WI := fun ρ S R => we ρ S fun d S1 => match d with
  | .tup ds => R ds [] S1
  | .str z => R (z.map fun c => .str [c]) [] S1
  | d => match srcL S1 d with
    | some (ds, cs) => R ds cs S1
    | none => False
section
variable {X : Cx} {tg : Expr}
def iAny (K : PySem.W.Frag) (te : TE) : TI := fun σ H R => te σ H fun x H1 => (∃ a, x = .ref a ∧ (∃ xs, SqL K H1 a xs) ∧ R (Itl K a) H1) ∨ (∃ a, x = .ref a ∧ (∃ xs, SqT K H1 a xs) ∧ R (Itt K a) H1) ∨ ∃ z, x = .str z ∧ R (Its z) H1
theorem pi_any {e : Expr} {te : TE} (he : PE X e te) : PI X tg e (iAny X.K te) := by
  refine ⟨fun pins s σ H R I h => ?_⟩
  refine thn (he.run pins s σ H _ I h) fun v s1 ⟨x, H1, I1, r1, q1⟩ => ?_
  rcases q1 with ⟨a, e, ⟨xs, hq⟩, q⟩ | ⟨a, e, ⟨xs, hq⟩, q⟩ | ⟨z, ex, q⟩
  · subst e
    cases r1
    obtain ⟨its, rv, p, hz⟩ := I1.list hq
    refine wpAny_pyIter_list p.isList ?_
    refine ⟨s1.heap.objs.size, [s1.heap.objs.size], _, _, H1, rfl, I1.kept (t' := s1.toks) fun b o e => Heap.get?_push_of_some _ e, turn_list a _, ⟨_, Heap.get?_push_size _ rfl, rfl, rfl⟩, fun b hb => ?_, q⟩
    have e : b = s1.heap.objs.size := by simpa using hb
    subst e
    exact I1.fpOk (Nat.le_refl _) (I1.hok.fresh (Nat.le_refl _))
  · subst e
    cases r1
    obtain ⟨its, rv, p, hz⟩ := I1.tuple hq
    refine wpAny_pyIter_tuple (show s1.heap.IsTuple a its.toArray from p) ?_
    refine ⟨s1.heap.objs.size, [s1.heap.objs.size], _, _, H1, rfl, I1.kept (t' := s1.toks) fun b o e => Heap.get?_push_of_some _ e, turn_tuple a _, ⟨_, Heap.get?_push_size _ rfl, rfl, rfl⟩, fun b hb => ?_, q⟩
    have e : b = s1.heap.objs.size := by simpa using hb
    subst e
    exact I1.fpOk (Nat.le_refl _) (I1.hok.fresh (Nat.le_refl _))
  · subst ex
    obtain ⟨t, rfl⟩ := r1
    cases ha : z.cps.all (· < 128)
    · exact wpAny_pyIter_wide ha (pi_one (tk := s1.toks) I1 _ (turn_str _ z t "str_iterator" (.inr rfl)) ⟨_, Heap.get?_push_size _ rfl, rfl, rfl⟩ q)
    · exact wpAny_pyIter_ascii ha (pi_one (tk := s1.toks) I1 _ (turn_str _ z t "str_ascii_iterator" (.inl rfl)) ⟨_, Heap.get?_push_size _ rfl, rfl, rfl⟩ q)
theorem jrep_list {K : PySem.W.Frag} {a : Addr} {ds : List DV} {cs : Cs} {S : DH} {H : Hp} (k : ∀ S' H', Go S H S' H' → HRep K S' H' → okcs cs S' → ∃ vs, SqL K H' a vs ∧ Reps K S' H' vs ds) : JRep K (Itl K a) ds cs S H := by
  intro S1 H1 g h ok i
  obtain ⟨vs, q, r⟩ := k S1 H1 g h ok
  have hl := r.length
  refine ⟨fun hi => ?_, fun hi => ⟨vs, q, by omega⟩⟩
  have hv : i < vs.length := by omega
  refine ⟨⟨vs, vs[i], q, by simp [hv]⟩, fun x H' ⟨e, y⟩ => ?_⟩
  subst e
  obtain ⟨d, e1, e2⟩ := r.getV (y vs q)
  exact ⟨d, e1, Go.refl _ _, h, e2⟩
theorem jrep_tup {K : PySem.W.Frag} {a : Addr} {ds : List DV} {S : DH} {H : Hp} {vs : List V} (h0 : HRep K S H) (q0 : SqT K H a vs) (r0 : Reps K S H vs ds) : JRep K (Itt K a) ds [] S H := by
  intro S1 H1 g h ok i
  have q := SqT.go h0 g q0
  have r := r0.go h0 g
  have hl := r.length
  refine ⟨fun hi => ?_, fun hi => ⟨vs, q, by omega⟩⟩
  have hv : i < vs.length := by omega
  refine ⟨⟨vs, vs[i], q, by simp [hv]⟩, fun x H' ⟨e, y⟩ => ?_⟩
  subst e
  obtain ⟨d, e1, e2⟩ := r.getV (y vs q)
  exact ⟨d, e1, Go.refl _ _, h, e2⟩
theorem jrep_str {K : PySem.W.Frag} {z : List Nat} {S : DH} {H : Hp} : JRep K (Its (sOf z)) (z.map fun c => .str [c]) [] S H := by
  intro S1 H1 g h ok i
  have hsz : (sOf z).cps.size = z.length := by simp [sOf]
  rw [List.length_map]
  refine ⟨fun hi => ⟨by show i < (sOf z).cps.size; omega, fun x H' ⟨e, c, e1, e2⟩ => ?_⟩, fun hi => by show (sOf z).cps.size ≤ i; omega⟩
  subst e e2
  have e3 : z[i]? = some c := by simpa [sOf] using e1
  exact ⟨.str [c], by rw [List.getElem?_map, e3]; rfl, Go.refl _ _, h, .str [c]⟩
theorem di_seq {e : Expr} {we : WE} (he : DE X e we) : DI X tg e (wSeq1 we) :=
  PI.imp (pi_any he) fun σ H R ⟨ρ, S, R', r, h, q, u⟩ => lE_bind r h q fun d S1 v H1 q1 g1 r1 h1 => by
    split at q1
    · cases r1 with
      | tup qx rs => exact .inr (.inl ⟨_, rfl, ⟨_, qx⟩, u _ _ _ q1 _ H1 g1 h1 (jrep_tup h1 qx rs)⟩)
    · cases r1
      exact .inr (.inr ⟨_, rfl, u _ _ _ q1 _ H1 g1 h1 jrep_str⟩)
    · split at q1
      · rename_i e
        obtain ⟨a, rfl, k⟩ := srcL_rep h1 r1 e
        obtain ⟨vs, sq, _⟩ := k S1 H1 (Go.refl _ _) h1 (srcL_ok e)
        exact .inl ⟨a, rfl, ⟨vs, sq⟩, u _ _ _ q1 _ H1 g1 h1 (jrep_list k)⟩
      · exact q1.elim
/-- range(n), range(a, b) -/
def wRng1 (ws : WA) : WI := fun ρ S R => ws ρ S fun ds S1 => match ds with
  | [.int j] => gd (leI (-4611686018427387904) j && ltI j 4611686018427387904) (R ((List.range j.toNat).map fun (k : Nat) => .int k) [] S1)
  | _ => False
def wRng2 (ws : WA) : WI := fun ρ S R => ws ρ S fun ds S1 => match ds with
  | [.int i, .int j] => gd (leI (-4611686018427387904) i && ltI i 4611686018427387904 && leI (-4611686018427387904) j && ltI j 4611686018427387904) (R ((List.range (j - i).toNat).map fun (k : Nat) => .int (i + k)) [] S1)
  | _ => False
theorem jrep_rng {K : PySem.W.Frag} {lo : Int} {n : Nat} {S : DH} {H : Hp} : JRep K (Itr lo n) ((List.range n).map fun (k : Nat) => .int (lo + k)) [] S H := by
  intro S1 H1 g h ok i
  rw [List.length_map, List.length_range]
  refine ⟨fun hi => ⟨hi, fun x H' ⟨e, e2⟩ => ?_⟩, fun hi => hi⟩
  subst e e2
  exact ⟨_, by rw [List.getElem?_map, List.getElem?_range hi]; rfl, Go.refl _ _, h, .int _⟩
theorem di_rng1 {a : Expr} {ws : WA} {p pos : Pos} (hg : Gl X "range") (hm : X.mg "range" = none) (ha : DA X [a] ws) (hs : starEach [a] X.env = [(false, eval a X.env)] := by rfl) : DI X tg (.Call (.Name "range" p) [a] [] pos) (wRng1 ws) :=
  PI.imp (pi_range1 hg hm ha hs) fun σ H R ⟨ρ, S, R', r, h, q, u⟩ => lA_bind r h q fun ds S1 vs H1 q1 g1 r1 h1 => by
    split at q1
    · cases r1 with
      | cons r1 r2 =>
        cases r1; cases r2
        obtain ⟨e, q1⟩ := gd_iff.mp q1
        simp only [Bool.and_eq_true, leI_iff, ltI_iff] at e
        refine ⟨_, rfl, by omega, by omega, u _ _ _ q1 _ H1 g1 h1 ?_⟩
        have z := jrep_rng (K := X.K) (lo := 0) (n := Int.toNat ‹Int›) (S := S1) (H := H1)
        simpa using z
    · exact q1.elim
theorem di_rng2 {a b : Expr} {ws : WA} {p pos : Pos} (hg : Gl X "range") (hm : X.mg "range" = none) (ha : DA X [a, b] ws) (hs : starEach [a, b] X.env = [(false, eval a X.env), (false, eval b X.env)] := by rfl) (hs2 : starEach [b] X.env = [(false, eval b X.env)] := by rfl) :
    DI X tg (.Call (.Name "range" p) [a, b] [] pos) (wRng2 ws) :=
  PI.imp (pi_range2 hg hm ha hs hs2) fun σ H R ⟨ρ, S, R', r, h, q, u⟩ => lA_bind r h q fun ds S1 vs H1 q1 g1 r1 h1 => by
    split at q1
    · cases r1 with
      | cons r1 r2 =>
        cases r2 with
        | cons r2 r3 =>
          cases r1; cases r2; cases r3
          obtain ⟨e, q1⟩ := gd_iff.mp q1
          simp only [Bool.and_eq_true, leI_iff, ltI_iff] at e
          exact ⟨_, _, rfl, ⟨by omega, by omega, by omega, by omega⟩, u _ _ _ q1 _ H1 g1 h1 jrep_rng⟩
    · exact q1.elim
/-- reversed(a list) -/
def wRev1 (we : WE) : WI := fun ρ S R => we ρ S fun d S1 => match srcL S1 d with
    | some (ds, cs) => R ds.reverse cs S1
    | none => False
theorem jrep_rev {K : PySem.W.Frag} {a : Addr} {ds : List DV} {cs : Cs} {S : DH} {H : Hp} (k : ∀ S' H', Go S H S' H' → HRep K S' H' → okcs cs S' → ∃ vs, SqL K H' a vs ∧ Reps K S' H' vs ds) : JRep K (Itv K a ds.length) ds.reverse cs S H := by
  intro S1 H1 g h ok i
  obtain ⟨vs, q, r⟩ := k S1 H1 g h ok
  have hl := r.length
  rw [List.length_reverse]
  refine ⟨fun hi => ?_, fun hi => hi⟩
  have hv : ds.length - 1 - i < vs.length := by omega
  refine ⟨⟨hi, vs, vs[ds.length - 1 - i], q, by simp [hv]⟩, fun x H' ⟨e, y⟩ => ?_⟩
  subst e
  obtain ⟨d, e1, e2⟩ := r.getV (y vs q)
  exact ⟨d, by rw [List.getElem?_reverse hi]; exact e1, Go.refl _ _, h, e2⟩
theorem di_rev {e : Expr} {we : WE} {p pos : Pos} (hg : Gl X "reversed") (hm : X.mg "reversed" = none) (he : DE X e we) (hs : starEach [e] X.env = (false, eval e X.env) :: starEach [] X.env := by rfl) : DI X tg (.Call (.Name "reversed" p) [e] [] pos) (wRev1 we) :=
  PI.imp (RT.pi_revA hg hm he hs) fun σ H R ⟨ρ, S, R', r, h, q, u⟩ => lE_bind r h q fun d S1 v H1 q1 g1 r1 h1 => by
    split at q1
    · rename_i e
      obtain ⟨a, rfl, k⟩ := srcL_rep h1 r1 e
      obtain ⟨vs, sq, rs⟩ := k S1 H1 (Go.refl _ _) h1 (srcL_ok e)
      refine ⟨a, vs, rfl, .inl ⟨sq, ?_⟩⟩
      rw [rs.length]
      exact u _ _ _ q1 _ H1 g1 h1 (jrep_rev k)
    · exact q1.elim
end
end DL

set_option Elab.async false
set_option linter.all false
set_option maxRecDepth 100000
namespace DL
open PySem PySem.Spec PyProof.Rows L2
section
variable {X : Cx} {tg : Expr}
def pairs (xs ys : List DV) : List DV := List.zipWith (fun a b => .tup [a, b]) xs ys
def wZip (ws : WA) : WI := fun ρ S R => ws ρ S fun ds S1 => match ds with
  | [.tup xs, .tup ys] => R (pairs xs ys) [] S1
  | [x, y] => match srcL S1 x, srcL S1 y with
    | some (xs, cs), some (ys, cs') => R (pairs xs ys) (cs ++ cs') S1
    | _, _ => False
  | _ => False
theorem pairs_get {xs ys : List DV} {i : Nat} {x y : DV} (h1 : xs[i]? = some x) (h2 : ys[i]? = some y) : (pairs xs ys)[i]? = some (.tup [x, y]) := by
  simp [pairs, List.getElem?_zipWith, h1, h2]
theorem okcs_app {cs cs' : Cs} {S : DH} (h : okcs (cs ++ cs') S) : okcs cs S ∧ okcs cs' S := ⟨fun q hq => h q (List.mem_append_left _ hq), fun q hq => h q (List.mem_append_right _ hq)⟩
theorem jrep_zip {K : PySem.W.Frag} {a b : Addr} {xs ys : List DV} {cs cs' : Cs} {S : DH} {H : Hp} (k : ∀ S' H', Go S H S' H' → HRep K S' H' → okcs cs S' → ∃ vs, SqL K H' a vs ∧ Reps K S' H' vs xs)
    (k2 : ∀ S' H', Go S H S' H' → HRep K S' H' → okcs cs' S' → ∃ vs, SqL K H' b vs ∧ Reps K S' H' vs ys) : JRep K (Itz K a b) (pairs xs ys) (cs ++ cs') S H := by
  intro S1 H1 g h ok i
  obtain ⟨vs, q, r⟩ := k S1 H1 g h (okcs_app ok).1
  obtain ⟨us, q2, r2⟩ := k2 S1 H1 g h (okcs_app ok).2
  have hl := r.length
  have hl2 := r2.length
  have hz : (pairs xs ys).length = min xs.length ys.length := by simp [pairs]
  rw [hz]
  refine ⟨fun hi => ?_, fun hi => ⟨vs, us, q, q2, by omega⟩⟩
  have hv : i < vs.length := by omega
  have hu : i < us.length := by omega
  refine ⟨⟨vs, us, vs[i], us[i], q, q2, by simp [hv], by simp [hu]⟩, fun x H' ⟨T, x1, y1, e, nT, eH, f1, f2⟩ => ?_⟩
  subst e eH
  obtain ⟨d, e1, e2⟩ := r.getV (f1 vs q)
  obtain ⟨d2, e3, e4⟩ := r2.getV (f2 us q2)
  exact ⟨_, pairs_get e1 e3, Go.grow nT, h.grow nT, .tup (.of upd_same) (.cons (e2.go h (Go.grow nT)) (.cons (e4.go h (Go.grow nT)) .nil))⟩
theorem jrep_zipT {K : PySem.W.Frag} {a b : Addr} {xs ys : List DV} {S : DH} {H : Hp} {us vs : List V} (h0 : HRep K S H) (q0 : SqT K H a us) (r0 : Reps K S H us xs) (q1 : SqT K H b vs) (r1 : Reps K S H vs ys) : JRep K (RZ.ItzT K a b) (pairs xs ys) [] S H := by
  intro S1 H1 g h ok i
  have q := SqT.go h0 g q0
  have r := r0.go h0 g
  have q2 := SqT.go h0 g q1
  have r2 := r1.go h0 g
  have hl := r.length
  have hl2 := r2.length
  have hz : (pairs xs ys).length = min xs.length ys.length := by simp [pairs]
  rw [hz]
  refine ⟨fun hi => ?_, fun hi => ⟨us, vs, q, q2, by omega⟩⟩
  have hv : i < us.length := by omega
  have hu : i < vs.length := by omega
  refine ⟨⟨us, vs, us[i], vs[i], q, q2, by simp [hv], by simp [hu]⟩, fun x H' ⟨T, x1, y1, e, nT, eH, f1, f2⟩ => ?_⟩
  subst e eH
  obtain ⟨d, e1, e2⟩ := r.getV (f1 us q)
  obtain ⟨d2, e3, e4⟩ := r2.getV (f2 vs q2)
  exact ⟨_, pairs_get e1 e3, Go.grow nT, h.grow nT, .tup (.of upd_same) (.cons (e2.go h (Go.grow nT)) (.cons (e4.go h (Go.grow nT)) .nil))⟩
theorem di_zip {e e2 : Expr} {ws : WA} {p pos tpos : Pos} {elts : List Expr} {kk : Nat} (hg : Gl X "zip") (hm : X.mg "zip" = none) (ha : DA X [e, e2] ws)
    (hs : starEach [e, e2] X.env = (false, eval e X.env) :: starEach [e2] X.env := by rfl) (hpl : (backTo pos (starEach [e2] X.env)).any (·.1) = false := by rfl) : DI X (.Tuple elts kk tpos) (.Call (.Name "zip" p) [e, e2] [] pos) (wZip ws) :=
  PI.imp (RZ.pi_zipA hg hm ha hs hpl) fun σ H R ⟨ρ, S, R', r, h, q, u⟩ => lA_bind r h q fun ds S1 vs H1 q1 g1 r1 h1 => by
    split at q1
    · cases r1 with
      | cons r1 r2 =>
        cases r2 with
        | cons r2 r3 =>
          cases r3
          cases r1 with
          | tup qx rx =>
            cases r2 with
            | tup qy ry => exact ⟨_, _, _, _, rfl, .inr ⟨qx, qy, u _ _ _ q1 _ H1 g1 h1 (jrep_zipT h1 qx rx qy ry)⟩⟩
    · split at q1
      · rename_i e1 e2
        cases r1 with
        | cons r1 r2 =>
          cases r2 with
          | cons r2 r3 =>
            cases r3
            obtain ⟨a, rfl, k⟩ := srcL_rep h1 r1 e1
            obtain ⟨b, rfl, k2⟩ := srcL_rep h1 r2 e2
            obtain ⟨vs, sq, _⟩ := k S1 H1 (Go.refl _ _) h1 (srcL_ok e1)
            obtain ⟨us, sq2, _⟩ := k2 S1 H1 (Go.refl _ _) h1 (srcL_ok e2)
            exact ⟨_, _, _, _, rfl, .inl ⟨sq, sq2, u _ _ _ q1 _ H1 g1 h1 (jrep_zip k k2)⟩⟩
      · exact q1.elim
    · exact q1.elim

/-! ## targets -/
section
variable {e : Expr} {es : List Expr} {pos : Pos}
def wgN (i : Nat) : WG := fun d ρ S Q => Q (ρ.set i (some d)) S
theorem dg_name {i : Nat} {x : Str} (hN : X.N.Nodup) (hi : X.N[i]? = some x) (hx : Loc X.env.scope x) (hf : X.fn x = true ∨ X.env.scope.names.lookup x = some .local := by first | exact .inl rfl | exact .inr rfl | assumption) : DG X (.Name x pos) (wgN i) :=
  PG.imp (pg_name hN hi hx hf) fun v σ H Q ⟨d, ρ, S, Q', rd, r, h, q, u⟩ => u _ S q _ H (Go.refl _ _) (r.set i rd) h
def wgNil : WGs := fun ds ρ S Q => match ds with | [] => Q ρ S | _ => False
def wgCons (g : WG) (gs : WGs) : WGs := fun ds ρ S Q => match ds with | d :: r => g d ρ S fun ρ1 S1 => gs r ρ1 S1 Q | [] => False
theorem dgs_nil : DGs X [] wgNil := PGs.imp pgs_nil fun v σ H Q ⟨d, ρ, S, Q', rd, r, h, q, u⟩ => by
  cases rd with
  | nil => exact ⟨rfl, u _ S q _ H (Go.refl _ _) r h⟩
  | cons _ _ => exact q.elim
theorem dgs_cons {g : WG} {gs : WGs} (h1 : DG X e g) (h2 : DGs X es gs) (hs : (assignEach (e :: es) X.env).map (·.2) = assign e X.env :: (assignEach es X.env).map (·.2) := by rfl) : DGs X (e :: es) (wgCons g gs) :=
  PGs.imp (pgs_cons h1 h2 hs) fun v σ H Q ⟨d, ρ, S, Q', rd, r, h, q, u⟩ => by
    cases rd with
    | nil => exact q.elim
    | cons r1 r2 => exact ⟨_, _, rfl, _, ρ, S, _, r1, r, h, q, fun ρ1 S1 q1 σ1 H1 g1 o1 h1 => ⟨_, ρ1, S1, Q', r2.go h g1, o1, h1, q1, u.go g1⟩⟩
def wgTup (n : Nat) (gs : WGs) : WG := fun d ρ S Q => match d with | .tup ds => gd (decide (ds.length = n)) (gs ds ρ S Q) | _ => False
theorem dg_tup {k : Nat} {gs : WGs} {n : Nat} (hc : X.calm = true) (h : DGs X es gs) (hn : (assignEach es X.env).length = n := by rfl) (hst : (assignEach es X.env).findIdx? (·.1) = none := by rfl) : DG X (.Tuple es k pos) (wgTup n gs) :=
  PG.imp (pg_tup hc h hn hst) fun v σ H Q ⟨d, ρ, S, Q', rd, r, h, q, u⟩ => by
    unfold wgTup at q
    split at q
    · obtain ⟨e, q⟩ := gd_iff.mp q
      cases rd with
      | tup qx rs => exact ⟨_, _, rfl, qx, by rw [rs.length]; exact of_decide_eq_true e, _, ρ, S, Q', rs, r, h, q, u⟩
    · exact q.elim
end

/-! ## statements -/
def wNext : WS := fun D ρ S => D.nx ρ S
def wSeq (t u : WS) : WS := fun D ρ S => t { D with nx := u D } ρ S
def wBreak : WS := fun D ρ S => D.bk ρ S
def wCont : WS := fun D ρ S => D.ct ρ S
def wDrop (w : WE) : WS := fun D ρ S => w ρ S fun _ S1 => D.nx ρ S1
def wRet (w : WE) : WS := fun D ρ S => w ρ S D.rt
def wRetN : WS := fun D _ S => D.rt .non S
def wIf (c : WT) (t u : WS) : WS := fun D ρ S => c ρ S fun k S1 => br k (t D ρ S1) (u D ρ S1)
def wNever : WS := fun _ _ _ => False
def wAsg (w : WE) (g : WG) : WS := fun D ρ S => w ρ S fun d S1 => g d ρ S1 D.nx
section
variable {st : Stmt} {rest : List Stmt} {t u : WS} {e : Expr} {w : WE} {pos : Pos}
theorem dss_nil : DSs X [] wNext := PSs.imp pss_nil fun D σ H ⟨ρ, S, D', r, h, q, u⟩ => u.nx _ S q _ H (Go.refl _ _) r h
theorem dss_cons (h1 : DS X st t) (h2 : DSs X rest u) : DSs X (st :: rest) (wSeq t u) :=
  PSs.imp (pss_cons h1 h2) fun D σ H ⟨ρ, S, D', r, h, q, v⟩ => ⟨ρ, S, _, r, h, q, ⟨fun ρ1 S1 q1 σ1 H1 g1 o1 h1 => ⟨ρ1, S1, D', o1, h1, q1, v.go g1⟩, v.rt, v.bk, v.ct⟩⟩
theorem dss_one (h1 : DS X st t) : DSs X [st] t := pss_one h1
theorem ds_pass : DS X (.Pass pos) wNext := PS.imp ps_pass fun D σ H ⟨ρ, S, D', r, h, q, u⟩ => u.nx _ S q _ H (Go.refl _ _) r h
theorem ds_break : DS X (.Break pos) wBreak := PS.imp ps_break fun D σ H ⟨ρ, S, D', r, h, q, u⟩ => u.bk _ S q _ H (Go.refl _ _) r h
theorem ds_cont : DS X (.Continue pos) wCont := PS.imp ps_continue fun D σ H ⟨ρ, S, D', r, h, q, u⟩ => u.ct _ S q _ H (Go.refl _ _) r h
theorem ds_doc {x j pos pos'} : DS X (.Expr (.Constant (.str x) j pos) pos') wNext := PS.imp ps_doc fun D σ H ⟨ρ, S, D', r, h, q, u⟩ => u.nx _ S q _ H (Go.refl _ _) r h
theorem ds_expr (he : DE X e w) (hs : swapsWith e none pos.line X.env = pure false := by rfl) : DS X (.Expr e pos) (wDrop w) :=
  PS.imp (ps_expr he hs) fun D σ H ⟨ρ, S, D', r, h, q, u⟩ => lE_bind r h q fun d S1 v H1 q1 g1 r1 h1 => u.nx _ S1 q1 _ H1 g1 (r.go h g1) h1
theorem ds_ret (he : DE X e w) : DS X (.Return (some e) pos) (wRet w) :=
  PS.imp (ps_ret he) fun D σ H ⟨ρ, S, D', r, h, q, u⟩ => lE_bind r h q fun d S1 v H1 q1 g1 r1 h1 => u.rt _ S1 q1 _ H1 g1 r1 h1
theorem ds_retN : DS X (.Return none pos) wRetN := PS.imp ps_retN fun D σ H ⟨ρ, S, D', r, h, q, u⟩ => u.rt _ S q _ H (Go.refl _ _) .non h
theorem ds_if {c : Expr} {a b : List Stmt} {wc : WT} (hc : DT X c wc) (ha : DSs X a t) (hb : DSs X b u) : DS X (.If c a b pos) (wIf wc t u) :=
  PS.imp (ps_if hc ha hb) fun D σ H ⟨ρ, S, D', r, h, q, v⟩ => lT_bind r h q fun k S1 H1 q1 g1 h1 => by
    have q1 := br_iff.mp q1
    cases k with
    | true => rw [if_pos rfl] at q1 ⊢; exact ⟨ρ, S1, D', r.go h g1, h1, q1, v.go g1⟩
    | false => rw [if_neg Bool.false_ne_true] at q1 ⊢; exact ⟨ρ, S1, D', r.go h g1, h1, q1, v.go g1⟩
theorem ds_never : DS X st wNever := PS.imp ps_never fun D σ H ⟨ρ, S, D', r, h, q, u⟩ => q.elim
theorem dss_never {sts : List Stmt} : DSs X sts wNever := PSs.imp pss_never fun D σ H ⟨ρ, S, D', r, h, q, u⟩ => q.elim
theorem ds_asg {g : WG} (he : DE X e w) (hg : DG X tg g) (hs : swapsWithSole [tg] e pos.line X.env = pure false := by rfl) (hw : swappedStores [tg] e X.env = pure none := by rfl)
    (h1 : (assignEach [tg] X.env).map (·.2) = [assign tg X.env] := by rfl) : DS X (.Assign [tg] e pos) (wAsg w g) :=
  PS.imp (ps_asg he hg hs hw h1) fun D σ H ⟨ρ, S, D', r, h, q, u⟩ => lE_bind r h q fun d S1 v H1 q1 g1 r1 h1 => ⟨d, ρ, S1, _, r1, r.go h g1, h1, q1, u.nx.go g1⟩
theorem ds_set {i : Nat} {x : Str} {pos' : Pos} (hN : X.N.Nodup) (hi : X.N[i]? = some x) (hx : Loc X.env.scope x) (he : DE X e w) (hs : swapsWith e (some (.Name x pos')) pos.line X.env = pure false := by rfl) (hf : X.fn x = true ∨ X.env.scope.names.lookup x = some .local := by first | exact .inl rfl | exact .inr rfl | assumption) :
    DS X (.Assign [.Name x pos'] e pos) (wAsg w (wgN i)) :=
  PS.imp (ps_set hN hi hx he hs hf) fun D σ H ⟨ρ, S, D', r, h, q, u⟩ => lE_bind r h q fun d S1 v H1 q1 g1 r1 h1 => u.nx _ S1 q1 _ H1 g1 ((r.go h g1).set i r1) h1
end

/-! ## loops -/
def fLoop (cs : Cs) (g : WG) (tb : WS) : List DV → DEnds → Env' → DH → Prop
  | [], D, ρ, S => okc cs S (D.nx ρ S)
  | x :: xs, D, ρ, S => okc cs S (g x ρ S fun ρ1 S1 => tb { nx := fLoop cs g tb xs D, ct := fLoop cs g tb xs D, bk := D.nx, rt := D.rt } ρ1 S1)
def wFor (wi : WI) (g : WG) (tb : WS) : WS := fun D ρ S => wi ρ S fun items cs S1 => fLoop cs g tb items D ρ S1
theorem ds_for {iter : Expr} {body : List Stmt} {wi : WI} {g : WG} {tb : WS} {pos : Pos} (hp : PassesOwn (model X.prog X.w) X.A X.env X.xe) (hc : X.calm = true) (hi : DI X tg iter wi) (hg : DG X tg g) (hb : DSs X body tb)
    (hs : ∀ x, foldedSetIterable iter X.env x = pure x := by intro _; rfl) : DS X (.For tg iter body [] pos) (wFor wi g tb) :=
  PS.imp (ps_for hp hc hi hg hb hs) fun D σ H ⟨ρ, S, D', r, h, q, u⟩ => ⟨ρ, S, _, r, h, q, fun items cs S1 q1 J H1 g1 h1 jr => by
    refine ⟨fun i m σ2 H2 => m = items.length - i ∧ i ≤ items.length ∧ ∃ ρ2 S2, Go S1 H1 S2 H2 ∧ ORep X.K S2 H2 σ2 ρ2 ∧ HRep X.K S2 H2 ∧ fLoop cs g tb (items.drop i) D' ρ2 S2,
      ⟨items.length, by simp, Nat.zero_le _, ρ, S1, Go.refl _ _, r.go h g1, h1, q1⟩, ?_⟩
    rintro i m σ2 H2 ⟨rfl, hi2, ρ2, S2, g2, o2, h2, q2⟩
    by_cases hlt : i < items.length
    · rw [List.drop_eq_getElem_cons hlt] at q2
      obtain ⟨ok, q2⟩ := okc_iff.mp q2
      obtain ⟨j1, j2⟩ := (jr S2 H2 g2 h2 ok i).1 hlt
      refine .inr ⟨j1, fun σ' H' => ∃ ρ3 S3, Go S1 H1 S3 H' ∧ ORep X.K S3 H' σ' ρ3 ∧ HRep X.K S3 H' ∧ fLoop cs g tb (items.drop (i + 1)) D' ρ3 S3, fun σ' H' ⟨ρ3, S3, z⟩ => ⟨_, by omega, rfl, by omega, ρ3, S3, z⟩, fun x H' y => ?_⟩
      obtain ⟨d, e1, g3, h3, r3⟩ := j2 x H' y
      rw [List.getElem?_eq_getElem hlt] at e1
      cases e1
      refine ⟨_, ρ2, S2, _, r3, o2.go h2 g3, h3, q2, fun ρ4 S4 q4 σ4 H4 g4 o4 h4 => ⟨ρ4, S4, _, o4, h4, q4, ⟨fun ρ5 S5 q5 σ5 H5 g5 o5 h5 => ⟨ρ5, S5, ((g2.trans g3).trans g4).trans g5, o5, h5, q5⟩, (u.go (((g1.trans g2).trans g3).trans g4)).rt, (u.go (((g1.trans g2).trans g3).trans g4)).nx, fun ρ5 S5 q5 σ5 H5 g5 o5 h5 => ⟨ρ5, S5, ((g2.trans g3).trans g4).trans g5, o5, h5, q5⟩⟩⟩⟩
    · have e : i = items.length := by omega
      subst e
      rw [List.drop_length] at q2
      obtain ⟨ok, q2⟩ := okc_iff.mp q2
      exact .inl ⟨(jr S2 H2 g2 h2 ok _).2 (Nat.le_refl _), u.nx _ S2 q2 _ H2 (g1.trans g2) o2 h2⟩⟩

def wLoop (c : WT) (tb : WS) : Nat → DEnds → Env' → DH → Prop
  | 0, _, _, _ => False
  | n + 1, D, ρ, S => c ρ S fun k S1 => br k (tb { nx := wLoop c tb n D, ct := wLoop c tb n D, bk := D.nx, rt := D.rt } ρ S1) (D.nx ρ S1)
def wWhile (c : WT) (tb : WS) : WS := fun D ρ S => ∃ n, wLoop c tb n D ρ S
theorem ds_while {c : Expr} {body : List Stmt} {wc : WT} {tb : WS} {pos : Pos} (hp : PassesOwn (model X.prog X.w) X.A X.env X.xe) (hc : DT X c wc) (hb : DSs X body tb) : DS X (.While c body [] pos) (wWhile wc tb) :=
  PS.imp (ps_while hp hc hb) fun D σ H ⟨ρ, S, D', r, h, ⟨n, q⟩, u⟩ => by
    refine ⟨fun m σ2 H2 => ∃ ρ2 S2, Go S H S2 H2 ∧ ORep X.K S2 H2 σ2 ρ2 ∧ HRep X.K S2 H2 ∧ wLoop wc tb m D' ρ2 S2, ⟨n, ρ, S, Go.refl _ _, r, h, q⟩, ?_⟩
    rintro m σ2 H2 ⟨ρ2, S2, g2, o2, h2, q2⟩
    cases m with
    | zero => exact q2.elim
    | succ m =>
      refine lT_bind o2 h2 q2 fun k S3 H3 q3 g3 h3 => ?_
      have q3 := br_iff.mp q3
      cases k with
      | true =>
        rw [if_pos rfl] at q3 ⊢
        refine ⟨fun σ' H' => ∃ ρ4 S4, Go S H S4 H' ∧ ORep X.K S4 H' σ' ρ4 ∧ HRep X.K S4 H' ∧ wLoop wc tb m D' ρ4 S4, fun σ' H' z => ⟨m, Nat.lt_succ_self _, z⟩, ?_⟩
        exact ⟨ρ2, S3, _, o2.go h2 g3, h3, q3, ⟨fun ρ5 S5 q5 σ5 H5 g5 o5 h5 => ⟨ρ5, S5, (g2.trans g3).trans g5, o5, h5, q5⟩, (u.go (g2.trans g3)).rt, (u.go (g2.trans g3)).nx, fun ρ5 S5 q5 σ5 H5 g5 o5 h5 => ⟨ρ5, S5, (g2.trans g3).trans g5, o5, h5, q5⟩⟩⟩
      | false =>
        rw [if_neg Bool.false_ne_true] at q3 ⊢
        exact u.nx _ S3 q3 _ H3 (g2.trans g3) (o2.go h2 g3) h3
end
end DL

set_option Elab.async false
set_option linter.all false
set_option maxRecDepth 100000
namespace DL
open PySem PySem.Spec PyProof.Rows L2

/-! ## smaller stores -/
def Sub (S S' : DH) : Prop := ∀ a c, S a = some c → S' a = some c
theorem Sub.refl (S : DH) : Sub S S := fun _ _ e => e
theorem Sub.trans {S S1 S2 : DH} (a : Sub S S1) (b : Sub S1 S2) : Sub S S2 := fun x c e => b x c (a x c e)
theorem Sub.no {S S' : DH} (h : Sub S S') {a : Addr} (e : S' a = none) : S a = none := by
  cases q : S a with
  | none => rfl
  | some c => rw [h a c q] at e; cases e
theorem Sub.new {S S' : DH} (h : Sub S S') {p : Addr} (n : S' p = none) (c : Cell) : Sub S (put S' p c) := fun a x e => by
  rw [put_ne (by intro q; subst q; rw [h.no n] at e; cases e)]; exact h a x e
theorem Sub.put {S S' : DH} (h : Sub S S') {p : Addr} (n : S p = none) (c : Cell) : Sub S (put S' p c) := fun a x e => by
  rw [put_ne (by intro q; subst q; rw [n] at e; cases e)]; exact h a x e
def drop (S : DH) (D : Addr) : DH := fun b => if b = D then none else S b
theorem drop_put {S : DH} {D : Addr} {c : Cell} (n : S D = none) : drop (put S D c) D = S := by
  funext b; unfold drop put; split
  · rename_i e; subst e; exact n.symm
  · rfl
theorem drop_sub (S : DH) (D : Addr) : Sub (drop S D) S := fun a c e => by
  unfold drop at e; split at e
  · cases e
  · exact e
theorem drop_same {S : DH} {D : Addr} : drop S D D = none := by unfold drop; rw [if_pos rfl]
section
variable {K : PySem.W.Frag} {S S' : DH} {H : Hp}
mutual
theorem Rep.sub (h : Sub S' S) : ∀ {v : V} {d : DV}, Rep K S H v d → Rep K S' H v d
  | _, _, .non => .non
  | _, _, .bl b => .bl b
  | _, _, .int b => .int b
  | _, _, .str b => .str b
  | _, _, .ty b => .ty b
  | _, _, .ref b => .ref b
  | _, _, .tup q r => .tup q (Reps.sub h r)
  | _, _, .lst q n r => .lst q (h.no n) (Reps.sub h r)
  | _, _, .scr q => .scr q
theorem Reps.sub (h : Sub S' S) : ∀ {vs : List V} {ds : List DV}, Reps K S H vs ds → Reps K S' H vs ds
  | _, _, .nil => .nil
  | _, _, .cons r q => .cons (Rep.sub h r) (Reps.sub h q)
end
theorem KRep.sub (h : Sub S' S) : ∀ {vs : List (Key × V)} {ds : List (List Nat × DV)}, KRep K S H vs ds → KRep K S' H vs ds
  | [], [], _ => trivial
  | (_, _) :: _, (_, _) :: _, q => ⟨q.1, Rep.sub h q.2.1, KRep.sub h q.2.2⟩
  | [], _ :: _, q => q.elim
  | _ :: _, [], q => q.elim
theorem FRep.sub (h : Sub S' S) : ∀ {vs : List (Str × V)} {ds : List (List Nat × DV)}, FRep K S H vs ds → FRep K S' H vs ds
  | [], [], _ => trivial
  | (_, _) :: _, (_, _) :: _, q => ⟨q.1, Rep.sub h q.2.1, FRep.sub h q.2.2⟩
  | [], _ :: _, q => q.elim
  | _ :: _, [], q => q.elim
theorem HRep.sub (h : HRep K S H) (s : Sub S' S) : HRep K S' H := fun p c e => by
  have q := h p c (s p c e)
  cases c with
  | lst ds => obtain ⟨vs, q, r⟩ := q; exact ⟨vs, q, r.sub s⟩
  | dic ds => obtain ⟨vs, q, r⟩ := q; exact ⟨vs, q, r.sub s⟩
  | ins C ds => obtain ⟨dx, vs, q, r⟩ := q; exact ⟨dx, vs, q, r.sub s⟩
theorem Go.sub (s : Sub S' S) : Go S H S' H := ⟨fun _ _ e _ => e, fun _ e _ => s.no e⟩
end

/-! ## names wiped -/
theorem wipe_get (σ : L2.St) : ∀ (vs : List Nat) (j : Nat), (L2.wipe σ vs)[j]? = if j ∈ vs then (σ[j]?).map (fun _ => none) else σ[j]?
  | [], j => by simp [L2.wipe]
  | v :: vs, j => by
    unfold L2.wipe
    have ih := wipe_get σ vs j
    by_cases e : v = j
    · subst e
      rw [List.getElem?_set, if_pos rfl, L2.wipe_length]
      simp only [List.mem_cons, true_or, if_true]
      by_cases hv : v < σ.length
      · simp [hv]
      · simp [hv]
    · rw [List.getElem?_set_ne e, ih]
      have : (j ∈ v :: vs) = (j ∈ vs) := by simp [Ne.symm e]
      simp only [this]
theorem wipe_set {σ : L2.St} {vs : List Nat} {i : Nat} {x : Option V} (h : i ∈ vs) : L2.wipe (σ.set i x) vs = L2.wipe σ vs := by
  apply List.ext_getElem?
  intro j
  rw [wipe_get, wipe_get]
  by_cases e : j ∈ vs
  · rw [if_pos e, if_pos e, List.getElem?_set]
    split
    · rename_i q; subst q
      by_cases hv : i < σ.length
      · simp [hv]
      · simp [hv]
    · rfl
  · rw [if_neg e, if_neg e, List.getElem?_set_ne (by intro q; subst q; exact e h)]
theorem wipe_wipe {σ : L2.St} {vs : List Nat} : L2.wipe (L2.wipe σ vs) vs = L2.wipe σ vs := by
  apply List.ext_getElem?
  intro j
  rw [wipe_get, wipe_get]
  by_cases e : j ∈ vs
  · rw [if_pos e, if_pos e]
    cases σ[j]? <;> rfl
  · rw [if_neg e, if_neg e]

/-- targets within a comprehension: only the block's own names are stored -/
def lGc (K : PySem.W.Frag) (vs : List Nat) (w : WG) : TG := fun v σ H Q => ∃ d ρ S Q', Rep K S H v d ∧ ORep K S H σ ρ ∧ HRep K S H ∧ w d ρ S Q' ∧ ∀ ρ' S', Q' ρ' S' → ∀ σ' H', Go S H S' H' → ORep K S' H' σ' ρ' → HRep K S' H' → L2.wipe σ' vs = L2.wipe σ vs → Q σ' H'
def lGsc (K : PySem.W.Frag) (vs : List Nat) (w : WGs) : TGs := fun v σ H Q => ∃ d ρ S Q', Reps K S H v d ∧ ORep K S H σ ρ ∧ HRep K S H ∧ w d ρ S Q' ∧ ∀ ρ' S', Q' ρ' S' → ∀ σ' H', Go S H S' H' → ORep K S' H' σ' ρ' → HRep K S' H' → L2.wipe σ' vs = L2.wipe σ vs → Q σ' H'
def DGc (X : Cx) (vs : List Nat) (e : Expr) (w : WG) : Prop := PG X e (lGc X.K vs w)
def DGsc (X : Cx) (vs : List Nat) (e : List Expr) (w : WGs) : Prop := PGs X e (lGsc X.K vs w)
section
variable {X : Cx} {tg : Expr} {e : Expr} {es : List Expr} {pos : Pos} {vs : List Nat}
theorem dgc_name {i : Nat} {x : Str} (hN : X.N.Nodup) (hi : X.N[i]? = some x) (hv : i ∈ vs) (hx : Loc X.env.scope x) (hf : X.fn x = true ∨ X.env.scope.names.lookup x = some .local := by first | exact .inl rfl | exact .inr rfl | assumption) : DGc X vs (.Name x pos) (wgN i) :=
  PG.imp (pg_name hN hi hx hf) fun v σ H Q ⟨d, ρ, S, Q', rd, r, h, q, u⟩ => u _ S q _ H (Go.refl _ _) (r.set i rd) h (wipe_set hv)
theorem dgsc_nil : DGsc X vs [] wgNil := PGs.imp pgs_nil fun v σ H Q ⟨d, ρ, S, Q', rd, r, h, q, u⟩ => by
  cases rd with
  | nil => exact ⟨rfl, u _ S q _ H (Go.refl _ _) r h rfl⟩
  | cons _ _ => exact q.elim
theorem dgsc_cons {g : WG} {gs : WGs} (h1 : DGc X vs e g) (h2 : DGsc X vs es gs) (hs : (assignEach (e :: es) X.env).map (·.2) = assign e X.env :: (assignEach es X.env).map (·.2) := by rfl) : DGsc X vs (e :: es) (wgCons g gs) :=
  PGs.imp (pgs_cons h1 h2 hs) fun v σ H Q ⟨d, ρ, S, Q', rd, r, h, q, u⟩ => by
    cases rd with
    | nil => exact q.elim
    | cons r1 r2 => exact ⟨_, _, rfl, _, ρ, S, _, r1, r, h, q, fun ρ1 S1 q1 σ1 H1 g1 o1 h1 w1 => ⟨_, ρ1, S1, Q', r2.go h g1, o1, h1, q1, fun ρ2 S2 q2 σ2 H2 g2 o2 h2 w2 => u ρ2 S2 q2 σ2 H2 (g1.trans g2) o2 h2 (w2.trans w1)⟩⟩
theorem dgc_tup {k : Nat} {gs : WGs} {n : Nat} (hc : X.calm = true) (h : DGsc X vs es gs) (hn : (assignEach es X.env).length = n := by rfl) (hst : (assignEach es X.env).findIdx? (·.1) = none := by rfl) : DGc X vs (.Tuple es k pos) (wgTup n gs) :=
  PG.imp (pg_tup hc h hn hst) fun v σ H Q ⟨d, ρ, S, Q', rd, r, h, q, u⟩ => by
    unfold wgTup at q
    split at q
    · obtain ⟨e, q⟩ := gd_iff.mp q
      cases rd with
      | tup qx rs => exact ⟨_, _, rfl, qx, by rw [rs.length]; exact of_decide_eq_true e, _, ρ, S, Q', rs, r, h, q, u⟩
    · exact q.elim

/-! ## comprehensions -/
def wYes : WT := fun _ S Q => Q true S
def DTs (X : Cx) (ifs : List Expr) (w : WT) : Prop := PTs X ifs (lT X.K w)
theorem PTs.imp {X : Cx} {ifs : List Expr} {t t' : TT} (h : PTs X ifs t) (i : ∀ σ H Q, t' σ H Q → t σ H Q) : PTs X ifs t' := ⟨fun pins s σ H Q I q => h.run pins s σ H Q I (i _ _ _ q)⟩
theorem dts_nil : DTs X [] wYes := PTs.imp pts_nil fun σ H Q ⟨ρ, S, Q', r, h, q, u⟩ => u _ S q H (Go.refl _ _) h
theorem dts_one {c : Expr} {w : WT} (h : DT X c w) : DTs X [c] w := pts_one h
def lcLoop (D : Addr) (cs : Cs) (g : WG) (wt : WT) (we : WE) (ρ : Env') : List DV → List DV → DH → (List DV → DH → Prop) → Prop
  | [], acc, S, R => okc cs S (R acc S)
  | x :: xs, acc, S, R => okc cs S (g x ρ S fun ρ1 S1 => wt ρ1 S1 fun k S2 => br k
      (we ρ1 S2 fun y S3 => S3 D = some (.lst acc) ∧ gd (decide (acc.length < 16777216)) (lcLoop D cs g wt we ρ xs (acc ++ [y]) (put S3 D (.lst (acc ++ [y]))) R))
      (S2 D = some (.lst acc) ∧ lcLoop D cs g wt we ρ xs acc S2 R))
def wLcG (fin : Addr → List DV → DH → DK → Prop) (vs : List Nat) (wi : WI) (g : WG) (wt : WT) (we : WE) : WE := fun ρ S Q => wi ρ S fun items cs S1 => ∀ D, S1 D = none →
  lcLoop D cs g wt we (wip ρ vs) items [] (put S1 D (.lst [])) fun acc S2 => fin D acc S2 Q
/-- as a list by value -/
def finV (D : Addr) (acc : List DV) (S : DH) (Q : DK) : Prop := Q (.lst acc) (drop S D)
def wLc := wLcG finV
/-- as a list that may be changed -/
def finM (D : Addr) (_ : List DV) (S : DH) (Q : DK) : Prop := Q (.ref D) S
def wLcM := wLcG finM
theorem lc_read {K : PySem.W.Frag} {fin : Addr → List DV → DH → DK → Prop} {vs : List Nat} {wi : WI} {g : WG} {wt : WT} {we : WE} {σ : L2.St} {H : Hp} {Q : VK}
    (hfin : ∀ D acc S H Q' Q, HRep K S H → S D = some (.lst acc) → fin D acc S Q' → up K S H Q' Q → Q (.ref D) H)
    (q : lE K (wLcG fin vs wi g wt we) σ H Q) : tLc (lI K wi) (lGc K vs g) (lT K wt) (lE K we) vs σ H Q := by
  obtain ⟨ρ, S, Q', r, h, q, u⟩ := q
  refine ⟨ρ, S, _, r, h, q, fun items cs S1 q1 J H1 g1 h1 jr D nD => ?_⟩
  have q1 := q1 D (h1.trk nD)
  have g2 : Go S1 H1 (put S1 D (.lst [])) (upd H1 D (.lst [])) := Go.new nD
  have h2 : HRep K (put S1 D (.lst [])) (upd H1 D (.lst [])) := h1.new nD ⟨[], upd_same, .nil⟩
  refine ⟨fun i m H2 => m = items.length - i ∧ i ≤ items.length ∧ ∃ acc S2, Go S1 H1 S2 H2 ∧ HRep K S2 H2 ∧ S2 D = some (.lst acc) ∧ lcLoop D cs g wt we (wip ρ vs) (items.drop i) acc S2 fun acc S2 => fin D acc S2 Q',
    ⟨items.length, by simp, Nat.zero_le _, [], _, g2, h2, put_same, q1⟩, ?_⟩
  rintro i m H2 ⟨rfl, hi2, acc, S2, g3, h3, hD, q2⟩
  have o2 : ORep K S2 H2 (L2.wipe σ vs) (wip ρ vs) := (r.go h (g1.trans g3)).wipe vs
  by_cases hlt : i < items.length
  · rw [List.drop_eq_getElem_cons hlt] at q2
    obtain ⟨ok, q2⟩ := okc_iff.mp q2
    obtain ⟨j1, j2⟩ := (jr S2 H2 g3 h3 ok i).1 hlt
    refine .inr ⟨j1, fun H' => ∃ acc S3, Go S1 H1 S3 H' ∧ HRep K S3 H' ∧ S3 D = some (.lst acc) ∧ lcLoop D cs g wt we (wip ρ vs) (items.drop (i + 1)) acc S3 fun acc S2 => fin D acc S2 Q', fun H' ⟨acc, S3, z⟩ => ⟨_, by omega, rfl, by omega, acc, S3, z⟩, fun x H' y => ?_⟩
    obtain ⟨d, e1, g4, h4, r4⟩ := j2 x H' y
    rw [List.getElem?_eq_getElem hlt] at e1
    cases e1
    refine ⟨_, wip ρ vs, S2, _, r4, o2.go h3 g4, h4, q2, fun ρ5 S5 q5 σ5 H5 g5 o5 h5 w5 => ⟨w5.trans wipe_wipe, ?_⟩⟩
    refine lT_bind o5 h5 q5 fun k S6 H6 q6 g6 h6 => ?_
    have q6 := br_iff.mp q6
    have g06 : Go S1 H1 S6 H6 := ((g3.trans g4).trans g5).trans g6
    cases k with
    | true =>
      rw [if_pos rfl] at q6 ⊢
      refine lE_bind (o5.go h5 g6) h6 q6 fun y S7 v7 H7 ⟨hD7, q7⟩ g7 r7 h7 => ?_
      obtain ⟨hz, q7⟩ := gd_iff.mp q7
      obtain ⟨av, ha, ra⟩ := h7 D _ hD7
      have c7 : CRep K (put S7 D (.lst (acc ++ [y]))) (upd H7 D (.lst (av ++ [v7]))) D (.lst (acc ++ [y])) := ⟨_, upd_same, (ra.go h7 (Go.write hD7)).append (.one (r7.go h7 (Go.write hD7)))⟩
      exact ⟨av, ha, by rw [ra.length]; exact lt_line hz, acc ++ [y], _, (g06.trans g7).trans (Go.write hD7), h7.write hD7 c7, put_same, q7⟩
    | false =>
      rw [if_neg Bool.false_ne_true] at q6 ⊢
      exact ⟨acc, S6, g06, h6, q6.1, q6.2⟩
  · have e : i = items.length := by omega
    subst e
    rw [List.drop_length] at q2
    obtain ⟨ok, q2⟩ := okc_iff.mp q2
    exact .inl ⟨(jr S2 H2 g3 h3 ok _).2 (Nat.le_refl _), hfin D acc S2 H2 Q' Q h3 hD q2 (u.go (g1.trans g3))⟩
end
end DL

set_option Elab.async false
set_option linter.all false
set_option maxRecDepth 100000
namespace DL
open PySem PySem.Spec PyProof.Rows L2
section
variable {X : Cx} {tg : Expr}
theorem fin_val {K : PySem.W.Frag} : ∀ D acc S H (Q' : DK) (Q : VK), HRep K S H → S D = some (.lst acc) → finV D acc S Q' → up K S H Q' Q → Q (.ref D) H := fun D acc S H Q' Q h hD q u => by
  obtain ⟨vs, hv, rs⟩ := h D _ hD
  exact u _ _ q _ H (Go.sub (drop_sub S D)) (.lst hv drop_same (rs.sub (drop_sub S D))) (h.sub (drop_sub S D))
theorem fin_ref {K : PySem.W.Frag} : ∀ D (acc : List DV) S H (Q' : DK) (Q : VK), HRep K S H → S D = some (.lst acc) → finM D acc S Q' → up K S H Q' Q → Q (.ref D) H := fun D acc S H Q' Q h hD q u => u _ _ q _ H (Go.refl _ _) (.ref D) h
section
variable {elt iter : Expr} {ifs : List Expr} {scope : Scope} {own : List (Str × Nat)} {pos : Pos} {wi : WI} {g : WG} {wt : WT} {we : WE}
theorem de_lcG {fin : Addr → List DV → DH → DK → Prop} (hfin : ∀ D acc S H Q' Q, HRep X.K S H → S D = some (.lst acc) → fin D acc S Q' → up X.K S H Q' Q → Q (.ref D) H) (hc : X.calm = true) (hN : X.N.Nodup) (hi : DI X tg iter wi) (ok : BlkOk X.N X.env.scope scope own)
    (hg : ∀ (s : Shared) (H : Hp) (C : Addr) (cl : List (Str × Addr)) (fp : List Addr), DGc (X.blk s H scope (compEnvC scope cl C X.env) fp) (own.map (·.2)) tg g) (ht : ∀ (s : Shared) (H : Hp) (C : Addr) (cl : List (Str × Addr)) (fp : List Addr), DTs (X.blk s H scope (compEnvC scope cl C X.env) fp) ifs wt)
    (he : ∀ (s : Shared) (H : Hp) (C : Addr) (cl : List (Str × Addr)) (fp : List Addr), DE (X.blk s H scope (compEnvC scope cl C X.env) fp) elt we) (hs : ∀ x, foldedSetIterable iter X.env x = pure x := by intro _; rfl) :
    DE X (.ListComp elt [⟨tg, iter, ifs, 0⟩] scope pos) (wLcG fin (own.map (·.2)) wi g wt we) :=
  PE.imp (pe_lc (g := lGc X.K (own.map fun z : Str × Nat => z.2) g) (tt := lT X.K wt) (te := lE X.K we) hc hN hi ok hg ht he hs) fun σ H Q q => lc_read hfin q
theorem ds_setLcG {fin : Addr → List DV → DH → DK → Prop} (hfin : ∀ D acc S H Q' Q, HRep X.K S H → S D = some (.lst acc) → fin D acc S Q' → up X.K S H Q' Q → Q (.ref D) H) {i : Nat} {y : Str} {py spos : Pos} (hc : X.calm = true) (hN : X.N.Nodup) (hy : X.N[i]? = some y) (hyl : X.env.scope.names.lookup y = some .local)
    (hsw : swapsWith (.ListComp elt [⟨tg, iter, ifs, 0⟩] scope pos) (some (.Name y py)) spos.line X.env = pure true) (hi : DI X tg iter wi) (ok : BlkOk X.N X.env.scope scope own)
    (hg : ∀ (s : Shared) (H : Hp) (C : Addr) (cl : List (Str × Addr)) (fp : List Addr), DGc (X.blk s H scope (compEnvC scope cl C X.env) fp) (own.map (·.2)) tg g) (ht : ∀ (s : Shared) (H : Hp) (C : Addr) (cl : List (Str × Addr)) (fp : List Addr), DTs (X.blk s H scope (compEnvC scope cl C X.env) fp) ifs wt)
    (he : ∀ (s : Shared) (H : Hp) (C : Addr) (cl : List (Str × Addr)) (fp : List Addr), DE (X.blk s H scope (compEnvC scope cl C X.env) fp) elt we) (hs : ∀ x, foldedSetIterable iter X.env x = pure x := by intro _; rfl) :
    DS X (.Assign [.Name y py] (.ListComp elt [⟨tg, iter, ifs, 0⟩] scope pos) spos) (wAsg (wLcG fin (own.map (·.2)) wi g wt we) (wgN i)) :=
  PS.imp (ps_setLc (g := lGc X.K (own.map fun z : Str × Nat => z.2) g) (tt := lT X.K wt) (te := lE X.K we) hc hN hy hyl hsw hi ok hg ht he hs) fun D σ H ⟨ρ, S, D', r, h, q, u⟩ =>
    lc_read hfin ⟨ρ, S, _, r, h, q, fun d S1 q1 v H1 g1 r1 h1 => u.nx _ S1 q1 _ H1 g1 ((r.go h g1).set i r1) h1⟩
end

/-! ## calls of defs: contracts that also know that no repr runs around -/
abbrev Calm (A : Around) : Prop := A.guards = some []
structure FnG (P : Program) (w : World) (K : PySem.W.Frag) (mg : Str → Option Value) (base : Heap) (CX : CXT) (k : Nat) (f : Addr) (fd : FuncData) (ps : List Str) (sp : Sp) : Prop where
  len : ∀ vs H Q E, sp vs H Q E → vs.length = ps.length
  go : ∀ (A : Around) (outer : List Env) (s : Shared) (H : Hp) (args : Args) (us : List Value) (vs : List V) (Q : VK) (E : XK), Calm A → Room k A → Env0 P w K mg base A outer s H → BindsTo s fd args (ps.zip us) → Vals vs us → sp vs H Q E →
    codeAny (model P w) A (.call (.ref f) args) (CR CX outer P w H s Q E) s
abbrev Spec := List DV → DH → DK → Prop
def lSp (K : PySem.W.Frag) (n : Nat) (sp : Spec) : Sp := fun vs H Q _ => vs.length = n ∧ ∃ ds S Q', Reps K S H vs ds ∧ HRep K S H ∧ sp ds S Q' ∧ up K S H Q' Q
def wCall (n : Nat) (sp : Spec) (ws : WA) : WE := fun ρ S Q => ws ρ S fun ds S1 => gd (decide (ds.length = n)) (sp ds S1 Q)
section
variable {k n : Nat} {f C : Addr} {fd : FuncData} {ps : List Str} {sp : Spec} {spv : Sp} {x m : Str} {p pos apos : Pos} {e o : Expr} {es : List Expr} {wo : WE} {ws : WA}
theorem goes {pins : List (Addr × Obj)} {σ : L2.St} {H : Hp} {s : Shared} {Q : VK} {us : List Value} {vs : List V} (F : FnG X.prog X.w X.K X.mg X.base CX0 k f fd ps spv) (gu : Calm X.A) (hr : Room k X.A) (hb : Binds X.K fd ps [])
    (I : Inv X pins σ H s) (r : Vals vs us) (h : spv vs H Q E0) : wpAny (model X.prog X.w) X.A (call (.ref f) us) (EP X pins σ Q) X.xe s := by
  have lu : (us ++ []).length = ps.length := by rw [List.append_nil, ← r.length]; exact F.len _ _ _ _ h
  have bd := hb s us I.kIn lu
  rw [List.append_nil] at bd
  have z := F.go X.A X.stack s H ⟨us, []⟩ us vs Q E0 gu hr I.env0 bd r h
  refine wpAny_call (codeAny_mono z fun res s2 hres => ?_)
  rcases res with er | fl
  · exact (show False from hres).elim
  · rcases fl with _ | _ | _ | u
    · exact (show False from hres).elim
    · exact (show False from hres).elim
    · exact (show False from hres).elim
    · exact I.after hres
theorem de_call (F : FnG X.prog X.w X.K X.mg X.base CX0 k f fd ps (lSp X.K n sp)) (gu : Calm X.A) (hr : Room k X.A) (hg : Gl X x) (hm : X.mg x = some (.ref f)) (hk : PySem.W.keepIn X.K (.ref f) = true) (hb : Binds X.K fd ps [])
    (ha : DA X (e :: es) ws) (hdb : (x == ("__debug__" : Str)) = false := by decide) (he : starEach (e :: es) X.env = (false, eval e X.env) :: starEach es X.env := by rfl) (hpl : (backTo pos (starEach es X.env)).any (·.1) = false := by rfl) :
    DE X (.Call (.Name x p) (e :: es) [] pos) (wCall n sp ws) := by
  refine ⟨fun pins s σ H Q I ⟨ρ, S, Q', r, h, q, u⟩ => wpAny_Call_Name_kw (ld_glob I hg hm ?_ hdb)⟩
  have an := ha.run pos pins s σ H (fun vs H1 => lSp X.K n sp vs H1 Q E0) I (lA_bind r h q fun ds S1 vs H1 q1 g1 r1 h1 => by
    obtain ⟨e, q1⟩ := gd_iff.mp q1
    exact ⟨by rw [r1.length]; exact of_decide_eq_true e, ds, S1, Q', r1, h1, q1, u.go g1⟩)
  exact PySem.W.callWith_K (h₀ := X.base) I.ok.mod.kin hk (thn an fun us s1 ⟨vs, H1, I1, rv, q1⟩ => ⟨I1.kIn, goes F gu hr hb I1 rv q1⟩) he hpl
theorem de_call0 (F : FnG X.prog X.w X.K X.mg X.base CX0 k f fd ps (lSp X.K 0 sp)) (gu : Calm X.A) (hr : Room k X.A) (hg : Gl X x) (hm : X.mg x = some (.ref f)) (hk : PySem.W.keepIn X.K (.ref f) = true) (hb : Binds X.K fd ps [])
    (hdb : (x == ("__debug__" : Str)) = false := by decide) : DE X (.Call (.Name x p) [] [] pos) (wCall 0 sp wNil) :=
  ⟨fun pins s σ H Q I ⟨ρ, S, Q', r, h, q, u⟩ => wpAny_Call_Name_kw (ld_glob I hg hm (PySem.W.callWith_K0 I.kIn hk (goes (us := []) F gu hr hb I .nil ⟨rfl, [], S, Q', .nil, h, q, u⟩)) hdb)⟩
/-- o.m(..) of an instance of the class at C -/
def wMeth (C : Addr) (m : List Nat) (n : Nat) (sp : Spec) (wo : WE) (ws : WA) : WE := fun ρ S Q => wo ρ S fun d S1 => match d with
  | .ref p => ∃ fs, S1 p = some (.ins C fs) ∧ fs.lookup m = none ∧ ws ρ S1 fun ds S2 => gd (decide (ds.length + 1 = n)) (sp (.ref p :: ds) S2 Q)
  | _ => False
theorem de_meth {ml : List Nat} {pl : Sem Bool} (em : m = sOf ml) (ho : DE X o wo) (c : Cls X.K C) (hm : Meth X.K C m f) (F : FnG X.prog X.w X.K X.mg X.base CX0 k f fd ps (lSp X.K n sp)) (gu : Calm X.A) (hr : Room k X.A) (hb : Binds X.K fd ps []) (ha : DA X (e :: es) ws)
    (hst : starEach (e :: es) X.env = (false, eval e X.env) :: starEach es X.env := by rfl) (hpl : (backTo pos (starEach es X.env)).any (·.1) = false := by rfl)
    (ht : eval (.Call (.Attribute o m apos) (e :: es) [] pos) X.env = (do
      let ov ← eval o X.env; standAt apos.atName; let (f, first) ← holding [ov] (getMethod ov m pl)
      callWith pos f first (backTo pos (starEach (e :: es) X.env)) (backToKw pos (keywordEach [] X.env))) := by rfl) :
    DE X (.Call (.Attribute o m apos) (e :: es) [] pos) (wMeth C ml n sp wo ws) := by
  subst em
  refine ⟨fun pins s σ H Q I ⟨ρ, S, Q', r, h, q, u⟩ => PySem.W.methodCall_KW (pl := pl) ?_ ht⟩
  have on := ho.run pins s σ H (fun x H1 => ∃ a dx fs, x = .ref a ∧ H1 a = some (.ins C dx fs) ∧ fs.lookup (sOf ml) = none ∧ lA X.K ws σ H1 fun vs H2 => lSp X.K n sp (x :: vs) H2 Q E0) I (lE_bind r h q fun d S1 v H1 q1 g1 r1 h1 => by
    cases d with
    | ref p =>
      cases r1
      obtain ⟨fs, hp, hl, q1⟩ := q1
      obtain ⟨dx, gs, hp2, rf⟩ := h1 p _ hp
      refine ⟨p, dx, gs, rfl, hp2, rf.none hl, lA_bind (r.go h g1) h1 q1 fun ds S2 vs H2 q2 g2 r2 h2 => ?_⟩
      obtain ⟨e, q2⟩ := gd_iff.mp q2
      exact ⟨by rw [List.length_cons, r2.length]; exact of_decide_eq_true e, _, S2, Q', .cons (.ref p) r2, h2, q2, u.go (g1.trans g2)⟩
    | _ => exact q1.elim)
  refine thn on fun ov s1 ⟨x, H1, I1, rx, a, dx, fs, ex, ea, l, q1⟩ => ?_
  subst ex
  cases rx
  exact getmeth_ok I1 ea c hm l (PySem.W.callWith_K (first := [.ref a]) (h₀ := X.base) I.ok.mod.kin hm.kp (thn (ha.run pos pins s1 σ H1 _ I1 q1) fun us s2 ⟨vs, H2, I2, rv, q2⟩ => ⟨I2.kIn, goes (us := .ref a :: us) (vs := .ref a :: vs) F gu hr hb I2 (.cons rfl rv) q2⟩) hst hpl)
theorem de_meth0 {ml : List Nat} {pl : Sem Bool} (em : m = sOf ml) (ho : DE X o wo) (c : Cls X.K C) (hm : Meth X.K C m f) (F : FnG X.prog X.w X.K X.mg X.base CX0 k f fd ps (lSp X.K n sp)) (gu : Calm X.A) (hr : Room k X.A) (hb : Binds X.K fd ps [])
    (ht : eval (.Call (.Attribute o m apos) [] [] pos) X.env = (do
      let ov ← eval o X.env; standAt apos.atName; let (f, first) ← holding [ov] (getMethod ov m pl)
      callWith pos f first (backTo pos (starEach [] X.env)) (backToKw pos (keywordEach [] X.env))) := by rfl) :
    DE X (.Call (.Attribute o m apos) [] [] pos) (wMeth C ml n sp wo wNil) := by
  subst em
  refine ⟨fun pins s σ H Q I ⟨ρ, S, Q', r, h, q, u⟩ => PySem.W.methodCall_KW (pl := pl) ?_ ht⟩
  have on := ho.run pins s σ H (fun x H1 => ∃ a dx fs, x = .ref a ∧ H1 a = some (.ins C dx fs) ∧ fs.lookup (sOf ml) = none ∧ lSp X.K n sp [x] H1 Q E0) I (lE_bind r h q fun d S1 v H1 q1 g1 r1 h1 => by
    cases d with
    | ref p =>
      cases r1
      obtain ⟨fs, hp, hl, q1⟩ := q1
      obtain ⟨dx, gs, hp2, rf⟩ := h1 p _ hp
      obtain ⟨e, q2⟩ := gd_iff.mp q1
      exact ⟨p, dx, gs, rfl, hp2, rf.none hl, by have := of_decide_eq_true e; simpa using this, _, S1, Q', .cons (.ref p) .nil, h1, q2, u.go g1⟩
    | _ => exact q1.elim)
  refine thn on fun ov s1 ⟨x, H1, I1, rx, a, dx, fs, ex, ea, l, q1⟩ => ?_
  subst ex
  cases rx
  exact getmeth_ok I1 ea c hm l (PySem.W.callWith_K0 (first := [.ref a]) I1.kIn hm.kp (goes (us := [.ref a]) (vs := [.ref a]) F gu hr hb I1 (.cons rfl .nil) q1))
/-- o.f -/
def wFld (C : Addr) (f : List Nat) (wo : WE) : WE := fun ρ S Q => wo ρ S fun d S1 => match d with
  | .ref p => ∃ fs, S1 p = some (.ins C fs) ∧ match fs.lookup f with | some d => Q d S1 | none => False
  | _ => False
theorem de_fld {fl : List Nat} {f : Str} (ef : f = sOf fl) (he : DE X e wo) (c : Cls X.K C) (n : NoAttr X.K C f) (hb : attributeBase e f X.env (eval e X.env) = eval e X.env := by rfl) : DE X (.Attribute e f pos) (wFld C fl wo) := by
  subst ef
  refine PE.imp (pe_fld he hb) fun σ H Q ⟨ρ, S, Q', r, h, q, u⟩ => lE_bind r h q fun d S1 v H1 q1 g1 r1 h1 => ?_
  cases d with
  | ref p =>
    cases r1
    obtain ⟨fs, hp, q1⟩ := q1
    obtain ⟨dx, gs, hp2, rf⟩ := h1 p _ hp
    split at q1
    · rename_i d e
      obtain ⟨v, e2, r2⟩ := rf.get e
      exact ⟨p, C, dx, gs, v, rfl, hp2, c, n, e2, u _ S1 q1 _ H1 g1 r2 h1⟩
    · exact q1.elim
  | _ => exact q1.elim
/-- o.f = e -/
def wSetF (C : Addr) (f : List Nat) (wo wv : WE) : WS := fun D ρ S => wv ρ S fun y S1 => wo ρ S1 fun d S2 => match d with
  | .ref p => ∃ fs, S2 p = some (.ins C fs) ∧ gd (decide (fs.length < 1000)) (D.nx ρ (put S2 p (.ins C (putD f y fs))))
  | _ => False
theorem ds_setF {fl : List Nat} {f : Str} {value : Expr} {wv : WE} {pos' : Pos} (ef : f = sOf fl) (ho : DE X o wo) (hv : DE X value wv) (c : Cls X.K C) (n : NoAttr X.K C f) (hs : swapsWith value (some (.Attribute o f pos')) pos.line X.env = pure false := by rfl) : DS X (.Assign [.Attribute o f pos'] value pos) (wSetF C fl wo wv) := by
  subst ef
  refine PS.imp (ps_fld ho hv hs) fun D σ H ⟨ρ, S, D', r, h, q, u⟩ => lE_bind r h q fun y S1 v H1 q1 g1 r1 h1 => lE_bind (r.go h g1) h1 q1 fun d S2 v2 H2 q2 g2 r2 h2 => ?_
  cases d with
  | ref p =>
    cases r2
    obtain ⟨fs, hp, q2⟩ := q2
    obtain ⟨e, q2⟩ := gd_iff.mp q2
    obtain ⟨dx, gs, hp2, rf⟩ := h2 p _ hp
    refine ⟨p, C, dx, gs, rfl, hp2, c, n, by rw [rf.length]; exact of_decide_eq_true e, ?_⟩
    have g3 : Go S2 H2 (put S2 p (.ins C (putD fl y fs))) (upd H2 p (.ins C dx (putF (sOf fl) v gs))) := Go.write hp
    have c3 : CRep X.K (put S2 p (.ins C (putD fl y fs))) (upd H2 p (.ins C dx (putF (sOf fl) v gs))) p (.ins C (putD fl y fs)) := ⟨dx, _, upd_same, (rf.go h2 g3).put fl ((r1.go h1 g2).go h2 g3)⟩
    exact u.nx _ _ q2 _ _ ((g1.trans g2).trans g3) (((r.go h g1).go h1 g2).go h2 g3) (h2.write hp c3)
  | _ => exact q2.elim
/-- C(..) by an own __init__ -/
def wMake (C : Addr) (n : Nat) (sp : Spec) (ws : WA) : WE := fun ρ S Q => ws ρ S fun ds S1 => gd (decide (ds.length + 1 = n)) (∀ p, S1 p = none → sp (.ref p :: ds) (put S1 p (.ins C [])) fun d S2 => match d with | .non => Q (.ref p) S2 | _ => False)
theorem make_read {K : PySem.W.Frag} {S : DH} {H : Hp} {vs : List V} {ds : List DV} {Q' : DK} {Q : VK} (h : HRep K S H) (r : Reps K S H vs ds) (e : ds.length + 1 = n) (u : up K S H Q' Q)
    (q : ∀ p, S p = none → sp (.ref p :: ds) (put S p (.ins C [])) fun d S2 => match d with | .non => Q' (.ref p) S2 | _ => False) :
    ∀ x dx, H x = none → H dx = none → dx ≠ x → lSp K n sp (.ref x :: vs) (upd (upd H dx (.own x)) x (.ins C dx [])) (fun v H2 => v = .non ∧ Q (.ref x) H2) E0 := by
  intro x dx nx ndx ne
  have n2 : upd H dx (.own x) x = none := by rw [upd_ne (Ne.symm ne)]; exact nx
  have g1 : Go S H S (upd H dx (.own x)) := Go.grow ndx
  have h1 : HRep K S (upd H dx (.own x)) := h.grow ndx
  have g2 : Go S (upd H dx (.own x)) (put S x (.ins C [])) (upd (upd H dx (.own x)) x (.ins C dx [])) := Go.new n2
  have h2 : HRep K (put S x (.ins C [])) (upd (upd H dx (.own x)) x (.ins C dx [])) := h1.new n2 ⟨dx, [], upd_same, trivial⟩
  refine ⟨by rw [List.length_cons, r.length]; exact e, .ref x :: ds, _, _, .cons (.ref x) ((r.go h g1).go h1 g2), h2, q x (h.trk nx), fun d S3 q3 v H3 g3 r3 h3 => ?_⟩
  cases d with
  | non => cases r3; exact ⟨rfl, u _ S3 q3 _ H3 ((g1.trans g2).trans g3) (.ref x) h3⟩
  | _ => exact (show False from q3).elim
theorem makes {pins : List (Addr × Obj)} {σ : L2.St} {H : Hp} {s : Shared} {Q : VK} {us : List Value} {vs : List V} (M : Mk X.K C f) (F : FnG X.prog X.w X.K X.mg X.base CX0 k f fd ps spv) (gu : Calm X.A) (hr : Room (k + 1) X.A) (hb : Binds X.K fd ps [])
    (I : Inv X pins σ H s) (r : Vals vs us) (h : ∀ x dx, H x = none → H dx = none → dx ≠ x → spv (.ref x :: vs) (upd (upd H dx (.own x)) x (.ins C dx [])) (fun v H2 => v = .non ∧ Q (.ref x) H2) E0) :
    wpAny (model X.prog X.w) X.A (call (.ref C) us) (EP X pins σ Q) X.xe s := by
  let d := s.heap.objs.size
  have J : Inv X pins σ (upd (upd H d (.own (d + 1))) (d + 1) (.ins C d [])) _ := Inv.made (C := C) I
  have q := h (d + 1) d (I.hok.fresh (Nat.le_succ d)) (I.hok.fresh (Nat.le_refl d)) (Nat.ne_of_lt (Nat.lt_succ_self d))
  have rr : Vals (.ref (d + 1) :: vs) (.ref (d + 1) :: us) := .cons rfl r
  have lu : ((.ref (d + 1) :: us) ++ [] : List Value).length = ps.length := by rw [List.append_nil, ← rr.length]; exact F.len _ _ _ _ q
  have bd := hb _ (.ref (d + 1) :: us) J.kIn lu
  rw [List.append_nil] at bd
  have gu2 : Calm (X.A.under (.builtin "type.__call__" ⟨.ref C :: us, []⟩)) := by
    have e : X.A.guards = some [] := gu
    simp [Calm, Around.under, e, Code.guards, pushGuards, Code.isGuard, guardIds]
  have z := F.go _ X.stack _ _ ⟨.ref (d + 1) :: us, []⟩ _ _ _ E0 gu2 (hr.make C us []) (J.env0.make C us []) bd rr q
  refine wpAny_call (make_map (f := f) I.kIn M.makes M.init (beq_iff_eq.mp M.fn) (codeAny_mono z fun res s2 hres => ?_))
  rcases res with er | fl
  · exact (show False from hres).elim
  · rcases fl with _ | _ | _ | u
    · exact (show False from hres).elim
    · exact (show False from hres).elim
    · exact (show False from hres).elim
    · obtain ⟨v, H2, I2, rv, ev, q2⟩ := J.after hres
      subst ev
      exact ⟨rv, .ref (d + 1), H2, I2, rfl, q2⟩
theorem de_make (M : Mk X.K C f) (F : FnG X.prog X.w X.K X.mg X.base CX0 k f fd ps (lSp X.K n sp)) (gu : Calm X.A) (hr : Room (k + 1) X.A) (hg : Gl X x) (hm : X.mg x = some (.ref C)) (hb : Binds X.K fd ps [])
    (ha : DA X (e :: es) ws) (hdb : (x == ("__debug__" : Str)) = false := by decide) (he : starEach (e :: es) X.env = (false, eval e X.env) :: starEach es X.env := by rfl) (hpl : (backTo pos (starEach es X.env)).any (·.1) = false := by rfl) :
    DE X (.Call (.Name x p) (e :: es) [] pos) (wMake C n sp ws) := by
  refine ⟨fun pins s σ H Q I ⟨ρ, S, Q', r, h, q, u⟩ => wpAny_Call_Name_kw (ld_glob I hg hm ?_ hdb)⟩
  have an := ha.run pos pins s σ H (fun vs H1 => ∀ x dx, H1 x = none → H1 dx = none → dx ≠ x → lSp X.K n sp (.ref x :: vs) (upd (upd H1 dx (.own x)) x (.ins C dx [])) (fun v H2 => v = .non ∧ Q (.ref x) H2) E0) I (lA_bind r h q fun ds S1 vs H1 q1 g1 r1 h1 => by
    obtain ⟨e, q1⟩ := gd_iff.mp q1
    exact make_read h1 r1 (of_decide_eq_true e) (u.go g1) q1)
  exact PySem.W.callWith_K (h₀ := X.base) I.ok.mod.kin M.kp (thn an fun us s1 ⟨vs, H1, I1, rv, q1⟩ => ⟨I1.kIn, makes M F gu hr hb I1 rv q1⟩) he hpl
theorem de_make0 (M : Mk X.K C f) (F : FnG X.prog X.w X.K X.mg X.base CX0 k f fd ps (lSp X.K n sp)) (gu : Calm X.A) (hr : Room (k + 1) X.A) (hg : Gl X x) (hm : X.mg x = some (.ref C)) (hb : Binds X.K fd ps [])
    (hdb : (x == ("__debug__" : Str)) = false := by decide) : DE X (.Call (.Name x p) [] [] pos) (wMake C n sp wNil) := by
  refine ⟨fun pins s σ H Q I ⟨ρ, S, Q', r, h, q, u⟩ => wpAny_Call_Name_kw (ld_glob I hg hm ?_ hdb)⟩
  obtain ⟨e, q1⟩ := gd_iff.mp q
  exact PySem.W.callWith_K0 I.kIn M.kp (makes (us := []) M F gu hr hb I .nil (make_read (vs := []) (ds := []) h .nil (of_decide_eq_true e) u q1))
end

/-! ## a def's body -/
/-- what may be forgotten at a def's end -/
def Weak (d : DV) (S : DH) (d' : DV) (S' : DH) : Prop := Sub S' S ∧ ∀ K H v, HRep K S H → Rep K S H v d → Rep K S' H v d'
theorem Weak.refl {d : DV} {S : DH} : Weak d S d S := ⟨.refl _, fun _ _ _ _ r => r⟩
theorem Weak.drop {d : DV} {S S' : DH} (h : Sub S' S) : Weak d S d S' := ⟨h, fun _ _ _ _ r => r.sub h⟩
theorem Weak.lst {p : Addr} {ds : List DV} {S S' : DH} (h : Sub S' S) (e : S p = some (.lst ds)) (n : S' p = none) : Weak (.ref p) S (.lst ds) S' := ⟨h, fun K H v hr r => by
  cases r
  obtain ⟨vs, hv, rs⟩ := hr p _ e
  exact .lst hv n (rs.sub h)⟩
/-- a body's reading as a contract -/
def bodyD (n : Nat) (pad : Nat) (w : WS) : Spec := fun ds S Q => ds.length = n ∧
  w { nx := fun _ S' => ∃ S2, Sub S2 S' ∧ Q .non S2, rt := fun d S' => ∃ d2 S2, Weak d S' d2 S2 ∧ Q d2 S2 } (ds.map some ++ List.replicate pad none) S
theorem DSs.nox' {sts : List Stmt} {w : WS} (h : DSs X.nox sts w) : PSs X sts (lS X.K w) := PSs.nox h
/-- a def's contract by its body -/
theorem fn_body {P : Program} {w : World} {K : PySem.W.Frag} {mg : Str → Option Value} {base : Heap} {x qual : Str} {st : Stmt} {f : Addr} {fd : FuncData} {N ps : List Str} {k n : Nat} {wb : WS} (F : Fun K x qual st f fd) (S : FnScope N ps (defScope st)) (hn : ps.length = n)
    (hbody : ∀ (cdv : Value) (A : Around) (outer : List Env) (s : Shared) (H : Hp) (E : XK), Calm A → Room k (A.deeper (envOfC qual (defScope st) s.heap.objs.size f cdv)) →
      DSs (cxOf CX0 P w K mg base N qual (defScope st) f cdv A outer s H E).nox (defBody st) wb) : FnG P w K mg base CX0 (k + 1) f fd ps (lSp K n (bodyD n (N.length - n) wb)) := by
  obtain ⟨oc, od, kV, doc, pm, an, cdv, ct, osl, rfl, lk, hcd⟩ := F.ex
  refine ⟨fun vs H Q E h => by rw [hn]; exact h.1, fun A outer s H args us vs Q E gu hr e0 hb rv hsp => ?_⟩
  have hlv : vs.length = ps.length := by rw [hn]; exact hsp.1
  have kin : K.In s.heap := e0.mod.kin.keeps fun b o e => (e0.bs b o e).1
  have nol : s.heap.NoLimit := e0.mod.nolimit.keeps fun b o e => (e0.bs b o e).1
  refine codeAny_call_function hr.depth (kin f _ lk) rfl S.co S.gen rfl (PySem.W.codeRec_of kin hcd) (hb _ _ _ _ (wpAny_newFunctionEnv_cells S.kind (fun y hy => ?_) fun env he s1 x1 => ?_))
  · rcases S.par y.1 (List.of_mem_zip (a := y.1) (b := y.2) hy).1 with q | q
    · exact .inl q
    · exact .inr ⟨q, PySem.W.cellsFrom_some _ _ _ (.inl q)⟩
  subst he
  refine ⟨nol.keeps x1.toInCall.keep, codeAny_func ?_⟩
  have I := inv_start (CX := CX0) (E := E) S hr.hd e0 hlv rv x1
  obtain ⟨hl, ds, S1, Q', r, hh, ⟨hd, q⟩, u⟩ := hsp
  have body := (DSs.nox' (hbody cdv A outer s H E gu (hr.deeper _))).run [] s1 (L2.start N vs) H { nx := fun _ H' => Q .non H', rt := Q } I ⟨_, S1, _, by unfold L2.start; rw [hl]; exact ORep.start r _, hh, q,
    ⟨fun ρ S2 ⟨S3, sb, q2⟩ σ H2 g2 o2 h2 => u _ S3 q2 _ H2 (g2.trans (Go.sub sb)) .non (h2.sub sb), fun d S2 ⟨d2, S3, ⟨sb, wk⟩, q2⟩ v H2 g2 r2 h2 => u _ S3 q2 _ H2 (g2.trans (Go.sub sb)) (wk _ H2 v h2 r2) (h2.sub sb), fun ρ S2 q2 => q2.elim, fun ρ S2 q2 => q2.elim⟩⟩
  refine wpAny_mono body (fun fl s2 hs => ?_) fun e s2 hs => hs
  rcases fl with _ | _ | _ | u2
  · obtain ⟨σ2, H2, J, q2⟩ := hs
    exact ⟨.non, H2, J.os, J.bare, J.base, J.hok, rfl, q2⟩
  · obtain ⟨_, _, _, q2⟩ := hs
    exact (show False from q2).elim
  · obtain ⟨_, _, _, q2⟩ := hs
    exact (show False from q2).elim
  · obtain ⟨v, σ2, H2, J, rv2, q2⟩ := hs
    exact ⟨v, H2, J.os, J.bare, J.base, J.hok, rv2, q2⟩
theorem u64 {k : Nat} {A : Around} (r : Room k A) : A.units + 64 < cLine := by have := r.un; omega
theorem u70 {k : Nat} {A : Around} (r : Room k A) : A.units + 70 < cLine := by have := r.un; omega
theorem u80 {k : Nat} {A : Around} (r : Room k A) : A.units + 80 < cLine := by have := r.un; omega
theorem fnG_zero {P : Program} {w : World} {K : PySem.W.Frag} {mg : Str → Option Value} {base : Heap} {k n : Nat} {f : Addr} {fd : FuncData} {ps : List Str} : FnG P w K mg base CX0 k f fd ps (lSp K n fun _ _ _ => False) :=
  ⟨fun vs H Q E ⟨_, _, _, _, _, _, z, _⟩ => z.elim, fun A outer s H args us vs Q E _ _ _ _ _ ⟨_, _, _, _, _, _, z, _⟩ => z.elim⟩
end
end DL

set_option Elab.async false
set_option linter.all false
set_option maxRecDepth 100000
namespace DL
open PySem PySem.Spec PyProof.Rows L2
section
variable {X : Cx}
/-! ## calls of builtins by values -/
abbrev DF := List DV → DH → DK → Prop
def lC (K : PySem.W.Frag) (f : DF) : List V → Hp → VK → Prop := fun vs H Q => ∃ ds S Q', Reps K S H vs ds ∧ HRep K S H ∧ f ds S Q' ∧ up K S H Q' Q
def DCall (X : Cx) (g : Value) (f : DF) : Prop := CallR X g (lC X.K f)
def wCB (f : DF) (ws : WA) : WE := fun ρ S Q => ws ρ S fun ds S1 => f ds S1 Q
section
variable {x : Str} {p pos : Pos} {e : Expr} {es : List Expr} {ws : WA} {f : DF} {id T : String}
theorem de_callB (hc : DCall X (.builtin id) f) (hg : Gl X x) (hm : X.mg x = none) (hv : bootBuiltins x = some (.builtin id)) (ha : DA X (e :: es) ws) (hn : x ≠ "__name__" := by decide) (hdb : (x == ("__debug__" : Str)) = false := by decide)
    (he : starEach (e :: es) X.env = (false, eval e X.env) :: starEach es X.env := by rfl) (hpl : (backTo pos (starEach es X.env)).any (·.1) = false := by rfl) : DE X (.Call (.Name x p) (e :: es) [] pos) (wCB f ws) :=
  PE.imp (pe_callB hc hg hm hv ha hn hdb he hpl) fun σ H Q ⟨ρ, S, Q', r, h, q, u⟩ => lA_bind r h q fun ds S1 vs H1 q1 g1 r1 h1 => ⟨ds, S1, Q', r1, h1, q1, u.go g1⟩
theorem de_callTy (hc : DCall X (.type T) f) (hg : Gl X x) (hm : X.mg x = none) (hv : bootBuiltins x = some (.type T)) (ha : DA X (e :: es) ws) (hn : x ≠ "__name__" := by decide) (hdb : (x == ("__debug__" : Str)) = false := by decide)
    (he : starEach (e :: es) X.env = (false, eval e X.env) :: starEach es X.env := by rfl) (hpl : (backTo pos (starEach es X.env)).any (·.1) = false := by rfl) : DE X (.Call (.Name x p) (e :: es) [] pos) (wCB f ws) :=
  PE.imp (pe_callTy hc hg hm hv ha hn hdb he hpl) fun σ H Q ⟨ρ, S, Q', r, h, q, u⟩ => lA_bind r h q fun ds S1 vs H1 q1 g1 r1 h1 => ⟨ds, S1, Q', r1, h1, q1, u.go g1⟩
end
theorem reps1 {K : PySem.W.Frag} {S : DH} {H : Hp} {vs : List V} {d : DV} (r : Reps K S H vs [d]) : ∃ v, vs = [v] ∧ Rep K S H v d := by
  cases r with | cons a b => cases b; exact ⟨_, rfl, a⟩
theorem reps2 {K : PySem.W.Frag} {S : DH} {H : Hp} {vs : List V} {d e : DV} (r : Reps K S H vs [d, e]) : ∃ v u, vs = [v, u] ∧ Rep K S H v d ∧ Rep K S H u e := by
  cases r with | cons a b => cases b with | cons b c => cases c; exact ⟨_, _, rfl, a, b⟩

/-! ### len -/
def dLen : DF := fun ds S Q => match ds with
  | [.str z] => gd (decide (z.length ≤ 16777216)) (Q (.int z.length) S)
  | [.tup es] => Q (.int es.length) S
  | [.scr ns] => Q (.int ns.length) S
  | [d] => match asL S d with
    | some es => Q (.int es.length) S
    | none => match d with
      | .ref p => match S p with
        | some (.dic kvs) => Q (.int kvs.length) S
        | _ => False
      | _ => False
  | _ => False
theorem dc_len : DCall X (.builtin "len") dLen := by
  refine CallR.imp (call_len.or call_lenD) fun vs H Q ⟨ds, S, Q', r0, h, q, u⟩ => ?_
  unfold dLen at q
  split at q
  · obtain ⟨v, rfl, r⟩ := reps1 r0
    obtain ⟨e, q⟩ := gd_iff.mp q
    cases r
    refine .inl ⟨_, (sOf _).length, rfl, ⟨by rw [sOf_len]; exact le_line e, rfl⟩, u _ S q _ H (Go.refl _ _) (by rw [sOf_len]; exact .int _) h⟩
  · obtain ⟨v, rfl, r⟩ := reps1 r0
    cases r with
    | tup qx rs => exact .inl ⟨_, _, rfl, .inr ⟨_, qx, rfl⟩, u _ S q _ H (Go.refl _ _) (by rw [rs.length]; exact .int _) h⟩
  · obtain ⟨v, rfl, r⟩ := reps1 r0
    cases r with
    | scr sc => exact .inl ⟨_, _, rfl, .inl ⟨_, sc.sq, rfl⟩, u _ S q _ H (Go.refl _ _) (by rw [List.length_map]; exact .int _) h⟩
  · obtain ⟨v, rfl, r⟩ := reps1 r0
    split at q
    · rename_i e
      obtain ⟨a, vs, rfl, ha, rs⟩ := asL_rep h r e
      exact .inl ⟨_, _, rfl, .inl ⟨_, .of ha, rfl⟩, u _ S q _ H (Go.refl _ _) (by rw [rs.length]; exact .int _) h⟩
    · split at q
      · split at q
        · rename_i e
          cases r
          obtain ⟨ks, hk, rk⟩ := h _ _ e
          exact .inr ⟨_, ks, rfl, hk, u _ S q _ H (Go.refl _ _) (by rw [rk.length]; exact .int _) h⟩
        · exact q.elim
      · exact q.elim
  · exact q.elim
/-! ### isinstance -/
/-- 0 None, 1 truth, 2 int, 3 text, 4 tuple, 5 list, 6 dict -/
def kd (S : DH) : DV → Option Nat
  | .non => some 0
  | .bl _ => some 1
  | .int _ => some 2
  | .str _ => some 3
  | .tup _ => some 4
  | .lst _ => some 5
  | .scr _ => none
  | .ty _ => none
  | .ref p => match S p with
    | some (.lst _) => some 5
    | some (.dic _) => some 6
    | _ => none
def kNm : Nat → String
  | 0 => "NoneType" | 1 => "bool" | 2 => "int" | 3 => "str" | 4 => "tuple" | 5 => "list" | _ => "dict"
def isK (T k : Nat) : Bool := Nat.beq T k || (Nat.beq T 2 && Nat.beq k 1)
theorem kd_ty {K : PySem.W.Frag} {S : DH} {H : Hp} {v : V} {d : DV} {k : Nat} (h : HRep K S H) (r : Rep K S H v d) (e : kd S d = some k) : k ≤ 6 ∧ TyX K H v (.type (kNm k)) := by
  cases d with
  | non => cases e; cases r; exact ⟨by decide, .base .non⟩
  | bl b => cases e; cases r; exact ⟨by decide, .base (.bl _)⟩
  | int b => cases e; cases r; exact ⟨by decide, .base (.int _)⟩
  | str b => cases e; cases r; exact ⟨by decide, .base (.str _)⟩
  | tup ds =>
    cases e
    cases r with
    | tup q rs =>
      refine ⟨by decide, ?_⟩
      rcases q with (q | ⟨o, q⟩) | ⟨o, its, n, q, c, _⟩
      · exact .base (.tup q)
      · exact .fTuple q
      · exact .kTuple q c
  | lst ds =>
    cases e
    cases r with
    | lst q n rs => exact ⟨by decide, .base (.lst q)⟩
  | ref p =>
    cases r
    unfold kd at e
    dsimp only at e
    cases q : S p with
    | none => rw [q] at e; cases e
    | some c =>
      rw [q] at e
      cases c with
      | lst ds => cases e; obtain ⟨vs, z, _⟩ := h p _ q; exact ⟨by decide, .base (.lst z)⟩
      | dic ds => cases e; obtain ⟨vs, z, _⟩ := h p _ q; exact ⟨by decide, .base (.dK z)⟩
      | ins C ds => cases e
  | scr _ => cases e
  | ty _ => cases e
theorem kit_tab : ∀ T, T ≤ 6 → ∀ k, k ≤ 6 → kitB (kNm k) (kNm T) = some (isK T k) := by decide +kernel
def wIsi (T : Nat) (w : WE) : WE := wUn (fun x S Q => match kd S x with | some k => Q (.bl (isK T k)) S | none => False) w
theorem de_isi {a : Expr} {x y : Str} {p p2 pos : Pos} {w : WE} (T : Nat) (hT : T ≤ 6) (ha : DE X a w) (hg : Gl X x) (hm : X.mg x = none) (hv : bootBuiltins x = some (.builtin "isinstance")) (hg2 : Gl X y) (hm2 : X.mg y = none) (hv2 : bootBuiltins y = some (.type (kNm T)))
    (hn : x ≠ "__name__" := by decide) (hdb : (x == ("__debug__" : Str)) = false := by decide) (hn2 : y ≠ "__name__" := by decide) (hdb2 : (y == ("__debug__" : Str)) = false := by decide)
    (he : starEach [a, .Name y p2] X.env = (false, eval a X.env) :: starEach [.Name y p2] X.env := by rfl) (he2 : starEach [.Name y p2] X.env = (false, eval (.Name y p2) X.env) :: starEach [] X.env := by rfl) (hpl : (backTo pos (starEach [.Name y p2] X.env)).any (·.1) = false := by rfl) :
    DE X (.Call (.Name x p) [a, .Name y p2] [] pos) (wIsi T w) :=
  PE.imp (pe_callB call_isi hg hm hv (pa_cons ha (pa_cons (pe_bltn (v := .ty (kNm T)) hg2 hm2 hv2 rfl hn2 hdb2) pa_nil he2) he) hn hdb he hpl) fun σ H Q ⟨ρ, S, Q', r, h, q, u⟩ => lE_bind r h q fun x S1 v H1 q1 g1 r1 h1 => by
    dsimp only at q1
    split at q1
    · rename_i k e
      obtain ⟨hk, ty⟩ := kd_ty h1 r1 e
      exact ⟨v, _, _, _, _, rfl, .ty _, ty, kit_ty (kit_tab T hT k hk), u _ S1 q1 _ H1 g1 (.bl _) h1⟩
    · exact q1.elim
/-! ### int, str, min, all, tuple, list -/
def dInt1 : DF := fun ds S Q => match ds with
  | [.int i] => Q (.int i) S
  | [.bl k] => Q (.int (match k with | true => 1 | false => 0)) S
  | _ => False
theorem bint {K : PySem.W.Frag} {S : DH} {H : Hp} (k : Bool) : Rep K S H (.int (if k = true then 1 else 0)) (.int (match k with | true => 1 | false => 0)) := by
  cases k
  · exact .int 0
  · exact .int 1
theorem dc_int : DCall X (.type "int") dInt1 := by
  refine CallR.imp call_int1 fun vs H Q ⟨ds, S, Q', r0, h, q, u⟩ => ?_
  unfold dInt1 at q
  split at q
  · obtain ⟨v, rfl, r⟩ := reps1 r0
    cases r
    exact .inl ⟨_, rfl, u _ S q _ H (Go.refl _ _) (.int _) h⟩
  · obtain ⟨v, rfl, r⟩ := reps1 r0
    cases r
    refine .inr ⟨_, rfl, u _ S q _ H (Go.refl _ _) (bint _) h⟩
  · exact q.elim
/-- a whole number's figures -/
def numD (i : Int) : List Nat := (toString i).toList.map Char.toNat
theorem numD_eq (i : Int) : Str.ofString (toString i) = sOf (numD i) := by rw [PySem.Str.ofString_eq_toList]; rfl
def dStr : DF := fun ds S Q => match ds with
  | [.int i] => i.natAbs.log2 < 1920 ∧ Q (.str (numD i)) S
  | _ => False
theorem dc_str : DCall X (.type "str") dStr := by
  refine CallR.imp call_str_int fun vs H Q ⟨ds, S, Q', r0, h, q, u⟩ => ?_
  unfold dStr at q
  split at q
  · obtain ⟨v, rfl, r⟩ := reps1 r0
    cases r
    exact ⟨_, rfl, q.1, u _ S q.2 _ H (Go.refl _ _) (by rw [show ((toString _ : String) : Str) = sOf (numD _) from numD_eq _]; exact .str _) h⟩
  · exact q.elim
def dMin2 : DF := fun ds S Q => match ds with
  | [.int i, .int j] => Q (.int (min i j)) S
  | _ => False
theorem mint {K : PySem.W.Frag} {S : DH} {H : Hp} (i j : Int) : Rep K S H (.int (if j < i then j else i)) (.int (min i j)) := by
  rw [show (if j < i then j else i) = min i j by split <;> omega]
  exact .int _
theorem dc_min2 (hc : X.calm = true) : DCall X (.builtin "min") dMin2 := by
  refine CallR.imp (call_min2 hc) fun vs H Q ⟨ds, S, Q', r0, h, q, u⟩ => ?_
  unfold dMin2 at q
  split at q
  · obtain ⟨v, w, rfl, r, r2⟩ := reps2 r0
    cases r; cases r2
    exact ⟨_, _, rfl, u _ S q _ H (Go.refl _ _) (mint _ _) h⟩
  · exact q.elim
def bls : List DV → Option (List Bool)
  | [] => some []
  | .bl b :: r => (bls r).map (b :: ·)
  | _ => none
theorem bls_rep {K : PySem.W.Frag} {S : DH} {H : Hp} : ∀ {ds : List DV} {vs : List V} {bs : List Bool}, Reps K S H vs ds → bls ds = some bs → vs = bs.map V.bl
  | [], _, _, .nil, e => by simp only [bls] at e; cases e; rfl
  | d :: ds, _, _, .cons r rs, e => by
    cases d with
    | bl b =>
      simp only [bls] at e
      cases h : bls ds with
      | none => rw [h] at e; cases e
      | some c => rw [h] at e; cases e; cases r; rw [bls_rep rs h]; rfl
    | _ => simp [bls] at e
def dAll : DF := fun ds S Q => match ds with
  | [d] => match asL S d with
    | some es => match bls es with
      | some bs => Q (.bl (bs.all id)) S
      | none => False
    | none => False
  | _ => False
theorem dc_all (hc : X.calm = true) : DCall X (.builtin "all") dAll := by
  refine CallR.imp (cr_all hc) fun vs H Q ⟨ds, S, Q', r0, h, q, u⟩ => ?_
  unfold dAll at q
  split at q
  · obtain ⟨v, rfl, r⟩ := reps1 r0
    split at q
    · rename_i e
      split at q
      · rename_i bs eb
        obtain ⟨a, vs, rfl, ha, rs⟩ := asL_rep h r e
        have e2 := bls_rep rs eb
        subst e2
        exact ⟨a, _, rfl, .of ha, u _ S q _ H (Go.refl _ _) (.bl _) h⟩
      · exact q.elim
    · exact q.elim
  · exact q.elim
def dTuple : DF := fun ds S Q => match ds with
  | [.tup es] => Q (.tup es) S
  | [d] => match asL S d with
    | some es => Q (.tup es) S
    | none => False
  | _ => False
theorem dc_tuple : DCall X (.type "tuple") dTuple := by
  refine CallR.imp call_tuple_of fun vs H Q ⟨ds, S, Q', r0, h, q, u⟩ => ?_
  unfold dTuple at q
  split at q
  · obtain ⟨v, rfl, r⟩ := reps1 r0
    cases r with
    | tup qx rs => exact ⟨_, _, rfl, .inr ⟨qx, u _ S q _ H (Go.refl _ _) (.tup qx rs) h⟩⟩
  · obtain ⟨v, rfl, r⟩ := reps1 r0
    split at q
    · rename_i e
      obtain ⟨a, vs, rfl, ha, rs⟩ := asL_rep h r e
      exact ⟨_, _, rfl, .inl ⟨.of ha, fun p np => u _ S q _ _ (Go.grow np) (.tup (.of upd_same) (rs.go h (Go.grow np))) (h.grow np)⟩⟩
    · exact q.elim
  · exact q.elim
def seqD (S : DH) : DV → Option (List DV)
  | .tup es => some es
  | d => asL S d
def dListG (fin : List DV → DH → DK → Prop) : DF := fun ds S Q => match ds with
  | [d] => match seqD S d with
    | some es => fin es S Q
    | none => False
  | _ => False
def dList := dListG fun es S Q => Q (.lst es) S
def dListM := dListG fun es S Q => ∀ p, S p = none → Q (.ref p) (put S p (.lst es))
theorem seqD_rep {K : PySem.W.Frag} {S : DH} {H : Hp} {v : V} {d : DV} {es : List DV} (h : HRep K S H) (r : Rep K S H v d) (e : seqD S d = some es) : ∃ a vs, v = .ref a ∧ (SqL K H a vs ∨ SqT K H a vs) ∧ Reps K S H vs es := by
  unfold seqD at e
  split at e
  · cases e
    cases r with
    | tup qx rs => exact ⟨_, _, rfl, .inr qx, rs⟩
  · obtain ⟨a, vs, rfl, ha, rs⟩ := asL_rep h r e
    exact ⟨a, vs, rfl, .inl (.of ha), rs⟩
theorem dc_list : DCall X (.type "list") dList := by
  refine CallR.imp call_list_of fun vs H Q ⟨ds, S, Q', r0, h, q, u⟩ => ?_
  unfold dList dListG at q
  split at q
  · obtain ⟨v, rfl, r⟩ := reps1 r0
    split at q
    · rename_i e
      obtain ⟨a, vs, rfl, ha, rs⟩ := seqD_rep h r e
      exact ⟨a, vs, rfl, ha, fun p np => u _ S q _ _ (Go.grow np) (.lst upd_same (h.trk np) (rs.go h (Go.grow np))) (h.grow np)⟩
    · exact q.elim
  · exact q.elim
theorem dc_listM : DCall X (.type "list") dListM := by
  refine CallR.imp call_list_of fun vs H Q ⟨ds, S, Q', r0, h, q, u⟩ => ?_
  unfold dListM dListG at q
  split at q
  · obtain ⟨v, rfl, r⟩ := reps1 r0
    split at q
    · rename_i e
      obtain ⟨a, vs, rfl, ha, rs⟩ := seqD_rep h r e
      exact ⟨a, vs, rfl, ha, fun p np => u _ _ (q p (h.trk np)) _ _ (Go.new np) (.ref p) (h.new np ⟨vs, upd_same, rs.go h (Go.new np)⟩)⟩
    · exact q.elim
  · exact q.elim
/-! ### repr -/
def reprOk (p : PyData) : Prop := p.showable = true ∧ p.depth ≤ 64 ∧ p.shown.length ≤ 16777216
def dRepr : DF := fun ds S Q => match ds with
  | [d] => ∃ p, toP (res S d) = some p ∧ reprOk p ∧ Q (.str p.shown.cps.toList) S
  | _ => False
mutual
theorem toP_nodict : ∀ {d : DV} {p : PyData}, toP d = some p → p.hasDict = false
  | .non, p, e => by simp only [toP] at e; cases e; rfl
  | .bl b, p, e => by simp only [toP] at e; cases e; rfl
  | .int i, p, e => by simp only [toP] at e; cases e; rfl
  | .str x, p, e => by simp only [toP] at e; cases e; rfl
  | .tup ds, p, e => by
    simp only [toP] at e
    cases h : toPs ds with
    | none => rw [h] at e; cases e
    | some ps => rw [h] at e; cases e; simp only [PyData.hasDict]; exact toPs_nodict h
  | .lst ds, p, e => by
    simp only [toP] at e
    cases h : toPs ds with
    | none => rw [h] at e; cases e
    | some ps => rw [h] at e; cases e; simp only [PyData.hasDict]; exact toPs_nodict h
  | .scr _, p, e => by simp only [toP] at e; cases e
  | .ref _, p, e => by simp only [toP] at e; cases e
  | .ty _, p, e => by simp only [toP] at e; cases e
theorem toPs_nodict : ∀ {ds : List DV} {ps : List PyData}, toPs ds = some ps → PyData.hasDictAll ps = false
  | [], ps, e => by simp only [toPs] at e; cases e; rfl
  | d :: ds, ps, e => by
    simp only [toPs] at e
    cases h1 : toP d with
    | none => rw [h1] at e; simp at e
    | some p =>
      cases h2 : toPs ds with
      | none => rw [h1, h2] at e; simp at e
      | some q => rw [h1, h2] at e; simp at e; subst e; simp only [PyData.hasDictAll, toP_nodict h1, toPs_nodict h2, Bool.or_self]
end
theorem sOf_back (z : Str) : sOf z.cps.toList = z := by cases z; simp [sOf]
theorem dc_repr (gu : Calm X.A) (hu : X.A.units + 80 < cLine) : DCall X (.builtin "repr") dRepr := by
  intro pins s σ H vs us Q I rv ⟨ds, S, Q', r0, h, q, u⟩
  unfold dRepr at q
  split at q
  · obtain ⟨v, rfl, r⟩ := reps1 r0
    obtain ⟨p, e, ⟨k1, k2, k3⟩, q⟩ := q
    obtain ⟨u1, rfl, r1⟩ := vals1 rv
    have dp := res_dp h r e
    have hz : p.shown.length ≤ sizeLine := by rw [sizeLine_eq]; exact k3
    obtain ⟨as, rd⟩ := Dp.reads I p v u1 dp r1
    have fin : ∀ (h' : Heap) (tk : Nat) (t : Tok), (∀ b o, s.heap.get? b = some o → h'.get? b = some o) → EP X pins σ Q (.str p.shown t) { s with heap := h', toks := tk } := fun h' tk t hk =>
      ⟨.str p.shown, H, I.kept hk, ⟨t, rfl⟩, u _ S q _ H (Go.refl _ _) (by have z := Rep.str (K := X.K) (S := S) (H := H) p.shown.cps.toList; rw [sOf_back] at z; exact z) h⟩
    cases dp with
    | non => cases r1; exact PySem.P.repr_of_none (fin s.heap _ _ fun _ _ e => e)
    | bl b =>
      cases r1
      refine PySem.P.repr_of_bool ?_
      have z := fin s.heap (s.toks + 1) s.toks fun _ _ e => e
      cases b <;> exact z
    | int i =>
      obtain ⟨t, rfl⟩ := r1
      exact PySem.P.repr_of_int (by simpa [PyData.showable] using k1) (fin s.heap _ _ fun _ _ e => e)
    | str x =>
      obtain ⟨t, rfl⟩ := r1
      exact PySem.P.repr_of_str (fin s.heap _ _ fun _ _ e => e) hz
    | lst hs ha => cases r1; exact repr_of_reads' rd k1 (PySem.PyData.noDict_hsm (toP_nodict e)) gu (by omega) (fun _ _ e => e) (fun h' t tk hk => fin h' tk t hk) hz
    | tup hs ha => cases r1; exact repr_of_reads' rd k1 (PySem.PyData.noDict_hsm (toP_nodict e)) gu (by omega) (fun _ _ e => e) (fun h' t tk hk => fin h' tk t hk) hz
  · exact q.elim
end
end DL

set_option Elab.async false
set_option linter.all false
set_option maxRecDepth 100000
namespace DL
open PySem PySem.Spec PyProof.Rows L2
section
variable {X : Cx}
/-! ## methods of builtin types -/
abbrev DM := DV → List DV → DH → DK → Prop
def lM (K : PySem.W.Frag) (f : DM) : V → List V → Hp → VK → Prop := fun v vs H Q => ∃ d ds S Q', Rep K S H v d ∧ Reps K S H vs ds ∧ HRep K S H ∧ f d ds S Q' ∧ up K S H Q' Q
def DMt (X : Cx) (id : String) (f : DM) : Prop := MtR X id (lM X.K f)
def isL (S : DH) (d : DV) : Bool := (asL S d).isSome
def isS (_ : DH) (d : DV) : Bool := match d with | .str _ => true | _ => false
def isD (S : DH) (d : DV) : Bool := match d with | .ref p => (match S p with | some (.dic _) => true | _ => false) | _ => false
def TyD (T : String) (g : DH → DV → Bool) : Prop := ∀ (K : PySem.W.Frag) (S : DH) (H : Hp) v d, HRep K S H → Rep K S H v d → g S d = true → tyV K T v H
theorem tyd_list : TyD "list" isL := fun K S H v d h r e => by
  unfold isL at e
  obtain ⟨es, e⟩ := Option.isSome_iff_exists.mp e
  obtain ⟨a, vs, rfl, ha, _⟩ := asL_rep h r e
  exact .inl ⟨rfl, vs, .of ha⟩
theorem tyd_str : TyD "str" isS := fun K S H v d h r e => by
  cases r <;> first | rfl | (simp [isS] at e)
theorem tyd_dict : TyD "dict" isD := fun K S H v d h r e => by
  cases d with
  | ref p =>
    cases r
    unfold isD at e
    dsimp only at e
    cases q : S p with
    | none => rw [q] at e; cases e
    | some c =>
      rw [q] at e
      cases c with
      | dic ds => obtain ⟨vs, z, _⟩ := h p _ q; exact .inr (.inr (.inl ⟨rfl, .inl ⟨vs, z⟩⟩))
      | lst ds => cases e
      | ins C ds => cases e
  | _ => simp [isD] at e
def wBM (g : DH → DV → Bool) (f : DM) (wo : WE) (ws : WA) : WE := fun ρ S Q => wo ρ S fun d S1 => gd (g S1 d) (ws ρ S1 fun ds S2 => f d ds S2 Q)
section
variable {o e : Expr} {es : List Expr} {wo : WE} {ws : WA} {name : Str} {apos cpos : Pos} {T id : String} {f : DM} {g : DH → DV → Bool}
theorem de_bm0 (pa : PlainAttrs T) (slot : Slot T name id) (hty : typeOf (.builtin id) = pure (.type "method_descriptor")) (ty : TyD T g) (hm : DMt X id f) (ho : DE X o wo)
    (hbase : attributeBase o name X.env (eval o X.env) = eval o X.env := by rfl) (hline : (apos.endLine == cpos.line) = true := by rfl) : DE X (.Call (.Attribute o name apos) [] [] cpos) (wBM g f wo wNil) :=
  PE.imp (pe_bm0 pa slot hty hm ho hbase hline) fun σ H Q ⟨ρ, S, Q', r, h, q, u⟩ => lE_bind r h q fun d S1 v H1 q1 g1 r1 h1 => by
    obtain ⟨e, q1⟩ := gd_iff.mp q1
    exact ⟨ty _ _ _ _ _ h1 r1 e, d, [], S1, Q', r1, .nil, h1, q1, u.go g1⟩
theorem de_bm (pa : PlainAttrs T) (slot : Slot T name id) (hty : typeOf (.builtin id) = pure (.type "method_descriptor")) (ty : TyD T g) (hm : DMt X id f) (ho : DE X o wo) (ha : DA X (e :: es) ws)
    (hbase : attributeBase o name X.env (eval o X.env) = eval o X.env := by rfl)
    (hfew : ((backTo cpos (starEach (e :: es) X.env)).all (fun x => !x.1) && (backToKw cpos (keywordEach [] X.env)).all (fun x => x.1.isSome)
      && decide ((e :: es).length + ([] : List Keyword).length + (if ([] : List Keyword).isEmpty then 0 else 1) < 30)) = true := by rfl)
    (hline : (apos.endLine == cpos.line) = true := by rfl) (hs : starEach (e :: es) X.env = (false, eval e X.env) :: starEach es X.env := by rfl) (hplain : (backTo cpos (starEach es X.env)).any (·.1) = false := by rfl) :
    DE X (.Call (.Attribute o name apos) (e :: es) [] cpos) (wBM g f wo ws) :=
  PE.imp (pe_bm pa slot hty hm ho ha hbase hfew hline hs hplain) fun σ H Q ⟨ρ, S, Q', r, h, q, u⟩ => lE_bind r h q fun d S1 v H1 q1 g1 r1 h1 => by
    obtain ⟨e, q1⟩ := gd_iff.mp q1
    exact ⟨ty _ _ _ _ _ h1 r1 e, lA_bind (r.go h g1) h1 q1 fun ds S2 vs H2 q2 g2 r2 h2 => ⟨d, ds, S2, Q', r1.go h1 g2, r2, h2, q2, u.go (g1.trans g2)⟩⟩
end
/-! ### append -/
def mAppend : DM := fun d ds S Q => match d, ds with
  | .ref p, [y] => ∃ es, S p = some (.lst es) ∧ gd (decide (es.length < 16777216)) (Q .non (put S p (.lst (es ++ [y]))))
  | _, _ => False
theorem dm_append : DMt X "list.append" mAppend := by
  refine MtR.imp mt_append fun v vs H Q ⟨d, ds, S, Q', r, rs, h, q, u⟩ => ?_
  unfold mAppend at q
  split at q
  · obtain ⟨w, rfl, r2⟩ := reps1 rs
    cases r
    obtain ⟨es, hp, q⟩ := q
    obtain ⟨e, q⟩ := gd_iff.mp q
    obtain ⟨vs, hv, rv⟩ := h _ _ hp
    refine ⟨_, vs, _, rfl, rfl, hv, by rw [rv.length]; exact lt_line e, u _ _ q _ _ (Go.write hp) .non (h.write hp ⟨_, upd_same, ?_⟩)⟩
    exact (rv.go h (Go.write hp)).append (.one (r2.go h (Go.write hp)))
  · exact q.elim
/-! ### join -/
def strsD : List DV → Option (List (List Nat))
  | [] => some []
  | .str x :: r => (strsD r).map (x :: ·)
  | _ => none
theorem strsD_rep {K : PySem.W.Frag} {S : DH} {H : Hp} : ∀ {ds : List DV} {vs : List V} {xs : List (List Nat)}, Reps K S H vs ds → strsD ds = some xs → vs = (xs.map sOf).map V.str
  | [], _, _, .nil, e => by simp only [strsD] at e; cases e; rfl
  | d :: ds, _, _, .cons r rs, e => by
    cases d with
    | str b =>
      simp only [strsD] at e
      cases h : strsD ds with
      | none => rw [h] at e; cases e
      | some c => rw [h] at e; cases e; cases r; rw [strsD_rep rs h]; rfl
    | _ => simp [strsD] at e
def joinD (s : List Nat) : List (List Nat) → List Nat
  | [] => []
  | [x] => x
  | x :: y :: r => x ++ s ++ joinD s (y :: r)
theorem joinL_eq (s : List Nat) : ∀ xs, TL.joinL s xs = joinD s xs
  | [] => rfl
  | [x] => rfl
  | x :: y :: r => by
    show x ++ (s ++ TL.joinL s (y :: r)) = x ++ s ++ joinD s (y :: r)
    rw [joinL_eq s (y :: r), List.append_assoc]
theorem joinD_eq (s : List Nat) (xs : List (List Nat)) : Txt.join (sOf s) (xs.map sOf) = sOf (joinD s xs) := by
  apply TL.ext_tl
  rw [TL.join_eq, TL.tl_join]
  have e1 : TL.tl (sOf s) = s := rfl
  have e2 : (xs.map sOf).map TL.tl = xs := by rw [List.map_map]; exact (List.map_congr_left fun a _ => rfl).trans (List.map_id _)
  rw [e1, e2]
  show TL.joinL s xs = joinD s xs
  exact joinL_eq s xs
def mJoin : DM := fun d ds S Q => match d, ds with
  | .str s, [x] => match seqD S x with
    | some es => match strsD es with
      | some xs => gd (decide ((xs.map List.length).sum + xs.length * s.length ≤ 16777216)) (Q (.str (joinD s xs)) S)
      | none => False
    | none => False
  | _, _ => False
theorem dm_join : DMt X "str.join" mJoin := by
  refine MtR.imp mt_join fun v vs H Q ⟨d, ds, S, Q', r, rs, h, q, u⟩ => ?_
  unfold mJoin at q
  split at q
  · obtain ⟨w, rfl, r2⟩ := reps1 rs
    cases r
    split at q
    · rename_i e1
      split at q
      · rename_i xs e2
        obtain ⟨e, q⟩ := gd_iff.mp q
        obtain ⟨a, vs, rfl, ha, rv⟩ := seqD_rep h r2 e1
        have ev := strsD_rep rv e2
        subst ev
        refine ⟨_, a, xs.map sOf, rfl, rfl, ha, ?_, ?_⟩
        · have e3 : ((xs.map sOf).map (·.length)) = xs.map List.length := by rw [List.map_map]; exact List.map_congr_left fun a _ => sOf_len a
          rw [e3, List.length_map, sOf_len]
          exact of_decide_eq_true e
        · rw [joinD_eq]; exact u _ S q _ H (Go.refl _ _) (.str _) h
      · exact q.elim
    · exact q.elim
  · exact q.elim
/-! ### setdefault -/
def putDV (k : List Nat) (d : DV) : List (List Nat × DV) → List (List Nat × DV) := fun kvs => match kvs.lookup k with
  | some _ => kvs.map fun kv => if kv.1 = k then (kv.1, d) else kv
  | none => kvs ++ [(k, d)]
theorem KRep.put {K : PySem.W.Frag} {S : DH} {H : Hp} {ks : List (Key × V)} {kvs : List (List Nat × DV)} (r : KRep K S H ks kvs) (k : List Nat) {v : V} {d : DV} (rd : Rep K S H v d) : KRep K S H (putK ks (.inr (sOf k)) v) (putDV k d kvs) := by
  have app : ∀ {ks : List (Key × V)} {kvs : List (List Nat × DV)}, KRep K S H ks kvs → KRep K S H (ks ++ [(.inr (sOf k), v)]) (kvs ++ [(k, d)]) := by
    intro ks
    induction ks with
    | nil => intro kvs r; cases kvs with | nil => exact ⟨rfl, rd, trivial⟩ | cons _ _ => exact (show False from r).elim
    | cons p ks ih =>
      intro kvs r
      cases kvs with
      | nil => exact (show False from r).elim
      | cons q kvs => obtain ⟨a, b, c⟩ := r; exact ⟨a, b, ih c⟩
  have rep : ∀ {ks : List (Key × V)} {kvs : List (List Nat × DV)}, KRep K S H ks kvs → KRep K S H (ks.map fun kv => if kv.1 = (.inr (sOf k) : Key) then (kv.1, v) else kv) (kvs.map fun kv => if kv.1 = k then (kv.1, d) else kv) := by
    intro ks
    induction ks with
    | nil => intro kvs r; cases kvs with | nil => exact trivial | cons _ _ => exact (show False from r).elim
    | cons p ks ih =>
      intro kvs r
      cases kvs with
      | nil => exact (show False from r).elim
      | cons q kvs =>
        obtain ⟨a, b, c⟩ := r
        obtain ⟨p1, p2⟩ := p
        obtain ⟨q1, q2⟩ := q
        dsimp only at a
        subst a
        rw [List.map_cons, List.map_cons]
        by_cases e : q1 = k
        · subst e; rw [if_pos rfl, if_pos rfl]; exact ⟨rfl, rd, ih c⟩
        · rw [if_neg e, if_neg (fun z => e (sOf_inj (Sum.inr.inj z)))]; exact ⟨rfl, b, ih c⟩
  have z := KRep.val k r
  unfold putDV
  cases e : kvs.lookup k with
  | none =>
    rw [e] at z
    rw [putK_new v z]
    exact app r
  | some d0 =>
    rw [e] at z
    obtain ⟨v0, z, _⟩ := z
    have hs : (ks.any fun kv => decide (kv.1 = (.inr (sOf k) : Key))) = true := by rw [valV_any, z]; rfl
    unfold putK
    rw [if_pos hs]
    exact rep r
theorem putDV_len (k : List Nat) (d : DV) (kvs : List (List Nat × DV)) : (putDV k d kvs).length ≤ kvs.length + 1 := by
  unfold putDV; split <;> simp
def wSetd (wo wk wd : WE) : WE := fun ρ S Q => wo ρ S fun x S1 => match x with
  | .ref p => isD S1 (.ref p) = true ∧ wk ρ S1 fun y S2 => wd ρ S2 fun z S3 => match y with
    | .str k => ∃ kvs, S3 p = some (.dic kvs) ∧ gd (decide (kvs.length < 16777216)) (match kvs.lookup k with
      | some d => Q d S3
      | none => Q z (put S3 p (.dic (putDV k z kvs))))
    | _ => False
  | _ => False
theorem de_setd {o e f : Expr} {wo wk wd : WE} {apos cpos : Pos} (ho : DE X o wo) (he : DE X e wk) (hf : DE X f wd) (m : M2 X o "setdefault" apos e f cpos) : DE X (.Call (.Attribute o "setdefault" apos) [e, f] [] cpos) (wSetd wo wk wd) :=
  PE.imp (pe_dsetd ho he hf m) fun σ H Q ⟨ρ, S, Q', r, h, q, u⟩ => lE_bind r h q fun x S1 v H1 q1 g1 r1 h1 => by
    split at q1
    · rename_i p
      obtain ⟨hd, q1⟩ := q1
      cases r1
      have ty := tyd_dict X.K S1 H1 _ _ h1 (.ref p) hd
      refine ⟨p, rfl, ?_, lE_bind (r.go h g1) h1 q1 fun y S2 v2 H2 q2 g2 r2 h2 => lE_bind ((r.go h g1).go h1 g2) h2 q2 fun z S3 v3 H3 q3 g3 r3 h3 => ?_⟩
      · unfold isD at hd
        dsimp only at hd
        split at hd
        · rename_i e
          obtain ⟨vs, z, _⟩ := h1 p _ e
          exact .inl ⟨vs, .inl z⟩
        · cases hd
      · have r2 := r2.go h2 g3
        cases y with
        | str k =>
          cases r2
          obtain ⟨kvs, hp, q3⟩ := q3
          obtain ⟨e, q3⟩ := gd_iff.mp q3
          obtain ⟨ks, hk, rk⟩ := h3 p _ hp
          have val := KRep.val k rk
          refine ⟨ks, .inr (sOf k), hk, rfl, by rw [rk.length]; exact lt_line e, fun v0 e0 => ?_, fun e0 => ?_⟩
          · cases e1 : kvs.lookup k with
            | none => rw [e1] at val; simp only at val; rw [val] at e0; cases e0
            | some d => rw [e1] at val q3; simp only at val q3; obtain ⟨v4, e4, r4⟩ := val; rw [e4] at e0; cases e0; exact u _ S3 q3 _ H3 ((g1.trans g2).trans g3) r4 h3
          · cases e1 : kvs.lookup k with
            | some d => rw [e1] at val; simp only at val; obtain ⟨v4, e4, r4⟩ := val; rw [e4] at e0; cases e0
            | none =>
              rw [e1] at q3
              simp only at q3
              have g4 : Go S3 H3 (put S3 p (.dic (putDV k z kvs))) (upd H3 p (.dK (putK ks (.inr (sOf k)) v3))) := Go.write hp
              have c4 : CRep X.K (put S3 p (.dic (putDV k z kvs))) (upd H3 p (.dK (putK ks (.inr (sOf k)) v3))) p (.dic (putDV k z kvs)) := ⟨_, upd_same, (rk.go h3 g4).put k (r3.go h3 g4)⟩
              exact u _ _ q3 _ _ (((g1.trans g2).trans g3).trans g4) (r3.go h3 g4) (h3.write hp c4)
        | _ => exact q3.elim
    · exact q1.elim
/-! ### is None as a test -/
def wUnT (f : DV → Bool) (w : WE) : WT := fun ρ S Q => w ρ S fun x S1 => Q (f x) S1
theorem dt_isN {a : Expr} {wa : WE} {pos pos' : Pos} {j} (ha : DE X a wa) : DT X (.Compare a [.Is] [.Constant .none j pos'] pos) (wUnT isNon wa) :=
  PT.imp (pt_cmp (pc_isN ha) rfl) fun σ H Q ⟨ρ, S, Q', r, h, q, u⟩ => lE_bind r h q fun x S1 v H1 q1 g1 r1 h1 => ⟨_, rfl, by rw [rep_non r1]; exact u _ S1 q1 H1 g1 h1⟩
theorem dt_notN {a : Expr} {wa : WE} {pos pos' : Pos} {j} (ha : DE X a wa) : DT X (.Compare a [.IsNot] [.Constant .none j pos'] pos) (wUnT (fun x => !isNon x) wa) :=
  PT.imp (pt_cmp (pc_notN ha) rfl) fun σ H Q ⟨ρ, S, Q', r, h, q, u⟩ => lE_bind r h q fun x S1 v H1 q1 g1 r1 h1 => ⟨_, rfl, by rw [rep_non r1]; exact u _ S1 q1 H1 g1 h1⟩
/-! ### d[k] = v -/
def wDput (wd wk wv : WE) : WS := fun D ρ S => wv ρ S fun v S1 => wd ρ S1 fun d S2 => wk ρ S2 fun k S3 => match d, k with
  | .ref p, .str x => ∃ kvs, S3 p = some (.dic kvs) ∧ gd (decide (kvs.length < 16777216)) (D.nx ρ (put S3 p (.dic (putDV x v kvs))))
  | _, _ => False
theorem ds_dput {o i value : Expr} {wd wk wv : WE} {pos pos' : Pos} (hu : X.A.units + 70 < cLine) (ho : DE X o wd) (hi : DE X i wk) (hv : DE X value wv) (hs : swapsWith value (some (.Subscript o i pos')) pos.line X.env = pure false := by rfl) :
    DS X (.Assign [.Subscript o i pos'] value pos) (wDput wd wk wv) :=
  PS.imp (ps_dput (by omega) ho hi hv hs) fun D σ H ⟨ρ, S, D', r, h, q, u⟩ => lE_bind r h q fun y S1 v H1 q1 g1 r1 h1 => lE_bind (r.go h g1) h1 q1 fun d S2 v2 H2 q2 g2 r2 h2 =>
    lE_bind ((r.go h g1).go h1 g2) h2 q2 fun k S3 v3 H3 q3 g3 r3 h3 => by
      split at q3
      · rename_i p x
        obtain ⟨kvs, hp, q3⟩ := q3
        obtain ⟨e, q3⟩ := gd_iff.mp q3
        obtain ⟨ks, hk, rk⟩ := h3 _ _ hp
        cases r2; cases r3
        have g4 : Go S3 H3 (put S3 p (.dic (putDV x y kvs))) (upd H3 p (.dK (putK ks (.inr (sOf x)) v))) := Go.write hp
        have ry := ((r1.go h1 g2).go h2 g3).go h3 g4
        have c4 : CRep X.K (put S3 p (.dic (putDV x y kvs))) (upd H3 p (.dK (putK ks (.inr (sOf x)) v))) p (.dic (putDV x y kvs)) := ⟨_, upd_same, (rk.go h3 g4).put x ry⟩
        exact ⟨p, _, rfl, DPut.k (k := Sum.inr (sOf x)) hk (by rw [rk.length]; exact lt_line e), u.nx _ _ q3 _ _ (((g1.trans g2).trans g3).trans g4) ((((r.go h g1).go h1 g2).go h2 g3).go h3 g4) (h3.write hp c4)⟩
      · exact q3.elim
end
end DL

set_option Elab.async false
set_option linter.all false
set_option maxRecDepth 100000
set_option maxHeartbeats 4000000
namespace DL
open PySem PySem.Spec PyProof.Rows L2
def top (i : Nat) : Stmt := PySem.Challenge.pw_redo_k76_a_watch.main.body.getD i (.Pass ⟨0, 0, 0, 0⟩)
theorem bt_int : bootBuiltins "int" = some (.type (kNm 2)) := PyProof.Rows.boot_int
theorem bt_bool : bootBuiltins "bool" = some (.type (kNm 1)) := by decide +kernel
theorem bt_str : bootBuiltins "str" = some (.type (kNm 3)) := by decide +kernel
theorem bt_tuple : bootBuiltins "tuple" = some (.type (kNm 4)) := by decide +kernel
theorem bt_list : bootBuiltins "list" = some (.type (kNm 5)) := by decide +kernel
theorem bt_dict : bootBuiltins "dict" = some (.type (kNm 6)) := by decide +kernel
abbrev s_next_step : Stmt := top 1
abbrev N_next_step : List Str := ["line", "many"]
abbrev s_at_odds : Stmt := top 2
abbrev N_at_odds : List Str := ["one", "other", "many"]
abbrev s_Watch___init__ : Stmt := inClass (top 3) 0
abbrev N_Watch___init__ : List Str := ["self"]
abbrev s_Watch_saw : Stmt := inClass (top 3) 1
abbrev N_Watch_saw : List Str := ["self", "text", "line", "some", "elder", "one"]
abbrev s_Watch_faults : Stmt := inClass (top 3) 2
abbrev N_Watch_faults : List Str := ["self"]
abbrev s__law_draw : Stmt := top 5
abbrev N__law_draw : List Str := ["_law_script", "_law_k", "_law_many", "_law_cell", "_law_left", "_law_mixed"]
abbrev s__law_same : Stmt := top 6
abbrev N__law_same : List Str := ["_law_found", "_law_due"]
abbrev s__law_stamp : Stmt := top 7
abbrev N__law_stamp : List Str := ["_law_value_here", "_law_part"]
abbrev s__law_names : Stmt := top 8
abbrev N__law_names : List Str := ["_law_script", "_law_k", "_law_menu", "_law_first", "_law_step", "_law_j"]
abbrev s__law_value : Stmt := top 9
abbrev N__law_value : List Str := ["_law_script", "_law_k", "_law_names_here", "_law_some"]
abbrev s__law_expr : Stmt := top 10
abbrev N__law_expr : List Str := ["_law_script", "_law_k", "_law_names_here", "_law_got", "_law_value_here", "_law_some"]
abbrev s__law_recipe : Stmt := top 11
abbrev N__law_recipe : List Str := ["_law_script", "_law_k", "_law_names_here", "_law_ways", "_law_one", "_law_other", "_law_say", "_law_expr_here", "_law_two", "_law_both", "_law_later", "_law_some"]
abbrev s__law_fits : Stmt := top 12
abbrev N__law_fits : List Str := ["_law_value_here", "_law_deep", "_law_part"]
abbrev s__law_of_two : Stmt := top 13
abbrev N__law_of_two : List Str := ["_law_word", "_law_one", "_law_other", "_law_kinds"]
abbrev s__law_told : Stmt := top 14
abbrev N__law_told : List Str := ["_law_expr_here", "_law_got", "_law_parts", "_law_part", "_law_values", "_law_found"]
abbrev s__law_is_name : Stmt := top 15
abbrev N__law_is_name : List Str := ["_law_thing", "_law_sign"]
abbrev s__law_run : Stmt := top 16
abbrev N__law_run : List Str := ["_law_recipe_here", "_law_good", "_law_got", "_law_reads", "_law_value_here"]
abbrev s__law_one_line : Stmt := top 17
abbrev N__law_one_line : List Str := ["_law_script", "_law_k", "_law_reads", "_law_j", "_law_name", "_law_ends"]
abbrev s__law_steps : Stmt := top 18
abbrev N__law_steps : List Str := ["_law_line", "_law_steps_here", "_law_name", "_law_stamp_here"]
abbrev s__law_odds : Stmt := top 19
abbrev N__law_odds : List Str := ["_law_one", "_law_other", "_law_mine", "_law_its"]
abbrev s__law_elder : Stmt := top 20
abbrev N__law_elder : List Str := ["_law_seen", "_law_text", "_law_line", "_law_mine", "_law_elder_here"]
abbrev s__law_saw : Stmt := top 21
abbrev N__law_saw : List Str := ["_law_watch", "_law_seen", "_law_faults", "_law_text", "_law_line", "_law_due", "_law_found", "_law_told_here"]
abbrev s__law_doing : Stmt := top 22
abbrev N__law_doing : List Str := ["_law_script", "_law_k", "_law_names_here", "_law_recipe_here", "_law_good", "_law_j", "_law_told_here"]
abbrev s_law : Stmt := top 23
abbrev N_law : List Str := ["_law_script", "_law_texts", "_law_watches", "_law_seen", "_law_faults", "_law_names_here", "_law_recipe_here", "_law_number", "_law_k", "_law_at", "_law_text", "_law_line", "_law_fault"]
def w_next_step (cl : Nat → Addr) (C : Nat → Spec) : WS :=
  wSeq (wIf (wBinT dLt (wVar 1) (wCB dLen (wCons (wBin dIxS (wVar 0) (wC (.int 1))) (wNil)))) (wRet (wTup (wCons (wC (.str [119, 97, 110, 116, 115])) (wCons (wBin dIxS (wBin dIxS (wBin dIxS (wVar 0) (wC (.int 1))) (wVar 1)) (wC (.int 0))) (wNil))))) (wNext))
    (wRet (wBin dIxS (wVar 0) (wC (.int 2))))
def w_at_odds (cl : Nat → Addr) (C : Nat → Spec) : WS :=
  wSeq (wAsg (wC (.int 0)) (wgN 2))
    (wSeq (wWhile (wAnd (wBinT dLt (wVar 2) (wCB dLen (wCons (wBin dIxS (wVar 0) (wC (.int 1))) (wNil)))) (wAnd (wBinT dLt (wVar 2) (wCB dLen (wCons (wBin dIxS (wVar 1) (wC (.int 1))) (wNil)))) (wBinT dEq (wBin dIxS (wBin dIxS (wVar 0) (wC (.int 1))) (wVar 2)) (wBin dIxS (wBin dIxS (wVar 1) (wC (.int 1))) (wVar 2))))) (wAsg (wBin dAdd (wVar 2) (wC (.int 1))) (wgN 2)))
    (wRet (wBin dNe (wCall 2 (C 0) (wCons (wVar 0) (wCons (wVar 2) (wNil)))) (wCall 2 (C 0) (wCons (wVar 1) (wCons (wVar 2) (wNil)))))))
def w_Watch___init__ (cl : Nat → Addr) (C : Nat → Spec) : WS :=
  wSeq (wSetF (cl 0) [115, 101, 101, 110] (wVar 0) (wDicM))
    (wSetF (cl 0) [102, 105, 110, 100, 115] (wVar 0) (wLstM (wNil)))
def w_Watch_saw (cl : Nat → Addr) (C : Nat → Spec) : WS :=
  wSeq (wAsg (wSetd (wFld (cl 0) [115, 101, 101, 110] (wVar 0)) (wVar 1) (wLstM (wNil))) (wgN 3))
    (wSeq (wAsg (wC .non) (wgN 4))
    (wSeq (wFor (wRev1 (wVar 3)) (wgN 5) (wIf (wBt (wCall 2 (C 1) (wCons (wVar 5) (wCons (wVar 2) (wNil))))) (wAsg (wVar 5) (wgN 4)) (wNext)))
    (wSeq (wIf (wUnT (fun x => !isNon x) (wVar 4)) (wDrop (wBM isL mAppend (wFld (cl 0) [102, 105, 110, 100, 115] (wVar 0)) (wCons (wTup (wCons (wVar 1) (wCons (wVar 4) (wCons (wVar 2) (wNil))))) (wNil)))) (wNext))
    (wSeq (wDrop (wBM isL mAppend (wVar 3) (wCons (wVar 2) (wNil))))
    (wRet (wVar 4))))))
def w_Watch_faults (cl : Nat → Addr) (C : Nat → Spec) : WS :=
  wRet (wCB dListM (wCons (wFld (cl 0) [102, 105, 110, 100, 115] (wVar 0)) (wNil)))
def w__law_draw (cl : Nat → Addr) (C : Nat → Spec) : WS :=
  wSeq (wAsg (wC (.int 0)) (wgN 3))
    (wSeq (wIf (wBinT dGt (wCB dLen (wCons (wVar 0) (wNil))) (wC (.int 0))) (wSeq (wAsg (wBin dIxS (wVar 0) (wBin dMod (wVar 1) (wCB dLen (wCons (wVar 0) (wNil))))) (wgN 3))
    (wSeq (wAsg (wBin dShr (wVar 3) (wBin dMul (wC (.int 7)) (wCB dMin2 (wCons (wC (.int 90)) (wCons (wBin dDiv (wVar 1) (wCB dLen (wCons (wVar 0) (wNil)))) (wNil)))))) (wgN 4))
    (wIf (wAnd (wBinT dGe (wVar 3) (wBin dPow (wC (.int 10)) (wC (.int 18)))) (wBinT dGt (wVar 4) (wC (.int 127)))) (wRet (wBin dMod (wVar 4) (wVar 2))) (wNext)))) (wNext))
    (wSeq (wAsg (wBin dMod (wBin dMul (wBin dAdd (wBin dAdd (wBin dAdd (wBin dMod (wVar 3) (wC (.int 999999937))) (wBin dMul (wBin dMul (wC (.int 31)) (wVar 1)) (wVar 1))) (wBin dMul (wC (.int 7)) (wVar 1))) (wC (.int 1))) (wC (.int 48271))) (wC (.int 2147483647))) (wgN 5))
    (wRet (wBin dMod (wBin dDiv (wBin dMod (wBin dMul (wBin dDiv (wVar 5) (wC (.int 7))) (wC (.int 69621))) (wC (.int 2147483629))) (wC (.int 5))) (wVar 2)))))
def w__law_same (cl : Nat → Addr) (C : Nat → Spec) : WS :=
  wSeq (wIf (wBt (wIsi 6 (wVar 1))) (wNever) (wNext))
    (wRet (wBin dEq (wCB dRepr (wCons (wVar 0) (wNil))) (wCB dRepr (wCons (wVar 1) (wNil)))))
def w__law_stamp (cl : Nat → Addr) (C : Nat → Spec) : WS :=
  wSeq (wIf (wBt (wIsi 2 (wVar 0))) (wRet (wCB dStr (wCons (wVar 0) (wNil)))) (wNext))
    (wSeq (wIf (wBt (wIsi 3 (wVar 0))) (wRet (wBin dAdd (wC (.str [39])) (wVar 0))) (wNext))
    (wRet (wBin dAdd (wBin dAdd (wC (.str [40])) (wBM isS mJoin (wC (.str [44])) (wCons (wLc [1] (wSeq1 (wVar 0)) (wgN 1) (wYes) (wCall 1 (C 7) (wCons (wVar 1) (wNil)))) (wNil)))) (wC (.str [41])))))
def w__law_names (cl : Nat → Addr) (C : Nat → Spec) : WS :=
  wSeq (wAsg (wLst (wCons (wC (.str [97])) (wCons (wC (.str [97, 98])) (wCons (wC (.str [97, 98, 99])) (wCons (wC (.str [98])) (wCons (wC (.str [116, 111, 108, 100])) (wCons (wC (.str [109, 97, 100, 101])) (wCons (wC (.str [115, 97, 121])) (wCons (wC (.str [119, 97, 110, 116])) (wCons (wC (.str [119, 97, 110, 116, 115])) (wCons (wC (.str [98, 97])) (wCons (wC (.str [122, 122])) (wCons (wC (.str [120])) (wNil)))))))))))))) (wgN 2))
    (wSeq (wAsg (wCall 3 (C 5) (wCons (wVar 0) (wCons (wVar 1) (wCons (wC (.int 12)) (wNil))))) (wgN 3))
    (wSeq (wAsg (wBin dIxS (wLst (wCons (wC (.int 1)) (wCons (wC (.int 5)) (wCons (wC (.int 7)) (wCons (wC (.int 11)) (wNil)))))) (wCall 3 (C 5) (wCons (wVar 0) (wCons (wBin dAdd (wVar 1) (wC (.int 1))) (wCons (wC (.int 4)) (wNil)))))) (wgN 4))
    (wRet (wLc [5] (wRng1 (wCons (wBin dAdd (wC (.int 4)) (wCall 3 (C 5) (wCons (wVar 0) (wCons (wBin dAdd (wVar 1) (wC (.int 2))) (wCons (wC (.int 4)) (wNil)))))) (wNil))) (wgN 5) (wYes) (wBin dIxS (wVar 2) (wBin dMod (wBin dAdd (wVar 3) (wBin dMul (wVar 4) (wVar 5))) (wC (.int 12))))))))
def w__law_value (cl : Nat → Addr) (C : Nat → Spec) : WS :=
  wSeq (wAsg (wBin dAdd (wLst (wCons (wC (.int 0)) (wCons (wC (.int 1)) (wCons (wC (.int 2)) (wCons (wUn dNeg (wC (.int 3))) (wCons (wC (.str [])) (wCons (wC (.str [97])) (wCons (wC (.str [45, 48])) (wCons (wTup (wNil)) (wCons (wTup (wCons (wC (.int 1)) (wCons (wC (.str [98])) (wNil)))) (wCons (wTup (wCons (wC (.str [97])) (wCons (wTup (wCons (wC (.int 0)) (wNil))) (wNil)))) (wCons (wBin dPow (wC (.int 10)) (wC (.int 18))) (wCons (wC (.int 1)) (wCons (wC (.int 0)) (wNil))))))))))))))) (wVar 2)) (wgN 3))
    (wRet (wBin dIxS (wVar 3) (wCall 3 (C 5) (wCons (wVar 0) (wCons (wVar 1) (wCons (wCB dLen (wCons (wVar 3) (wNil))) (wNil)))))))
def w__law_expr (cl : Nat → Addr) (C : Nat → Spec) : WS :=
  wSeq (wAsg (wTup (wCons (wC (.str [103, 111, 116])) (wCons (wC (.int 0)) (wNil)))) (wgN 3))
    (wSeq (wAsg (wTup (wCons (wC (.str [112, 117, 116])) (wCons (wCall 3 (C 9) (wCons (wVar 0) (wCons (wBin dAdd (wVar 1) (wC (.int 1))) (wCons (wVar 2) (wNil))))) (wNil)))) (wgN 4))
    (wSeq (wAsg (wLst (wCons (wVar 3) (wCons (wTup (wCons (wC (.str [115, 117, 109])) (wCons (wVar 3) (wCons (wTup (wCons (wC (.str [112, 117, 116])) (wCons (wC (.int 1)) (wNil)))) (wNil))))) (wCons (wTup (wCons (wC (.str [106, 111, 105, 110])) (wCons (wVar 3) (wCons (wTup (wCons (wC (.str [112, 117, 116])) (wCons (wC (.str [97])) (wNil)))) (wNil))))) (wCons (wTup (wCons (wC (.str [109, 97, 110, 121])) (wCons (wVar 3) (wNil)))) (wCons (wTup (wCons (wC (.str [115, 97, 109, 101])) (wCons (wVar 3) (wCons (wVar 4) (wNil))))) (wNil))))))) (wgN 5))
    (wSeq (wAsg (wBin dAdd (wVar 5) (wLst (wCons (wTup (wCons (wC (.str [114, 111, 119])) (wCons (wTup (wCons (wVar 3) (wCons (wVar 4) (wNil)))) (wNil)))) (wCons (wTup (wCons (wC (.str [112, 97, 114, 116])) (wCons (wVar 3) (wCons (wTup (wCons (wC (.str [112, 117, 116])) (wCons (wC (.int 0)) (wNil)))) (wNil))))) (wCons (wTup (wCons (wC (.str [108, 101, 115, 115])) (wCons (wVar 3) (wCons (wTup (wCons (wC (.str [112, 117, 116])) (wCons (wC (.int 1)) (wNil)))) (wNil))))) (wCons (wTup (wCons (wC (.str [109, 97, 110, 121])) (wCons (wVar 3) (wNil)))) (wCons (wVar 3) (wNil)))))))) (wgN 5))
    (wRet (wBin dIxS (wVar 5) (wCall 3 (C 5) (wCons (wVar 0) (wCons (wVar 1) (wCons (wC (.int 10)) (wNil))))))))))
def w__law_recipe (cl : Nat → Addr) (C : Nat → Spec) : WS :=
  wSeq (wAsg (wTup (wCons (wC (.str [112, 117, 116])) (wCons (wBin dIxS (wVar 2) (wCall 3 (C 5) (wCons (wVar 0) (wCons (wVar 1) (wCons (wCB dLen (wCons (wVar 2) (wNil))) (wNil)))))) (wNil)))) (wgN 4))
    (wSeq (wAsg (wTup (wCons (wC (.str [112, 117, 116])) (wCons (wBin dIxS (wVar 2) (wCall 3 (C 5) (wCons (wVar 0) (wCons (wBin dAdd (wVar 1) (wC (.int 1))) (wCons (wCB dLen (wCons (wVar 2) (wNil))) (wNil)))))) (wNil)))) (wgN 5))
    (wSeq (wAsg (wTup (wCons (wC (.str [115, 97, 121])) (wCons (wTup (wCons (wC (.str [112, 117, 116])) (wCons (wCall 3 (C 9) (wCons (wVar 0) (wCons (wBin dAdd (wVar 1) (wC (.int 2))) (wCons (wVar 2) (wNil))))) (wNil)))) (wNil)))) (wgN 6))
    (wSeq (wAsg (wCall 3 (C 10) (wCons (wVar 0) (wCons (wBin dAdd (wVar 1) (wC (.int 3))) (wCons (wVar 2) (wNil))))) (wgN 7))
    (wSeq (wAsg (wLst (wCons (wTup (wCons (wC (.str [114, 111, 119])) (wCons (wTup (wCons (wTup (wCons (wC (.str [103, 111, 116])) (wCons (wC (.int 0)) (wNil)))) (wCons (wTup (wCons (wC (.str [103, 111, 116])) (wCons (wC (.int 1)) (wNil)))) (wNil)))) (wNil)))) (wCons (wTup (wCons (wC (.str [115, 97, 109, 101])) (wCons (wTup (wCons (wC (.str [103, 111, 116])) (wCons (wC (.int 0)) (wNil)))) (wCons (wTup (wCons (wC (.str [103, 111, 116])) (wCons (wC (.int 1)) (wNil)))) (wNil))))) (wCons (wTup (wCons (wC (.str [115, 117, 109])) (wCons (wTup (wCons (wC (.str [103, 111, 116])) (wCons (wC (.int 1)) (wNil)))) (wCons (wTup (wCons (wC (.str [103, 111, 116])) (wCons (wC (.int 0)) (wNil)))) (wNil))))) (wNil))))) (wgN 8))
    (wSeq (wAsg (wTup (wCons (wC (.str [115, 97, 121])) (wCons (wBin dIxS (wVar 8) (wCall 3 (C 5) (wCons (wVar 0) (wCons (wBin dAdd (wVar 1) (wC (.int 5))) (wCons (wC (.int 3)) (wNil)))))) (wNil)))) (wgN 9))
    (wSeq (wAsg (wTup (wCons (wC (.str [119, 97, 110, 116])) (wCons (wVar 5) (wCons (wTup (wCons (wC (.str [115, 97, 121])) (wCons (wTup (wCons (wC (.str [103, 111, 116])) (wCons (wC (.int 1)) (wNil)))) (wNil)))) (wNil))))) (wgN 10))
    (wSeq (wAsg (wLst (wCons (wVar 6) (wCons (wTup (wCons (wC (.str [119, 97, 110, 116])) (wCons (wVar 4) (wCons (wTup (wCons (wC (.str [115, 97, 121])) (wCons (wVar 7) (wNil)))) (wNil))))) (wCons (wTup (wCons (wC (.str [119, 97, 110, 116])) (wCons (wVar 4) (wCons (wTup (wCons (wC (.str [119, 97, 110, 116])) (wCons (wVar 5) (wCons (wVar 9) (wNil))))) (wNil))))) (wCons (wTup (wCons (wC (.str [119, 97, 110, 116])) (wCons (wVar 4) (wCons (wTup (wCons (wC (.str [115, 97, 121])) (wCons (wVar 7) (wNil)))) (wNil))))) (wNil)))))) (wgN 11))
    (wSeq (wAsg (wBin dAdd (wVar 11) (wLst (wCons (wTup (wCons (wC (.str [119, 97, 110, 116])) (wCons (wVar 4) (wCons (wTup (wCons (wC (.str [119, 104, 101, 110])) (wCons (wVar 7) (wCons (wVar 10) (wCons (wVar 6) (wNil)))))) (wNil))))) (wCons (wTup (wCons (wC (.str [119, 97, 110, 116])) (wCons (wVar 4) (wCons (wTup (wCons (wC (.str [119, 97, 110, 116])) (wCons (wTup (wCons (wC (.str [103, 111, 116])) (wCons (wC (.int 0)) (wNil)))) (wCons (wTup (wCons (wC (.str [115, 97, 121])) (wCons (wTup (wCons (wC (.str [103, 111, 116])) (wCons (wC (.int 1)) (wNil)))) (wNil)))) (wNil))))) (wNil))))) (wNil))))) (wgN 11))
    (wSeq (wAsg (wBin dAdd (wVar 11) (wLst (wCons (wTup (wCons (wC (.str [102, 97, 105, 108])) (wCons (wBin dIxS (wVar 2) (wCall 3 (C 5) (wCons (wVar 0) (wCons (wBin dAdd (wVar 1) (wC (.int 6))) (wCons (wCB dLen (wCons (wVar 2) (wNil))) (wNil)))))) (wNil)))) (wCons (wTup (wCons (wC (.str [119, 97, 110, 116])) (wCons (wVar 4) (wCons (wTup (wCons (wC (.str [119, 97, 110, 116])) (wCons (wVar 4) (wCons (wVar 9) (wNil))))) (wNil))))) (wNil))))) (wgN 11))
    (wSeq (wAsg (wBin dAdd (wVar 11) (wLst (wCons (wTup (wCons (wC (.str [112, 101, 101, 107])) (wCons (wVar 4) (wCons (wTup (wCons (wC (.str [115, 97, 121])) (wCons (wVar 7) (wNil)))) (wNil))))) (wCons (wTup (wCons (wC (.str [112, 101, 101, 107])) (wCons (wVar 4) (wCons (wTup (wCons (wC (.str [119, 104, 101, 110])) (wCons (wVar 7) (wCons (wVar 10) (wCons (wVar 6) (wNil)))))) (wNil))))) (wNil))))) (wgN 11))
    (wSeq (wAsg (wBin dAdd (wVar 11) (wLst (wCons (wTup (wCons (wC (.str [119, 97, 110, 116])) (wCons (wVar 4) (wCons (wTup (wCons (wC (.str [112, 101, 101, 107])) (wCons (wVar 5) (wCons (wVar 9) (wNil))))) (wNil))))) (wCons (wTup (wCons (wC (.str [112, 101, 101, 107])) (wCons (wVar 4) (wCons (wTup (wCons (wC (.str [119, 97, 110, 116])) (wCons (wVar 5) (wCons (wVar 9) (wNil))))) (wNil))))) (wNil))))) (wgN 11))
    (wRet (wBin dIxS (wVar 11) (wCall 3 (C 5) (wCons (wVar 0) (wCons (wBin dAdd (wVar 1) (wC (.int 7))) (wCons (wVar 3) (wNil))))))))))))))))))
def w__law_fits (cl : Nat → Addr) (C : Nat → Spec) : WS :=
  wSeq (wIf (wBt (wIsi 4 (wVar 0))) (wRet (wAndV (wBin dLt (wVar 1) (wC (.int 4))) (wAndV (wBin dLe (wCB dLen (wCons (wVar 0) (wNil))) (wC (.int 8))) (wCB dAll (wCons (wLc [2] (wSeq1 (wVar 0)) (wgN 2) (wYes) (wCall 2 (C 12) (wCons (wVar 2) (wCons (wBin dAdd (wVar 1) (wC (.int 1))) (wNil))))) (wNil)))))) (wNext))
    (wSeq (wIf (wBt (wIsi 3 (wVar 0))) (wRet (wBin dLe (wCB dLen (wCons (wVar 0) (wNil))) (wC (.int 20)))) (wNext))
    (wRet (wChain dLe dLe (wUn dNeg (wBin dPow (wC (.int 10)) (wC (.int 18)))) (wVar 0) (wBin dPow (wC (.int 10)) (wC (.int 18))))))
def w__law_of_two (cl : Nat → Addr) (C : Nat → Spec) : WS :=
  wSeq (wAsg (wLst (wCons (wIsi 2 (wVar 1)) (wCons (wIsi 2 (wVar 2)) (wNil)))) (wgN 3))
    (wSeq (wIf (wBinT dEq (wVar 0) (wC (.str [115, 97, 109, 101]))) (wRet (wCB dInt1 (wCons (wBin dEq (wCall 1 (C 7) (wCons (wVar 1) (wNil))) (wCall 1 (C 7) (wCons (wVar 2) (wNil)))) (wNil)))) (wNext))
    (wSeq (wIf (wBinT dEq (wVar 0) (wC (.str [112, 97, 114, 116]))) (wSeq (wIf (wOr (wNot (wBt (wIsi 4 (wVar 1)))) (wNot (wBt (wBin dIxS (wVar 3) (wC (.int 1)))))) (wRet (wC .non)) (wNext))
    (wRet (wIfE (wChainT dLe dLt (wC (.int 0)) (wVar 2) (wCB dLen (wCons (wVar 1) (wNil)))) (wBin dIxS (wVar 1) (wVar 2)) (wTup (wNil))))) (wNext))
    (wSeq (wIf (wBinT dEq (wVar 0) (wC (.str [106, 111, 105, 110]))) (wSeq (wIf (wOr (wBt (wBin dIxS (wVar 3) (wC (.int 0)))) (wOr (wBt (wBin dIxS (wVar 3) (wC (.int 1)))) (wBinT dNe (wIsi 3 (wVar 1)) (wIsi 3 (wVar 2))))) (wRet (wC .non)) (wNext))
    (wRet (wBin dAdd (wVar 1) (wVar 2)))) (wNext))
    (wSeq (wIf (wBinT dNe (wVar 3) (wLst (wCons (wC (.bl true)) (wCons (wC (.bl true)) (wNil))))) (wRet (wC .non)) (wNext))
    (wRet (wIfE (wBinT dEq (wVar 0) (wC (.str [115, 117, 109]))) (wBin dAdd (wVar 1) (wVar 2)) (wCB dInt1 (wCons (wBin dLt (wVar 1) (wVar 2)) (wNil)))))))))
def w__law_told (cl : Nat → Addr) (C : Nat → Spec) : WS :=
  wSeq (wIf (wBinT dEq (wBin dIxS (wVar 0) (wC (.int 0))) (wC (.str [112, 117, 116]))) (wRet (wTup (wCons (wC (.str [118, 97, 108, 117, 101])) (wCons (wBin dIxS (wVar 0) (wC (.int 1))) (wNil))))) (wNext))
    (wSeq (wIf (wBinT dEq (wBin dIxS (wVar 0) (wC (.int 0))) (wC (.str [103, 111, 116]))) (wRet (wTup (wCons (wC (.str [118, 97, 108, 117, 101])) (wCons (wBin dIxS (wVar 1) (wBin dIxS (wVar 0) (wC (.int 1)))) (wNil))))) (wNext))
    (wSeq (wAsg (wLc [3] (wSeq1 (wIfE (wBinT dEq (wBin dIxS (wVar 0) (wC (.int 0))) (wC (.str [114, 111, 119]))) (wBin dIxS (wVar 0) (wC (.int 1))) (wSl (wVar 0) (wPart (wC (.int 1))) (wNoPart)))) (wgN 3) (wYes) (wCall 2 (C 14) (wCons (wVar 3) (wCons (wVar 1) (wNil))))) (wgN 2))
    (wSeq (wFor (wSeq1 (wVar 2)) (wgN 3) (wIf (wBinT dEq (wBin dIxS (wVar 3) (wC (.int 0))) (wC (.str [102, 97, 105, 108, 115]))) (wRet (wVar 3)) (wNext)))
    (wSeq (wAsg (wLc [3] (wSeq1 (wVar 2)) (wgN 3) (wYes) (wBin dIxS (wVar 3) (wC (.int 1)))) (wgN 4))
    (wSeq (wIf (wBinT dEq (wBin dIxS (wVar 0) (wC (.int 0))) (wC (.str [114, 111, 119]))) (wRet (wIfE (wBt (wCall 2 (C 12) (wCons (wCB dTuple (wCons (wVar 4) (wNil))) (wCons (wC (.int 0)) (wNil))))) (wTup (wCons (wC (.str [118, 97, 108, 117, 101])) (wCons (wCB dTuple (wCons (wVar 4) (wNil))) (wNil)))) (wTup (wCons (wC (.str [102, 97, 105, 108, 115])) (wCons (wC (.str [103, 114, 101, 97, 116])) (wNil)))))) (wNext))
    (wSeq (wIf (wBinT dEq (wBin dIxS (wVar 0) (wC (.int 0))) (wC (.str [109, 97, 110, 121]))) (wRet (wIfE (wBt (wIsi 2 (wBin dIxS (wVar 4) (wC (.int 0))))) (wTup (wCons (wC (.str [102, 97, 105, 108, 115])) (wCons (wC (.str [107, 105, 110, 100])) (wNil)))) (wTup (wCons (wC (.str [118, 97, 108, 117, 101])) (wCons (wCB dLen (wCons (wBin dIxS (wVar 4) (wC (.int 0))) (wNil))) (wNil)))))) (wNext))
    (wSeq (wAsg (wCall 3 (C 13) (wCons (wBin dIxS (wVar 0) (wC (.int 0))) (wCons (wBin dIxS (wVar 4) (wC (.int 0))) (wCons (wBin dIxS (wVar 4) (wC (.int 1))) (wNil))))) (wgN 5))
    (wSeq (wIf (wUnT isNon (wVar 5)) (wRet (wTup (wCons (wC (.str [102, 97, 105, 108, 115])) (wCons (wC (.str [107, 105, 110, 100])) (wNil))))) (wNext))
    (wSeq (wIf (wAnd (wBinT dEq (wBin dIxS (wVar 0) (wC (.int 0))) (wC (.str [112, 97, 114, 116]))) (wNot (wChainT dLe dLt (wC (.int 0)) (wBin dIxS (wVar 4) (wC (.int 1))) (wCB dLen (wCons (wBin dIxS (wVar 4) (wC (.int 0))) (wNil)))))) (wRet (wTup (wCons (wC (.str [102, 97, 105, 108, 115])) (wCons (wC (.str [112, 97, 114, 116])) (wNil))))) (wNext))
    (wRet (wIfE (wBt (wCall 2 (C 12) (wCons (wVar 5) (wCons (wC (.int 0)) (wNil))))) (wTup (wCons (wC (.str [118, 97, 108, 117, 101])) (wCons (wVar 5) (wNil)))) (wTup (wCons (wC (.str [102, 97, 105, 108, 115])) (wCons (wC (.str [103, 114, 101, 97, 116])) (wNil)))))))))))))))
def w__law_is_name (cl : Nat → Addr) (C : Nat → Spec) : WS :=
  wSeq (wIf (wOr (wNot (wBt (wIsi 3 (wVar 0)))) (wNot (wChainT dLe dLe (wC (.int 1)) (wCB dLen (wCons (wVar 0) (wNil))) (wC (.int 8))))) (wRet (wC (.bl false))) (wNext))
    (wRet (wCB dAll (wCons (wLc [1] (wSeq1 (wVar 0)) (wgN 1) (wYes) (wBin dIn (wVar 1) (wC (.str [97, 98, 99, 100, 101, 102, 103, 104, 105, 106, 107, 108, 109, 110, 111, 112, 113, 114, 115, 116, 117, 118, 119, 120, 121, 122])))) (wNil))))
def w__law_run (cl : Nat → Addr) (C : Nat → Spec) : WS :=
  wSeq (wAsg (wLstM (wNil)) (wgN 2))
    (wSeq (wAsg (wLstM (wNil)) (wgN 3))
    (wSeq (wWhile (wBinT dNotIn (wBin dIxS (wVar 0) (wC (.int 0))) (wTup (wCons (wC (.str [115, 97, 121])) (wCons (wC (.str [102, 97, 105, 108])) (wNil))))) (wSeq (wAsg (wCall 2 (C 14) (wCons (wBin dIxS (wVar 0) (wC (.int 1))) (wCons (wVar 2) (wNil)))) (wgN 4))
    (wSeq (wIf (wBinT dEq (wBin dIxS (wVar 4) (wC (.int 0))) (wC (.str [102, 97, 105, 108, 115]))) (wRet (wTup (wCons (wCB dTuple (wCons (wVar 3) (wNil))) (wCons (wVar 4) (wCons (wC .non) (wNil)))))) (wNext))
    (wIf (wBinT dEq (wBin dIxS (wVar 0) (wC (.int 0))) (wC (.str [119, 104, 101, 110]))) (wAsg (wIfE (wBinT dIn (wBin dIxS (wVar 4) (wC (.int 1))) (wTup (wCons (wC (.int 0)) (wCons (wC (.str [])) (wCons (wTup (wNil)) (wNil)))))) (wBin dIxS (wVar 0) (wC (.int 3))) (wBin dIxS (wVar 0) (wC (.int 2)))) (wgN 0)) (wIf (wNot (wBt (wCall 1 (C 15) (wCons (wBin dIxS (wVar 4) (wC (.int 1))) (wNil))))) (wRet (wTup (wCons (wCB dTuple (wCons (wVar 3) (wNil))) (wCons (wTup (wCons (wC (.str [102, 97, 105, 108, 115])) (wCons (wC (.str [110, 97, 109, 101])) (wNil)))) (wCons (wC .non) (wNil)))))) (wIf (wBinT dNotIn (wBin dIxS (wVar 4) (wC (.int 1))) (wVar 1)) (wRet (wTup (wCons (wCB dTuple (wCons (wVar 3) (wNil))) (wCons (wTup (wCons (wC (.str [119, 97, 110, 116, 115])) (wCons (wBin dIxS (wVar 4) (wC (.int 1))) (wNil)))) (wCons (wC .non) (wNil)))))) (wSeq (wDrop (wBM isL mAppend (wVar 2) (wCons (wBin dDix (wVar 1) (wBin dIxS (wVar 4) (wC (.int 1)))) (wNil))))
    (wSeq (wIf (wBinT dEq (wBin dIxS (wVar 0) (wC (.int 0))) (wC (.str [119, 97, 110, 116]))) (wDrop (wBM isL mAppend (wVar 3) (wCons (wTup (wCons (wBin dIxS (wVar 4) (wC (.int 1))) (wCons (wCall 1 (C 7) (wCons (wBin dIxS (wVar 2) (wUn dNeg (wC (.int 1)))) (wNil))) (wNil)))) (wNil)))) (wNext))
    (wAsg (wBin dIxS (wVar 0) (wC (.int 2))) (wgN 0))))))))))
    (wSeq (wAsg (wTup (wCons (wC (.str [102, 97, 105, 108, 115])) (wCons (wBin dIxS (wVar 0) (wC (.int 1))) (wNil)))) (wgN 4))
    (wSeq (wIf (wBinT dEq (wBin dIxS (wVar 0) (wC (.int 0))) (wC (.str [115, 97, 121]))) (wAsg (wCall 2 (C 14) (wCons (wBin dIxS (wVar 0) (wC (.int 1))) (wCons (wVar 2) (wNil)))) (wgN 4)) (wNext))
    (wSeq (wIf (wBinT dEq (wBin dIxS (wVar 4) (wC (.int 0))) (wC (.str [102, 97, 105, 108, 115]))) (wRet (wTup (wCons (wCB dTuple (wCons (wVar 3) (wNil))) (wCons (wVar 4) (wCons (wC .non) (wNil)))))) (wNext))
    (wRet (wTup (wCons (wCB dTuple (wCons (wVar 3) (wNil))) (wCons (wTup (wCons (wC (.str [109, 97, 100, 101])) (wCons (wCall 1 (C 7) (wCons (wBin dIxS (wVar 4) (wC (.int 1))) (wNil))) (wNil)))) (wCons (wBin dIxS (wVar 4) (wC (.int 1))) (wNil)))))))))))
def w__law_one_line (cl : Nat → Addr) (C : Nat → Spec) : WS :=
  wSeq (wAsg (wLstM (wNil)) (wgN 2))
    (wSeq (wFor (wRng1 (wCons (wCall 3 (C 5) (wCons (wVar 0) (wCons (wVar 1) (wCons (wC (.int 4)) (wNil))))) (wNil))) (wgN 3) (wSeq (wAsg (wBin dIxS (wLst (wCons (wC (.str [97])) (wCons (wC (.str [97])) (wCons (wC (.str [97, 98])) (wCons (wC (.str [98])) (wNil)))))) (wCall 3 (C 5) (wCons (wVar 0) (wCons (wBin dAdd (wBin dAdd (wVar 1) (wC (.int 1))) (wBin dMul (wC (.int 2)) (wVar 3))) (wCons (wC (.int 4)) (wNil)))))) (wgN 4))
    (wDrop (wBM isL mAppend (wVar 2) (wCons (wTup (wCons (wVar 4) (wCons (wBin dIxS (wLst (wCons (wC (.str [49])) (wCons (wC (.str [39, 97])) (wCons (wC (.str [40, 41])) (wNil))))) (wCall 3 (C 5) (wCons (wVar 0) (wCons (wBin dAdd (wBin dAdd (wVar 1) (wC (.int 2))) (wBin dMul (wC (.int 2)) (wVar 3))) (wCons (wC (.int 3)) (wNil)))))) (wNil)))) (wNil))))))
    (wSeq (wAsg (wLstM (wCons (wTup (wCons (wC (.str [109, 97, 100, 101])) (wCons (wC (.str [49])) (wNil)))) (wCons (wTup (wCons (wC (.str [109, 97, 100, 101])) (wCons (wC (.str [39])) (wNil)))) (wCons (wTup (wCons (wC (.str [102, 97, 105, 108, 115])) (wCons (wC (.str [97])) (wNil)))) (wCons (wTup (wCons (wC (.str [102, 97, 105, 108, 115])) (wCons (wC (.str [97, 98])) (wNil)))) (wCons (wTup (wCons (wC (.str [119, 97, 110, 116, 115])) (wCons (wC (.str [97])) (wNil)))) (wCons (wTup (wCons (wC (.str [119, 97, 110, 116, 115])) (wCons (wC (.str [98])) (wNil)))) (wNil)))))))) (wgN 5))
    (wSeq (wDrop (wBM isL mAppend (wVar 5) (wCons (wTup (wCons (wC (.str [119, 97, 110, 116, 115])) (wCons (wC (.str [97, 98])) (wNil)))) (wNil))))
    (wRet (wTup (wCons (wBin dIxS (wLst (wCons (wC (.str [120])) (wCons (wC (.str [121])) (wCons (wC (.str [120])) (wNil))))) (wCall 3 (C 5) (wCons (wVar 0) (wCons (wBin dAdd (wVar 1) (wC (.int 8))) (wCons (wC (.int 3)) (wNil)))))) (wCons (wCB dTuple (wCons (wVar 2) (wNil))) (wCons (wBin dIxS (wVar 5) (wCall 3 (C 5) (wCons (wVar 0) (wCons (wBin dAdd (wVar 1) (wC (.int 9))) (wCons (wC (.int 7)) (wNil)))))) (wNil)))))))))
def w__law_steps (cl : Nat → Addr) (C : Nat → Spec) : WS :=
  wSeq (wAsg (wLc [2, 3] (wSeq1 (wBin dIxS (wVar 0) (wC (.int 1)))) (wgTup 2 (wgCons (wgN 2) (wgCons (wgN 3) (wgNil)))) (wYes) (wTup (wCons (wTup (wCons (wC (.str [119, 97, 110, 116, 115])) (wCons (wVar 2) (wNil)))) (wCons (wVar 3) (wNil))))) (wgN 1))
    (wRet (wBin dAdd (wVar 1) (wLst (wCons (wTup (wCons (wBin dIxS (wVar 0) (wC (.int 2))) (wCons (wC .non) (wNil)))) (wNil)))))
def w__law_odds (cl : Nat → Addr) (C : Nat → Spec) : WS :=
  wSeq (wFor (wZip (wCons (wCall 1 (C 18) (wCons (wVar 0) (wNil))) (wCons (wCall 1 (C 18) (wCons (wVar 1) (wNil))) (wNil)))) (wgTup 2 (wgCons (wgN 2) (wgCons (wgN 3) (wgNil)))) (wSeq (wIf (wBinT dNe (wBin dIxS (wVar 2) (wC (.int 0))) (wBin dIxS (wVar 3) (wC (.int 0)))) (wRet (wC (.bl true))) (wNext))
    (wIf (wBinT dNe (wBin dIxS (wVar 2) (wC (.int 1))) (wBin dIxS (wVar 3) (wC (.int 1)))) (wRet (wC (.bl false))) (wNext))))
    (wRet (wC (.bl false)))
def w__law_elder (cl : Nat → Addr) (C : Nat → Spec) : WS :=
  wSeq (wFor (wSeq1 (wVar 0)) (wgTup 2 (wgCons (wgN 3) (wgCons (wgN 4) (wgNil)))) (wIf (wAnd (wBinT dEq (wVar 3) (wVar 1)) (wBt (wCall 2 (C 19) (wCons (wVar 4) (wCons (wVar 2) (wNil)))))) (wRet (wLst (wCons (wVar 4) (wNil)))) (wNext)))
    (wRet (wLst (wNil)))
def w__law_saw (cl : Nat → Addr) (C : Nat → Spec) : WS :=
  wSeq (wAsg (wCall 3 (C 20) (wCons (wVar 1) (wCons (wVar 3) (wCons (wVar 4) (wNil))))) (wgN 5))
    (wSeq (wAsg (wMeth (cl 0) [115, 97, 119] 3 (C 3) (wVar 0) (wCons (wVar 3) (wCons (wVar 4) (wNil)))) (wgN 6))
    (wSeq (wIf (wNot (wBt (wCall 2 (C 6) (wCons (wVar 6) (wCons (wIfE (wBinT dGt (wCB dLen (wCons (wVar 5) (wNil))) (wC (.int 0))) (wBin dIxS (wVar 5) (wC (.int 0))) (wC .non)) (wNil)))))) (wRet (wC (.bl false))) (wNext))
    (wSeq (wDrop (wBM isL mAppend (wVar 1) (wCons (wTup (wCons (wVar 3) (wCons (wVar 4) (wNil)))) (wNil))))
    (wSeq (wIf (wBinT dGt (wCB dLen (wCons (wVar 5) (wNil))) (wC (.int 0))) (wDrop (wBM isL mAppend (wVar 2) (wCons (wTup (wCons (wVar 3) (wCons (wBin dIxS (wVar 5) (wC (.int 0))) (wCons (wVar 4) (wNil))))) (wNil)))) (wNext))
    (wSeq (wAsg (wMeth (cl 0) [102, 97, 117, 108, 116, 115] 1 (C 4) (wVar 0) (wNil)) (wgN 7))
    (wSeq (wIf (wNot (wBt (wCall 2 (C 6) (wCons (wVar 7) (wCons (wVar 2) (wNil)))))) (wRet (wC (.bl false))) (wNext))
    (wSeq (wDrop (wBM isL mAppend (wVar 7) (wCons (wC (.str [120])) (wNil))))
    (wRet (wCall 2 (C 6) (wCons (wMeth (cl 0) [102, 97, 117, 108, 116, 115] 1 (C 4) (wVar 0) (wNil)) (wCons (wVar 2) (wNil))))))))))))
def w__law_doing (cl : Nat → Addr) (C : Nat → Spec) : WS :=
  wSeq (wAsg (wDicM) (wgN 4))
    (wSeq (wFor (wRng1 (wCons (wCB dLen (wCons (wVar 2) (wNil))) (wNil))) (wgN 5) (wIf (wBinT dGt (wCall 3 (C 5) (wCons (wVar 0) (wCons (wBin dAdd (wVar 1) (wBin dMul (wC (.int 2)) (wVar 5))) (wCons (wC (.int 4)) (wNil))))) (wC (.int 0))) (wDput (wVar 4) (wBin dIxS (wVar 2) (wVar 5)) (wCall 3 (C 9) (wCons (wVar 0) (wCons (wBin dAdd (wBin dAdd (wVar 1) (wC (.int 1))) (wBin dMul (wC (.int 2)) (wVar 5))) (wCons (wVar 2) (wNil)))))) (wNext)))
    (wSeq (wAsg (wCall 2 (C 16) (wCons (wVar 3) (wCons (wVar 4) (wNil)))) (wgN 6))
    (wRet (wTup (wCons (wC (.str [120])) (wCons (wBin dIxS (wVar 6) (wC (.int 0))) (wCons (wBin dIxS (wVar 6) (wC (.int 1))) (wNil))))))))
def w_law (cl : Nat → Addr) (C : Nat → Spec) : WS :=
  wSeq (wAsg (wLst (wCons (wC (.str [115, 97, 121, 32, 112, 117, 116, 32, 49])) (wCons (wC (.str [115, 97, 121, 32, 112, 117, 116, 32, 49, 50])) (wCons (wC (.str [102, 97, 105, 108, 32, 97])) (wNil))))) (wgN 1))
    (wSeq (wAsg (wLst (wCons (wMake (cl 0) 1 (C 2) wNil) (wCons (wMake (cl 0) 1 (C 2) wNil) (wNil)))) (wgN 2))
    (wSeq (wAsg (wLst (wCons (wLstM (wNil)) (wCons (wLstM (wNil)) (wNil)))) (wgN 3))
    (wSeq (wAsg (wLst (wCons (wLstM (wNil)) (wCons (wLstM (wNil)) (wNil)))) (wgN 4))
    (wSeq (wIf (wOr (wBinT dNe (wMeth (cl 0) [102, 97, 117, 108, 116, 115] 1 (C 4) (wBin dIxS (wVar 2) (wC (.int 0))) (wNil)) (wLst (wNil))) (wBinT dNe (wMeth (cl 0) [102, 97, 117, 108, 116, 115] 1 (C 4) (wBin dIxS (wVar 2) (wC (.int 1))) (wNil)) (wLst (wNil)))) (wRet (wC (.bl false))) (wNext))
    (wSeq (wAsg (wCall 2 (C 8) (wCons (wVar 0) (wCons (wC (.int 300)) (wNil)))) (wgN 5))
    (wSeq (wAsg (wCall 4 (C 11) (wCons (wVar 0) (wCons (wC (.int 310)) (wCons (wVar 5) (wCons (wC (.int 8)) (wNil)))))) (wgN 6))
    (wSeq (wFor (wRng1 (wCons (wBin dAdd (wC (.int 2)) (wCall 3 (C 5) (wCons (wVar 0) (wCons (wC (.int 0)) (wCons (wC (.int 13)) (wNil)))))) (wNil))) (wgN 7) (wSeq (wAsg (wBin dAdd (wC (.int 10)) (wBin dMul (wC (.int 20)) (wVar 7))) (wgN 8))
    (wSeq (wAsg (wCall 3 (C 5) (wCons (wVar 0) (wCons (wBin dAdd (wVar 8) (wC (.int 10))) (wCons (wC (.int 2)) (wNil))))) (wgN 9))
    (wSeq (wAsg (wBin dIxS (wVar 1) (wCall 3 (C 5) (wCons (wVar 0) (wCons (wBin dAdd (wVar 8) (wC (.int 11))) (wCons (wC (.int 3)) (wNil)))))) (wgN 10))
    (wSeq (wIf (wNot (wBt (wCall 5 (C 21) (wCons (wBin dIxS (wVar 2) (wVar 9)) (wCons (wBin dIxS (wVar 3) (wVar 9)) (wCons (wBin dIxS (wVar 4) (wVar 9)) (wCons (wVar 10) (wCons (wCall 2 (C 17) (wCons (wVar 0) (wCons (wVar 8) (wNil)))) (wNil))))))))) (wRet (wC (.bl false))) (wNext))
    (wIf (wBinT dEq (wCall 3 (C 5) (wCons (wVar 0) (wCons (wC (.int 1)) (wCons (wC (.int 2)) (wNil))))) (wC (.int 0))) (wSeq (wAsg (wCall 4 (C 22) (wCons (wVar 0) (wCons (wBin dAdd (wC (.int 400)) (wVar 8)) (wCons (wVar 5) (wCons (wVar 6) (wNil)))))) (wgN 11))
    (wIf (wNot (wBt (wCall 5 (C 21) (wCons (wBin dIxS (wVar 2) (wVar 9)) (wCons (wBin dIxS (wVar 3) (wVar 9)) (wCons (wBin dIxS (wVar 4) (wVar 9)) (wCons (wC (.str [115, 97, 121, 32, 112, 117, 116, 32, 49, 50, 51])) (wCons (wVar 11) (wNil))))))))) (wRet (wC (.bl false))) (wNext))) (wNext)))))))
    (wRet (wCB dAll (wCons (wLc [12] (wSeq1 (wBin dAdd (wBin dIxS (wVar 4) (wC (.int 0))) (wBin dIxS (wVar 4) (wC (.int 1))))) (wgN 12) (wYes) (wBin dNe (wBin dIxS (wVar 12) (wC (.int 0))) (wC (.str [115, 97, 121, 32, 112, 117, 116, 32, 49, 50, 51])))) (wNil)))))))))))
abbrev ix_next_step : Nat := 0
abbrev ix_at_odds : Nat := 1
abbrev ix_Watch___init__ : Nat := 2
abbrev ix_Watch_saw : Nat := 3
abbrev ix_Watch_faults : Nat := 4
abbrev ix__law_draw : Nat := 5
abbrev ix__law_same : Nat := 6
abbrev ix__law_stamp : Nat := 7
abbrev ix__law_names : Nat := 8
abbrev ix__law_value : Nat := 9
abbrev ix__law_expr : Nat := 10
abbrev ix__law_recipe : Nat := 11
abbrev ix__law_fits : Nat := 12
abbrev ix__law_of_two : Nat := 13
abbrev ix__law_told : Nat := 14
abbrev ix__law_is_name : Nat := 15
abbrev ix__law_run : Nat := 16
abbrev ix__law_one_line : Nat := 17
abbrev ix__law_steps : Nat := 18
abbrev ix__law_odds : Nat := 19
abbrev ix__law_elder : Nat := 20
abbrev ix__law_saw : Nat := 21
abbrev ix__law_doing : Nat := 22
abbrev ix_law : Nat := 23
def W (cl : Nat → Addr) (C : Nat → Spec) : Nat → WS
  | 0 => w_next_step cl C
  | 1 => w_at_odds cl C
  | 2 => w_Watch___init__ cl C
  | 3 => w_Watch_saw cl C
  | 4 => w_Watch_faults cl C
  | 5 => w__law_draw cl C
  | 6 => w__law_same cl C
  | 7 => w__law_stamp cl C
  | 8 => w__law_names cl C
  | 9 => w__law_value cl C
  | 10 => w__law_expr cl C
  | 11 => w__law_recipe cl C
  | 12 => w__law_fits cl C
  | 13 => w__law_of_two cl C
  | 14 => w__law_told cl C
  | 15 => w__law_is_name cl C
  | 16 => w__law_run cl C
  | 17 => w__law_one_line cl C
  | 18 => w__law_steps cl C
  | 19 => w__law_odds cl C
  | 20 => w__law_elder cl C
  | 21 => w__law_saw cl C
  | 22 => w__law_doing cl C
  | 23 => w_law cl C
  | _ => fun _ _ _ => False
def ar : Nat → Nat
  | 0 => 2
  | 1 => 2
  | 2 => 1
  | 3 => 3
  | 4 => 1
  | 5 => 3
  | 6 => 2
  | 7 => 1
  | 8 => 2
  | 9 => 3
  | 10 => 3
  | 11 => 4
  | 12 => 2
  | 13 => 3
  | 14 => 2
  | 15 => 1
  | 16 => 2
  | 17 => 2
  | 18 => 1
  | 19 => 2
  | 20 => 3
  | 21 => 5
  | 22 => 4
  | 23 => 1
  | _ => 0
def pad : Nat → Nat
  | 0 => 0
  | 1 => 1
  | 2 => 0
  | 3 => 3
  | 4 => 0
  | 5 => 3
  | 6 => 0
  | 7 => 1
  | 8 => 4
  | 9 => 1
  | 10 => 3
  | 11 => 8
  | 12 => 1
  | 13 => 1
  | 14 => 4
  | 15 => 1
  | 16 => 3
  | 17 => 4
  | 18 => 3
  | 19 => 2
  | 20 => 2
  | 21 => 3
  | 22 => 3
  | 23 => 12
  | _ => 0
def ps : Nat → List Str
  | 0 => ["line", "many"]
  | 1 => ["one", "other"]
  | 2 => ["self"]
  | 3 => ["self", "text", "line"]
  | 4 => ["self"]
  | 5 => ["_law_script", "_law_k", "_law_many"]
  | 6 => ["_law_found", "_law_due"]
  | 7 => ["_law_value_here"]
  | 8 => ["_law_script", "_law_k"]
  | 9 => ["_law_script", "_law_k", "_law_names_here"]
  | 10 => ["_law_script", "_law_k", "_law_names_here"]
  | 11 => ["_law_script", "_law_k", "_law_names_here", "_law_ways"]
  | 12 => ["_law_value_here", "_law_deep"]
  | 13 => ["_law_word", "_law_one", "_law_other"]
  | 14 => ["_law_expr_here", "_law_got"]
  | 15 => ["_law_thing"]
  | 16 => ["_law_recipe_here", "_law_good"]
  | 17 => ["_law_script", "_law_k"]
  | 18 => ["_law_line"]
  | 19 => ["_law_one", "_law_other"]
  | 20 => ["_law_seen", "_law_text", "_law_line"]
  | 21 => ["_law_watch", "_law_seen", "_law_faults", "_law_text", "_law_line"]
  | 22 => ["_law_script", "_law_k", "_law_names_here", "_law_recipe_here"]
  | 23 => ["_law_script"]
  | _ => []
/-- what the defs do, n calls deep -/
def D (cl : Nat → Addr) : Nat → Nat → Spec
  | 0, _ => fun _ _ _ => False
  | n + 1, i => bodyD (ar i) (pad i) (W cl (D cl n) i)
structure Txt (K : PySem.W.Frag) (mg : Str → Option Value) (A : Nat → Addr) (FD : Nat → FuncData) (cl : Nat → Addr) : Prop where
  F_next_step : Fun K "next_step" "next_step" s_next_step (A 0) (FD 0)
  b_next_step : Binds K (FD 0) (ps 0) []
  m_next_step : mg "next_step" = some (.ref (A 0))
  F_at_odds : Fun K "at_odds" "at_odds" s_at_odds (A 1) (FD 1)
  b_at_odds : Binds K (FD 1) (ps 1) []
  m_at_odds : mg "at_odds" = some (.ref (A 1))
  F_Watch___init__ : Fun K "__init__" "Watch.__init__" s_Watch___init__ (A 2) (FD 2)
  b_Watch___init__ : Binds K (FD 2) (ps 2) []
  F_Watch_saw : Fun K "saw" "Watch.saw" s_Watch_saw (A 3) (FD 3)
  b_Watch_saw : Binds K (FD 3) (ps 3) []
  F_Watch_faults : Fun K "faults" "Watch.faults" s_Watch_faults (A 4) (FD 4)
  b_Watch_faults : Binds K (FD 4) (ps 4) []
  F__law_draw : Fun K "_law_draw" "_law_draw" s__law_draw (A 5) (FD 5)
  b__law_draw : Binds K (FD 5) (ps 5) []
  m__law_draw : mg "_law_draw" = some (.ref (A 5))
  F__law_same : Fun K "_law_same" "_law_same" s__law_same (A 6) (FD 6)
  b__law_same : Binds K (FD 6) (ps 6) []
  m__law_same : mg "_law_same" = some (.ref (A 6))
  F__law_stamp : Fun K "_law_stamp" "_law_stamp" s__law_stamp (A 7) (FD 7)
  b__law_stamp : Binds K (FD 7) (ps 7) []
  m__law_stamp : mg "_law_stamp" = some (.ref (A 7))
  F__law_names : Fun K "_law_names" "_law_names" s__law_names (A 8) (FD 8)
  b__law_names : Binds K (FD 8) (ps 8) []
  m__law_names : mg "_law_names" = some (.ref (A 8))
  F__law_value : Fun K "_law_value" "_law_value" s__law_value (A 9) (FD 9)
  b__law_value : Binds K (FD 9) (ps 9) []
  m__law_value : mg "_law_value" = some (.ref (A 9))
  F__law_expr : Fun K "_law_expr" "_law_expr" s__law_expr (A 10) (FD 10)
  b__law_expr : Binds K (FD 10) (ps 10) []
  m__law_expr : mg "_law_expr" = some (.ref (A 10))
  F__law_recipe : Fun K "_law_recipe" "_law_recipe" s__law_recipe (A 11) (FD 11)
  b__law_recipe : Binds K (FD 11) (ps 11) []
  m__law_recipe : mg "_law_recipe" = some (.ref (A 11))
  F__law_fits : Fun K "_law_fits" "_law_fits" s__law_fits (A 12) (FD 12)
  b__law_fits : Binds K (FD 12) (ps 12) []
  m__law_fits : mg "_law_fits" = some (.ref (A 12))
  F__law_of_two : Fun K "_law_of_two" "_law_of_two" s__law_of_two (A 13) (FD 13)
  b__law_of_two : Binds K (FD 13) (ps 13) []
  m__law_of_two : mg "_law_of_two" = some (.ref (A 13))
  F__law_told : Fun K "_law_told" "_law_told" s__law_told (A 14) (FD 14)
  b__law_told : Binds K (FD 14) (ps 14) []
  m__law_told : mg "_law_told" = some (.ref (A 14))
  F__law_is_name : Fun K "_law_is_name" "_law_is_name" s__law_is_name (A 15) (FD 15)
  b__law_is_name : Binds K (FD 15) (ps 15) []
  m__law_is_name : mg "_law_is_name" = some (.ref (A 15))
  F__law_run : Fun K "_law_run" "_law_run" s__law_run (A 16) (FD 16)
  b__law_run : Binds K (FD 16) (ps 16) []
  m__law_run : mg "_law_run" = some (.ref (A 16))
  F__law_one_line : Fun K "_law_one_line" "_law_one_line" s__law_one_line (A 17) (FD 17)
  b__law_one_line : Binds K (FD 17) (ps 17) []
  m__law_one_line : mg "_law_one_line" = some (.ref (A 17))
  F__law_steps : Fun K "_law_steps" "_law_steps" s__law_steps (A 18) (FD 18)
  b__law_steps : Binds K (FD 18) (ps 18) []
  m__law_steps : mg "_law_steps" = some (.ref (A 18))
  F__law_odds : Fun K "_law_odds" "_law_odds" s__law_odds (A 19) (FD 19)
  b__law_odds : Binds K (FD 19) (ps 19) []
  m__law_odds : mg "_law_odds" = some (.ref (A 19))
  F__law_elder : Fun K "_law_elder" "_law_elder" s__law_elder (A 20) (FD 20)
  b__law_elder : Binds K (FD 20) (ps 20) []
  m__law_elder : mg "_law_elder" = some (.ref (A 20))
  F__law_saw : Fun K "_law_saw" "_law_saw" s__law_saw (A 21) (FD 21)
  b__law_saw : Binds K (FD 21) (ps 21) []
  m__law_saw : mg "_law_saw" = some (.ref (A 21))
  F__law_doing : Fun K "_law_doing" "_law_doing" s__law_doing (A 22) (FD 22)
  b__law_doing : Binds K (FD 22) (ps 22) []
  m__law_doing : mg "_law_doing" = some (.ref (A 22))
  F_law : Fun K "law" "law" s_law (A 23) (FD 23)
  b_law : Binds K (FD 23) (ps 23) []
  m_law : mg "law" = some (.ref (A 23))
  me_Watch_faults : Meth K (cl 0) "faults" (A 4)
  me_Watch_saw : Meth K (cl 0) "saw" (A 3)
  c_Watch : Cls K (cl 0)
  g_Watch : mg "Watch" = some (.ref (cl 0))
  k_Watch : Mk K (cl 0) (A 2)
  n_Watch_finds : NoAttr K (cl 0) "finds"
  n_Watch_seen : NoAttr K (cl 0) "seen"
  z_all : mg "all" = none
  z_dict : mg "dict" = none
  z_int : mg "int" = none
  z_isinstance : mg "isinstance" = none
  z_len : mg "len" = none
  z_list : mg "list" = none
  z_min : mg "min" = none
  z_range : mg "range" = none
  z_repr : mg "repr" = none
  z_reversed : mg "reversed" = none
  z_str : mg "str" = none
  z_tuple : mg "tuple" = none
  z_zip : mg "zip" = none
section
variable {P : Program} {w : World} {K : PySem.W.Frag} {mg : Str → Option Value} {base : Heap} {A : Nat → Addr} {FD : Nat → FuncData} {cl : Nat → Addr} {n : Nat} {C : Nat → Spec}
theorem sc_next_step : FnScope N_next_step (ps 0) (defScope s_next_step) := ⟨rfl, rfl, rfl, by decide +kernel, rfl, by decide +kernel, by decide +kernel⟩
theorem body_next_step (T : Txt K mg A FD cl) (G : ∀ i, i < 24 → FnG P w K mg base CX0 (2 * n) (A i) (FD i) (ps i) (lSp K (ar i) (C i))) (cdv : Value) (B : Around) (outer : List Env) (s : Shared) (H : Hp) (E : XK) (gu : Calm B) (hr : Room (2 * n + 1) (B.deeper (envOfC "next_step" (defScope s_next_step) s.heap.objs.size (A 0) cdv))) :
    DSs (cxOf CX0 P w K mg base N_next_step "next_step" (defScope s_next_step) (A 0) cdv B outer s H E).nox (defBody s_next_step) (w_next_step cl C) :=
  have hu64 := u64 hr; have hu70 := u70 hr; have hu80 := u80 hr
  (dss_cons (ds_if (dt_cmp dop_lt (de_var (i := 1) rfl (Or.inl rfl)) (de_callB dc_len rfl T.z_len PySem.boot_len (da_cons (de_ix (de_var (i := 0) rfl (Or.inl rfl)) de_int (fun _ _ => rfl)) da_nil)) (nomark _)) (dss_one (ds_ret (de_tup (da_cons (de_str (l := [119, 97, 110, 116, 115]) rfl) (da_cons (de_ix (de_ix (de_ix (de_var (i := 0) rfl (Or.inl rfl)) de_int (fun _ _ => rfl)) (de_var (i := 1) rfl (Or.inl rfl)) (fun _ _ => rfl)) de_int (fun _ _ => rfl)) da_nil))))) dss_nil)
    (dss_one (ds_ret (de_ix (de_var (i := 0) rfl (Or.inl rfl)) de_int (fun _ _ => rfl)))))
theorem sc_at_odds : FnScope N_at_odds (ps 1) (defScope s_at_odds) := ⟨rfl, rfl, rfl, by decide +kernel, rfl, by decide +kernel, by decide +kernel⟩
theorem body_at_odds (T : Txt K mg A FD cl) (G : ∀ i, i < 24 → FnG P w K mg base CX0 (2 * n) (A i) (FD i) (ps i) (lSp K (ar i) (C i))) (cdv : Value) (B : Around) (outer : List Env) (s : Shared) (H : Hp) (E : XK) (gu : Calm B) (hr : Room (2 * n + 1) (B.deeper (envOfC "at_odds" (defScope s_at_odds) s.heap.objs.size (A 1) cdv))) :
    DSs (cxOf CX0 P w K mg base N_at_odds "at_odds" (defScope s_at_odds) (A 1) cdv B outer s H E).nox (defBody s_at_odds) (w_at_odds cl C) :=
  have hu64 := u64 hr; have hu70 := u70 hr; have hu80 := u80 hr
  (dss_cons (ds_set (i := 2) sc_at_odds.nd rfl (Or.inl rfl) de_int)
    (dss_cons (ds_while PassesOwn.never (DW.dt (dw_and (dt_cmp dop_lt (de_var (i := 2) rfl (Or.inl rfl)) (de_callB dc_len rfl T.z_len PySem.boot_len (da_cons (de_ix (de_var (i := 0) rfl (Or.inl rfl)) de_int (fun _ _ => rfl)) da_nil)) (nomark _)) (dw_and (dt_cmp dop_lt (de_var (i := 2) rfl (Or.inl rfl)) (de_callB dc_len rfl T.z_len PySem.boot_len (da_cons (de_ix (de_var (i := 1) rfl (Or.inl rfl)) de_int (fun _ _ => rfl)) da_nil)) (nomark _)) (dw_and1 (dt_cmp (dop_eq hu64) (de_ix (de_ix (de_var (i := 0) rfl (Or.inl rfl)) de_int (fun _ _ => rfl)) (de_var (i := 2) rfl (Or.inl rfl)) (fun _ _ => rfl)) (de_ix (de_ix (de_var (i := 1) rfl (Or.inl rfl)) de_int (fun _ _ => rfl)) (de_var (i := 2) rfl (Or.inl rfl)) (fun _ _ => rfl)) (nomark _)))))) (dss_one (ds_set (i := 2) sc_at_odds.nd rfl (Or.inl rfl) (de_bin dop_add (de_var (i := 2) rfl (Or.inl rfl)) de_int))))
    (dss_one (ds_ret (de_cmp (dop_ne hu64) (de_call (G 0 (by decide)) gu (hr.mono (by omega)) rfl T.m_next_step T.F_next_step.kp T.b_next_step (da_cons (de_var (i := 0) rfl (Or.inl rfl)) (da_cons (de_var (i := 2) rfl (Or.inl rfl)) da_nil))) (de_call (G 0 (by decide)) gu (hr.mono (by omega)) rfl T.m_next_step T.F_next_step.kp T.b_next_step (da_cons (de_var (i := 1) rfl (Or.inl rfl)) (da_cons (de_var (i := 2) rfl (Or.inl rfl)) da_nil))) (nomark _))))))
theorem sc_Watch___init__ : FnScope N_Watch___init__ (ps 2) (defScope s_Watch___init__) := ⟨rfl, rfl, rfl, by decide +kernel, rfl, by decide +kernel, by decide +kernel⟩
theorem body_Watch___init__ (T : Txt K mg A FD cl) (G : ∀ i, i < 24 → FnG P w K mg base CX0 (2 * n) (A i) (FD i) (ps i) (lSp K (ar i) (C i))) (cdv : Value) (B : Around) (outer : List Env) (s : Shared) (H : Hp) (E : XK) (gu : Calm B) (hr : Room (2 * n + 1) (B.deeper (envOfC "Watch.__init__" (defScope s_Watch___init__) s.heap.objs.size (A 2) cdv))) :
    DSs (cxOf CX0 P w K mg base N_Watch___init__ "Watch.__init__" (defScope s_Watch___init__) (A 2) cdv B outer s H E).nox (defBody s_Watch___init__) (w_Watch___init__ cl C) :=
  have hu64 := u64 hr; have hu70 := u70 hr; have hu80 := u80 hr
  (dss_cons (ds_setF (fl := [115, 101, 101, 110]) rfl (de_var (i := 0) rfl (Or.inl rfl)) de_dicM T.c_Watch T.n_Watch_seen)
    (dss_one (ds_setF (fl := [102, 105, 110, 100, 115]) rfl (de_var (i := 0) rfl (Or.inl rfl)) (de_lstM da_nil) T.c_Watch T.n_Watch_finds)))
theorem sc_Watch_saw : FnScope N_Watch_saw (ps 3) (defScope s_Watch_saw) := ⟨rfl, rfl, rfl, by decide +kernel, rfl, by decide +kernel, by decide +kernel⟩
theorem body_Watch_saw (T : Txt K mg A FD cl) (G : ∀ i, i < 24 → FnG P w K mg base CX0 (2 * n) (A i) (FD i) (ps i) (lSp K (ar i) (C i))) (cdv : Value) (B : Around) (outer : List Env) (s : Shared) (H : Hp) (E : XK) (gu : Calm B) (hr : Room (2 * n + 1) (B.deeper (envOfC "Watch.saw" (defScope s_Watch_saw) s.heap.objs.size (A 3) cdv))) :
    DSs (cxOf CX0 P w K mg base N_Watch_saw "Watch.saw" (defScope s_Watch_saw) (A 3) cdv B outer s H E).nox (defBody s_Watch_saw) (w_Watch_saw cl C) :=
  have hu64 := u64 hr; have hu70 := u70 hr; have hu80 := u80 hr
  (dss_cons (ds_set (i := 3) sc_Watch_saw.nd rfl (Or.inl rfl) (de_setd (de_fld (fl := [115, 101, 101, 110]) rfl (de_var (i := 0) rfl (Or.inl rfl)) T.c_Watch T.n_Watch_seen) (de_var (i := 1) rfl (Or.inl rfl)) (de_lstM da_nil) ⟨rfl, rfl, rfl, rfl⟩))
    (dss_cons (ds_set (i := 4) sc_Watch_saw.nd rfl (Or.inl rfl) de_non)
    (dss_cons (ds_for PassesOwn.never rfl (di_rev rfl T.z_reversed (de_var (i := 3) rfl (Or.inl rfl))) (dg_name (i := 5) sc_Watch_saw.nd rfl (Or.inl rfl)) (dss_one (ds_if (dt_val (de_call (G 1 (by decide)) gu (hr.mono (by omega)) rfl T.m_at_odds T.F_at_odds.kp T.b_at_odds (da_cons (de_var (i := 5) rfl (Or.inl rfl)) (da_cons (de_var (i := 2) rfl (Or.inl rfl)) da_nil)))) (dss_one (ds_set (i := 4) sc_Watch_saw.nd rfl (Or.inl rfl) (de_var (i := 5) rfl (Or.inl rfl)))) dss_nil)))
    (dss_cons (ds_if (dt_notN (de_var (i := 4) rfl (Or.inl rfl))) (dss_one (ds_expr (de_bm PySem.F.plainAttrs_list PySem.F.slot_list_append PySem.F.type_list_append tyd_list dm_append (de_fld (fl := [102, 105, 110, 100, 115]) rfl (de_var (i := 0) rfl (Or.inl rfl)) T.c_Watch T.n_Watch_finds) (da_cons (de_tup (da_cons (de_var (i := 1) rfl (Or.inl rfl)) (da_cons (de_var (i := 4) rfl (Or.inl rfl)) (da_cons (de_var (i := 2) rfl (Or.inl rfl)) da_nil)))) da_nil)))) dss_nil)
    (dss_cons (ds_expr (de_bm PySem.F.plainAttrs_list PySem.F.slot_list_append PySem.F.type_list_append tyd_list dm_append (de_var (i := 3) rfl (Or.inl rfl)) (da_cons (de_var (i := 2) rfl (Or.inl rfl)) da_nil)))
    (dss_one (ds_ret (de_var (i := 4) rfl (Or.inl rfl)))))))))
theorem sc_Watch_faults : FnScope N_Watch_faults (ps 4) (defScope s_Watch_faults) := ⟨rfl, rfl, rfl, by decide +kernel, rfl, by decide +kernel, by decide +kernel⟩
theorem body_Watch_faults (T : Txt K mg A FD cl) (G : ∀ i, i < 24 → FnG P w K mg base CX0 (2 * n) (A i) (FD i) (ps i) (lSp K (ar i) (C i))) (cdv : Value) (B : Around) (outer : List Env) (s : Shared) (H : Hp) (E : XK) (gu : Calm B) (hr : Room (2 * n + 1) (B.deeper (envOfC "Watch.faults" (defScope s_Watch_faults) s.heap.objs.size (A 4) cdv))) :
    DSs (cxOf CX0 P w K mg base N_Watch_faults "Watch.faults" (defScope s_Watch_faults) (A 4) cdv B outer s H E).nox (defBody s_Watch_faults) (w_Watch_faults cl C) :=
  have hu64 := u64 hr; have hu70 := u70 hr; have hu80 := u80 hr
  (dss_one (ds_ret (de_callTy dc_listM rfl T.z_list bt_list (da_cons (de_fld (fl := [102, 105, 110, 100, 115]) rfl (de_var (i := 0) rfl (Or.inl rfl)) T.c_Watch T.n_Watch_finds) da_nil))))
theorem sc__law_draw : FnScope N__law_draw (ps 5) (defScope s__law_draw) := ⟨rfl, rfl, rfl, by decide +kernel, rfl, by decide +kernel, by decide +kernel⟩
theorem body__law_draw (T : Txt K mg A FD cl) (G : ∀ i, i < 24 → FnG P w K mg base CX0 (2 * n) (A i) (FD i) (ps i) (lSp K (ar i) (C i))) (cdv : Value) (B : Around) (outer : List Env) (s : Shared) (H : Hp) (E : XK) (gu : Calm B) (hr : Room (2 * n + 1) (B.deeper (envOfC "_law_draw" (defScope s__law_draw) s.heap.objs.size (A 5) cdv))) :
    DSs (cxOf CX0 P w K mg base N__law_draw "_law_draw" (defScope s__law_draw) (A 5) cdv B outer s H E).nox (defBody s__law_draw) (w__law_draw cl C) :=
  have hu64 := u64 hr; have hu70 := u70 hr; have hu80 := u80 hr
  (dss_cons (ds_set (i := 3) sc__law_draw.nd rfl (Or.inl rfl) de_int)
    (dss_cons (ds_if (dt_cmp dop_gt (de_callB dc_len rfl T.z_len PySem.boot_len (da_cons (de_var (i := 0) rfl (Or.inl rfl)) da_nil)) de_int (nomark _)) (dss_cons (ds_set (i := 3) sc__law_draw.nd rfl (Or.inl rfl) (de_ix (de_var (i := 0) rfl (Or.inl rfl)) (de_bin dop_mod (de_var (i := 1) rfl (Or.inl rfl)) (de_callB dc_len rfl T.z_len PySem.boot_len (da_cons (de_var (i := 0) rfl (Or.inl rfl)) da_nil))) (fun _ _ => rfl)))
    (dss_cons (ds_set (i := 4) sc__law_draw.nd rfl (Or.inl rfl) (de_bin dop_shr (de_var (i := 3) rfl (Or.inl rfl)) (de_bin dop_mul de_int (de_callB (dc_min2 rfl) rfl T.z_min PyProof.Rows.boot_min (da_cons de_int (da_cons (de_bin dop_div (de_var (i := 1) rfl (Or.inl rfl)) (de_callB dc_len rfl T.z_len PySem.boot_len (da_cons (de_var (i := 0) rfl (Or.inl rfl)) da_nil))) da_nil))))))
    (dss_one (ds_if (DW.dt (dw_and (dt_cmp dop_ge (de_var (i := 3) rfl (Or.inl rfl)) (de_bin dop_pow de_int de_int) (nomark _)) (dw_and1 (dt_cmp dop_gt (de_var (i := 4) rfl (Or.inl rfl)) de_int (nomark _))))) (dss_one (ds_ret (de_bin dop_mod (de_var (i := 4) rfl (Or.inl rfl)) (de_var (i := 2) rfl (Or.inl rfl))))) dss_nil)))) dss_nil)
    (dss_cons (ds_set (i := 5) sc__law_draw.nd rfl (Or.inl rfl) (de_bin dop_mod (de_bin dop_mul (de_bin dop_add (de_bin dop_add (de_bin dop_add (de_bin dop_mod (de_var (i := 3) rfl (Or.inl rfl)) de_int) (de_bin dop_mul (de_bin dop_mul de_int (de_var (i := 1) rfl (Or.inl rfl))) (de_var (i := 1) rfl (Or.inl rfl)))) (de_bin dop_mul de_int (de_var (i := 1) rfl (Or.inl rfl)))) de_int) de_int) de_int))
    (dss_one (ds_ret (de_bin dop_mod (de_bin dop_div (de_bin dop_mod (de_bin dop_mul (de_bin dop_div (de_var (i := 5) rfl (Or.inl rfl)) de_int) de_int) de_int) de_int) (de_var (i := 2) rfl (Or.inl rfl))))))))
theorem sc__law_same : FnScope N__law_same (ps 6) (defScope s__law_same) := ⟨rfl, rfl, rfl, by decide +kernel, rfl, by decide +kernel, by decide +kernel⟩
theorem body__law_same (T : Txt K mg A FD cl) (G : ∀ i, i < 24 → FnG P w K mg base CX0 (2 * n) (A i) (FD i) (ps i) (lSp K (ar i) (C i))) (cdv : Value) (B : Around) (outer : List Env) (s : Shared) (H : Hp) (E : XK) (gu : Calm B) (hr : Room (2 * n + 1) (B.deeper (envOfC "_law_same" (defScope s__law_same) s.heap.objs.size (A 6) cdv))) :
    DSs (cxOf CX0 P w K mg base N__law_same "_law_same" (defScope s__law_same) (A 6) cdv B outer s H E).nox (defBody s__law_same) (w__law_same cl C) :=
  have hu64 := u64 hr; have hu70 := u70 hr; have hu80 := u80 hr
  (dss_cons (ds_if (dt_val (de_isi 6 (by decide) (de_var (i := 1) rfl (Or.inl rfl)) rfl T.z_isinstance PyProof.Rows.boot_isinstance rfl T.z_dict bt_dict)) (dss_one ds_never) dss_nil)
    (dss_one (ds_ret (de_cmp (dop_eq hu64) (de_callB (dc_repr gu hu80) rfl T.z_repr PyProof.Rows.boot_repr (da_cons (de_var (i := 0) rfl (Or.inl rfl)) da_nil)) (de_callB (dc_repr gu hu80) rfl T.z_repr PyProof.Rows.boot_repr (da_cons (de_var (i := 1) rfl (Or.inl rfl)) da_nil)) (nomark _)))))
theorem sc__law_stamp : FnScope N__law_stamp (ps 7) (defScope s__law_stamp) := ⟨rfl, rfl, rfl, by decide +kernel, rfl, by decide +kernel, by decide +kernel⟩
theorem body__law_stamp (T : Txt K mg A FD cl) (G : ∀ i, i < 24 → FnG P w K mg base CX0 (2 * n) (A i) (FD i) (ps i) (lSp K (ar i) (C i))) (cdv : Value) (B : Around) (outer : List Env) (s : Shared) (H : Hp) (E : XK) (gu : Calm B) (hr : Room (2 * n + 1) (B.deeper (envOfC "_law_stamp" (defScope s__law_stamp) s.heap.objs.size (A 7) cdv))) :
    DSs (cxOf CX0 P w K mg base N__law_stamp "_law_stamp" (defScope s__law_stamp) (A 7) cdv B outer s H E).nox (defBody s__law_stamp) (w__law_stamp cl C) :=
  have hu64 := u64 hr; have hu70 := u70 hr; have hu80 := u80 hr
  (dss_cons (ds_if (dt_val (de_isi 2 (by decide) (de_var (i := 0) rfl (Or.inl rfl)) rfl T.z_isinstance PyProof.Rows.boot_isinstance rfl T.z_int bt_int)) (dss_one (ds_ret (de_callTy dc_str rfl T.z_str bt_str (da_cons (de_var (i := 0) rfl (Or.inl rfl)) da_nil)))) dss_nil)
    (dss_cons (ds_if (dt_val (de_isi 3 (by decide) (de_var (i := 0) rfl (Or.inl rfl)) rfl T.z_isinstance PyProof.Rows.boot_isinstance rfl T.z_str bt_str)) (dss_one (ds_ret (de_bin dop_add (de_str (l := [39]) rfl) (de_var (i := 0) rfl (Or.inl rfl))))) dss_nil)
    (dss_one (ds_ret (de_bin dop_add (de_bin dop_add (de_str (l := [40]) rfl) (de_bm PySem.F.plainAttrs_str PySem.F.slot_str_join PySem.F.type_str_join tyd_str dm_join (de_str (l := [44]) rfl) (da_cons (de_lcG (own := [("_law_part", 1)]) fin_val rfl sc__law_stamp.nd (di_seq (de_var (i := 0) rfl (Or.inl rfl))) (blkOk_by (own := [("_law_part", 1)]) (N := N__law_stamp) (sc := defScope s__law_stamp) (by decide +kernel)) (fun _ _ _ _ _ => (dgc_name (i := 1) sc__law_stamp.nd rfl (by decide) (Or.inl rfl))) (fun _ _ _ _ _ => dts_nil) (fun _ _ _ _ _ => (de_call (G 7 (by decide)) gu (hr.mono (by omega)) rfl T.m__law_stamp T.F__law_stamp.kp T.b__law_stamp (da_cons (de_var (i := 1) rfl (Or.inl rfl)) da_nil)))) da_nil))) (de_str (l := [41]) rfl))))))
theorem sc__law_names : FnScope N__law_names (ps 8) (defScope s__law_names) := ⟨rfl, rfl, rfl, by decide +kernel, rfl, by decide +kernel, by decide +kernel⟩
theorem body__law_names (T : Txt K mg A FD cl) (G : ∀ i, i < 24 → FnG P w K mg base CX0 (2 * n) (A i) (FD i) (ps i) (lSp K (ar i) (C i))) (cdv : Value) (B : Around) (outer : List Env) (s : Shared) (H : Hp) (E : XK) (gu : Calm B) (hr : Room (2 * n + 1) (B.deeper (envOfC "_law_names" (defScope s__law_names) s.heap.objs.size (A 8) cdv))) :
    DSs (cxOf CX0 P w K mg base N__law_names "_law_names" (defScope s__law_names) (A 8) cdv B outer s H E).nox (defBody s__law_names) (w__law_names cl C) :=
  have hu64 := u64 hr; have hu70 := u70 hr; have hu80 := u80 hr
  (dss_cons (ds_set (i := 2) sc__law_names.nd rfl (Or.inr rfl) (de_lst (da_cons (de_str (l := [97]) rfl) (da_cons (de_str (l := [97, 98]) rfl) (da_cons (de_str (l := [97, 98, 99]) rfl) (da_cons (de_str (l := [98]) rfl) (da_cons (de_str (l := [116, 111, 108, 100]) rfl) (da_cons (de_str (l := [109, 97, 100, 101]) rfl) (da_cons (de_str (l := [115, 97, 121]) rfl) (da_cons (de_str (l := [119, 97, 110, 116]) rfl) (da_cons (de_str (l := [119, 97, 110, 116, 115]) rfl) (da_cons (de_str (l := [98, 97]) rfl) (da_cons (de_str (l := [122, 122]) rfl) (da_cons (de_str (l := [120]) rfl) da_nil))))))))))))))
    (dss_cons (ds_set (i := 3) sc__law_names.nd rfl (Or.inr rfl) (de_call (G 5 (by decide)) gu (hr.mono (by omega)) rfl T.m__law_draw T.F__law_draw.kp T.b__law_draw (da_cons (de_var (i := 0) rfl (Or.inl rfl)) (da_cons (de_var (i := 1) rfl (Or.inl rfl)) (da_cons de_int da_nil)))))
    (dss_cons (ds_set (i := 4) sc__law_names.nd rfl (Or.inr rfl) (de_ix (de_lst (da_cons de_int (da_cons de_int (da_cons de_int (da_cons de_int da_nil))))) (de_call (G 5 (by decide)) gu (hr.mono (by omega)) rfl T.m__law_draw T.F__law_draw.kp T.b__law_draw (da_cons (de_var (i := 0) rfl (Or.inl rfl)) (da_cons (de_bin dop_add (de_var (i := 1) rfl (Or.inl rfl)) de_int) (da_cons de_int da_nil)))) (fun _ _ => rfl)))
    (dss_one (ds_ret (de_lcG (own := [("_law_j", 5)]) fin_val rfl sc__law_names.nd (di_rng1 rfl T.z_range (da_cons (de_bin dop_add de_int (de_call (G 5 (by decide)) gu (hr.mono (by omega)) rfl T.m__law_draw T.F__law_draw.kp T.b__law_draw (da_cons (de_var (i := 0) rfl (Or.inl rfl)) (da_cons (de_bin dop_add (de_var (i := 1) rfl (Or.inl rfl)) de_int) (da_cons de_int da_nil))))) da_nil)) (blkOk_by (own := [("_law_j", 5)]) (N := N__law_names) (sc := defScope s__law_names) (by decide +kernel)) (fun _ _ _ _ _ => (dgc_name (i := 5) sc__law_names.nd rfl (by decide) (Or.inl rfl))) (fun _ _ _ _ _ => dts_nil) (fun _ _ _ _ _ => (de_ix (de_var (i := 2) rfl (by first | exact Or.inr (Or.inr rfl) | exact Or.inr (Or.inl rfl) | exact Or.inl rfl)) (de_bin dop_mod (de_bin dop_add (de_var (i := 3) rfl (by first | exact Or.inr (Or.inr rfl) | exact Or.inr (Or.inl rfl) | exact Or.inl rfl)) (de_bin dop_mul (de_var (i := 4) rfl (by first | exact Or.inr (Or.inr rfl) | exact Or.inr (Or.inl rfl) | exact Or.inl rfl)) (de_var (i := 5) rfl (Or.inl rfl)))) de_int) (fun _ _ => rfl)))))))))
theorem sc__law_value : FnScope N__law_value (ps 9) (defScope s__law_value) := ⟨rfl, rfl, rfl, by decide +kernel, rfl, by decide +kernel, by decide +kernel⟩
theorem body__law_value (T : Txt K mg A FD cl) (G : ∀ i, i < 24 → FnG P w K mg base CX0 (2 * n) (A i) (FD i) (ps i) (lSp K (ar i) (C i))) (cdv : Value) (B : Around) (outer : List Env) (s : Shared) (H : Hp) (E : XK) (gu : Calm B) (hr : Room (2 * n + 1) (B.deeper (envOfC "_law_value" (defScope s__law_value) s.heap.objs.size (A 9) cdv))) :
    DSs (cxOf CX0 P w K mg base N__law_value "_law_value" (defScope s__law_value) (A 9) cdv B outer s H E).nox (defBody s__law_value) (w__law_value cl C) :=
  have hu64 := u64 hr; have hu70 := u70 hr; have hu80 := u80 hr
  (dss_cons (ds_set (i := 3) sc__law_value.nd rfl (Or.inl rfl) (de_bin dop_add (de_lst (da_cons de_int (da_cons de_int (da_cons de_int (da_cons (de_neg de_int) (da_cons (de_str (l := []) rfl) (da_cons (de_str (l := [97]) rfl) (da_cons (de_str (l := [45, 48]) rfl) (da_cons (de_tup da_nil) (da_cons (de_tup (da_cons de_int (da_cons (de_str (l := [98]) rfl) da_nil))) (da_cons (de_tup (da_cons (de_str (l := [97]) rfl) (da_cons (de_tup (da_cons de_int da_nil)) da_nil))) (da_cons (de_bin dop_pow de_int de_int) (da_cons de_int (da_cons de_int da_nil)))))))))))))) (de_var (i := 2) rfl (Or.inl rfl))))
    (dss_one (ds_ret (de_ix (de_var (i := 3) rfl (Or.inl rfl)) (de_call (G 5 (by decide)) gu (hr.mono (by omega)) rfl T.m__law_draw T.F__law_draw.kp T.b__law_draw (da_cons (de_var (i := 0) rfl (Or.inl rfl)) (da_cons (de_var (i := 1) rfl (Or.inl rfl)) (da_cons (de_callB dc_len rfl T.z_len PySem.boot_len (da_cons (de_var (i := 3) rfl (Or.inl rfl)) da_nil)) da_nil)))) (fun _ _ => rfl)))))
theorem sc__law_expr : FnScope N__law_expr (ps 10) (defScope s__law_expr) := ⟨rfl, rfl, rfl, by decide +kernel, rfl, by decide +kernel, by decide +kernel⟩
theorem body__law_expr (T : Txt K mg A FD cl) (G : ∀ i, i < 24 → FnG P w K mg base CX0 (2 * n) (A i) (FD i) (ps i) (lSp K (ar i) (C i))) (cdv : Value) (B : Around) (outer : List Env) (s : Shared) (H : Hp) (E : XK) (gu : Calm B) (hr : Room (2 * n + 1) (B.deeper (envOfC "_law_expr" (defScope s__law_expr) s.heap.objs.size (A 10) cdv))) :
    DSs (cxOf CX0 P w K mg base N__law_expr "_law_expr" (defScope s__law_expr) (A 10) cdv B outer s H E).nox (defBody s__law_expr) (w__law_expr cl C) :=
  have hu64 := u64 hr; have hu70 := u70 hr; have hu80 := u80 hr
  (dss_cons (ds_set (i := 3) sc__law_expr.nd rfl (Or.inl rfl) (de_tup (da_cons (de_str (l := [103, 111, 116]) rfl) (da_cons de_int da_nil))))
    (dss_cons (ds_set (i := 4) sc__law_expr.nd rfl (Or.inl rfl) (de_tup (da_cons (de_str (l := [112, 117, 116]) rfl) (da_cons (de_call (G 9 (by decide)) gu (hr.mono (by omega)) rfl T.m__law_value T.F__law_value.kp T.b__law_value (da_cons (de_var (i := 0) rfl (Or.inl rfl)) (da_cons (de_bin dop_add (de_var (i := 1) rfl (Or.inl rfl)) de_int) (da_cons (de_var (i := 2) rfl (Or.inl rfl)) da_nil)))) da_nil))))
    (dss_cons (ds_set (i := 5) sc__law_expr.nd rfl (Or.inl rfl) (de_lst (da_cons (de_var (i := 3) rfl (Or.inl rfl)) (da_cons (de_tup (da_cons (de_str (l := [115, 117, 109]) rfl) (da_cons (de_var (i := 3) rfl (Or.inl rfl)) (da_cons (de_tup (da_cons (de_str (l := [112, 117, 116]) rfl) (da_cons de_int da_nil))) da_nil)))) (da_cons (de_tup (da_cons (de_str (l := [106, 111, 105, 110]) rfl) (da_cons (de_var (i := 3) rfl (Or.inl rfl)) (da_cons (de_tup (da_cons (de_str (l := [112, 117, 116]) rfl) (da_cons (de_str (l := [97]) rfl) da_nil))) da_nil)))) (da_cons (de_tup (da_cons (de_str (l := [109, 97, 110, 121]) rfl) (da_cons (de_var (i := 3) rfl (Or.inl rfl)) da_nil))) (da_cons (de_tup (da_cons (de_str (l := [115, 97, 109, 101]) rfl) (da_cons (de_var (i := 3) rfl (Or.inl rfl)) (da_cons (de_var (i := 4) rfl (Or.inl rfl)) da_nil)))) da_nil)))))))
    (dss_cons (ds_set (i := 5) sc__law_expr.nd rfl (Or.inl rfl) (de_bin dop_add (de_var (i := 5) rfl (Or.inl rfl)) (de_lst (da_cons (de_tup (da_cons (de_str (l := [114, 111, 119]) rfl) (da_cons (de_tup (da_cons (de_var (i := 3) rfl (Or.inl rfl)) (da_cons (de_var (i := 4) rfl (Or.inl rfl)) da_nil))) da_nil))) (da_cons (de_tup (da_cons (de_str (l := [112, 97, 114, 116]) rfl) (da_cons (de_var (i := 3) rfl (Or.inl rfl)) (da_cons (de_tup (da_cons (de_str (l := [112, 117, 116]) rfl) (da_cons de_int da_nil))) da_nil)))) (da_cons (de_tup (da_cons (de_str (l := [108, 101, 115, 115]) rfl) (da_cons (de_var (i := 3) rfl (Or.inl rfl)) (da_cons (de_tup (da_cons (de_str (l := [112, 117, 116]) rfl) (da_cons de_int da_nil))) da_nil)))) (da_cons (de_tup (da_cons (de_str (l := [109, 97, 110, 121]) rfl) (da_cons (de_var (i := 3) rfl (Or.inl rfl)) da_nil))) (da_cons (de_var (i := 3) rfl (Or.inl rfl)) da_nil))))))))
    (dss_one (ds_ret (de_ix (de_var (i := 5) rfl (Or.inl rfl)) (de_call (G 5 (by decide)) gu (hr.mono (by omega)) rfl T.m__law_draw T.F__law_draw.kp T.b__law_draw (da_cons (de_var (i := 0) rfl (Or.inl rfl)) (da_cons (de_var (i := 1) rfl (Or.inl rfl)) (da_cons de_int da_nil)))) (fun _ _ => rfl))))))))
theorem sc__law_recipe : FnScope N__law_recipe (ps 11) (defScope s__law_recipe) := ⟨rfl, rfl, rfl, by decide +kernel, rfl, by decide +kernel, by decide +kernel⟩
theorem body__law_recipe (T : Txt K mg A FD cl) (G : ∀ i, i < 24 → FnG P w K mg base CX0 (2 * n) (A i) (FD i) (ps i) (lSp K (ar i) (C i))) (cdv : Value) (B : Around) (outer : List Env) (s : Shared) (H : Hp) (E : XK) (gu : Calm B) (hr : Room (2 * n + 1) (B.deeper (envOfC "_law_recipe" (defScope s__law_recipe) s.heap.objs.size (A 11) cdv))) :
    DSs (cxOf CX0 P w K mg base N__law_recipe "_law_recipe" (defScope s__law_recipe) (A 11) cdv B outer s H E).nox (defBody s__law_recipe) (w__law_recipe cl C) :=
  have hu64 := u64 hr; have hu70 := u70 hr; have hu80 := u80 hr
  (dss_cons (ds_set (i := 4) sc__law_recipe.nd rfl (Or.inl rfl) (de_tup (da_cons (de_str (l := [112, 117, 116]) rfl) (da_cons (de_ix (de_var (i := 2) rfl (Or.inl rfl)) (de_call (G 5 (by decide)) gu (hr.mono (by omega)) rfl T.m__law_draw T.F__law_draw.kp T.b__law_draw (da_cons (de_var (i := 0) rfl (Or.inl rfl)) (da_cons (de_var (i := 1) rfl (Or.inl rfl)) (da_cons (de_callB dc_len rfl T.z_len PySem.boot_len (da_cons (de_var (i := 2) rfl (Or.inl rfl)) da_nil)) da_nil)))) (fun _ _ => rfl)) da_nil))))
    (dss_cons (ds_set (i := 5) sc__law_recipe.nd rfl (Or.inl rfl) (de_tup (da_cons (de_str (l := [112, 117, 116]) rfl) (da_cons (de_ix (de_var (i := 2) rfl (Or.inl rfl)) (de_call (G 5 (by decide)) gu (hr.mono (by omega)) rfl T.m__law_draw T.F__law_draw.kp T.b__law_draw (da_cons (de_var (i := 0) rfl (Or.inl rfl)) (da_cons (de_bin dop_add (de_var (i := 1) rfl (Or.inl rfl)) de_int) (da_cons (de_callB dc_len rfl T.z_len PySem.boot_len (da_cons (de_var (i := 2) rfl (Or.inl rfl)) da_nil)) da_nil)))) (fun _ _ => rfl)) da_nil))))
    (dss_cons (ds_set (i := 6) sc__law_recipe.nd rfl (Or.inl rfl) (de_tup (da_cons (de_str (l := [115, 97, 121]) rfl) (da_cons (de_tup (da_cons (de_str (l := [112, 117, 116]) rfl) (da_cons (de_call (G 9 (by decide)) gu (hr.mono (by omega)) rfl T.m__law_value T.F__law_value.kp T.b__law_value (da_cons (de_var (i := 0) rfl (Or.inl rfl)) (da_cons (de_bin dop_add (de_var (i := 1) rfl (Or.inl rfl)) de_int) (da_cons (de_var (i := 2) rfl (Or.inl rfl)) da_nil)))) da_nil))) da_nil))))
    (dss_cons (ds_set (i := 7) sc__law_recipe.nd rfl (Or.inl rfl) (de_call (G 10 (by decide)) gu (hr.mono (by omega)) rfl T.m__law_expr T.F__law_expr.kp T.b__law_expr (da_cons (de_var (i := 0) rfl (Or.inl rfl)) (da_cons (de_bin dop_add (de_var (i := 1) rfl (Or.inl rfl)) de_int) (da_cons (de_var (i := 2) rfl (Or.inl rfl)) da_nil)))))
    (dss_cons (ds_set (i := 8) sc__law_recipe.nd rfl (Or.inl rfl) (de_lst (da_cons (de_tup (da_cons (de_str (l := [114, 111, 119]) rfl) (da_cons (de_tup (da_cons (de_tup (da_cons (de_str (l := [103, 111, 116]) rfl) (da_cons de_int da_nil))) (da_cons (de_tup (da_cons (de_str (l := [103, 111, 116]) rfl) (da_cons de_int da_nil))) da_nil))) da_nil))) (da_cons (de_tup (da_cons (de_str (l := [115, 97, 109, 101]) rfl) (da_cons (de_tup (da_cons (de_str (l := [103, 111, 116]) rfl) (da_cons de_int da_nil))) (da_cons (de_tup (da_cons (de_str (l := [103, 111, 116]) rfl) (da_cons de_int da_nil))) da_nil)))) (da_cons (de_tup (da_cons (de_str (l := [115, 117, 109]) rfl) (da_cons (de_tup (da_cons (de_str (l := [103, 111, 116]) rfl) (da_cons de_int da_nil))) (da_cons (de_tup (da_cons (de_str (l := [103, 111, 116]) rfl) (da_cons de_int da_nil))) da_nil)))) da_nil)))))
    (dss_cons (ds_set (i := 9) sc__law_recipe.nd rfl (Or.inl rfl) (de_tup (da_cons (de_str (l := [115, 97, 121]) rfl) (da_cons (de_ix (de_var (i := 8) rfl (Or.inl rfl)) (de_call (G 5 (by decide)) gu (hr.mono (by omega)) rfl T.m__law_draw T.F__law_draw.kp T.b__law_draw (da_cons (de_var (i := 0) rfl (Or.inl rfl)) (da_cons (de_bin dop_add (de_var (i := 1) rfl (Or.inl rfl)) de_int) (da_cons de_int da_nil)))) (fun _ _ => rfl)) da_nil))))
    (dss_cons (ds_set (i := 10) sc__law_recipe.nd rfl (Or.inl rfl) (de_tup (da_cons (de_str (l := [119, 97, 110, 116]) rfl) (da_cons (de_var (i := 5) rfl (Or.inl rfl)) (da_cons (de_tup (da_cons (de_str (l := [115, 97, 121]) rfl) (da_cons (de_tup (da_cons (de_str (l := [103, 111, 116]) rfl) (da_cons de_int da_nil))) da_nil))) da_nil)))))
    (dss_cons (ds_set (i := 11) sc__law_recipe.nd rfl (Or.inl rfl) (de_lst (da_cons (de_var (i := 6) rfl (Or.inl rfl)) (da_cons (de_tup (da_cons (de_str (l := [119, 97, 110, 116]) rfl) (da_cons (de_var (i := 4) rfl (Or.inl rfl)) (da_cons (de_tup (da_cons (de_str (l := [115, 97, 121]) rfl) (da_cons (de_var (i := 7) rfl (Or.inl rfl)) da_nil))) da_nil)))) (da_cons (de_tup (da_cons (de_str (l := [119, 97, 110, 116]) rfl) (da_cons (de_var (i := 4) rfl (Or.inl rfl)) (da_cons (de_tup (da_cons (de_str (l := [119, 97, 110, 116]) rfl) (da_cons (de_var (i := 5) rfl (Or.inl rfl)) (da_cons (de_var (i := 9) rfl (Or.inl rfl)) da_nil)))) da_nil)))) (da_cons (de_tup (da_cons (de_str (l := [119, 97, 110, 116]) rfl) (da_cons (de_var (i := 4) rfl (Or.inl rfl)) (da_cons (de_tup (da_cons (de_str (l := [115, 97, 121]) rfl) (da_cons (de_var (i := 7) rfl (Or.inl rfl)) da_nil))) da_nil)))) da_nil))))))
    (dss_cons (ds_set (i := 11) sc__law_recipe.nd rfl (Or.inl rfl) (de_bin dop_add (de_var (i := 11) rfl (Or.inl rfl)) (de_lst (da_cons (de_tup (da_cons (de_str (l := [119, 97, 110, 116]) rfl) (da_cons (de_var (i := 4) rfl (Or.inl rfl)) (da_cons (de_tup (da_cons (de_str (l := [119, 104, 101, 110]) rfl) (da_cons (de_var (i := 7) rfl (Or.inl rfl)) (da_cons (de_var (i := 10) rfl (Or.inl rfl)) (da_cons (de_var (i := 6) rfl (Or.inl rfl)) da_nil))))) da_nil)))) (da_cons (de_tup (da_cons (de_str (l := [119, 97, 110, 116]) rfl) (da_cons (de_var (i := 4) rfl (Or.inl rfl)) (da_cons (de_tup (da_cons (de_str (l := [119, 97, 110, 116]) rfl) (da_cons (de_tup (da_cons (de_str (l := [103, 111, 116]) rfl) (da_cons de_int da_nil))) (da_cons (de_tup (da_cons (de_str (l := [115, 97, 121]) rfl) (da_cons (de_tup (da_cons (de_str (l := [103, 111, 116]) rfl) (da_cons de_int da_nil))) da_nil))) da_nil)))) da_nil)))) da_nil)))))
    (dss_cons (ds_set (i := 11) sc__law_recipe.nd rfl (Or.inl rfl) (de_bin dop_add (de_var (i := 11) rfl (Or.inl rfl)) (de_lst (da_cons (de_tup (da_cons (de_str (l := [102, 97, 105, 108]) rfl) (da_cons (de_ix (de_var (i := 2) rfl (Or.inl rfl)) (de_call (G 5 (by decide)) gu (hr.mono (by omega)) rfl T.m__law_draw T.F__law_draw.kp T.b__law_draw (da_cons (de_var (i := 0) rfl (Or.inl rfl)) (da_cons (de_bin dop_add (de_var (i := 1) rfl (Or.inl rfl)) de_int) (da_cons (de_callB dc_len rfl T.z_len PySem.boot_len (da_cons (de_var (i := 2) rfl (Or.inl rfl)) da_nil)) da_nil)))) (fun _ _ => rfl)) da_nil))) (da_cons (de_tup (da_cons (de_str (l := [119, 97, 110, 116]) rfl) (da_cons (de_var (i := 4) rfl (Or.inl rfl)) (da_cons (de_tup (da_cons (de_str (l := [119, 97, 110, 116]) rfl) (da_cons (de_var (i := 4) rfl (Or.inl rfl)) (da_cons (de_var (i := 9) rfl (Or.inl rfl)) da_nil)))) da_nil)))) da_nil)))))
    (dss_cons (ds_set (i := 11) sc__law_recipe.nd rfl (Or.inl rfl) (de_bin dop_add (de_var (i := 11) rfl (Or.inl rfl)) (de_lst (da_cons (de_tup (da_cons (de_str (l := [112, 101, 101, 107]) rfl) (da_cons (de_var (i := 4) rfl (Or.inl rfl)) (da_cons (de_tup (da_cons (de_str (l := [115, 97, 121]) rfl) (da_cons (de_var (i := 7) rfl (Or.inl rfl)) da_nil))) da_nil)))) (da_cons (de_tup (da_cons (de_str (l := [112, 101, 101, 107]) rfl) (da_cons (de_var (i := 4) rfl (Or.inl rfl)) (da_cons (de_tup (da_cons (de_str (l := [119, 104, 101, 110]) rfl) (da_cons (de_var (i := 7) rfl (Or.inl rfl)) (da_cons (de_var (i := 10) rfl (Or.inl rfl)) (da_cons (de_var (i := 6) rfl (Or.inl rfl)) da_nil))))) da_nil)))) da_nil)))))
    (dss_cons (ds_set (i := 11) sc__law_recipe.nd rfl (Or.inl rfl) (de_bin dop_add (de_var (i := 11) rfl (Or.inl rfl)) (de_lst (da_cons (de_tup (da_cons (de_str (l := [119, 97, 110, 116]) rfl) (da_cons (de_var (i := 4) rfl (Or.inl rfl)) (da_cons (de_tup (da_cons (de_str (l := [112, 101, 101, 107]) rfl) (da_cons (de_var (i := 5) rfl (Or.inl rfl)) (da_cons (de_var (i := 9) rfl (Or.inl rfl)) da_nil)))) da_nil)))) (da_cons (de_tup (da_cons (de_str (l := [112, 101, 101, 107]) rfl) (da_cons (de_var (i := 4) rfl (Or.inl rfl)) (da_cons (de_tup (da_cons (de_str (l := [119, 97, 110, 116]) rfl) (da_cons (de_var (i := 5) rfl (Or.inl rfl)) (da_cons (de_var (i := 9) rfl (Or.inl rfl)) da_nil)))) da_nil)))) da_nil)))))
    (dss_one (ds_ret (de_ix (de_var (i := 11) rfl (Or.inl rfl)) (de_call (G 5 (by decide)) gu (hr.mono (by omega)) rfl T.m__law_draw T.F__law_draw.kp T.b__law_draw (da_cons (de_var (i := 0) rfl (Or.inl rfl)) (da_cons (de_bin dop_add (de_var (i := 1) rfl (Or.inl rfl)) de_int) (da_cons (de_var (i := 3) rfl (Or.inl rfl)) da_nil)))) (fun _ _ => rfl))))))))))))))))
theorem sc__law_fits : FnScope N__law_fits (ps 12) (defScope s__law_fits) := ⟨rfl, rfl, rfl, by decide +kernel, rfl, by decide +kernel, by decide +kernel⟩
theorem body__law_fits (T : Txt K mg A FD cl) (G : ∀ i, i < 24 → FnG P w K mg base CX0 (2 * n) (A i) (FD i) (ps i) (lSp K (ar i) (C i))) (cdv : Value) (B : Around) (outer : List Env) (s : Shared) (H : Hp) (E : XK) (gu : Calm B) (hr : Room (2 * n + 1) (B.deeper (envOfC "_law_fits" (defScope s__law_fits) s.heap.objs.size (A 12) cdv))) :
    DSs (cxOf CX0 P w K mg base N__law_fits "_law_fits" (defScope s__law_fits) (A 12) cdv B outer s H E).nox (defBody s__law_fits) (w__law_fits cl C) :=
  have hu64 := u64 hr; have hu70 := u70 hr; have hu80 := u80 hr
  (dss_cons (ds_if (dt_val (de_isi 4 (by decide) (de_var (i := 0) rfl (Or.inl rfl)) rfl T.z_isinstance PyProof.Rows.boot_isinstance rfl T.z_tuple bt_tuple)) (dss_one (ds_ret (de_and (de_cmp dop_lt (de_var (i := 1) rfl (Or.inr (Or.inl rfl))) de_int (nomark _)) (de_and (de_cmp dop_le (de_callB dc_len rfl T.z_len PySem.boot_len (da_cons (de_var (i := 0) rfl (Or.inl rfl)) da_nil)) de_int (nomark _)) (de_one (de_callB (dc_all rfl) rfl T.z_all PyProof.Rows.boot_all (da_cons (de_lcG (own := [("_law_part", 2)]) fin_val rfl sc__law_fits.nd (di_seq (de_var (i := 0) rfl (Or.inl rfl))) (blkOk_by (own := [("_law_part", 2)]) (N := N__law_fits) (sc := defScope s__law_fits) (by decide +kernel)) (fun _ _ _ _ _ => (dgc_name (i := 2) sc__law_fits.nd rfl (by decide) (Or.inl rfl))) (fun _ _ _ _ _ => dts_nil) (fun _ _ _ _ _ => (de_call (G 12 (by decide)) gu (hr.mono (by omega)) rfl T.m__law_fits T.F__law_fits.kp T.b__law_fits (da_cons (de_var (i := 2) rfl (Or.inl rfl)) (da_cons (de_bin dop_add (de_var (i := 1) rfl (by first | exact Or.inr (Or.inr rfl) | exact Or.inr (Or.inl rfl) | exact Or.inl rfl)) de_int) da_nil))))) da_nil))))))) dss_nil)
    (dss_cons (ds_if (dt_val (de_isi 3 (by decide) (de_var (i := 0) rfl (Or.inl rfl)) rfl T.z_isinstance PyProof.Rows.boot_isinstance rfl T.z_str bt_str)) (dss_one (ds_ret (de_cmp dop_le (de_callB dc_len rfl T.z_len PySem.boot_len (da_cons (de_var (i := 0) rfl (Or.inl rfl)) da_nil)) de_int (nomark _)))) dss_nil)
    (dss_one (ds_ret (de_chain dop_le dop_le (de_neg (de_bin dop_pow de_int de_int)) (de_var (i := 0) rfl (Or.inl rfl)) (de_bin dop_pow de_int de_int))))))
theorem sc__law_of_two : FnScope N__law_of_two (ps 13) (defScope s__law_of_two) := ⟨rfl, rfl, rfl, by decide +kernel, rfl, by decide +kernel, by decide +kernel⟩
theorem body__law_of_two (T : Txt K mg A FD cl) (G : ∀ i, i < 24 → FnG P w K mg base CX0 (2 * n) (A i) (FD i) (ps i) (lSp K (ar i) (C i))) (cdv : Value) (B : Around) (outer : List Env) (s : Shared) (H : Hp) (E : XK) (gu : Calm B) (hr : Room (2 * n + 1) (B.deeper (envOfC "_law_of_two" (defScope s__law_of_two) s.heap.objs.size (A 13) cdv))) :
    DSs (cxOf CX0 P w K mg base N__law_of_two "_law_of_two" (defScope s__law_of_two) (A 13) cdv B outer s H E).nox (defBody s__law_of_two) (w__law_of_two cl C) :=
  have hu64 := u64 hr; have hu70 := u70 hr; have hu80 := u80 hr
  (dss_cons (ds_set (i := 3) sc__law_of_two.nd rfl (Or.inl rfl) (de_lst (da_cons (de_isi 2 (by decide) (de_var (i := 1) rfl (Or.inl rfl)) rfl T.z_isinstance PyProof.Rows.boot_isinstance rfl T.z_int bt_int) (da_cons (de_isi 2 (by decide) (de_var (i := 2) rfl (Or.inl rfl)) rfl T.z_isinstance PyProof.Rows.boot_isinstance rfl T.z_int bt_int) da_nil))))
    (dss_cons (ds_if (dt_cmp (dop_eq hu64) (de_var (i := 0) rfl (Or.inl rfl)) (de_str (l := [115, 97, 109, 101]) rfl) (nomark _)) (dss_one (ds_ret (de_callTy dc_int rfl T.z_int bt_int (da_cons (de_cmp (dop_eq hu64) (de_call (G 7 (by decide)) gu (hr.mono (by omega)) rfl T.m__law_stamp T.F__law_stamp.kp T.b__law_stamp (da_cons (de_var (i := 1) rfl (Or.inl rfl)) da_nil)) (de_call (G 7 (by decide)) gu (hr.mono (by omega)) rfl T.m__law_stamp T.F__law_stamp.kp T.b__law_stamp (da_cons (de_var (i := 2) rfl (Or.inl rfl)) da_nil)) (nomark _)) da_nil)))) dss_nil)
    (dss_cons (ds_if (dt_cmp (dop_eq hu64) (de_var (i := 0) rfl (Or.inl rfl)) (de_str (l := [112, 97, 114, 116]) rfl) (nomark _)) (dss_cons (ds_if (DW.dt (dw_or (dt_not (dt_val (de_isi 4 (by decide) (de_var (i := 1) rfl (Or.inl rfl)) rfl T.z_isinstance PyProof.Rows.boot_isinstance rfl T.z_tuple bt_tuple))) (dw_or1 (dt_not (dt_val (de_ix (de_var (i := 3) rfl (Or.inl rfl)) de_int (fun _ _ => rfl))))))) (dss_one (ds_ret de_non)) dss_nil)
    (dss_one (ds_ret (de_ifE (dt_chain dop_le dop_lt de_int (de_var (i := 2) rfl (Or.inl rfl)) (de_callB dc_len rfl T.z_len PySem.boot_len (da_cons (de_var (i := 1) rfl (Or.inl rfl)) da_nil))) (de_ix (de_var (i := 1) rfl (Or.inl rfl)) (de_var (i := 2) rfl (Or.inl rfl)) (fun _ _ => rfl)) (de_tup da_nil))))) dss_nil)
    (dss_cons (ds_if (dt_cmp (dop_eq hu64) (de_var (i := 0) rfl (Or.inl rfl)) (de_str (l := [106, 111, 105, 110]) rfl) (nomark _)) (dss_cons (ds_if (DW.dt (dw_or (dt_val (de_ix (de_var (i := 3) rfl (Or.inl rfl)) de_int (fun _ _ => rfl))) (dw_or (dt_val (de_ix (de_var (i := 3) rfl (Or.inl rfl)) de_int (fun _ _ => rfl))) (dw_or1 (dt_cmp (dop_ne hu64) (de_isi 3 (by decide) (de_var (i := 1) rfl (Or.inl rfl)) rfl T.z_isinstance PyProof.Rows.boot_isinstance rfl T.z_str bt_str) (de_isi 3 (by decide) (de_var (i := 2) rfl (Or.inl rfl)) rfl T.z_isinstance PyProof.Rows.boot_isinstance rfl T.z_str bt_str) (nomark _)))))) (dss_one (ds_ret de_non)) dss_nil)
    (dss_one (ds_ret (de_bin dop_add (de_var (i := 1) rfl (Or.inl rfl)) (de_var (i := 2) rfl (Or.inl rfl)))))) dss_nil)
    (dss_cons (ds_if (dt_cmp (dop_ne hu64) (de_var (i := 3) rfl (Or.inl rfl)) (de_lst (da_cons de_bl (da_cons de_bl da_nil))) (nomark _)) (dss_one (ds_ret de_non)) dss_nil)
    (dss_one (ds_ret (de_ifE (dt_cmp (dop_eq hu64) (de_var (i := 0) rfl (Or.inl rfl)) (de_str (l := [115, 117, 109]) rfl) (nomark _)) (de_bin dop_add (de_var (i := 1) rfl (Or.inl rfl)) (de_var (i := 2) rfl (Or.inl rfl))) (de_callTy dc_int rfl T.z_int bt_int (da_cons (de_cmp dop_lt (de_var (i := 1) rfl (Or.inl rfl)) (de_var (i := 2) rfl (Or.inl rfl)) (nomark _)) da_nil))))))))))
theorem sc__law_told : FnScope N__law_told (ps 14) (defScope s__law_told) := ⟨rfl, rfl, rfl, by decide +kernel, rfl, by decide +kernel, by decide +kernel⟩
theorem body__law_told (T : Txt K mg A FD cl) (G : ∀ i, i < 24 → FnG P w K mg base CX0 (2 * n) (A i) (FD i) (ps i) (lSp K (ar i) (C i))) (cdv : Value) (B : Around) (outer : List Env) (s : Shared) (H : Hp) (E : XK) (gu : Calm B) (hr : Room (2 * n + 1) (B.deeper (envOfC "_law_told" (defScope s__law_told) s.heap.objs.size (A 14) cdv))) :
    DSs (cxOf CX0 P w K mg base N__law_told "_law_told" (defScope s__law_told) (A 14) cdv B outer s H E).nox (defBody s__law_told) (w__law_told cl C) :=
  have hu64 := u64 hr; have hu70 := u70 hr; have hu80 := u80 hr
  (dss_cons (ds_if (dt_cmp (dop_eq hu64) (de_ix (de_var (i := 0) rfl (Or.inl rfl)) de_int (fun _ _ => rfl)) (de_str (l := [112, 117, 116]) rfl) (nomark _)) (dss_one (ds_ret (de_tup (da_cons (de_str (l := [118, 97, 108, 117, 101]) rfl) (da_cons (de_ix (de_var (i := 0) rfl (Or.inl rfl)) de_int (fun _ _ => rfl)) da_nil))))) dss_nil)
    (dss_cons (ds_if (dt_cmp (dop_eq hu64) (de_ix (de_var (i := 0) rfl (Or.inl rfl)) de_int (fun _ _ => rfl)) (de_str (l := [103, 111, 116]) rfl) (nomark _)) (dss_one (ds_ret (de_tup (da_cons (de_str (l := [118, 97, 108, 117, 101]) rfl) (da_cons (de_ix (de_var (i := 1) rfl (Or.inr (Or.inl rfl))) (de_ix (de_var (i := 0) rfl (Or.inl rfl)) de_int (fun _ _ => rfl)) (fun _ _ => rfl)) da_nil))))) dss_nil)
    (dss_cons (ds_setLcG (i := 2) (own := [("_law_part", 3)]) fin_val rfl sc__law_told.nd rfl rfl (sw_true rfl rfl rfl (by decide +kernel)) (di_seq (de_ifE (dt_cmp (dop_eq hu64) (de_ix (de_var (i := 0) rfl (Or.inl rfl)) de_int (fun _ _ => rfl)) (de_str (l := [114, 111, 119]) rfl) (nomark _)) (de_ix (de_var (i := 0) rfl (Or.inl rfl)) de_int (fun _ _ => rfl)) (de_slice (de_var (i := 0) rfl (Or.inl rfl)) (do_some de_int) do_none))) (blkOk_by (own := [("_law_part", 3)]) (N := N__law_told) (sc := defScope s__law_told) (by decide +kernel)) (fun _ _ _ _ _ => (dgc_name (i := 3) sc__law_told.nd rfl (by decide) (Or.inl rfl))) (fun _ _ _ _ _ => dts_nil) (fun _ _ _ _ _ => (de_call (G 14 (by decide)) gu (hr.mono (by omega)) rfl T.m__law_told T.F__law_told.kp T.b__law_told (da_cons (de_var (i := 3) rfl (Or.inl rfl)) (da_cons (de_var (i := 1) rfl (by first | exact Or.inr (Or.inr rfl) | exact Or.inr (Or.inl rfl) | exact Or.inl rfl)) da_nil)))))
    (dss_cons (ds_for PassesOwn.never rfl (di_seq (de_var (i := 2) rfl (Or.inl rfl))) (dg_name (i := 3) sc__law_told.nd rfl (Or.inl rfl)) (dss_one (ds_if (dt_cmp (dop_eq hu64) (de_ix (de_var (i := 3) rfl (Or.inl rfl)) de_int (fun _ _ => rfl)) (de_str (l := [102, 97, 105, 108, 115]) rfl) (nomark _)) (dss_one (ds_ret (de_var (i := 3) rfl (Or.inl rfl)))) dss_nil)))
    (dss_cons (ds_setLcG (i := 4) (own := [("_law_part", 3)]) fin_val rfl sc__law_told.nd rfl rfl (sw_true rfl rfl rfl (by decide +kernel)) (di_seq (de_var (i := 2) rfl (Or.inl rfl))) (blkOk_by (own := [("_law_part", 3)]) (N := N__law_told) (sc := defScope s__law_told) (by decide +kernel)) (fun _ _ _ _ _ => (dgc_name (i := 3) sc__law_told.nd rfl (by decide) (Or.inl rfl))) (fun _ _ _ _ _ => dts_nil) (fun _ _ _ _ _ => (de_ix (de_var (i := 3) rfl (Or.inl rfl)) de_int (fun _ _ => rfl))))
    (dss_cons (ds_if (dt_cmp (dop_eq hu64) (de_ix (de_var (i := 0) rfl (Or.inl rfl)) de_int (fun _ _ => rfl)) (de_str (l := [114, 111, 119]) rfl) (nomark _)) (dss_one (ds_ret (de_ifE (dt_val (de_call (G 12 (by decide)) gu (hr.mono (by omega)) rfl T.m__law_fits T.F__law_fits.kp T.b__law_fits (da_cons (de_callTy dc_tuple rfl T.z_tuple bt_tuple (da_cons (de_var (i := 4) rfl (Or.inl rfl)) da_nil)) (da_cons de_int da_nil)))) (de_tup (da_cons (de_str (l := [118, 97, 108, 117, 101]) rfl) (da_cons (de_callTy dc_tuple rfl T.z_tuple bt_tuple (da_cons (de_var (i := 4) rfl (Or.inl rfl)) da_nil)) da_nil))) (de_tup (da_cons (de_str (l := [102, 97, 105, 108, 115]) rfl) (da_cons (de_str (l := [103, 114, 101, 97, 116]) rfl) da_nil)))))) dss_nil)
    (dss_cons (ds_if (dt_cmp (dop_eq hu64) (de_ix (de_var (i := 0) rfl (Or.inl rfl)) de_int (fun _ _ => rfl)) (de_str (l := [109, 97, 110, 121]) rfl) (nomark _)) (dss_one (ds_ret (de_ifE (dt_val (de_isi 2 (by decide) (de_ix (de_var (i := 4) rfl (Or.inl rfl)) de_int (fun _ _ => rfl)) rfl T.z_isinstance PyProof.Rows.boot_isinstance rfl T.z_int bt_int)) (de_tup (da_cons (de_str (l := [102, 97, 105, 108, 115]) rfl) (da_cons (de_str (l := [107, 105, 110, 100]) rfl) da_nil))) (de_tup (da_cons (de_str (l := [118, 97, 108, 117, 101]) rfl) (da_cons (de_callB dc_len rfl T.z_len PySem.boot_len (da_cons (de_ix (de_var (i := 4) rfl (Or.inl rfl)) de_int (fun _ _ => rfl)) da_nil)) da_nil)))))) dss_nil)
    (dss_cons (ds_set (i := 5) sc__law_told.nd rfl (Or.inl rfl) (de_call (G 13 (by decide)) gu (hr.mono (by omega)) rfl T.m__law_of_two T.F__law_of_two.kp T.b__law_of_two (da_cons (de_ix (de_var (i := 0) rfl (Or.inl rfl)) de_int (fun _ _ => rfl)) (da_cons (de_ix (de_var (i := 4) rfl (Or.inl rfl)) de_int (fun _ _ => rfl)) (da_cons (de_ix (de_var (i := 4) rfl (Or.inl rfl)) de_int (fun _ _ => rfl)) da_nil)))))
    (dss_cons (ds_if (dt_isN (de_var (i := 5) rfl (Or.inl rfl))) (dss_one (ds_ret (de_tup (da_cons (de_str (l := [102, 97, 105, 108, 115]) rfl) (da_cons (de_str (l := [107, 105, 110, 100]) rfl) da_nil))))) dss_nil)
    (dss_cons (ds_if (DW.dt (dw_and (dt_cmp (dop_eq hu64) (de_ix (de_var (i := 0) rfl (Or.inl rfl)) de_int (fun _ _ => rfl)) (de_str (l := [112, 97, 114, 116]) rfl) (nomark _)) (dw_and1 (dt_not (dt_chain dop_le dop_lt de_int (de_ix (de_var (i := 4) rfl (Or.inl rfl)) de_int (fun _ _ => rfl)) (de_callB dc_len rfl T.z_len PySem.boot_len (da_cons (de_ix (de_var (i := 4) rfl (Or.inl rfl)) de_int (fun _ _ => rfl)) da_nil))))))) (dss_one (ds_ret (de_tup (da_cons (de_str (l := [102, 97, 105, 108, 115]) rfl) (da_cons (de_str (l := [112, 97, 114, 116]) rfl) da_nil))))) dss_nil)
    (dss_one (ds_ret (de_ifE (dt_val (de_call (G 12 (by decide)) gu (hr.mono (by omega)) rfl T.m__law_fits T.F__law_fits.kp T.b__law_fits (da_cons (de_var (i := 5) rfl (Or.inl rfl)) (da_cons de_int da_nil)))) (de_tup (da_cons (de_str (l := [118, 97, 108, 117, 101]) rfl) (da_cons (de_var (i := 5) rfl (Or.inl rfl)) da_nil))) (de_tup (da_cons (de_str (l := [102, 97, 105, 108, 115]) rfl) (da_cons (de_str (l := [103, 114, 101, 97, 116]) rfl) da_nil))))))))))))))))
theorem sc__law_is_name : FnScope N__law_is_name (ps 15) (defScope s__law_is_name) := ⟨rfl, rfl, rfl, by decide +kernel, rfl, by decide +kernel, by decide +kernel⟩
theorem body__law_is_name (T : Txt K mg A FD cl) (G : ∀ i, i < 24 → FnG P w K mg base CX0 (2 * n) (A i) (FD i) (ps i) (lSp K (ar i) (C i))) (cdv : Value) (B : Around) (outer : List Env) (s : Shared) (H : Hp) (E : XK) (gu : Calm B) (hr : Room (2 * n + 1) (B.deeper (envOfC "_law_is_name" (defScope s__law_is_name) s.heap.objs.size (A 15) cdv))) :
    DSs (cxOf CX0 P w K mg base N__law_is_name "_law_is_name" (defScope s__law_is_name) (A 15) cdv B outer s H E).nox (defBody s__law_is_name) (w__law_is_name cl C) :=
  have hu64 := u64 hr; have hu70 := u70 hr; have hu80 := u80 hr
  (dss_cons (ds_if (DW.dt (dw_or (dt_not (dt_val (de_isi 3 (by decide) (de_var (i := 0) rfl (Or.inl rfl)) rfl T.z_isinstance PyProof.Rows.boot_isinstance rfl T.z_str bt_str))) (dw_or1 (dt_not (dt_chain dop_le dop_le de_int (de_callB dc_len rfl T.z_len PySem.boot_len (da_cons (de_var (i := 0) rfl (Or.inl rfl)) da_nil)) de_int))))) (dss_one (ds_ret de_bl)) dss_nil)
    (dss_one (ds_ret (de_callB (dc_all rfl) rfl T.z_all PyProof.Rows.boot_all (da_cons (de_lcG (own := [("_law_sign", 1)]) fin_val rfl sc__law_is_name.nd (di_seq (de_var (i := 0) rfl (Or.inl rfl))) (blkOk_by (own := [("_law_sign", 1)]) (N := N__law_is_name) (sc := defScope s__law_is_name) (by decide +kernel)) (fun _ _ _ _ _ => (dgc_name (i := 1) sc__law_is_name.nd rfl (by decide) (Or.inl rfl))) (fun _ _ _ _ _ => dts_nil) (fun _ _ _ _ _ => (de_cmp (dop_in hu70) (de_var (i := 1) rfl (Or.inl rfl)) (de_str (l := [97, 98, 99, 100, 101, 102, 103, 104, 105, 106, 107, 108, 109, 110, 111, 112, 113, 114, 115, 116, 117, 118, 119, 120, 121, 122]) rfl) (by rfl)))) da_nil)))))
theorem sc__law_run : FnScope N__law_run (ps 16) (defScope s__law_run) := ⟨rfl, rfl, rfl, by decide +kernel, rfl, by decide +kernel, by decide +kernel⟩
theorem body__law_run (T : Txt K mg A FD cl) (G : ∀ i, i < 24 → FnG P w K mg base CX0 (2 * n) (A i) (FD i) (ps i) (lSp K (ar i) (C i))) (cdv : Value) (B : Around) (outer : List Env) (s : Shared) (H : Hp) (E : XK) (gu : Calm B) (hr : Room (2 * n + 1) (B.deeper (envOfC "_law_run" (defScope s__law_run) s.heap.objs.size (A 16) cdv))) :
    DSs (cxOf CX0 P w K mg base N__law_run "_law_run" (defScope s__law_run) (A 16) cdv B outer s H E).nox (defBody s__law_run) (w__law_run cl C) :=
  have hu64 := u64 hr; have hu70 := u70 hr; have hu80 := u80 hr
  (dss_cons (ds_set (i := 2) sc__law_run.nd rfl (Or.inl rfl) (de_lstM da_nil))
    (dss_cons (ds_set (i := 3) sc__law_run.nd rfl (Or.inl rfl) (de_lstM da_nil))
    (dss_cons (ds_while PassesOwn.never (dt_cmp (dop_notIn hu70) (de_ix (de_var (i := 0) rfl (Or.inl rfl)) de_int (fun _ _ => rfl)) (de_tup (da_cons (de_str (l := [115, 97, 121]) rfl) (da_cons (de_str (l := [102, 97, 105, 108]) rfl) da_nil))) (by rfl)) (dss_cons (ds_set (i := 4) sc__law_run.nd rfl (Or.inl rfl) (de_call (G 14 (by decide)) gu (hr.mono (by omega)) rfl T.m__law_told T.F__law_told.kp T.b__law_told (da_cons (de_ix (de_var (i := 0) rfl (Or.inl rfl)) de_int (fun _ _ => rfl)) (da_cons (de_var (i := 2) rfl (Or.inl rfl)) da_nil))))
    (dss_cons (ds_if (dt_cmp (dop_eq hu64) (de_ix (de_var (i := 4) rfl (Or.inl rfl)) de_int (fun _ _ => rfl)) (de_str (l := [102, 97, 105, 108, 115]) rfl) (nomark _)) (dss_one (ds_ret (de_tup (da_cons (de_callTy dc_tuple rfl T.z_tuple bt_tuple (da_cons (de_var (i := 3) rfl (Or.inl rfl)) da_nil)) (da_cons (de_var (i := 4) rfl (Or.inl rfl)) (da_cons de_non da_nil)))))) dss_nil)
    (dss_one (ds_if (dt_cmp (dop_eq hu64) (de_ix (de_var (i := 0) rfl (Or.inl rfl)) de_int (fun _ _ => rfl)) (de_str (l := [119, 104, 101, 110]) rfl) (nomark _)) (dss_one (ds_set (i := 0) sc__law_run.nd rfl (Or.inl rfl) (de_ifE (dt_cmp (dop_in hu70) (de_ix (de_var (i := 4) rfl (Or.inl rfl)) de_int (fun _ _ => rfl)) (de_tup (da_cons de_int (da_cons (de_str (l := []) rfl) (da_cons (de_tup da_nil) da_nil)))) (by rfl)) (de_ix (de_var (i := 0) rfl (Or.inl rfl)) de_int (fun _ _ => rfl)) (de_ix (de_var (i := 0) rfl (Or.inl rfl)) de_int (fun _ _ => rfl))))) (dss_one (ds_if (dt_not (dt_val (de_call (G 15 (by decide)) gu (hr.mono (by omega)) rfl T.m__law_is_name T.F__law_is_name.kp T.b__law_is_name (da_cons (de_ix (de_var (i := 4) rfl (Or.inl rfl)) de_int (fun _ _ => rfl)) da_nil)))) (dss_one (ds_ret (de_tup (da_cons (de_callTy dc_tuple rfl T.z_tuple bt_tuple (da_cons (de_var (i := 3) rfl (Or.inl rfl)) da_nil)) (da_cons (de_tup (da_cons (de_str (l := [102, 97, 105, 108, 115]) rfl) (da_cons (de_str (l := [110, 97, 109, 101]) rfl) da_nil))) (da_cons de_non da_nil)))))) (dss_one (ds_if (dt_cmp (dop_notIn hu70) (de_ix (de_var (i := 4) rfl (Or.inl rfl)) de_int (fun _ _ => rfl)) (de_var (i := 1) rfl (Or.inl rfl)) (by rfl)) (dss_one (ds_ret (de_tup (da_cons (de_callTy dc_tuple rfl T.z_tuple bt_tuple (da_cons (de_var (i := 3) rfl (Or.inl rfl)) da_nil)) (da_cons (de_tup (da_cons (de_str (l := [119, 97, 110, 116, 115]) rfl) (da_cons (de_ix (de_var (i := 4) rfl (Or.inl rfl)) de_int (fun _ _ => rfl)) da_nil))) (da_cons de_non da_nil)))))) (dss_cons (ds_expr (de_bm PySem.F.plainAttrs_list PySem.F.slot_list_append PySem.F.type_list_append tyd_list dm_append (de_var (i := 2) rfl (Or.inl rfl)) (da_cons (de_dix hu70 (de_var (i := 1) rfl (Or.inl rfl)) (de_ix (de_var (i := 4) rfl (Or.inl rfl)) de_int (fun _ _ => rfl)) (fun _ _ => rfl)) da_nil)))
    (dss_cons (ds_if (dt_cmp (dop_eq hu64) (de_ix (de_var (i := 0) rfl (Or.inl rfl)) de_int (fun _ _ => rfl)) (de_str (l := [119, 97, 110, 116]) rfl) (nomark _)) (dss_one (ds_expr (de_bm PySem.F.plainAttrs_list PySem.F.slot_list_append PySem.F.type_list_append tyd_list dm_append (de_var (i := 3) rfl (Or.inl rfl)) (da_cons (de_tup (da_cons (de_ix (de_var (i := 4) rfl (Or.inl rfl)) de_int (fun _ _ => rfl)) (da_cons (de_call (G 7 (by decide)) gu (hr.mono (by omega)) rfl T.m__law_stamp T.F__law_stamp.kp T.b__law_stamp (da_cons (de_ix (de_var (i := 2) rfl (Or.inl rfl)) (de_neg de_int) (fun _ _ => rfl)) da_nil)) da_nil))) da_nil)))) dss_nil)
    (dss_one (ds_set (i := 0) sc__law_run.nd rfl (Or.inl rfl) (de_ix (de_var (i := 0) rfl (Or.inl rfl)) de_int (fun _ _ => rfl)))))))))))))))
    (dss_cons (ds_set (i := 4) sc__law_run.nd rfl (Or.inl rfl) (de_tup (da_cons (de_str (l := [102, 97, 105, 108, 115]) rfl) (da_cons (de_ix (de_var (i := 0) rfl (Or.inl rfl)) de_int (fun _ _ => rfl)) da_nil))))
    (dss_cons (ds_if (dt_cmp (dop_eq hu64) (de_ix (de_var (i := 0) rfl (Or.inl rfl)) de_int (fun _ _ => rfl)) (de_str (l := [115, 97, 121]) rfl) (nomark _)) (dss_one (ds_set (i := 4) sc__law_run.nd rfl (Or.inl rfl) (de_call (G 14 (by decide)) gu (hr.mono (by omega)) rfl T.m__law_told T.F__law_told.kp T.b__law_told (da_cons (de_ix (de_var (i := 0) rfl (Or.inl rfl)) de_int (fun _ _ => rfl)) (da_cons (de_var (i := 2) rfl (Or.inl rfl)) da_nil))))) dss_nil)
    (dss_cons (ds_if (dt_cmp (dop_eq hu64) (de_ix (de_var (i := 4) rfl (Or.inl rfl)) de_int (fun _ _ => rfl)) (de_str (l := [102, 97, 105, 108, 115]) rfl) (nomark _)) (dss_one (ds_ret (de_tup (da_cons (de_callTy dc_tuple rfl T.z_tuple bt_tuple (da_cons (de_var (i := 3) rfl (Or.inl rfl)) da_nil)) (da_cons (de_var (i := 4) rfl (Or.inl rfl)) (da_cons de_non da_nil)))))) dss_nil)
    (dss_one (ds_ret (de_tup (da_cons (de_callTy dc_tuple rfl T.z_tuple bt_tuple (da_cons (de_var (i := 3) rfl (Or.inl rfl)) da_nil)) (da_cons (de_tup (da_cons (de_str (l := [109, 97, 100, 101]) rfl) (da_cons (de_call (G 7 (by decide)) gu (hr.mono (by omega)) rfl T.m__law_stamp T.F__law_stamp.kp T.b__law_stamp (da_cons (de_ix (de_var (i := 4) rfl (Or.inl rfl)) de_int (fun _ _ => rfl)) da_nil)) da_nil))) (da_cons (de_ix (de_var (i := 4) rfl (Or.inl rfl)) de_int (fun _ _ => rfl)) da_nil))))))))))))
theorem sc__law_one_line : FnScope N__law_one_line (ps 17) (defScope s__law_one_line) := ⟨rfl, rfl, rfl, by decide +kernel, rfl, by decide +kernel, by decide +kernel⟩
theorem body__law_one_line (T : Txt K mg A FD cl) (G : ∀ i, i < 24 → FnG P w K mg base CX0 (2 * n) (A i) (FD i) (ps i) (lSp K (ar i) (C i))) (cdv : Value) (B : Around) (outer : List Env) (s : Shared) (H : Hp) (E : XK) (gu : Calm B) (hr : Room (2 * n + 1) (B.deeper (envOfC "_law_one_line" (defScope s__law_one_line) s.heap.objs.size (A 17) cdv))) :
    DSs (cxOf CX0 P w K mg base N__law_one_line "_law_one_line" (defScope s__law_one_line) (A 17) cdv B outer s H E).nox (defBody s__law_one_line) (w__law_one_line cl C) :=
  have hu64 := u64 hr; have hu70 := u70 hr; have hu80 := u80 hr
  (dss_cons (ds_set (i := 2) sc__law_one_line.nd rfl (Or.inl rfl) (de_lstM da_nil))
    (dss_cons (ds_for PassesOwn.never rfl (di_rng1 rfl T.z_range (da_cons (de_call (G 5 (by decide)) gu (hr.mono (by omega)) rfl T.m__law_draw T.F__law_draw.kp T.b__law_draw (da_cons (de_var (i := 0) rfl (Or.inl rfl)) (da_cons (de_var (i := 1) rfl (Or.inl rfl)) (da_cons de_int da_nil)))) da_nil)) (dg_name (i := 3) sc__law_one_line.nd rfl (Or.inl rfl)) (dss_cons (ds_set (i := 4) sc__law_one_line.nd rfl (Or.inl rfl) (de_ix (de_lst (da_cons (de_str (l := [97]) rfl) (da_cons (de_str (l := [97]) rfl) (da_cons (de_str (l := [97, 98]) rfl) (da_cons (de_str (l := [98]) rfl) da_nil))))) (de_call (G 5 (by decide)) gu (hr.mono (by omega)) rfl T.m__law_draw T.F__law_draw.kp T.b__law_draw (da_cons (de_var (i := 0) rfl (Or.inl rfl)) (da_cons (de_bin dop_add (de_bin dop_add (de_var (i := 1) rfl (Or.inl rfl)) de_int) (de_bin dop_mul de_int (de_var (i := 3) rfl (Or.inl rfl)))) (da_cons de_int da_nil)))) (fun _ _ => rfl)))
    (dss_one (ds_expr (de_bm PySem.F.plainAttrs_list PySem.F.slot_list_append PySem.F.type_list_append tyd_list dm_append (de_var (i := 2) rfl (Or.inl rfl)) (da_cons (de_tup (da_cons (de_var (i := 4) rfl (Or.inl rfl)) (da_cons (de_ix (de_lst (da_cons (de_str (l := [49]) rfl) (da_cons (de_str (l := [39, 97]) rfl) (da_cons (de_str (l := [40, 41]) rfl) da_nil)))) (de_call (G 5 (by decide)) gu (hr.mono (by omega)) rfl T.m__law_draw T.F__law_draw.kp T.b__law_draw (da_cons (de_var (i := 0) rfl (Or.inl rfl)) (da_cons (de_bin dop_add (de_bin dop_add (de_var (i := 1) rfl (Or.inl rfl)) de_int) (de_bin dop_mul de_int (de_var (i := 3) rfl (Or.inl rfl)))) (da_cons de_int da_nil)))) (fun _ _ => rfl)) da_nil))) da_nil))))))
    (dss_cons (ds_set (i := 5) sc__law_one_line.nd rfl (Or.inl rfl) (de_lstM (da_cons (de_tup (da_cons (de_str (l := [109, 97, 100, 101]) rfl) (da_cons (de_str (l := [49]) rfl) da_nil))) (da_cons (de_tup (da_cons (de_str (l := [109, 97, 100, 101]) rfl) (da_cons (de_str (l := [39]) rfl) da_nil))) (da_cons (de_tup (da_cons (de_str (l := [102, 97, 105, 108, 115]) rfl) (da_cons (de_str (l := [97]) rfl) da_nil))) (da_cons (de_tup (da_cons (de_str (l := [102, 97, 105, 108, 115]) rfl) (da_cons (de_str (l := [97, 98]) rfl) da_nil))) (da_cons (de_tup (da_cons (de_str (l := [119, 97, 110, 116, 115]) rfl) (da_cons (de_str (l := [97]) rfl) da_nil))) (da_cons (de_tup (da_cons (de_str (l := [119, 97, 110, 116, 115]) rfl) (da_cons (de_str (l := [98]) rfl) da_nil))) da_nil))))))))
    (dss_cons (ds_expr (de_bm PySem.F.plainAttrs_list PySem.F.slot_list_append PySem.F.type_list_append tyd_list dm_append (de_var (i := 5) rfl (Or.inl rfl)) (da_cons (de_tup (da_cons (de_str (l := [119, 97, 110, 116, 115]) rfl) (da_cons (de_str (l := [97, 98]) rfl) da_nil))) da_nil)))
    (dss_one (ds_ret (de_tup (da_cons (de_ix (de_lst (da_cons (de_str (l := [120]) rfl) (da_cons (de_str (l := [121]) rfl) (da_cons (de_str (l := [120]) rfl) da_nil)))) (de_call (G 5 (by decide)) gu (hr.mono (by omega)) rfl T.m__law_draw T.F__law_draw.kp T.b__law_draw (da_cons (de_var (i := 0) rfl (Or.inl rfl)) (da_cons (de_bin dop_add (de_var (i := 1) rfl (Or.inl rfl)) de_int) (da_cons de_int da_nil)))) (fun _ _ => rfl)) (da_cons (de_callTy dc_tuple rfl T.z_tuple bt_tuple (da_cons (de_var (i := 2) rfl (Or.inl rfl)) da_nil)) (da_cons (de_ix (de_var (i := 5) rfl (Or.inl rfl)) (de_call (G 5 (by decide)) gu (hr.mono (by omega)) rfl T.m__law_draw T.F__law_draw.kp T.b__law_draw (da_cons (de_var (i := 0) rfl (Or.inl rfl)) (da_cons (de_bin dop_add (de_var (i := 1) rfl (Or.inl rfl)) de_int) (da_cons de_int da_nil)))) (fun _ _ => rfl)) da_nil))))))))))
theorem sc__law_steps : FnScope N__law_steps (ps 18) (defScope s__law_steps) := ⟨rfl, rfl, rfl, by decide +kernel, rfl, by decide +kernel, by decide +kernel⟩
theorem body__law_steps (T : Txt K mg A FD cl) (G : ∀ i, i < 24 → FnG P w K mg base CX0 (2 * n) (A i) (FD i) (ps i) (lSp K (ar i) (C i))) (cdv : Value) (B : Around) (outer : List Env) (s : Shared) (H : Hp) (E : XK) (gu : Calm B) (hr : Room (2 * n + 1) (B.deeper (envOfC "_law_steps" (defScope s__law_steps) s.heap.objs.size (A 18) cdv))) :
    DSs (cxOf CX0 P w K mg base N__law_steps "_law_steps" (defScope s__law_steps) (A 18) cdv B outer s H E).nox (defBody s__law_steps) (w__law_steps cl C) :=
  have hu64 := u64 hr; have hu70 := u70 hr; have hu80 := u80 hr
  (dss_cons (ds_setLcG (i := 1) (own := [("_law_name", 2), ("_law_stamp_here", 3)]) fin_val rfl sc__law_steps.nd rfl rfl (sw_true rfl rfl rfl (by decide +kernel)) (di_seq (de_ix (de_var (i := 0) rfl (Or.inl rfl)) de_int (fun _ _ => rfl))) (blkOk_by (own := [("_law_name", 2), ("_law_stamp_here", 3)]) (N := N__law_steps) (sc := defScope s__law_steps) (by decide +kernel)) (fun _ _ _ _ _ => (dgc_tup rfl (dgsc_cons (dgc_name (i := 2) sc__law_steps.nd rfl (by decide) (Or.inl rfl)) (dgsc_cons (dgc_name (i := 3) sc__law_steps.nd rfl (by decide) (Or.inl rfl)) dgsc_nil)))) (fun _ _ _ _ _ => dts_nil) (fun _ _ _ _ _ => (de_tup (da_cons (de_tup (da_cons (de_str (l := [119, 97, 110, 116, 115]) rfl) (da_cons (de_var (i := 2) rfl (Or.inl rfl)) da_nil))) (da_cons (de_var (i := 3) rfl (Or.inl rfl)) da_nil)))))
    (dss_one (ds_ret (de_bin dop_add (de_var (i := 1) rfl (Or.inl rfl)) (de_lst (da_cons (de_tup (da_cons (de_ix (de_var (i := 0) rfl (Or.inl rfl)) de_int (fun _ _ => rfl)) (da_cons de_non da_nil))) da_nil))))))
theorem sc__law_odds : FnScope N__law_odds (ps 19) (defScope s__law_odds) := ⟨rfl, rfl, rfl, by decide +kernel, rfl, by decide +kernel, by decide +kernel⟩
theorem body__law_odds (T : Txt K mg A FD cl) (G : ∀ i, i < 24 → FnG P w K mg base CX0 (2 * n) (A i) (FD i) (ps i) (lSp K (ar i) (C i))) (cdv : Value) (B : Around) (outer : List Env) (s : Shared) (H : Hp) (E : XK) (gu : Calm B) (hr : Room (2 * n + 1) (B.deeper (envOfC "_law_odds" (defScope s__law_odds) s.heap.objs.size (A 19) cdv))) :
    DSs (cxOf CX0 P w K mg base N__law_odds "_law_odds" (defScope s__law_odds) (A 19) cdv B outer s H E).nox (defBody s__law_odds) (w__law_odds cl C) :=
  have hu64 := u64 hr; have hu70 := u70 hr; have hu80 := u80 hr
  (dss_cons (ds_for PassesOwn.never rfl (di_zip rfl T.z_zip (da_cons (de_call (G 18 (by decide)) gu (hr.mono (by omega)) rfl T.m__law_steps T.F__law_steps.kp T.b__law_steps (da_cons (de_var (i := 0) rfl (Or.inl rfl)) da_nil)) (da_cons (de_call (G 18 (by decide)) gu (hr.mono (by omega)) rfl T.m__law_steps T.F__law_steps.kp T.b__law_steps (da_cons (de_var (i := 1) rfl (Or.inl rfl)) da_nil)) da_nil))) (dg_tup rfl (dgs_cons (dg_name (i := 2) sc__law_odds.nd rfl (Or.inl rfl)) (dgs_cons (dg_name (i := 3) sc__law_odds.nd rfl (Or.inl rfl)) dgs_nil))) (dss_cons (ds_if (dt_cmp (dop_ne hu64) (de_ix (de_var (i := 2) rfl (Or.inl rfl)) de_int (fun _ _ => rfl)) (de_ix (de_var (i := 3) rfl (Or.inl rfl)) de_int (fun _ _ => rfl)) (nomark _)) (dss_one (ds_ret de_bl)) dss_nil)
    (dss_one (ds_if (dt_cmp (dop_ne hu64) (de_ix (de_var (i := 2) rfl (Or.inl rfl)) de_int (fun _ _ => rfl)) (de_ix (de_var (i := 3) rfl (Or.inl rfl)) de_int (fun _ _ => rfl)) (nomark _)) (dss_one (ds_ret de_bl)) dss_nil))))
    (dss_one (ds_ret de_bl)))
theorem sc__law_elder : FnScope N__law_elder (ps 20) (defScope s__law_elder) := ⟨rfl, rfl, rfl, by decide +kernel, rfl, by decide +kernel, by decide +kernel⟩
theorem body__law_elder (T : Txt K mg A FD cl) (G : ∀ i, i < 24 → FnG P w K mg base CX0 (2 * n) (A i) (FD i) (ps i) (lSp K (ar i) (C i))) (cdv : Value) (B : Around) (outer : List Env) (s : Shared) (H : Hp) (E : XK) (gu : Calm B) (hr : Room (2 * n + 1) (B.deeper (envOfC "_law_elder" (defScope s__law_elder) s.heap.objs.size (A 20) cdv))) :
    DSs (cxOf CX0 P w K mg base N__law_elder "_law_elder" (defScope s__law_elder) (A 20) cdv B outer s H E).nox (defBody s__law_elder) (w__law_elder cl C) :=
  have hu64 := u64 hr; have hu70 := u70 hr; have hu80 := u80 hr
  (dss_cons (ds_for PassesOwn.never rfl (di_seq (de_var (i := 0) rfl (Or.inl rfl))) (dg_tup rfl (dgs_cons (dg_name (i := 3) sc__law_elder.nd rfl (Or.inl rfl)) (dgs_cons (dg_name (i := 4) sc__law_elder.nd rfl (Or.inl rfl)) dgs_nil))) (dss_one (ds_if (DW.dt (dw_and (dt_cmp (dop_eq hu64) (de_var (i := 3) rfl (Or.inl rfl)) (de_var (i := 1) rfl (Or.inl rfl)) (nomark _)) (dw_and1 (dt_val (de_call (G 19 (by decide)) gu (hr.mono (by omega)) rfl T.m__law_odds T.F__law_odds.kp T.b__law_odds (da_cons (de_var (i := 4) rfl (Or.inl rfl)) (da_cons (de_var (i := 2) rfl (Or.inl rfl)) da_nil))))))) (dss_one (ds_ret (de_lst (da_cons (de_var (i := 4) rfl (Or.inl rfl)) da_nil)))) dss_nil)))
    (dss_one (ds_ret (de_lst da_nil))))
theorem sc__law_saw : FnScope N__law_saw (ps 21) (defScope s__law_saw) := ⟨rfl, rfl, rfl, by decide +kernel, rfl, by decide +kernel, by decide +kernel⟩
theorem body__law_saw (T : Txt K mg A FD cl) (G : ∀ i, i < 24 → FnG P w K mg base CX0 (2 * n) (A i) (FD i) (ps i) (lSp K (ar i) (C i))) (cdv : Value) (B : Around) (outer : List Env) (s : Shared) (H : Hp) (E : XK) (gu : Calm B) (hr : Room (2 * n + 1) (B.deeper (envOfC "_law_saw" (defScope s__law_saw) s.heap.objs.size (A 21) cdv))) :
    DSs (cxOf CX0 P w K mg base N__law_saw "_law_saw" (defScope s__law_saw) (A 21) cdv B outer s H E).nox (defBody s__law_saw) (w__law_saw cl C) :=
  have hu64 := u64 hr; have hu70 := u70 hr; have hu80 := u80 hr
  (dss_cons (ds_set (i := 5) sc__law_saw.nd rfl (Or.inl rfl) (de_call (G 20 (by decide)) gu (hr.mono (by omega)) rfl T.m__law_elder T.F__law_elder.kp T.b__law_elder (da_cons (de_var (i := 1) rfl (Or.inl rfl)) (da_cons (de_var (i := 3) rfl (Or.inl rfl)) (da_cons (de_var (i := 4) rfl (Or.inl rfl)) da_nil)))))
    (dss_cons (ds_set (i := 6) sc__law_saw.nd rfl (Or.inl rfl) (de_meth (ml := [115, 97, 119]) rfl (de_var (i := 0) rfl (Or.inl rfl)) T.c_Watch T.me_Watch_saw (G 3 (by decide)) gu (hr.mono (by omega)) T.b_Watch_saw (da_cons (de_var (i := 3) rfl (Or.inl rfl)) (da_cons (de_var (i := 4) rfl (Or.inl rfl)) da_nil))))
    (dss_cons (ds_if (dt_not (dt_val (de_call (G 6 (by decide)) gu (hr.mono (by omega)) rfl T.m__law_same T.F__law_same.kp T.b__law_same (da_cons (de_var (i := 6) rfl (Or.inl rfl)) (da_cons (de_ifE (dt_cmp dop_gt (de_callB dc_len rfl T.z_len PySem.boot_len (da_cons (de_var (i := 5) rfl (Or.inl rfl)) da_nil)) de_int (nomark _)) (de_ix (de_var (i := 5) rfl (Or.inl rfl)) de_int (fun _ _ => rfl)) de_non) da_nil))))) (dss_one (ds_ret de_bl)) dss_nil)
    (dss_cons (ds_expr (de_bm PySem.F.plainAttrs_list PySem.F.slot_list_append PySem.F.type_list_append tyd_list dm_append (de_var (i := 1) rfl (Or.inl rfl)) (da_cons (de_tup (da_cons (de_var (i := 3) rfl (Or.inl rfl)) (da_cons (de_var (i := 4) rfl (Or.inl rfl)) da_nil))) da_nil)))
    (dss_cons (ds_if (dt_cmp dop_gt (de_callB dc_len rfl T.z_len PySem.boot_len (da_cons (de_var (i := 5) rfl (Or.inl rfl)) da_nil)) de_int (nomark _)) (dss_one (ds_expr (de_bm PySem.F.plainAttrs_list PySem.F.slot_list_append PySem.F.type_list_append tyd_list dm_append (de_var (i := 2) rfl (Or.inl rfl)) (da_cons (de_tup (da_cons (de_var (i := 3) rfl (Or.inl rfl)) (da_cons (de_ix (de_var (i := 5) rfl (Or.inl rfl)) de_int (fun _ _ => rfl)) (da_cons (de_var (i := 4) rfl (Or.inl rfl)) da_nil)))) da_nil)))) dss_nil)
    (dss_cons (ds_set (i := 7) sc__law_saw.nd rfl (Or.inl rfl) (de_meth0 (ml := [102, 97, 117, 108, 116, 115]) rfl (de_var (i := 0) rfl (Or.inl rfl)) T.c_Watch T.me_Watch_faults (G 4 (by decide)) gu (hr.mono (by omega)) T.b_Watch_faults))
    (dss_cons (ds_if (dt_not (dt_val (de_call (G 6 (by decide)) gu (hr.mono (by omega)) rfl T.m__law_same T.F__law_same.kp T.b__law_same (da_cons (de_var (i := 7) rfl (Or.inl rfl)) (da_cons (de_var (i := 2) rfl (Or.inl rfl)) da_nil))))) (dss_one (ds_ret de_bl)) dss_nil)
    (dss_cons (ds_expr (de_bm PySem.F.plainAttrs_list PySem.F.slot_list_append PySem.F.type_list_append tyd_list dm_append (de_var (i := 7) rfl (Or.inl rfl)) (da_cons (de_str (l := [120]) rfl) da_nil)))
    (dss_one (ds_ret (de_call (G 6 (by decide)) gu (hr.mono (by omega)) rfl T.m__law_same T.F__law_same.kp T.b__law_same (da_cons (de_meth0 (ml := [102, 97, 117, 108, 116, 115]) rfl (de_var (i := 0) rfl (Or.inl rfl)) T.c_Watch T.me_Watch_faults (G 4 (by decide)) gu (hr.mono (by omega)) T.b_Watch_faults) (da_cons (de_var (i := 2) rfl (Or.inl rfl)) da_nil)))))))))))))
theorem sc__law_doing : FnScope N__law_doing (ps 22) (defScope s__law_doing) := ⟨rfl, rfl, rfl, by decide +kernel, rfl, by decide +kernel, by decide +kernel⟩
theorem body__law_doing (T : Txt K mg A FD cl) (G : ∀ i, i < 24 → FnG P w K mg base CX0 (2 * n) (A i) (FD i) (ps i) (lSp K (ar i) (C i))) (cdv : Value) (B : Around) (outer : List Env) (s : Shared) (H : Hp) (E : XK) (gu : Calm B) (hr : Room (2 * n + 1) (B.deeper (envOfC "_law_doing" (defScope s__law_doing) s.heap.objs.size (A 22) cdv))) :
    DSs (cxOf CX0 P w K mg base N__law_doing "_law_doing" (defScope s__law_doing) (A 22) cdv B outer s H E).nox (defBody s__law_doing) (w__law_doing cl C) :=
  have hu64 := u64 hr; have hu70 := u70 hr; have hu80 := u80 hr
  (dss_cons (ds_set (i := 4) sc__law_doing.nd rfl (Or.inl rfl) de_dicM)
    (dss_cons (ds_for PassesOwn.never rfl (di_rng1 rfl T.z_range (da_cons (de_callB dc_len rfl T.z_len PySem.boot_len (da_cons (de_var (i := 2) rfl (Or.inl rfl)) da_nil)) da_nil)) (dg_name (i := 5) sc__law_doing.nd rfl (Or.inl rfl)) (dss_one (ds_if (dt_cmp dop_gt (de_call (G 5 (by decide)) gu (hr.mono (by omega)) rfl T.m__law_draw T.F__law_draw.kp T.b__law_draw (da_cons (de_var (i := 0) rfl (Or.inl rfl)) (da_cons (de_bin dop_add (de_var (i := 1) rfl (Or.inl rfl)) (de_bin dop_mul de_int (de_var (i := 5) rfl (Or.inl rfl)))) (da_cons de_int da_nil)))) de_int (nomark _)) (dss_one (ds_dput hu70 (de_var (i := 4) rfl (Or.inl rfl)) (de_ix (de_var (i := 2) rfl (Or.inl rfl)) (de_var (i := 5) rfl (Or.inl rfl)) (fun _ _ => rfl)) (de_call (G 9 (by decide)) gu (hr.mono (by omega)) rfl T.m__law_value T.F__law_value.kp T.b__law_value (da_cons (de_var (i := 0) rfl (Or.inl rfl)) (da_cons (de_bin dop_add (de_bin dop_add (de_var (i := 1) rfl (Or.inl rfl)) de_int) (de_bin dop_mul de_int (de_var (i := 5) rfl (Or.inl rfl)))) (da_cons (de_var (i := 2) rfl (Or.inl rfl)) da_nil)))))) dss_nil)))
    (dss_cons (ds_set (i := 6) sc__law_doing.nd rfl (Or.inl rfl) (de_call (G 16 (by decide)) gu (hr.mono (by omega)) rfl T.m__law_run T.F__law_run.kp T.b__law_run (da_cons (de_var (i := 3) rfl (Or.inl rfl)) (da_cons (de_var (i := 4) rfl (Or.inl rfl)) da_nil))))
    (dss_one (ds_ret (de_tup (da_cons (de_str (l := [120]) rfl) (da_cons (de_ix (de_var (i := 6) rfl (Or.inl rfl)) de_int (fun _ _ => rfl)) (da_cons (de_ix (de_var (i := 6) rfl (Or.inl rfl)) de_int (fun _ _ => rfl)) da_nil)))))))))
theorem sc_law : FnScope N_law (ps 23) (defScope s_law) := ⟨rfl, rfl, rfl, by decide +kernel, rfl, by decide +kernel, by decide +kernel⟩
theorem body_law (T : Txt K mg A FD cl) (G : ∀ i, i < 24 → FnG P w K mg base CX0 (2 * n) (A i) (FD i) (ps i) (lSp K (ar i) (C i))) (cdv : Value) (B : Around) (outer : List Env) (s : Shared) (H : Hp) (E : XK) (gu : Calm B) (hr : Room (2 * n + 1) (B.deeper (envOfC "law" (defScope s_law) s.heap.objs.size (A 23) cdv))) :
    DSs (cxOf CX0 P w K mg base N_law "law" (defScope s_law) (A 23) cdv B outer s H E).nox (defBody s_law) (w_law cl C) :=
  have hu64 := u64 hr; have hu70 := u70 hr; have hu80 := u80 hr
  (dss_cons (ds_set (i := 1) sc_law.nd rfl (Or.inl rfl) (de_lst (da_cons (de_str (l := [115, 97, 121, 32, 112, 117, 116, 32, 49]) rfl) (da_cons (de_str (l := [115, 97, 121, 32, 112, 117, 116, 32, 49, 50]) rfl) (da_cons (de_str (l := [102, 97, 105, 108, 32, 97]) rfl) da_nil)))))
    (dss_cons (ds_set (i := 2) sc_law.nd rfl (Or.inl rfl) (de_lst (da_cons (de_make0 T.k_Watch (G 2 (by decide)) gu hr rfl T.g_Watch T.b_Watch___init__) (da_cons (de_make0 T.k_Watch (G 2 (by decide)) gu hr rfl T.g_Watch T.b_Watch___init__) da_nil))))
    (dss_cons (ds_set (i := 3) sc_law.nd rfl (Or.inl rfl) (de_lst (da_cons (de_lstM da_nil) (da_cons (de_lstM da_nil) da_nil))))
    (dss_cons (ds_set (i := 4) sc_law.nd rfl (Or.inl rfl) (de_lst (da_cons (de_lstM da_nil) (da_cons (de_lstM da_nil) da_nil))))
    (dss_cons (ds_if (DW.dt (dw_or (dt_cmp (dop_ne hu64) (de_meth0 (ml := [102, 97, 117, 108, 116, 115]) rfl (de_ix (de_var (i := 2) rfl (Or.inl rfl)) de_int (fun _ _ => rfl)) T.c_Watch T.me_Watch_faults (G 4 (by decide)) gu (hr.mono (by omega)) T.b_Watch_faults) (de_lst da_nil) (nomark _)) (dw_or1 (dt_cmp (dop_ne hu64) (de_meth0 (ml := [102, 97, 117, 108, 116, 115]) rfl (de_ix (de_var (i := 2) rfl (Or.inl rfl)) de_int (fun _ _ => rfl)) T.c_Watch T.me_Watch_faults (G 4 (by decide)) gu (hr.mono (by omega)) T.b_Watch_faults) (de_lst da_nil) (nomark _))))) (dss_one (ds_ret de_bl)) dss_nil)
    (dss_cons (ds_set (i := 5) sc_law.nd rfl (Or.inl rfl) (de_call (G 8 (by decide)) gu (hr.mono (by omega)) rfl T.m__law_names T.F__law_names.kp T.b__law_names (da_cons (de_var (i := 0) rfl (Or.inl rfl)) (da_cons de_int da_nil))))
    (dss_cons (ds_set (i := 6) sc_law.nd rfl (Or.inl rfl) (de_call (G 11 (by decide)) gu (hr.mono (by omega)) rfl T.m__law_recipe T.F__law_recipe.kp T.b__law_recipe (da_cons (de_var (i := 0) rfl (Or.inl rfl)) (da_cons de_int (da_cons (de_var (i := 5) rfl (Or.inl rfl)) (da_cons de_int da_nil))))))
    (dss_cons (ds_for PassesOwn.never rfl (di_rng1 rfl T.z_range (da_cons (de_bin dop_add de_int (de_call (G 5 (by decide)) gu (hr.mono (by omega)) rfl T.m__law_draw T.F__law_draw.kp T.b__law_draw (da_cons (de_var (i := 0) rfl (Or.inl rfl)) (da_cons de_int (da_cons de_int da_nil))))) da_nil)) (dg_name (i := 7) sc_law.nd rfl (Or.inl rfl)) (dss_cons (ds_set (i := 8) sc_law.nd rfl (Or.inl rfl) (de_bin dop_add de_int (de_bin dop_mul de_int (de_var (i := 7) rfl (Or.inl rfl)))))
    (dss_cons (ds_set (i := 9) sc_law.nd rfl (Or.inl rfl) (de_call (G 5 (by decide)) gu (hr.mono (by omega)) rfl T.m__law_draw T.F__law_draw.kp T.b__law_draw (da_cons (de_var (i := 0) rfl (Or.inl rfl)) (da_cons (de_bin dop_add (de_var (i := 8) rfl (Or.inl rfl)) de_int) (da_cons de_int da_nil)))))
    (dss_cons (ds_set (i := 10) sc_law.nd rfl (Or.inl rfl) (de_ix (de_var (i := 1) rfl (Or.inl rfl)) (de_call (G 5 (by decide)) gu (hr.mono (by omega)) rfl T.m__law_draw T.F__law_draw.kp T.b__law_draw (da_cons (de_var (i := 0) rfl (Or.inl rfl)) (da_cons (de_bin dop_add (de_var (i := 8) rfl (Or.inl rfl)) de_int) (da_cons de_int da_nil)))) (fun _ _ => rfl)))
    (dss_cons (ds_if (dt_not (dt_val (de_call (G 21 (by decide)) gu (hr.mono (by omega)) rfl T.m__law_saw T.F__law_saw.kp T.b__law_saw (da_cons (de_ix (de_var (i := 2) rfl (Or.inl rfl)) (de_var (i := 9) rfl (Or.inl rfl)) (fun _ _ => rfl)) (da_cons (de_ix (de_var (i := 3) rfl (Or.inl rfl)) (de_var (i := 9) rfl (Or.inl rfl)) (fun _ _ => rfl)) (da_cons (de_ix (de_var (i := 4) rfl (Or.inl rfl)) (de_var (i := 9) rfl (Or.inl rfl)) (fun _ _ => rfl)) (da_cons (de_var (i := 10) rfl (Or.inl rfl)) (da_cons (de_call (G 17 (by decide)) gu (hr.mono (by omega)) rfl T.m__law_one_line T.F__law_one_line.kp T.b__law_one_line (da_cons (de_var (i := 0) rfl (Or.inl rfl)) (da_cons (de_var (i := 8) rfl (Or.inl rfl)) da_nil))) da_nil)))))))) (dss_one (ds_ret de_bl)) dss_nil)
    (dss_one (ds_if (dt_cmp (dop_eq hu64) (de_call (G 5 (by decide)) gu (hr.mono (by omega)) rfl T.m__law_draw T.F__law_draw.kp T.b__law_draw (da_cons (de_var (i := 0) rfl (Or.inl rfl)) (da_cons de_int (da_cons de_int da_nil)))) de_int (nomark _)) (dss_cons (ds_set (i := 11) sc_law.nd rfl (Or.inl rfl) (de_call (G 22 (by decide)) gu (hr.mono (by omega)) rfl T.m__law_doing T.F__law_doing.kp T.b__law_doing (da_cons (de_var (i := 0) rfl (Or.inl rfl)) (da_cons (de_bin dop_add de_int (de_var (i := 8) rfl (Or.inl rfl))) (da_cons (de_var (i := 5) rfl (Or.inl rfl)) (da_cons (de_var (i := 6) rfl (Or.inl rfl)) da_nil))))))
    (dss_one (ds_if (dt_not (dt_val (de_call (G 21 (by decide)) gu (hr.mono (by omega)) rfl T.m__law_saw T.F__law_saw.kp T.b__law_saw (da_cons (de_ix (de_var (i := 2) rfl (Or.inl rfl)) (de_var (i := 9) rfl (Or.inl rfl)) (fun _ _ => rfl)) (da_cons (de_ix (de_var (i := 3) rfl (Or.inl rfl)) (de_var (i := 9) rfl (Or.inl rfl)) (fun _ _ => rfl)) (da_cons (de_ix (de_var (i := 4) rfl (Or.inl rfl)) (de_var (i := 9) rfl (Or.inl rfl)) (fun _ _ => rfl)) (da_cons (de_str (l := [115, 97, 121, 32, 112, 117, 116, 32, 49, 50, 51]) rfl) (da_cons (de_var (i := 11) rfl (Or.inl rfl)) da_nil)))))))) (dss_one (ds_ret de_bl)) dss_nil))) dss_nil)))))))
    (dss_one (ds_ret (de_callB (dc_all rfl) rfl T.z_all PyProof.Rows.boot_all (da_cons (de_lcG (own := [("_law_fault", 12)]) fin_val rfl sc_law.nd (di_seq (de_bin dop_add (de_ix (de_var (i := 4) rfl (Or.inl rfl)) de_int (fun _ _ => rfl)) (de_ix (de_var (i := 4) rfl (Or.inl rfl)) de_int (fun _ _ => rfl)))) (blkOk_by (own := [("_law_fault", 12)]) (N := N_law) (sc := defScope s_law) (by decide +kernel)) (fun _ _ _ _ _ => (dgc_name (i := 12) sc_law.nd rfl (by decide) (Or.inl rfl))) (fun _ _ _ _ _ => dts_nil) (fun _ _ _ _ _ => (de_cmp (dop_ne hu64) (de_ix (de_var (i := 12) rfl (Or.inl rfl)) de_int (fun _ _ => rfl)) (de_str (l := [115, 97, 121, 32, 112, 117, 116, 32, 49, 50, 51]) rfl) (nomark _)))) da_nil))))))))))))
theorem all_ok (T : Txt K mg A FD cl) : ∀ n i, i < 24 → FnG P w K mg base CX0 (2 * n) (A i) (FD i) (ps i) (lSp K (ar i) (D cl n i))
  | 0, i, _ => fnG_zero
  | n + 1, i, h => by
    have ih := all_ok T n
    match i, h with
    | 0, _ => exact fn_body T.F_next_step sc_next_step rfl fun cdv B outer s H E gu hr => body_next_step T ih cdv B outer s H E gu hr
    | 1, _ => exact fn_body T.F_at_odds sc_at_odds rfl fun cdv B outer s H E gu hr => body_at_odds T ih cdv B outer s H E gu hr
    | 2, _ => exact fn_body T.F_Watch___init__ sc_Watch___init__ rfl fun cdv B outer s H E gu hr => body_Watch___init__ T ih cdv B outer s H E gu hr
    | 3, _ => exact fn_body T.F_Watch_saw sc_Watch_saw rfl fun cdv B outer s H E gu hr => body_Watch_saw T ih cdv B outer s H E gu hr
    | 4, _ => exact fn_body T.F_Watch_faults sc_Watch_faults rfl fun cdv B outer s H E gu hr => body_Watch_faults T ih cdv B outer s H E gu hr
    | 5, _ => exact fn_body T.F__law_draw sc__law_draw rfl fun cdv B outer s H E gu hr => body__law_draw T ih cdv B outer s H E gu hr
    | 6, _ => exact fn_body T.F__law_same sc__law_same rfl fun cdv B outer s H E gu hr => body__law_same T ih cdv B outer s H E gu hr
    | 7, _ => exact fn_body T.F__law_stamp sc__law_stamp rfl fun cdv B outer s H E gu hr => body__law_stamp T ih cdv B outer s H E gu hr
    | 8, _ => exact fn_body T.F__law_names sc__law_names rfl fun cdv B outer s H E gu hr => body__law_names T ih cdv B outer s H E gu hr
    | 9, _ => exact fn_body T.F__law_value sc__law_value rfl fun cdv B outer s H E gu hr => body__law_value T ih cdv B outer s H E gu hr
    | 10, _ => exact fn_body T.F__law_expr sc__law_expr rfl fun cdv B outer s H E gu hr => body__law_expr T ih cdv B outer s H E gu hr
    | 11, _ => exact fn_body T.F__law_recipe sc__law_recipe rfl fun cdv B outer s H E gu hr => body__law_recipe T ih cdv B outer s H E gu hr
    | 12, _ => exact fn_body T.F__law_fits sc__law_fits rfl fun cdv B outer s H E gu hr => body__law_fits T ih cdv B outer s H E gu hr
    | 13, _ => exact fn_body T.F__law_of_two sc__law_of_two rfl fun cdv B outer s H E gu hr => body__law_of_two T ih cdv B outer s H E gu hr
    | 14, _ => exact fn_body T.F__law_told sc__law_told rfl fun cdv B outer s H E gu hr => body__law_told T ih cdv B outer s H E gu hr
    | 15, _ => exact fn_body T.F__law_is_name sc__law_is_name rfl fun cdv B outer s H E gu hr => body__law_is_name T ih cdv B outer s H E gu hr
    | 16, _ => exact fn_body T.F__law_run sc__law_run rfl fun cdv B outer s H E gu hr => body__law_run T ih cdv B outer s H E gu hr
    | 17, _ => exact fn_body T.F__law_one_line sc__law_one_line rfl fun cdv B outer s H E gu hr => body__law_one_line T ih cdv B outer s H E gu hr
    | 18, _ => exact fn_body T.F__law_steps sc__law_steps rfl fun cdv B outer s H E gu hr => body__law_steps T ih cdv B outer s H E gu hr
    | 19, _ => exact fn_body T.F__law_odds sc__law_odds rfl fun cdv B outer s H E gu hr => body__law_odds T ih cdv B outer s H E gu hr
    | 20, _ => exact fn_body T.F__law_elder sc__law_elder rfl fun cdv B outer s H E gu hr => body__law_elder T ih cdv B outer s H E gu hr
    | 21, _ => exact fn_body T.F__law_saw sc__law_saw rfl fun cdv B outer s H E gu hr => body__law_saw T ih cdv B outer s H E gu hr
    | 22, _ => exact fn_body T.F__law_doing sc__law_doing rfl fun cdv B outer s H E gu hr => body__law_doing T ih cdv B outer s H E gu hr
    | 23, _ => exact fn_body T.F_law sc_law rfl fun cdv B outer s H E gu hr => body_law T ih cdv B outer s H E gu hr
    | i + 24, h => exact absurd h (by omega)
end
end DL

set_option maxRecDepth 100000
set_option linter.all false
set_option exponentiation.threshold 4000
namespace DL
local macro_rules | `(tactic| walk_at "w") => `(tactic| conv => whnf)
theorem lc_map {α : Type} {D : PySem.Addr} {cs : Cs} {i : Nat} {we : WE} {ρ : Env'} {S : DH} {enc f : α → DV} {R : List DV → DH → Prop} (hn : S D = none) (hc : okcs cs S) :
    ∀ (xs : List α) (acc : List DV), acc.length + xs.length < 16777216 → (∀ x ∈ xs, ∀ acc' Q, Q (f x) (put S D (.lst acc')) → we (ρ.set i (some (enc x))) (put S D (.lst acc')) Q) →
    R (acc ++ xs.map f) (put S D (.lst (acc ++ xs.map f))) → lcLoop D cs (wgN i) wYes we ρ (xs.map enc) acc (put S D (.lst acc)) R
  | [], acc, _, _, h => by
    show okc cs _ _
    refine okc_iff.mpr ⟨fun q hq => put_old (hc q hq) hn, ?_⟩
    simpa using h
  | x :: xs, acc, hl, st, h => by
    show okc cs _ _
    refine okc_iff.mpr ⟨fun q hq => put_old (hc q hq) hn, ?_⟩
    refine st x (List.mem_cons_self ..) acc _ ⟨put_same, gd_t (decide_eq_true (by simp at hl; omega)) ?_⟩
    rw [put_put]
    refine lc_map hn hc xs (acc ++ [f x]) (by simp at hl ⊢; omega) (fun y hy => st y (List.mem_cons_of_mem _ hy)) ?_
    simpa using h
theorem comp_map {α : Type} {cs : Cs} {i : Nat} {we : WE} {ρ : Env'} {S : DH} {enc f : α → DV} {Q : DK} (xs : List α) (hc : okcs cs S) (hl : xs.length < 16777216)
    (st : ∀ x ∈ xs, ∀ S' Q, Sub S S' → Q (f x) S' → we (ρ.set i (some (enc x))) S' Q) (h : Q (.lst (xs.map f)) S) :
    ∀ D, S D = none → lcLoop D cs (wgN i) wYes we ρ (xs.map enc) [] (put S D (.lst [])) fun acc S2 => finV D acc S2 Q := fun D hn =>
  lc_map hn hc xs [] (by simpa using hl) (fun x hx acc' Q q => st x hx _ Q ((Sub.refl S).new hn _) q) (by unfold finV; rw [drop_put hn]; simpa using h)
/-! values -/
abbrev Tx := List Nat
inductive Val where
  | int (i : Int) | str (s : Tx) | row (vs : List Val)
mutual
def encV : Val → DV
  | .int i => .int i
  | .str s => .str s
  | .row vs => .tup (encVs vs)
def encVs : List Val → List DV
  | [] => []
  | v :: vs => encV v :: encVs vs
end
theorem encVs_map : ∀ vs, encVs vs = vs.map encV
  | [] => rfl
  | v :: vs => by simp [encVs, encVs_map vs]
mutual
def stamp : Val → Tx
  | .int i => numD i
  | .str s => 39 :: s
  | .row vs => 40 :: joinD [44] (stamps vs) ++ [41]
def stamps : List Val → List Tx
  | [] => []
  | v :: vs => stamp v :: stamps vs
end
theorem stamps_map : ∀ vs, stamps vs = vs.map stamp
  | [] => rfl
  | v :: vs => by simp [stamps, stamps_map vs]
/-- depth at most d, rows of at most eight, short texts, bounded numbers -/
inductive Bd : Nat → Val → Prop
  | int {d : Nat} {i : Int} (h : i.natAbs ≤ 1000000000000000000) : Bd d (.int i)
  | str {d : Nat} {s : Tx} (h : s.length ≤ 20) : Bd d (.str s)
  | row {d : Nat} {vs : List Val} (hl : vs.length ≤ 8) (h : ∀ v ∈ vs, Bd d v) : Bd (d + 1) (.row vs)

theorem numD_nat (n : Nat) : numD (n : Int) = TL.numL n := by
  have h := TL.tl_num n
  rw [numD_eq] at h
  exact h
theorem numD_neg (n : Nat) : numD (Int.negSucc n) = 45 :: TL.numL (n + 1) := by
  have h := numD_nat (n + 1)
  unfold numD at h ⊢
  have e : (toString (Int.negSucc n)).toList = '-' :: (toString ((n + 1 : Nat) : Int)).toList := by
    show ("-" ++ Nat.repr (n + 1)).toList = '-' :: (Nat.repr (n + 1)).toList
    simp
  rw [e, List.map_cons, h]
  rfl
theorem numD_len {i : Int} (h : i.natAbs ≤ 1000000000000000000) : (numD i).length ≤ 20 := by
  cases i with
  | ofNat n =>
    have := TL.numL_len (n := n) (k := 20) (by decide) (by simp at h; omega)
    rw [show numD (Int.ofNat n) = TL.numL n from numD_nat n]; omega
  | negSucc n =>
    have := TL.numL_len (n := n + 1) (k := 19) (by decide) (by simp at h; omega)
    rw [numD_neg]; simp; omega
theorem joinD_len (s : Tx) : ∀ xs : List Tx, (joinD s xs).length ≤ (xs.map List.length).sum + xs.length * s.length
  | [] => by simp [joinD]
  | [x] => by simp [joinD]
  | x :: y :: r => by
    have ih := joinD_len s (y :: r)
    simp only [joinD, List.length_append, List.map_cons, List.sum_cons, List.length_cons] at ih ⊢
    have e : (r.length + 1 + 1) * s.length = (r.length + 1) * s.length + s.length := Nat.succ_mul _ _
    omega
theorem sum_le {α : Type} (f : α → Nat) (B : Nat) : ∀ xs : List α, (∀ x ∈ xs, f x ≤ B) → (xs.map f).sum ≤ xs.length * B
  | [], _ => by simp
  | x :: r, h => by
    have ih := sum_le f B r fun y hy => h y (List.mem_cons_of_mem _ hy)
    have := h x (List.mem_cons_self ..)
    simp only [List.map_cons, List.sum_cons, List.length_cons, Nat.succ_mul]
    omega
theorem stamp_len : ∀ {d : Nat} {v : Val}, Bd d v → (stamp v).length ≤ 21 * 9 ^ d
  | d, _, .int h => by
    have := numD_len h
    have : 1 ≤ 9 ^ d := Nat.one_le_pow _ _ (by decide)
    simp only [stamp]; omega
  | d, _, .str h => by
    have : 1 ≤ 9 ^ d := Nat.one_le_pow _ _ (by decide)
    simp only [stamp, List.length_cons]; omega
  | d + 1, _, @Bd.row _ vs hl h => by
    have h1 := joinD_len [44] (stamps vs)
    have h2 : ((stamps vs).map List.length).sum ≤ vs.length * (21 * 9 ^ d) := by
      rw [stamps_map, List.map_map]
      exact sum_le _ _ vs fun v hv => stamp_len (h v hv)
    have h3 : (stamps vs).length = vs.length := by rw [stamps_map, List.length_map]
    have h4 : vs.length * (21 * 9 ^ d) ≤ 8 * (21 * 9 ^ d) := Nat.mul_le_mul_right _ hl
    have : 1 ≤ 9 ^ d := Nat.one_le_pow _ _ (by decide)
    rw [h3] at h1
    simp only [stamp, List.length_append, List.length_cons, List.length_nil, Nat.pow_succ]
    simp at h1
    omega
theorem Bd.mono {d : Nat} {v : Val} (h : Bd d v) : Bd (d + 1) v := by
  induction h with
  | int h => exact .int h
  | str h => exact .str h
  | row hl _ ih => exact .row hl ih
theorem strsD_map {α : Type} (f : α → Tx) : ∀ xs : List α, strsD (xs.map fun x => .str (f x)) = some (xs.map f)
  | [] => rfl
  | x :: r => by simp [strsD, strsD_map f r]
theorem log2_small {n : Nat} (h : n ≤ 1000000000000000000) : n.log2 < 1920 := by
  by_cases h0 : n = 0
  · subst h0; decide
  · exact (Nat.log2_lt h0).mpr (Nat.lt_of_le_of_lt h (by
      have : 2 ^ 60 ≤ 2 ^ 1920 := Nat.pow_le_pow_right (by decide) (by decide)
      have : 1000000000000000000 < 2 ^ 60 := by decide
      omega))
theorem sp_stamp {cl : Nat → PySem.Addr} : ∀ {d n : Nat} {v : Val} {S : DH} {Q : DK}, Bd d v → d + 1 ≤ n → d ≤ 5 → Q (.str (stamp v)) S → D cl n ix__law_stamp [encV v] S Q
  | d, n + 1, v, S, Q, hb, hn, h5, h => by
    walk_at "w"
    refine ⟨rfl, ?_⟩
    cases hb with
    | int hi => walk_at "w"; exact ⟨log2_small hi, _, S, .refl, h⟩
    | str hs => walk_at "w"; refine gd_t (decide_eq_true (by simp; omega)) ⟨_, S, .refl, h⟩
    | @row d vs hl hv =>
      walk_at "w"
      rw [encVs_map]
      refine comp_map (f := fun v => .str (stamp v)) vs (fun _ z => nomatch z) (by omega) (fun v hvv S' Q' _ q => ?_) ?_
      · walk_at "w"
        exact sp_stamp (hv v hvv) (by omega) (by omega) q
      · walk_at "w"
        rw [strsD_map]
        have hs := sum_le (fun v => (stamp v).length) (21 * 9 ^ d) vs fun v hvv => stamp_len (hv v hvv)
        have h9 : 9 ^ d ≤ 9 ^ 4 := Nat.pow_le_pow_right (by decide) (by omega)
        have h8 : vs.length * (21 * 9 ^ d) ≤ 8 * (21 * 9 ^ 4) := Nat.mul_le_mul hl (by omega)
        have hj := stamp_len (Bd.row hl hv)
        simp only [stamp, List.length_append, List.length_cons, List.length_nil, stamps_map, Nat.pow_succ] at hj
        walk_at "w"
        refine gd_t (decide_eq_true ?_) ?_
        · rw [List.map_map, List.length_map]; simp only [Function.comp_def, List.length_cons, List.length_nil] at hs ⊢; omega
        walk_at "w"
        refine gd_t (decide_eq_true ?_) ?_
        · simp only [List.length_append, List.length_cons, List.length_nil]; omega
        walk_at "w"
        refine gd_t (decide_eq_true ?_) ⟨_, S, .refl, ?_⟩
        · simp only [List.length_append, List.length_cons, List.length_nil]; omega
        rw [stamp, stamps_map] at h
        exact h
end DL

set_option maxRecDepth 100000
set_option linter.all false
set_option exponentiation.threshold 4000
namespace DL
local macro_rules | `(tactic| walk_at "w") => `(tactic| conv => whnf)
theorem atD_nat {α : Type} {xs : List α} {i : Int} (h0 : 0 ≤ i) (h : i < (xs.length : Int)) : atD xs i = some (xs[i.toNat]'(by omega)) := by
  cases i with
  | ofNat n =>
    have hn : n < xs.length := by
      have : (Int.ofNat n) = (n : Int) := rfl
      omega
    show getN xs n = _
    rw [getN_eq, List.getElem?_eq_getElem hn]
    rfl
  | negSucc n => exact absurd h0 (by omega)
theorem atD_ofNat {α : Type} {xs : List α} {n : Nat} : atD xs (n : Int) = xs[n]? := getN_eq xs n
theorem mulc_r {i j : Int} (h1 : -18446744073709551616 < j) (h2 : j < 18446744073709551616) : dMulC i j = true := by
  unfold dMulC; simp [ltI_eq, h1, h2]
theorem mulc_l {i j : Int} (h1 : -18446744073709551616 < i) (h2 : i < 18446744073709551616) : dMulC i j = true := by
  unfold dMulC; simp [ltI_eq, h1, h2]
theorem rt_ok {Q : DK} {d : DV} {S : DH} (h : Q d S) : ∃ d2 S2, Weak d S d2 S2 ∧ Q d2 S2 := ⟨d, S, .refl, h⟩
theorem sp_draw {cl : Nat → PySem.Addr} {n : Nat} (hn : 1 ≤ n) {ns : List Int} {k m : Nat} {S : DH} {Q : DK} (hl : ns.length ≤ 63) (hk : k ≤ 1000000) (hm : 0 < m) (h : ∀ r : Nat, r < m → Q (.int r) S) :
    D cl n ix__law_draw [.scr ns, .int k, .int m] S Q := by
  obtain ⟨n, rfl⟩ : ∃ j, n = j + 1 := ⟨n - 1, by omega⟩
  have fin : ∀ z : Int, ∃ d2 S2, Weak (.int (z % m)) S d2 S2 ∧ Q d2 S2 := fun z => by
    have h0 : 0 ≤ z % (m : Int) := Int.emod_nonneg _ (by omega)
    have h1 : z % (m : Int) < m := Int.emod_lt_of_pos _ (by omega)
    have e : z % (m : Int) = ((z % (m : Int)).toNat : Int) := by omega
    rw [e]
    exact rt_ok (h _ (by omega))
  walk_at "w"
  refine ⟨rfl, ?_⟩
  walk_at "w"
  have h0m : ltI 0 (m : Int) = true := ltI_iff.mpr (by omega)
  refine br_split (fun e => ?_) (fun e => ?_)
  · have e := ltI_iff.mp e
    walk_at "w"
    refine gd_t (ltI_iff.mpr e) ?_
    walk_at "w"
    have b0 : 0 ≤ (k : Int) % (ns.length : Int) := Int.emod_nonneg _ (by omega)
    have b1 : (k : Int) % (ns.length : Int) < ns.length := Int.emod_lt_of_pos _ e
    rw [atD_nat b0 b1]
    generalize ns[((k : Int) % (ns.length : Int)).toNat]'(by omega) = c
    walk_at "w"
    refine gd_t (Bool.and_eq_true_iff.mpr ⟨ltI_iff.mpr e, ltI_iff.mpr (by omega)⟩) ?_
    walk_at "w"
    have q0 : 0 ≤ (k : Int) / (ns.length : Int) := Int.ediv_nonneg (by omega) (by omega)
    refine gd_t (leI_iff.mpr (by omega)) ?_
    walk_at "w"
    refine br_split (fun e2 => ?_) (fun e2 => ?_)
    · walk_at "w"
      refine br_split (fun e3 => ?_) (fun e3 => ?_)
      · walk_at "w"
        refine gd_t h0m ?_
        exact fin _
      · repeat (walk_at "w"; refine gd_t (by first | exact h0m | exact mulc_r (by omega) (by omega)) ?_)
        exact fin _
    · repeat (walk_at "w"; refine gd_t (by first | exact h0m | exact mulc_r (by omega) (by omega)) ?_)
      exact fin _
  · repeat (walk_at "w"; refine gd_t (by first | exact h0m | exact mulc_r (by omega) (by omega)) ?_)
    exact fin _
end DL

set_option maxRecDepth 100000
set_option linter.all false
namespace DL
local macro_rules | `(tactic| walk_at "w") => `(tactic| conv => whnf)
/-! menus -/
def menuN : List Tx := [[97], [97, 98], [97, 98, 99], [98], [116, 111, 108, 100], [109, 97, 100, 101], [115, 97, 121], [119, 97, 110, 116], [119, 97, 110, 116, 115], [98, 97], [122, 122], [120]]
def menuV : List Val := [.int 0, .int 1, .int 2, .int (-3), .str [], .str [97], .str [45, 48], .row [], .row [.int 1, .str [98]], .row [.str [97], .row [.int 0]], .int (10 ^ 18), .int 1, .int 0]
def pool (names : List Tx) : List Val := menuV ++ names.map .str
structure NamesOk (xs : List Tx) : Prop where
  mem : ∀ x ∈ xs, x ∈ menuN
  lo : 4 ≤ xs.length
  hi : xs.length ≤ 7
theorem getN_map {α β : Type} (f : α → β) (xs : List α) (n : Nat) : getN (xs.map f) n = (xs[n]?).map f := by rw [getN_eq, List.getElem?_map]
theorem sp_names {cl : Nat → PySem.Addr} {n : Nat} (hn : 2 ≤ n) {ns : List Int} {k : Nat} {S : DH} {Q : DK} (hl : ns.length ≤ 63) (hk : k ≤ 999990) (h : ∀ xs : List Tx, NamesOk xs → Q (.lst (xs.map .str)) S) :
    D cl n ix__law_names [.scr ns, .int k] S Q := by
  obtain ⟨n, rfl⟩ : ∃ j, n = j + 1 := ⟨n - 1, by omega⟩
  walk_at "w"
  refine ⟨rfl, ?_⟩
  walk_at "w"
  refine sp_draw (m := 12) (by omega) hl (by omega) (by decide) fun r1 h1 => ?_
  walk_at "w"
  refine sp_draw (k := k + 1) (m := 4) (by omega) hl (by omega) (by decide) fun r2 h2 => ?_
  walk_at "w"
  obtain ⟨c, hc⟩ : ∃ c : Nat, getN [DV.int 1, .int 5, .int 7, .int 11] r2 = some (.int c) := by
    match r2, h2 with
    | 0, _ => exact ⟨1, rfl⟩
    | 1, _ => exact ⟨5, rfl⟩
    | 2, _ => exact ⟨7, rfl⟩
    | 3, _ => exact ⟨11, rfl⟩
  have hc' : atD [DV.int 1, DV.int 5, DV.int 7, DV.int 11] (r2 : Int) = some (.int c) := hc
  rw [hc']
  walk_at "w"
  refine sp_draw (k := k + 2) (m := 4) (by omega) hl (by omega) (by decide) fun r3 h3 => ?_
  walk_at "w"
  refine gd_t (Bool.and_eq_true_iff.mpr ⟨leI_iff.mpr (by omega), ltI_iff.mpr (by omega)⟩) ?_
  walk_at "w"
  refine comp_map (enc := fun j : Nat => .int j) (f := fun j : Nat => .str (menuN.getD ((r1 + c * j) % 12) [])) (List.range (4 + (r3 : Int)).toNat) (fun _ z => nomatch z) (by simp; omega) (fun j hj S' Q' _ q => ?_) ?_
  · have hj : j < 4 + r3 := by simp at hj; omega
    walk_at "w"
    refine gd_t (mulc_r (by omega) (by omega)) ?_
    walk_at "w"
    have e : ((r1 : Int) + (c : Int) * (j : Int)) % 12 = (((r1 + c * j) % 12 : Nat) : Int) := by simp
    have e2 : atD (menuN.map DV.str) (((r1 + c * j) % 12 : Nat) : Int) = some (.str (menuN.getD ((r1 + c * j) % 12) [])) := by
      have h12 : (r1 + c * j) % 12 < menuN.length := Nat.mod_lt _ (by decide)
      rw [atD_ofNat, List.getElem?_map, List.getElem?_eq_getElem h12, List.getD_eq_getElem?_getD, List.getElem?_eq_getElem h12]
      rfl
    exact opt_some (show atD (menuN.map DV.str) (((r1 : Int) + (c : Int) * (j : Int)) % 12) = _ by rw [e, e2]) q
  · rw [show (List.range (4 + (r3 : Int)).toNat).map (fun j : Nat => DV.str (menuN.getD ((r1 + c * j) % 12) [])) = ((List.range (4 + (r3 : Int)).toNat).map (fun j : Nat => menuN.getD ((r1 + c * j) % 12) [])).map DV.str by rw [List.map_map]; rfl]
    refine rt_ok (h _ ⟨fun x hx => ?_, by simp; omega, by simp; omega⟩)
    obtain ⟨j, _, rfl⟩ := List.mem_map.mp hx
    have h12 : (r1 + c * j) % 12 < menuN.length := Nat.mod_lt _ (by decide)
    rw [List.getD_eq_getElem?_getD, List.getElem?_eq_getElem h12]
    exact List.getElem_mem h12
theorem pool_get {names : List Tx} {r : Nat} (h : r < (pool names).length) : ∃ v ∈ pool names, getN ((pool names).map encV) r = some (encV v) := by
  refine ⟨(pool names)[r], List.getElem_mem h, ?_⟩
  rw [getN_map, List.getElem?_eq_getElem h]
  rfl
theorem pool_len (names : List Tx) : (pool names).length = 13 + names.length := by simp [pool, menuV]; omega
theorem sp_value {cl : Nat → PySem.Addr} {n : Nat} (hn : 2 ≤ n) {ns : List Int} {k : Nat} {names : List Tx} {S : DH} {Q : DK} (hl : ns.length ≤ 63) (hk : k ≤ 999990) (ho : names.length ≤ 7) (h : ∀ v ∈ pool names, Q (encV v) S) :
    D cl n ix__law_value [.scr ns, .int k, .lst (names.map .str)] S Q := by
  obtain ⟨n, rfl⟩ : ∃ j, n = j + 1 := ⟨n - 1, by omega⟩
  walk_at "w"
  refine ⟨rfl, ?_⟩
  walk_at "w"
  refine gd_t (decide_eq_true (by simp; omega)) ?_
  walk_at "w"
  have e1 : [DV.int 0, .int 1, .int 2, .int (-3), .str [], .str [97], .str [45, 48], .tup [], .tup [.int 1, .str [98]], .tup [.str [97], .tup [.int 0]], .int (10 ^ Int.toNat 18), .int 1, .int 0] ++ names.map DV.str = (pool names).map encV := by
    simp [pool, menuV, encV, encVs]
  dsimp only
  rw [e1]
  refine sp_draw (m := _) (by omega) hl (by omega) ?_ fun r hr => ?_
  · rw [List.length_map, pool_len]; omega
  rw [List.length_map] at hr
  obtain ⟨v, hv, e3⟩ := pool_get (names := names) (r := r) hr
  walk_at "w"
  rw [show atD ((pool names).map encV) (r : Int) = some (encV v) from e3]
  exact rt_ok (h v hv)
end DL

set_option maxRecDepth 100000
set_option linter.all false
namespace DL
local macro_rules | `(tactic| walk_at "w") => `(tactic| conv => whnf)
/-! exprs and recipes -/
inductive Op where
  | part | sum | join | same | less
def opT : Op → Tx
  | .part => [112, 97, 114, 116]
  | .sum => [115, 117, 109]
  | .join => [106, 111, 105, 110]
  | .same => [115, 97, 109, 101]
  | .less => [108, 101, 115, 115]
inductive Ex where
  | put (v : Val) | got (k : Nat) | row (es : List Ex) | many (e : Ex) | bin (o : Op) (a b : Ex)
mutual
def encE : Ex → DV
  | .put v => .tup [.str [112, 117, 116], encV v]
  | .got k => .tup [.str [103, 111, 116], .int k]
  | .row es => .tup [.str [114, 111, 119], .tup (encEs es)]
  | .many e => .tup [.str [109, 97, 110, 121], encE e]
  | .bin o a b => .tup [.str (opT o), encE a, encE b]
def encEs : List Ex → List DV
  | [] => []
  | e :: es => encE e :: encEs es
end
theorem encEs_map : ∀ es, encEs es = es.map encE
  | [] => rfl
  | e :: es => by simp [encEs, encEs_map es]
inductive Rc where
  | say (e : Ex) | fail (w : Tx) | want (e : Ex) (r : Rc) | peek (e : Ex) (r : Rc) | cond (e : Ex) (a b : Rc)
def encRc : Rc → DV
  | .say e => .tup [.str [115, 97, 121], encE e]
  | .fail w => .tup [.str [102, 97, 105, 108], .str w]
  | .want e r => .tup [.str [119, 97, 110, 116], encE e, encRc r]
  | .peek e r => .tup [.str [112, 101, 101, 107], encE e, encRc r]
  | .cond e a b => .tup [.str [119, 104, 101, 110], encE e, encRc a, encRc b]
/-- for so many values got; depth at most d -/
inductive OkE (P : Val → Prop) (g : Nat) : Nat → Ex → Prop
  | put {d : Nat} {v : Val} (h : P v) : OkE P g d (.put v)
  | got {d k : Nat} (h : k < g) : OkE P g d (.got k)
  | row {d : Nat} {es : List Ex} (hl : es.length ≤ 8) (h : ∀ e ∈ es, OkE P g d e) : OkE P g (d + 1) (.row es)
  | many {d : Nat} {e : Ex} (h : OkE P g d e) : OkE P g (d + 1) (.many e)
  | bin {d : Nat} {o : Op} {a b : Ex} (ha : OkE P g d a) (hb : OkE P g d b) : OkE P g (d + 1) (.bin o a b)
inductive OkR (P : Val → Prop) : Nat → Rc → Prop
  | say {g : Nat} {e : Ex} (h : OkE P g 2 e) : OkR P g (.say e)
  | fail {g : Nat} {w : Tx} : OkR P g (.fail w)
  | want {g : Nat} {e : Ex} {r : Rc} (h : OkE P g 2 e) (hr : OkR P (g + 1) r) : OkR P g (.want e r)
  | peek {g : Nat} {e : Ex} {r : Rc} (h : OkE P g 2 e) (hr : OkR P (g + 1) r) : OkR P g (.peek e r)
  | cond {g : Nat} {e : Ex} {a b : Rc} (h : OkE P g 2 e) (ha : OkR P g a) (hb : OkR P g b) : OkR P g (.cond e a b)
def honest : Rc → Bool
  | .say _ => true
  | .fail _ => true
  | .want _ r => honest r
  | .peek _ _ => false
  | .cond _ a b => honest a && honest b
def menuE (v : Val) : List Ex :=
  [.got 0, .bin .sum (.got 0) (.put (.int 1)), .bin .join (.got 0) (.put (.str [97])), .many (.got 0), .bin .same (.got 0) (.put v),
   .row [.got 0, .put v], .bin .part (.got 0) (.put (.int 0)), .bin .less (.got 0) (.put (.int 1)), .many (.got 0), .got 0]
theorem menu_get {α : Type} {f : α → DV} {xs : List α} {r : Nat} (h : r < xs.length) : ∃ v ∈ xs, atD (xs.map f) (r : Int) = some (f v) := by
  refine ⟨xs[r], List.getElem_mem h, ?_⟩
  rw [atD_ofNat, List.getElem?_map, List.getElem?_eq_getElem h]
  rfl
theorem sp_expr {cl : Nat → PySem.Addr} {n : Nat} (hn : 3 ≤ n) {ns : List Int} {k : Nat} {names : List Tx} {S : DH} {Q : DK} (hl : ns.length ≤ 63) (hk : k ≤ 999980) (ho : names.length ≤ 7) (h : ∀ v ∈ pool names, ∀ e ∈ menuE v, Q (encE e) S) :
    D cl n ix__law_expr [.scr ns, .int k, .lst (names.map .str)] S Q := by
  obtain ⟨n, rfl⟩ : ∃ j, n = j + 1 := ⟨n - 1, by omega⟩
  walk_at "w"
  refine ⟨rfl, ?_⟩
  walk_at "w"
  refine sp_value (k := k + 1) (by omega) hl (by omega) ho fun v hv => ?_
  walk_at "w"
  refine sp_draw (m := 10) (by omega) hl (by omega) (by decide) fun r hr => ?_
  walk_at "w"
  obtain ⟨e, he, q⟩ := menu_get (f := encE) (xs := menuE v) (r := r) hr
  refine opt_some q (rt_ok (h v hv e he))
def menuR (a b : Tx) (v : Val) (x : Ex) (two : Ex) (f : Tx) : List Rc :=
  [.say (.put v), .want (.put (.str a)) (.say x), .want (.put (.str a)) (.want (.put (.str b)) (.say two)), .want (.put (.str a)) (.say x),
   .want (.put (.str a)) (.cond x (.want (.put (.str b)) (.say (.got 1))) (.say (.put v))), .want (.put (.str a)) (.want (.got 0) (.say (.got 1))),
   .fail f, .want (.put (.str a)) (.want (.put (.str a)) (.say two)),
   .peek (.put (.str a)) (.say x), .peek (.put (.str a)) (.cond x (.want (.put (.str b)) (.say (.got 1))) (.say (.put v))),
   .want (.put (.str a)) (.peek (.put (.str b)) (.say two)), .peek (.put (.str a)) (.want (.put (.str b)) (.say two))]
def menuT : List Ex := [.row [.got 0, .got 1], .bin .same (.got 0) (.got 1), .bin .sum (.got 1) (.got 0)]
end DL

set_option maxRecDepth 100000
set_option linter.all false
namespace DL
local macro_rules | `(tactic| walk_at "w") => `(tactic| conv => whnf)
theorem menu_take {α : Type} {f : α → DV} {xs : List α} {w r : Nat} (h : r < w) (hw : w ≤ xs.length) : ∃ v ∈ xs.take w, atD (xs.map f) (r : Int) = some (f v) := by
  refine ⟨xs[r]'(by omega), ?_, ?_⟩
  · refine List.mem_iff_getElem.mpr ⟨r, by simp; omega, by simp⟩
  · rw [atD_ofNat, List.getElem?_map, List.getElem?_eq_getElem (by omega)]
    rfl
set_option maxHeartbeats 0 in
theorem sp_recipe {cl : Nat → PySem.Addr} {n : Nat} (hn : 4 ≤ n) {ns : List Int} {k : Nat} {names : List Tx} {ways : Nat} {S : DH} {Q : DK} (hl : ns.length ≤ 63) (hk : k ≤ 999900) (ho : NamesOk names) (hw : 0 < ways) (hw2 : ways ≤ 12)
    (h : ∀ a ∈ names, ∀ b ∈ names, ∀ v ∈ pool names, ∀ w ∈ pool names, ∀ x ∈ menuE w, ∀ two ∈ menuT, ∀ f ∈ names, ∀ r ∈ (menuR a b v x two f).take ways, Q (encRc r) S) :
    D cl n ix__law_recipe [.scr ns, .int k, .lst (names.map .str), .int ways] S Q := by
  obtain ⟨n, rfl⟩ : ∃ j, n = j + 1 := ⟨n - 1, by omega⟩
  have ho1 := ho.lo
  have ho2 := ho.hi
  have hpos : 0 < (names.map DV.str).length := by rw [List.length_map]; omega
  have hlen : (names.map DV.str).length = names.length := List.length_map ..
  walk_at "w"
  refine ⟨rfl, ?_⟩
  walk_at "w"
  refine sp_draw (by omega) hl (by omega) hpos fun r1 h1 => ?_
  walk_at "w"
  obtain ⟨a, ha, qa⟩ := menu_get (f := DV.str) (xs := names) (r := r1) (by omega)
  refine opt_some qa ?_
  walk_at "w"
  refine sp_draw (k := k + 1) (by omega) hl (by omega) hpos fun r2 h2 => ?_
  walk_at "w"
  obtain ⟨b, hb, qb⟩ := menu_get (f := DV.str) (xs := names) (r := r2) (by omega)
  refine opt_some qb ?_
  walk_at "w"
  refine sp_value (k := k + 2) (by omega) hl (by omega) (by omega) fun v hv => ?_
  walk_at "w"
  refine sp_expr (k := k + 3) (by omega) hl (by omega) (by omega) fun w hw x hx => ?_
  walk_at "w"
  refine sp_draw (k := k + 5) (m := 3) (by omega) hl (by omega) (by decide) fun r3 h3 => ?_
  walk_at "w"
  obtain ⟨two, h2, q2⟩ := menu_get (f := encE) (xs := menuT) (r := r3) h3
  refine opt_some q2 ?_
  walk_at "w"
  refine sp_draw (k := k + 6) (by omega) hl (by omega) hpos fun r4 h4 => ?_
  walk_at "w"
  obtain ⟨f, hf, qf⟩ := menu_get (f := DV.str) (xs := names) (r := r4) (by omega)
  refine opt_some qf ?_
  walk_at "w"
  refine sp_draw (k := k + 7) (by omega) hl (by omega) (by omega) fun r5 h5 => ?_
  walk_at "w"
  obtain ⟨r, hr, q⟩ := menu_take (f := encRc) (xs := menuR a b v x two f) (w := ways) (r := r5) h5 (by simpa [menuR] using hw2)
  exact opt_some q (rt_ok (h a ha b hb v hv w hw x hx two h2 f hf r hr))
end DL

set_option maxRecDepth 100000
set_option linter.all false
namespace DL
local macro_rules | `(tactic| walk_at "w") => `(tactic| conv => whnf)
/-! loops with an invariant -/
theorem fLoop_inv {cs : Cs} {g : WG} {tb : WS} {D : DEnds} (Inv : List DV → Env' → DH → Prop) (hend : ∀ ρ S, Inv [] ρ S → okcs cs S ∧ D.nx ρ S)
    (hstep : ∀ x xs ρ S (K : Env' → DH → Prop), Inv (x :: xs) ρ S → (∀ ρ' S', Inv xs ρ' S' → K ρ' S') → okcs cs S ∧ g x ρ S fun ρ1 S1 => tb { nx := K, ct := K, bk := D.nx, rt := D.rt } ρ1 S1) :
    ∀ (xs : List DV) (ρ : Env') (S : DH), Inv xs ρ S → fLoop cs g tb xs D ρ S
  | [], ρ, S, h => okc_iff.mpr (hend ρ S h)
  | x :: xs, ρ, S, h => okc_iff.mpr (hstep x xs ρ S _ h fun ρ' S' h' => fLoop_inv Inv hend hstep xs ρ' S' h')
theorem wLoop_inv {c : WT} {tb : WS} {D : DEnds} (Inv : Nat → Env' → DH → Prop)
    (hstep : ∀ n ρ S (K : Env' → DH → Prop), Inv n ρ S → (∀ m ρ' S', m < n → Inv m ρ' S' → K ρ' S') → c ρ S fun k S1 => br k (tb { nx := K, ct := K, bk := D.nx, rt := D.rt } ρ S1) (D.nx ρ S1)) :
    ∀ (f n : Nat) (ρ : Env') (S : DH), n < f → Inv n ρ S → wLoop c tb f D ρ S
  | 0, _, _, _, z, _ => absurd z (by omega)
  | f + 1, n, ρ, S, hn, h => hstep n ρ S _ h fun m ρ' S' hm h' => wLoop_inv Inv hstep f m ρ' S' (by omega) h'
theorem wWhile_inv {c : WT} {tb : WS} {D : DEnds} (Inv : Nat → Env' → DH → Prop)
    (hstep : ∀ n ρ S (K : Env' → DH → Prop), Inv n ρ S → (∀ m ρ' S', m < n → Inv m ρ' S' → K ρ' S') → c ρ S fun k S1 => br k (tb { nx := K, ct := K, bk := D.nx, rt := D.rt } ρ S1) (D.nx ρ S1))
    (n : Nat) (ρ : Env') (S : DH) (h : Inv n ρ S) : wWhile c tb D ρ S := ⟨n + 1, wLoop_inv Inv hstep (n + 1) n ρ S (by omega) h⟩
/-! fits -/
mutual
def fitsB : Nat → Val → Bool
  | _, .int i => leI (-1000000000000000000) i && leI i 1000000000000000000
  | _, .str s => leI s.length 20
  | d, .row vs => ltI d 4 && (leI vs.length 8 && fitsAll (d + 1) vs)
def fitsAll : Nat → List Val → Bool
  | _, [] => true
  | d, v :: vs => fitsB d v && fitsAll d vs
end
theorem fitsAll_eq (d : Nat) : ∀ vs, fitsAll d vs = vs.all (fitsB d)
  | [] => rfl
  | v :: vs => by simp [fitsAll, fitsAll_eq d vs]
theorem fits_bd : ∀ {d : Nat} {v : Val}, d ≤ 4 → fitsB d v = true → Bd (4 - d) v
  | d, .int i, _, h => .int (by simp [fitsB, leI_eq] at h; omega)
  | d, .str s, _, h => .str (by simp [fitsB, leI_eq] at h; omega)
  | d, .row vs, hd, h => by
    simp only [fitsB, Bool.and_eq_true, leI_iff, ltI_iff, fitsAll_eq, List.all_eq_true] at h
    obtain ⟨h1, h2, h3⟩ := h
    obtain ⟨k, hk⟩ : ∃ k, 4 - d = k + 1 := ⟨3 - d, by omega⟩
    rw [hk]
    refine .row (by omega) fun v hv => ?_
    have := fits_bd (by omega) (h3 v hv)
    rwa [show 4 - (d + 1) = k by omega] at this
/-- texts not overlong, at any depth -/
inductive Bg : Val → Prop
  | int {i : Int} : Bg (.int i)
  | str {s : Tx} (h : s.length ≤ 100) : Bg (.str s)
  | row {vs : List Val} (h : ∀ v ∈ vs, Bg v) : Bg (.row vs)
theorem Bd.bg {d : Nat} {v : Val} (h : Bd d v) : Bg v := by
  induction h with
  | int h => exact .int
  | str h => exact .str (by omega)
  | row hl _ ih => exact .row ih
theorem bls_map {α : Type} (f : α → Bool) : ∀ xs : List α, bls (xs.map fun x => .bl (f x)) = some (xs.map f)
  | [] => rfl
  | x :: r => by simp [bls, bls_map f r]
theorem sp_fits {cl : Nat → PySem.Addr} : ∀ {n d : Nat} {v : Val} {S : DH} {Q : DK}, 5 ≤ n + d → d ≤ 4 → Bg v → Q (.bl (fitsB d v)) S → D cl n ix__law_fits [encV v, .int d] S Q
  | 0, d, v, S, Q, hn, hd, hb, h => absurd hn (by omega)
  | n + 1, d, .int i, S, Q, hn, hd, hb, h => by
    walk_at "w"
    refine ⟨rfl, ?_⟩
    walk_at "w"
    rw [fitsB] at h
    refine br_split (fun e => ?_) fun e => ?_
    · walk_at "w"
      rw [show leI (-1000000000000000000) i = true from e] at h
      exact rt_ok h
    · walk_at "w"
      rw [show leI (-1000000000000000000) i = false from e] at h
      exact rt_ok h
  | n + 1, d, .str s, S, Q, hn, hd, .str hb, h => by
    walk_at "w"
    refine ⟨rfl, ?_⟩
    walk_at "w"
    refine gd_t (decide_eq_true (by omega)) ?_
    exact rt_ok h
  | n + 1, d, .row vs, S, Q, hn, hd, .row hb, h => by
    walk_at "w"
    refine ⟨rfl, ?_⟩
    walk_at "w"
    rw [fitsB] at h
    refine br_split (fun e => ?_) fun e => ?_
    · rw [e] at h
      walk_at "w"
      rw [encVs_map, List.length_map]
      refine br_split (fun e => ?_) fun e => ?_
      · rw [e] at h
        have h4 := ltI_iff.mp (by assumption : ltI (d : Int) 4 = true)
        have h8 := leI_iff.mp e
        walk_at "w"
        rw [encVs_map]
        refine comp_map (f := fun v => .bl (fitsB (d + 1) v)) vs (fun _ z => nomatch z) (by omega) (fun v hvv S' Q' _ q => ?_) ?_
        · walk_at "w"
          exact sp_fits (d := d + 1) (by omega) (by omega) (hb v hvv) q
        · walk_at "w"
          rw [bls_map]
          refine rt_ok ?_
          rw [fitsAll_eq] at h
          simp only [List.all_map]
          exact h
      · rw [e] at h
        exact rt_ok h
    · rw [e] at h
      exact rt_ok h
end DL

set_option maxRecDepth 100000
set_option linter.all false
namespace DL
local macro_rules | `(tactic| walk_at "w") => `(tactic| conv => whnf)
def encO : Option Val → DV
  | none => .non
  | some v => encV v
def partF (vs : List Val) (i : Int) : Val := match leI 0 i && ltI i vs.length with
  | true => (getN vs i.toNat).getD (.row [])
  | false => .row []
def ofTwo : Op → Val → Val → Option Val
  | .same, a, b => some (.int (match decide (stamp a = stamp b) with | true => 1 | false => 0))
  | .part, .row vs, .int i => some (partF vs i)
  | .join, .str x, .str y => some (.str (x ++ y))
  | .join, .row x, .row y => some (.row (x ++ y))
  | .sum, .int i, .int j => some (.int (i + j))
  | .less, .int i, .int j => some (.int (match ltI i j with | true => 1 | false => 0))
  | _, _, _ => none
theorem encVs_app : ∀ a b, encVs (a ++ b) = encVs a ++ encVs b := fun a b => by simp [encVs_map]
theorem sp_of_two {cl : Nat → PySem.Addr} {n : Nat} (hn : 6 ≤ n) {o : Op} {a b : Val} {S : DH} {Q : DK} (ha : Bd 4 a) (hb : Bd 4 b) (h : Q (encO (ofTwo o a b)) S) : D cl n ix__law_of_two [.str (opT o), encV a, encV b] S Q := by
  obtain ⟨n, rfl⟩ : ∃ j, n = j + 1 := ⟨n - 1, by omega⟩
  cases o with
  | same =>
    have key : ∀ S2, (∀ z, Q z S → Q z S2) → D cl (n + 1) ix__law_stamp [encV a] S2 fun x S3 => D cl (n + 1) ix__law_stamp [encV b] S3 fun y S4 => Q (.int 0) S4 ∨ True := fun S2 _ => sp_stamp ha (by omega) (by omega) (sp_stamp hb (by omega) (by omega) (Or.inr trivial))
    cases a <;> cases b <;> walk_at "w" <;> refine ⟨rfl, ?_⟩ <;> walk_at "w" <;>
      refine sp_stamp ha (by omega) (by omega) ?_ <;> walk_at "w" <;> refine sp_stamp hb (by omega) (by omega) ?_ <;> walk_at "w" <;> exact rt_ok h
  | part =>
    cases a <;> cases b <;> walk_at "w" <;> refine ⟨rfl, ?_⟩ <;> walk_at "w" <;> first
      | exact rt_ok h
      | skip
    rename_i vs i
    have h : Q (encV (partF vs i)) S := h
    unfold partF at h
    refine br_split (fun e => ?_) fun e => ?_
    · walk_at "w"
      rw [encVs_map, List.length_map]
      rw [e] at h
      refine br_split (fun e2 => ?_) fun e2 => ?_
      · rw [e2] at h
        walk_at "w"
        have h0 := leI_iff.mp e
        have h1 := ltI_iff.mp e2
        refine opt_some (d := encV (vs[i.toNat]'(by omega))) ?_ (rt_ok ?_)
        · show atD (encVs vs) i = _
          rw [encVs_map, atD_nat h0 (by simpa using h1)]; simp
        · have h : Q (encV ((getN vs i.toNat).getD (.row []))) S := h
          rw [getN_eq, List.getElem?_eq_getElem (by omega)] at h
          exact h
      · rw [e2] at h
        exact rt_ok h
    · rw [e] at h
      exact rt_ok h
  | join =>
    cases ha <;> cases hb <;> walk_at "w" <;> refine ⟨rfl, ?_⟩ <;> walk_at "w" <;> first
      | exact rt_ok h
      | skip
    · refine gd_t (decide_eq_true (by omega)) (rt_ok h)
    · refine gd_t (decide_eq_true (by simp only [encVs_map, List.length_map, List.length_append]; omega)) (rt_ok ?_)
      have h : Q (.tup (encVs (_ ++ _))) S := h
      rw [encVs_app] at h
      exact h
  | sum =>
    cases a <;> cases b <;> walk_at "w" <;> refine ⟨rfl, ?_⟩ <;> walk_at "w" <;> exact rt_ok h
  | less =>
    cases a <;> cases b <;> walk_at "w" <;> refine ⟨rfl, ?_⟩ <;> walk_at "w" <;> exact rt_ok h
end DL

set_option maxRecDepth 100000
set_option linter.all false
namespace DL
local macro_rules | `(tactic| walk_at "w") => `(tactic| conv => whnf)
inductive Res where
  | val (v : Val) | bad (w : Tx)
def encRes : Res → DV
  | .val v => .tup [.str [118, 97, 108, 117, 101], encV v]
  | .bad w => .tup [.str [102, 97, 105, 108, 115], .str w]
def firstBad : List Res → Option Tx
  | [] => none
  | .bad w :: _ => some w
  | .val _ :: r => firstBad r
def valR : Res → Val
  | .val v => v
  | .bad _ => .int 0
def finR (v : Val) : Res := match fitsB 0 v with
  | true => .val v
  | false => .bad [103, 114, 101, 97, 116]
def partBad : Op → Val → Val → Bool
  | .part, .row vs, .int i => !(leI 0 i && ltI i vs.length)
  | _, _, _ => false
def binR (o : Op) (x y : Val) : Res := match ofTwo o x y with
  | none => .bad [107, 105, 110, 100]
  | some v => match partBad o x y with
    | true => .bad [112, 97, 114, 116]
    | false => finR v
def manyR : Val → Res
  | .int _ => .bad [107, 105, 110, 100]
  | .str s => .val (.int s.length)
  | .row vs => .val (.int vs.length)
mutual
def toldF (gots : List Val) : Ex → Res
  | .put v => .val v
  | .got k => .val (gots.getD k (.int 0))
  | .row es => match firstBad (toldsF gots es) with
    | some w => .bad w
    | none => finR (.row ((toldsF gots es).map valR))
  | .many e => match toldF gots e with
    | .bad w => .bad w
    | .val v => manyR v
  | .bin o a b => match toldF gots a, toldF gots b with
    | .bad w, _ => .bad w
    | .val _, .bad w => .bad w
    | .val x, .val y => binR o x y
def toldsF (gots : List Val) : List Ex → List Res
  | [] => []
  | e :: es => toldF gots e :: toldsF gots es
end
theorem toldsF_map (gots : List Val) : ∀ es, toldsF gots es = es.map (toldF gots)
  | [] => rfl
  | e :: es => by simp [toldsF, toldsF_map gots es]
theorem finR_bd {v w : Val} (h : finR v = .val w) : Bd 4 w := by
  unfold finR at h
  cases e : fitsB 0 v with
  | true => rw [e] at h; cases h; exact fits_bd (by decide) e
  | false => rw [e] at h; cases h
theorem binR_bd {o : Op} {x y v : Val} (h : binR o x y = .val v) : Bd 4 v := by
  unfold binR at h
  split at h
  · cases h
  · split at h
    · cases h
    · exact finR_bd h
theorem told_bd {P : Val → Prop} (hP : ∀ v, P v → Bd 4 v) {gots : List Val} (hg : ∀ v ∈ gots, Bd 4 v) : ∀ {d : Nat} {e : Ex} {v : Val}, OkE P gots.length d e → toldF gots e = .val v → Bd 4 v
  | d, .put w, v, .put h, q => by rw [toldF] at q; cases q; exact hP _ h
  | d, .got k, v, .got h, q => by
    rw [toldF] at q; cases q
    rw [List.getD_eq_getElem?_getD, List.getElem?_eq_getElem h]
    exact hg _ (List.getElem_mem h)
  | d + 1, .row es, v, .row _ _, q => by
    rw [toldF] at q
    split at q
    · cases q
    · exact finR_bd q
  | d + 1, .many e, v, .many h, q => by
    rw [toldF] at q
    split at q
    · cases q
    · rename_i w hw
      have := told_bd hP hg h hw
      cases this with
      | int h => cases q
      | str h => cases q; exact .int (by omega)
      | row hl h => cases q; exact .int (by omega)
  | d + 1, .bin o a b, v, .bin _ _, q => by
    rw [toldF] at q
    split at q
    · cases q
    · cases q
    · exact binR_bd q
theorem ofTwo_bg {o : Op} {x y v : Val} (hx : Bd 4 x) (hy : Bd 4 y) (h : ofTwo o x y = some v) : Bg v := by
  cases o with
  | same => rw [ofTwo] at h; cases h; exact .int
  | sum => cases hx <;> cases hy <;> simp only [ofTwo] at h <;> cases h; exact .int
  | less => cases hx <;> cases hy <;> simp only [ofTwo] at h <;> cases h; exact .int
  | join =>
    cases hx <;> cases hy <;> simp only [ofTwo] at h <;> cases h
    · exact .str (by simp only [List.length_append]; omega)
    · rename_i h1 _ _ h2
      refine .row fun v hv => ?_
      rcases List.mem_append.mp hv with hv | hv
      · exact (h1 v hv).bg
      · exact (h2 v hv).bg
  | part =>
    cases hx <;> cases hy <;> simp only [ofTwo] at h <;> cases h
    rename_i vs _ h1 i _
    unfold partF
    split
    · rw [getN_eq]
      cases q : vs[i.toNat]? with
      | none => exact .row fun v hv => nomatch hv
      | some v => exact (h1 v (List.mem_of_getElem? q)).bg
    · exact .row fun v hv => nomatch hv
theorem asL_ref {S : DH} {g : PySem.Addr} {ds : List DV} (h : S g = some (.lst ds)) : asL S (.ref g) = some ds := by simp [asL, h]
theorem firstBad_none : ∀ {rs : List Res}, firstBad rs = none → ∀ w, Res.bad w ∉ rs
  | [], _, w, h => nomatch h
  | .bad w :: rs, e, _, _ => by cases e
  | .val v :: rs, e, w, h => by
    rcases List.mem_cons.mp h with h | h
    · cases h
    · exact firstBad_none (rs := rs) e w h
theorem parts_loop {a0 a1 a2 : DV} {D : DEnds} {S : DH} (h1 : ∀ x, D.nx [some a0, some a1, some a2, x, none, none] S → True) : ∀ (rs : List Res) (x : Option DV),
    (match firstBad rs with | some w => D.rt (encRes (.bad w)) S | none => ∀ x, D.nx [some a0, some a1, some a2, x, none, none] S) →
    fLoop [] (wgN 3) (wIf (wBinT dEq (wBin dIxS (wVar 3) (wC (.int 0))) (wC (.str [102, 97, 105, 108, 115]))) (wRet (wVar 3)) (wNext)) (rs.map encRes) D [some a0, some a1, some a2, x, none, none] S
  | [], x, h => okc_iff.mpr ⟨(fun _ z => nomatch z), h x⟩
  | .bad w :: rs, x, h => okc_iff.mpr ⟨(fun _ z => nomatch z), by walk_at "w"; exact h⟩
  | .val v :: rs, x, h => okc_iff.mpr ⟨(fun _ z => nomatch z), by walk_at "w"; exact parts_loop h1 rs _ h⟩
theorem sp_told {cl : Nat → PySem.Addr} {P : Val → Prop} (hP : ∀ v, P v → Bd 4 v) {gots : List Val} (hg : ∀ v ∈ gots, Bd 4 v) {g : PySem.Addr} : ∀ {n d : Nat} {e : Ex} {S : DH} {Q : DK}, d + 7 ≤ n → OkE P gots.length d e →
    S g = some (.lst (gots.map encV)) → Q (encRes (toldF gots e)) S → D cl n ix__law_told [encE e, .ref g] S Q
  | 0, d, e, S, Q, hn, ho, hs, h => absurd hn (by omega)
  | n + 1, d, .put v, S, Q, hn, ho, hs, h => by
    walk_at "w"
    refine ⟨rfl, ?_⟩
    walk_at "w"
    exact rt_ok h
  | n + 1, d, .got k, S, Q, hn, .got ho, hs, h => by
    walk_at "w"
    refine ⟨rfl, ?_⟩
    walk_at "w"
    rw [asL_ref hs]
    walk_at "w"
    refine opt_some (d := encV gots[k]) ?_ (rt_ok ?_)
    · show atD (gots.map encV) (k : Int) = _
      rw [atD_ofNat]; simp [List.getElem?_eq_getElem ho]
    · rw [toldF, List.getD_eq_getElem?_getD, List.getElem?_eq_getElem ho] at h
      exact h
  | n + 1, d + 1, .row es, S, Q, hn, .row hl ho, hs, h => by
    walk_at "w"
    refine ⟨rfl, ?_⟩
    walk_at "w"
    rw [encEs_map]
    refine comp_map (f := fun e => encRes (toldF gots e)) es (fun _ z => nomatch z) (by omega) (fun e he S' Q' sub q => ?_) ?_
    · walk_at "w"
      exact sp_told hP hg (by omega) (ho e he) (sub _ _ hs) q
    · rw [show es.map (fun e => encRes (toldF gots e)) = (toldsF gots es).map encRes by rw [toldsF_map, List.map_map]; rfl]
      walk_at "w"
      refine parts_loop (fun _ _ => trivial) _ _ ?_
      rw [toldF] at h
      cases hf : firstBad (toldsF gots es) with
      | some w => rw [hf] at h; exact rt_ok h
      | none =>
        rw [hf] at h
        intro x
        walk_at "w"
        refine comp_map (enc := encRes) (f := fun r => encV (valR r)) (toldsF gots es) (fun _ z => nomatch z) (by rw [toldsF_map, List.length_map]; omega) (fun r hr S' Q' sub q => ?_) ?_
        · cases r with
          | val v => walk_at "w"; exact q
          | bad w => exact absurd hr (firstBad_none hf w)
        · rw [show (toldsF gots es).map (fun r => encV (valR r)) = encVs ((toldsF gots es).map valR) by rw [encVs_map, List.map_map]; rfl]
          walk_at "w"
          refine sp_fits (n := n) (v := .row ((toldsF gots es).map valR)) (d := 0) (Q := _) (by omega) (by omega) (.row fun v hv => ?_) ?_
          · obtain ⟨r, hr, rfl⟩ := List.mem_map.mp hv
            rw [toldsF_map] at hr
            obtain ⟨e, he, rfl⟩ := List.mem_map.mp hr
            cases q : toldF gots e with
            | val v => exact (told_bd hP hg (ho e he) q).bg
            | bad w => exact .int
          · have h : Q (encRes (finR (.row ((toldsF gots es).map valR)))) S := h
            unfold finR at h
            cases q : fitsB 0 (.row ((toldsF gots es).map valR)) with
            | true =>
              rw [q] at h
              walk_at "w"
              exact rt_ok h
            | false =>
              rw [q] at h
              exact rt_ok h
  | n + 1, d + 1, .many e, S, Q, hn, .many ho, hs, h => by
    walk_at "w"
    refine ⟨rfl, ?_⟩
    walk_at "w"
    rw [toldF] at h
    obtain ⟨r, hr⟩ : ∃ r, toldF gots e = r := ⟨_, rfl⟩
    rw [hr] at h
    refine comp_map (enc := fun p : Ex × Res => encE p.1) (f := fun p => encRes p.2) [(e, r)] (fun _ z => nomatch z) (by simp) (fun p hp S' Q' sub q => ?_) ?_
    · cases List.mem_singleton.mp hp
      walk_at "w"
      refine sp_told hP hg (by omega) ho (sub _ _ hs) ?_
      rw [hr]; exact q
    · cases r with
      | bad w => walk_at "w"; exact rt_ok h
      | val v =>
        walk_at "w"
        refine comp_map (enc := fun v : Val => encRes (.val v)) (f := encV) [v] (fun _ z => nomatch z) (by simp) (fun p hp S' Q' sub q => ?_) ?_
        · walk_at "w"; exact q
        · have hb := told_bd hP hg ho hr
          cases hb with
          | int h1 => walk_at "w"; exact rt_ok h
          | str h1 => walk_at "w"; exact gd_t (decide_eq_true (by omega)) (rt_ok h)
          | @row _ vs hl h1 =>
            walk_at "w"
            refine rt_ok ?_
            rw [encVs_map, List.length_map]
            exact h
  | n + 1, d + 1, .bin o a b, S, Q, hn, .bin ha hb, hs, h => by
    rw [toldF] at h
    obtain ⟨ra, hra⟩ : ∃ r, toldF gots a = r := ⟨_, rfl⟩
    obtain ⟨rb, hrb⟩ : ∃ r, toldF gots b = r := ⟨_, rfl⟩
    rw [hra, hrb] at h
    obtain ⟨o', ho'⟩ : ∃ o', o' = o := ⟨_, rfl⟩
    cases o <;> walk_at "w" <;> refine ⟨rfl, ?_⟩ <;> walk_at "w" <;>
      refine comp_map (enc := fun p : Ex × Res => encE p.1) (f := fun p => encRes p.2) [(a, ra), (b, rb)] (fun _ z => nomatch z) (by simp) (fun p hp S' Q' sub q => ?_) ?_ <;> first
      | (rcases List.mem_cons.mp hp with rfl | hp
         · walk_at "w"; exact sp_told hP hg (by omega) ha (sub _ _ hs) (by rw [hra]; exact q)
         · cases List.mem_singleton.mp hp
           walk_at "w"; exact sp_told hP hg (by omega) hb (sub _ _ hs) (by rw [hrb]; exact q))
      | skip
    all_goals
      cases ra with
      | bad w => walk_at "w"; exact rt_ok h
      | val x =>
        cases rb with
        | bad w => walk_at "w"; exact rt_ok h
        | val y =>
          have hx := told_bd hP hg ha hra
          have hy := told_bd hP hg hb hrb
          walk_at "w"
          refine comp_map (enc := fun v : Val => encRes (.val v)) (f := encV) [x, y] (fun _ z => nomatch z) (by simp) (fun p hp S' Q' sub q => ?_) ?_
          · walk_at "w"; exact q
          walk_at "w"
          refine sp_of_two (by omega) hx hy ?_
          have h : Q (encRes (binR o' x y)) S := by rw [ho']; exact h
          unfold binR at h
          rw [← ho']
          cases hf : ofTwo o' x y with
          | none => rw [hf] at h; subst ho'; walk_at "w"; exact rt_ok h
          | some v =>
            rw [hf] at h
            have hv := ofTwo_bg hx hy hf
            subst ho'
            cases v <;> walk_at "w" <;> first
              | (refine sp_fits (n := n) (d := 0) (by omega) (by omega) hv ?_
                 have h : Q (encRes (finR _)) S := h
                 unfold finR at h
                 revert h
                 generalize fitsB 0 _ = k
                 intro h
                 cases k <;> exact rt_ok h)
              | (cases hx <;> cases hy <;> simp only [ofTwo, reduceCtorEq] at hf)
            all_goals
              rename_i vs hl hvs i hi hold
              have h : Q (encRes (match !(leI 0 i && ltI i vs.length) with | true => .bad [112, 97, 114, 116] | false => finR _)) S := h
              walk_at "w"
              refine br_split (fun e => ?_) fun e => ?_
              · rw [e] at h
                walk_at "w"
                rw [encVs_map, List.length_map]
                refine br_split (fun e => ?_) fun e => ?_
                · rw [show ltI i vs.length = false by simpa using e] at h
                  exact rt_ok h
                · rw [show ltI i vs.length = true by simpa using e] at h
                  walk_at "w"
                  refine sp_fits (n := n) (d := 0) (by omega) (by omega) hv ?_
                  have h : Q (encRes (finR _)) S := h
                  unfold finR at h
                  revert h
                  generalize fitsB 0 _ = k
                  intro h
                  cases k <;> exact rt_ok h
              · rw [e] at h
                exact rt_ok h
end DL

set_option maxRecDepth 100000
set_option linter.all false
namespace DL
open PySem
def cpT (s : Tx) : Bool := s.all fun c => decide (c < 1114112)
theorem strOk_sOf (s : Tx) : PyData.strOk (sOf s) = cpT s := by
  unfold PyData.strOk sOf cpT
  simp
theorem okE_str {s : Tx} (h : cpT s = true) : okE (.str s) = true := by simp [okE, toP, SeqAt.shaped, PyData.canLay0, PyData.depth, strOk_sOf, h]
theorem deqv_str (s t : Tx) : deqv (.str s) (.str t) = decide (s = t) := by
  simp only [deqv, toP, PyData.eqv]
  by_cases h : s = t
  · subst h; simp
  · rw [decide_eq_false h]
    simp only [beq_eq_false_iff_ne]
    exact fun e => h (sOf_inj e)
theorem ok_two {s a b : Tx} (h : cpT s = true) (ha : cpT a = true) (hb : cpT b = true) : (okE (.str s) && okE (.tup [.str a, .str b])) = true := by
  simp [okE, toP, toPs, SeqAt.shaped, PyData.canLay0, PyData.canLayAll0, PyData.depth, PyData.depthAll, strOk_sOf, h, ha, hb]
theorem any_two (s a b : Tx) : ([DV.str a, DV.str b].any fun z => deqv z (.str s)) = (decide (a = s) || decide (b = s)) := by
  simp [deqv_str]
/-- its texts are texts -/
inductive Cp : Val → Prop
  | int {i : Int} : Cp (.int i)
  | str {s : Tx} (h : cpT s = true) : Cp (.str s)
  | row {vs : List Val} (h : ∀ v ∈ vs, Cp v) : Cp (.row vs)
theorem toP_val : ∀ {d : Nat} {v : Val}, Bd d v → Cp v → ∃ p, toP (encV v) = some p ∧ p.canLay0 = true ∧ p.depth ≤ d + 1
  | d, .int i, .int h, _ => ⟨.int i, by simp [encV, toP], by simp [PyData.canLay0], by simp [PyData.depth]⟩
  | d, .str s, .str h, .str hc => ⟨.str (sOf s), by simp [encV, toP], by simp [PyData.canLay0, strOk_sOf, hc], by simp [PyData.depth]⟩
  | d + 1, .row vs, .row hl h, .row hc => by
    have key : ∀ ws : List Val, (∀ v ∈ ws, Bd d v) → (∀ v ∈ ws, Cp v) → ∃ ps, toPs (encVs ws) = some ps ∧ PyData.canLayAll0 ps = true ∧ PyData.depthAll ps ≤ d + 1 := fun ws => by
      intro hw hcw
      induction ws with
      | nil => exact ⟨[], by simp [encVs, toPs], by simp [PyData.canLayAll0], by simp [PyData.depthAll]⟩
      | cons w ws ih =>
        obtain ⟨ps, e1, e2, e3⟩ := ih (fun x hx => hw x (List.mem_cons_of_mem _ hx)) fun x hx => hcw x (List.mem_cons_of_mem _ hx)
        obtain ⟨p, f1, f2, f3⟩ := toP_val (hw w (List.mem_cons_self ..)) (hcw w (List.mem_cons_self ..))
        refine ⟨p :: ps, by simp [encVs, toPs, f1, e1], by simp [PyData.canLayAll0, f2, e2], ?_⟩
        simp only [PyData.depthAll]; omega
    obtain ⟨ps, e1, e2, e3⟩ := key vs h hc
    refine ⟨.tuple ps, by simp [encV, toP, e1], by simpa [PyData.canLay0] using e2, ?_⟩
    simp only [PyData.depth]; omega
theorem okE_val {d : Nat} {v : Val} (h : Bd d v) (hc : Cp v) (hd : d ≤ 60) : okE (encV v) = true := by
  obtain ⟨p, e1, e2, e3⟩ := toP_val h hc
  unfold okE
  rw [e1]
  simp only [SeqAt.shaped, e2, Bool.true_and, decide_eq_true_eq]
  omega
theorem ok_empty {d : Nat} {v : Val} (h : Bd d v) (hc : Cp v) (hd : d ≤ 60) : (okE (encV v) && okE (.tup [.int 0, .str [], .tup []])) = true := by
  rw [okE_val h hc hd]
  simp [okE, toP, toPs, SeqAt.shaped, PyData.canLay0, PyData.canLayAll0, PyData.depth, PyData.depthAll, strOk_sOf, cpT]
theorem cp_app {a b : Tx} (ha : cpT a = true) (hb : cpT b = true) : cpT (a ++ b) = true := by simp [cpT] at ha hb ⊢; exact ⟨ha, hb⟩
theorem ofTwo_cp {o : Op} {x y v : Val} (hx : Cp x) (hy : Cp y) (h : ofTwo o x y = some v) : Cp v := by
  cases o with
  | same => rw [ofTwo] at h; cases h; exact .int
  | sum => cases hx <;> cases hy <;> simp only [ofTwo, reduceCtorEq] at h <;> cases h; exact .int
  | less => cases hx <;> cases hy <;> simp only [ofTwo, reduceCtorEq] at h <;> cases h; exact .int
  | join =>
    cases hx <;> cases hy <;> simp only [ofTwo, reduceCtorEq] at h <;> cases h
    · rename_i h1 _ h2; exact .str (cp_app h1 h2)
    · rename_i h1 _ h2
      refine .row fun v hv => ?_
      rcases List.mem_append.mp hv with hv | hv
      · exact h1 v hv
      · exact h2 v hv
  | part =>
    cases hx <;> cases hy <;> simp only [ofTwo, reduceCtorEq] at h <;> cases h
    rename_i vs h1 i
    unfold partF
    split
    · rw [getN_eq]
      cases q : vs[i.toNat]? with
      | none => exact .row fun v hv => nomatch hv
      | some v => exact h1 v (List.mem_of_getElem? q)
    · exact .row fun v hv => nomatch hv
theorem finR_cp {v w : Val} (h : finR v = .val w) (hv : Cp v) : Cp w := by
  unfold finR at h
  cases e : fitsB 0 v with
  | true => rw [e] at h; cases h; exact hv
  | false => rw [e] at h; cases h
theorem valR_cp {r : Res} (h : ∀ v, r = .val v → Cp v) : Cp (valR r) := by
  cases r with
  | val v => exact h v rfl
  | bad w => exact .int
theorem told_cp {P : Val → Prop} (hP : ∀ v, P v → Cp v) {gots : List Val} (hg : ∀ v ∈ gots, Cp v) : ∀ {d : Nat} {e : Ex} {v : Val}, OkE P gots.length d e → toldF gots e = .val v → Cp v
  | d, .put w, v, .put h, q => by rw [toldF] at q; cases q; exact hP _ h
  | d, .got k, v, .got h, q => by
    rw [toldF] at q; cases q
    rw [List.getD_eq_getElem?_getD, List.getElem?_eq_getElem h]
    exact hg _ (List.getElem_mem h)
  | d + 1, .row es, v, .row _ ho, q => by
    rw [toldF] at q
    split at q
    · cases q
    · refine finR_cp q (.row fun w hw => ?_)
      obtain ⟨r, hr, rfl⟩ := List.mem_map.mp hw
      rw [toldsF_map] at hr
      obtain ⟨e, he, rfl⟩ := List.mem_map.mp hr
      exact valR_cp fun v e' => told_cp hP hg (ho e he) e'
  | d + 1, .many e, v, .many h, q => by
    rw [toldF] at q
    split at q
    · cases q
    · rename_i w hw
      cases w <;> cases q <;> exact .int
  | d + 1, .bin o a b, v, .bin ha hb, q => by
    rw [toldF] at q
    split at q
    · cases q
    · cases q
    · rename_i x y e1 e2
      unfold binR at q
      split at q
      · cases q
      · rename_i v2 e3
        have hv := ofTwo_cp (told_cp hP hg ha e1) (told_cp hP hg hb e2) e3
        split at q
        · cases q
        · exact finR_cp q hv
end DL

set_option maxRecDepth 100000
set_option linter.all false
namespace DL
local macro_rules | `(tactic| walk_at "w") => `(tactic| conv => whnf)
def abc : Tx := [97, 98, 99, 100, 101, 102, 103, 104, 105, 106, 107, 108, 109, 110, 111, 112, 113, 114, 115, 116, 117, 118, 119, 120, 121, 122]
def isName : Val → Bool
  | .str s => leI 1 s.length && leI s.length 8 && s.all fun c => decide (c ∈ abc)
  | _ => false
theorem sp_is_name {cl : Nat → PySem.Addr} {n : Nat} (hn : 1 ≤ n) {v : Val} {S : DH} {Q : DK} (hb : Bg v) (h : Q (.bl (isName v)) S) : D cl n ix__law_is_name [encV v] S Q := by
  obtain ⟨n, rfl⟩ : ∃ j, n = j + 1 := ⟨n - 1, by omega⟩
  cases hb with
  | int => walk_at "w"; refine ⟨rfl, ?_⟩; walk_at "w"; exact rt_ok h
  | row h1 => walk_at "w"; refine ⟨rfl, ?_⟩; walk_at "w"; exact rt_ok h
  | @str s h1 =>
    rw [isName] at h
    walk_at "w"
    refine ⟨rfl, ?_⟩
    walk_at "w"
    refine gd_t (decide_eq_true (by omega)) ?_
    walk_at "w"
    cases e1 : leI 1 s.length with
    | false => rw [e1] at h; walk_at "w"; exact rt_ok h
    | true =>
      rw [e1] at h
      walk_at "w"
      cases e2 : leI s.length 8 with
      | false => rw [e2] at h; walk_at "w"; exact rt_ok h
      | true =>
        rw [e2] at h
        walk_at "w"
        refine comp_map (enc := fun c : Nat => .str [c]) (f := fun c : Nat => .bl (decide (c ∈ abc))) s (fun _ z => nomatch z) (by omega) (fun v hvv S' Q' _ q => ?_) ?_
        · walk_at "w"
          have e : (false ^^ decide (v ∈ abc)) = decide (v ∈ abc) := Bool.false_xor _
          rw [← e] at q
          exact q
        · walk_at "w"
          rw [bls_map]
          refine rt_ok ?_
          simp only [List.all_map]
          exact h
inductive End where
  | fails (w : Tx) | wants (w : Tx) | made (w : Tx)
def encEnd : End → DV
  | .fails w => .tup [.str [102, 97, 105, 108, 115], .str w]
  | .wants w => .tup [.str [119, 97, 110, 116, 115], .str w]
  | .made w => .tup [.str [109, 97, 100, 101], .str w]
abbrev Reads := List (Tx × Tx)
def encRead (p : Tx × Tx) : DV := .tup [.str p.1, .str p.2]
def emptyV (v : Val) : Bool := [DV.int 0, .str [], .tup []].any fun z => deqv z (encV v)
def nameV : Val → Tx
  | .str s => s
  | _ => []
structure Ran where
  reads : Reads
  fin : End
  out : Option Val
abbrev Good := List (Tx × Val)
def runF (good : Good) (gots : List Val) (reads : Reads) : Rc → Ran
  | .say e => match toldF gots e with
    | .bad w => ⟨reads, .fails w, none⟩
    | .val v => ⟨reads, .made (stamp v), some v⟩
  | .fail w => ⟨reads, .fails w, none⟩
  | .want e r => match toldF gots e with
    | .bad w => ⟨reads, .fails w, none⟩
    | .val v => match isName v with
      | false => ⟨reads, .fails [110, 97, 109, 101], none⟩
      | true => match good.lookup (nameV v) with
        | none => ⟨reads, .wants (nameV v), none⟩
        | some g => runF good (gots ++ [g]) (reads ++ [(nameV v, stamp g)]) r
  | .peek e r => match toldF gots e with
    | .bad w => ⟨reads, .fails w, none⟩
    | .val v => match isName v with
      | false => ⟨reads, .fails [110, 97, 109, 101], none⟩
      | true => match good.lookup (nameV v) with
        | none => ⟨reads, .wants (nameV v), none⟩
        | some g => runF good (gots ++ [g]) reads r
  | .cond e a b => match toldF gots e with
    | .bad w => ⟨reads, .fails w, none⟩
    | .val v => match emptyV v with
      | true => runF good gots reads b
      | false => runF good gots reads a
def encRan (r : Ran) : DV := .tup [.tup (r.reads.map encRead), encEnd r.fin, encO r.out]
def rcSize : Rc → Nat
  | .say _ => 0
  | .fail _ => 0
  | .want _ r => rcSize r + 1
  | .peek _ r => rcSize r + 1
  | .cond _ a b => rcSize a + rcSize b + 1
def encG (g : Good) : List (Tx × DV) := g.map fun p => (p.1, encV p.2)
theorem lookup_encG (k : Tx) : ∀ g : Good, (encG g).lookup k = (g.lookup k).map encV
  | [] => rfl
  | (a, v) :: g => by
    show List.lookup k ((a, encV v) :: encG g) = _
    rw [List.lookup_cons, List.lookup_cons]
    cases k == a
    · exact lookup_encG k g
    · rfl
theorem lookup_mem {k : Tx} {v : Val} : ∀ {g : Good}, g.lookup k = some v → (k, v) ∈ g
  | [], h => by cases h
  | (a, w) :: g, h => by
    rw [List.lookup_cons] at h
    cases e : k == a with
    | true => rw [e] at h; cases h; rw [show k = a by simpa using e]; exact List.mem_cons_self ..
    | false => rw [e] at h; exact List.mem_cons_of_mem _ (lookup_mem h)
theorem asL_dic {S : DH} {g : PySem.Addr} {kvs : List (Tx × DV)} (h : S g = some (.dic kvs)) : asL S (.ref g) = none := by simp [asL, h]
theorem isL_ref {S : DH} {g : PySem.Addr} {ds : List DV} (h : S g = some (.lst ds)) : isL S (.ref g) = true := by simp [isL, asL, h]
structure RInv (P : Val → Prop) (S0 : DH) (Q : DK) (good : Good) (Dd g r : PySem.Addr) (n : Nat) (ρ : Env') (S : DH) : Prop where
  ex : ∃ rc gots reads x, rcSize rc = n ∧ ρ = [some (encRc rc), some (.ref Dd), some (.ref g), some (.ref r), x] ∧ S g = some (.lst (gots.map encV)) ∧ S r = some (.lst (reads.map encRead)) ∧
    OkR P gots.length rc ∧ (∀ v ∈ gots, Bd 4 v) ∧ (∀ v ∈ gots, Cp v) ∧ rcSize rc + gots.length ≤ 1000 ∧ reads.length ≤ gots.length ∧ Q (encRan (runF good gots reads rc)) S0
  dd : S Dd = some (.dic (encG good))
  su : Sub S0 S
theorem cp_c : cpT [115, 97, 121] = true ∧ cpT [102, 97, 105, 108] = true ∧ cpT [119, 97, 110, 116] = true ∧ cpT [112, 101, 101, 107] = true ∧ cpT [119, 104, 101, 110] = true := by decide
theorem isName_str {v : Val} (h : isName v = true) : v = .str (nameV v) := by
  cases v with
  | str s => rfl
  | _ => cases h
theorem sp_run {cl : Nat → PySem.Addr} {P : Val → Prop} (hP : ∀ v, P v → Bd 4 v) (hP2 : ∀ v, P v → Cp v) {n : Nat} (hn : 10 ≤ n) {rc : Rc} {good : Good} {Dd : PySem.Addr} {S : DH} {Q : DK} (hd : S Dd = some (.dic (encG good)))
    (hg : ∀ p ∈ good, Bd 4 p.2 ∧ Cp p.2) (ho : OkR P 0 rc) (hz : rcSize rc ≤ 1000) (h : Q (encRan (runF good [] [] rc)) S) : D cl n ix__law_run [encRc rc, .ref Dd] S Q := by
  obtain ⟨n, rfl⟩ : ∃ j, n = j + 1 := ⟨n - 1, by omega⟩
  walk_at "w"
  refine ⟨rfl, ?_⟩
  walk_at "w"
  intro g hgn
  walk_at "w"
  intro r hrn
  have hrg : r ≠ g := fun e => by subst e; rw [put_same] at hrn; cases hrn
  have hDg : Dd ≠ g := fun e => by subst e; rw [hgn] at hd; cases hd
  have hrn : S r = none := by rwa [put_ne hrg] at hrn
  have hDr : Dd ≠ r := fun e => by subst e; rw [hrn] at hd; cases hd
  refine wWhile_inv (RInv P S Q good Dd g r) (fun m ρ S' K inv hK => ?_) (rcSize rc) _ _ ⟨⟨rc, [], [], _, rfl, rfl, by rw [put_ne (Ne.symm hrg), put_same]; rfl, put_same, ho, fun _ z => (nomatch z), fun _ z => (nomatch z), by simpa using hz, by simp, h⟩, by rw [put_ne hDr, put_ne hDg, hd], ((Sub.refl S).put hgn _).put hrn _⟩
  obtain ⟨⟨rc, gots, reads, x, rfl, rfl, hs1, hs2, ho, hgb, hgc, hz, hl, h⟩, hd', hsu⟩ := inv
  have out : ∀ {d : DV}, Q d S → ∃ d2 S2, Weak d S' d2 S2 ∧ Q d2 S2 := fun q => ⟨_, S, .drop hsu, q⟩
  have two : ∀ s t : Tx, (decide (s = t)) = decide (s = t) := fun _ _ => rfl
  cases ho with
  | @fail _ w =>
    walk_at "w"
    refine gd_t (ok_two (by decide) (by decide) (by decide)) ?_
    rw [any_two]
    walk_at "w"
    rw [asL_ref hs2]
    walk_at "w"
    exact out h
  | @say _ e he =>
    rw [runF] at h
    walk_at "w"
    refine gd_t (ok_two (by decide) (by decide) (by decide)) ?_
    rw [any_two]
    walk_at "w"
    refine sp_told hP hgb (by omega) he hs1 ?_
    cases ht : toldF gots e with
    | bad w =>
      rw [ht] at h
      walk_at "w"
      rw [asL_ref hs2]
      walk_at "w"
      exact out h
    | val v =>
      rw [ht] at h
      walk_at "w"
      rw [asL_ref hs2]
      walk_at "w"
      refine sp_stamp (told_bd hP hgb he ht) (by omega) (by omega) ?_
      walk_at "w"
      exact out h
  | @want _ e rc he hr =>
    rw [runF] at h
    walk_at "w"
    refine gd_t (ok_two (by decide) (by decide) (by decide)) ?_
    rw [any_two]
    walk_at "w"
    refine sp_told hP hgb (by omega) he hs1 ?_
    cases ht : toldF gots e with
    | bad w =>
      rw [ht] at h
      walk_at "w"
      rw [asL_ref hs2]
      walk_at "w"
      exact out h
    | val v =>
      rw [ht] at h
      dsimp only at h
      walk_at "w"
      refine sp_is_name (by omega) (told_bd hP hgb he ht).bg ?_
      cases hi : isName v with
      | false =>
        rw [hi] at h
        walk_at "w"
        rw [asL_ref hs2]
        walk_at "w"
        exact out h
      | true =>
        rw [hi] at h
        dsimp only at h
        obtain ⟨nm, rfl⟩ : ∃ nm, v = .str nm := ⟨_, isName_str hi⟩
        have h : Q (encRan (match good.lookup nm with | none => ⟨reads, .wants nm, none⟩ | some g => runF good (gots ++ [g]) (reads ++ [(nm, stamp g)]) rc)) S := h
        walk_at "w"
        rw [asL_dic hd']
        walk_at "w"
        rw [hd']
        walk_at "w"
        have el := lookup_encG nm good
        cases hk : good.lookup nm with
        | none =>
          rw [hk] at h el
          rw [show List.lookup nm (encG good) = none from el]
          walk_at "w"
          rw [asL_ref hs2]
          walk_at "w"
          exact out h
        | some gv =>
          rw [hk] at h el
          dsimp only at h
          rw [show List.lookup nm (encG good) = some (encV gv) from el]
          walk_at "w"
          refine gd_t (isL_ref hs1) ?_
          walk_at "w"
          rw [hd']
          walk_at "w"
          refine opt_some el ?_
          walk_at "w"
          refine ⟨_, hs1, gd_t (decide_eq_true (by rw [List.length_map]; omega)) ?_⟩
          have hb1 := hg _ (lookup_mem hk)
          have b1 : put S' g (.lst (gots.map encV ++ [encV gv])) g = some (.lst ((gots ++ [gv]).map encV)) := by rw [put_same]; simp
          have b2 : put S' g (.lst (gots.map encV ++ [encV gv])) r = some (.lst (reads.map encRead)) := by rw [put_ne hrg, hs2]
          have b3 : put S' g (.lst (gots.map encV ++ [encV gv])) Dd = some (.dic (encG good)) := by rw [put_ne hDg, hd']
          have b4 : Sub S (put S' g (.lst (gots.map encV ++ [encV gv]))) := hsu.put hgn _
          revert b1 b2 b3 b4
          generalize put S' g (.lst (gots.map encV ++ [encV gv])) = S1
          intro b1 b2 b3 b4
          walk_at "w"
          refine gd_t (isL_ref b2) ?_
          walk_at "w"
          rw [asL_ref b1]
          walk_at "w"
          refine opt_some (d := encV gv) (by show getN ((gots ++ [gv]).map encV).reverse 0 = _; simp [getN]) ?_
          walk_at "w"
          refine sp_stamp (d := 4) hb1.1 (by omega) (by omega) ?_
          walk_at "w"
          refine ⟨_, b2, gd_t (decide_eq_true (by rw [List.length_map]; omega)) ?_⟩
          walk_at "w"
          refine hK (rcSize rc) _ _ (by simp [rcSize]) ⟨⟨rc, gots ++ [gv], reads ++ [(nm, stamp gv)], _, rfl, rfl, by rw [put_ne (Ne.symm hrg), b1], by rw [put_same]; simp [encRead, encV], by simpa using hr, ?_, ?_, by simp [rcSize] at hz ⊢; omega, by simp; omega, h⟩, by rw [put_ne hDr, b3], b4.put hrn _⟩
          · intro v hv
            rcases List.mem_append.mp hv with hv | hv
            · exact hgb v hv
            · cases List.mem_singleton.mp hv; exact hb1.1
          · intro v hv
            rcases List.mem_append.mp hv with hv | hv
            · exact hgc v hv
            · cases List.mem_singleton.mp hv; exact hb1.2
  | @peek _ e rc he hr =>
    rw [runF] at h
    walk_at "w"
    refine gd_t (ok_two (by decide) (by decide) (by decide)) ?_
    rw [any_two]
    walk_at "w"
    refine sp_told hP hgb (by omega) he hs1 ?_
    cases ht : toldF gots e with
    | bad w =>
      rw [ht] at h
      walk_at "w"
      rw [asL_ref hs2]
      walk_at "w"
      exact out h
    | val v =>
      rw [ht] at h
      dsimp only at h
      walk_at "w"
      refine sp_is_name (by omega) (told_bd hP hgb he ht).bg ?_
      cases hi : isName v with
      | false =>
        rw [hi] at h
        walk_at "w"
        rw [asL_ref hs2]
        walk_at "w"
        exact out h
      | true =>
        rw [hi] at h
        dsimp only at h
        obtain ⟨nm, rfl⟩ : ∃ nm, v = .str nm := ⟨_, isName_str hi⟩
        have h : Q (encRan (match good.lookup nm with | none => ⟨reads, .wants nm, none⟩ | some g => runF good (gots ++ [g]) reads rc)) S := h
        walk_at "w"
        rw [asL_dic hd']
        walk_at "w"
        rw [hd']
        walk_at "w"
        have el := lookup_encG nm good
        cases hk : good.lookup nm with
        | none =>
          rw [hk] at h el
          rw [show List.lookup nm (encG good) = none from el]
          walk_at "w"
          rw [asL_ref hs2]
          walk_at "w"
          exact out h
        | some gv =>
          rw [hk] at h el
          dsimp only at h
          rw [show List.lookup nm (encG good) = some (encV gv) from el]
          walk_at "w"
          refine gd_t (isL_ref hs1) ?_
          walk_at "w"
          rw [hd']
          walk_at "w"
          refine opt_some el ?_
          walk_at "w"
          refine ⟨_, hs1, gd_t (decide_eq_true (by rw [List.length_map]; omega)) ?_⟩
          have hb1 := hg _ (lookup_mem hk)
          have b1 : put S' g (.lst (gots.map encV ++ [encV gv])) g = some (.lst ((gots ++ [gv]).map encV)) := by rw [put_same]; simp
          have b2 : put S' g (.lst (gots.map encV ++ [encV gv])) r = some (.lst (reads.map encRead)) := by rw [put_ne hrg, hs2]
          have b3 : put S' g (.lst (gots.map encV ++ [encV gv])) Dd = some (.dic (encG good)) := by rw [put_ne hDg, hd']
          have b4 : Sub S (put S' g (.lst (gots.map encV ++ [encV gv]))) := hsu.put hgn _
          revert b1 b2 b3 b4
          generalize put S' g (.lst (gots.map encV ++ [encV gv])) = S1
          intro b1 b2 b3 b4
          walk_at "w"
          refine hK (rcSize rc) _ _ (by simp [rcSize]) ⟨⟨rc, gots ++ [gv], reads, _, rfl, rfl, b1, b2, by simpa using hr, ?_, ?_, by simp [rcSize] at hz ⊢; omega, by simp; omega, h⟩, b3, b4⟩
          · intro v hv
            rcases List.mem_append.mp hv with hv | hv
            · exact hgb v hv
            · cases List.mem_singleton.mp hv; exact hb1.1
          · intro v hv
            rcases List.mem_append.mp hv with hv | hv
            · exact hgc v hv
            · cases List.mem_singleton.mp hv; exact hb1.2
  | @cond _ e ra rb he ha hb =>
    rw [runF] at h
    walk_at "w"
    refine gd_t (ok_two (by decide) (by decide) (by decide)) ?_
    rw [any_two]
    walk_at "w"
    refine sp_told hP hgb (by omega) he hs1 ?_
    cases ht : toldF gots e with
    | bad w =>
      rw [ht] at h
      walk_at "w"
      rw [asL_ref hs2]
      walk_at "w"
      exact out h
    | val v =>
      rw [ht] at h
      have hv := told_bd hP hgb he ht
      have hv2 := told_cp hP2 hgc he ht
      have h : Q (encRan (match emptyV v with | true => runF good gots reads rb | false => runF good gots reads ra)) S := h
      walk_at "w"
      refine gd_t (ok_empty hv hv2 (by omega)) ?_
      walk_at "w"
      rw [show (false ^^ [DV.int 0, .str [], .tup []].any fun z => deqv z (encV v)) = emptyV v from Bool.false_xor _]
      cases hk : emptyV v with
      | true =>
        rw [hk] at h
        walk_at "w"
        exact hK (rcSize rb) _ _ (by simp [rcSize]; omega) ⟨⟨rb, gots, reads, _, rfl, rfl, hs1, hs2, hb, hgb, hgc, by simp [rcSize] at hz; omega, hl, h⟩, hd', hsu⟩
      | false =>
        rw [hk] at h
        walk_at "w"
        exact hK (rcSize ra) _ _ (by simp [rcSize]; omega) ⟨⟨ra, gots, reads, _, rfl, rfl, hs1, hs2, ha, hgb, hgc, by simp [rcSize] at hz; omega, hl, h⟩, hd', hsu⟩
end DL

set_option maxRecDepth 100000
set_option linter.all false
namespace DL
open PySem
local macro_rules | `(tactic| walk_at "w") => `(tactic| conv => whnf)
theorem okE_read {p : Tx × Tx} (h1 : cpT p.1 = true) (h2 : cpT p.2 = true) : okE (encRead p) = true := by
  simp [okE, encRead, toP, toPs, SeqAt.shaped, PyData.canLay0, PyData.canLayAll0, PyData.depth, PyData.depthAll, strOk_sOf, h1, h2]
theorem eqv_str (s t : Tx) : (sOf s == sOf t) = decide (s = t) := by
  have := deqv_str s t
  simpa only [deqv, toP, PyData.eqv] using this
theorem deqv_read (p q : Tx × Tx) : deqv (encRead p) (encRead q) = decide (p = q) := by
  obtain ⟨a, b⟩ := p
  obtain ⟨c, d⟩ := q
  simp [deqv, encRead, toP, toPs, PyData.eqv, PyData.eqvAll, eqv_str]
def wantsP (n : Tx) : Tx × Tx := ([119, 97, 110, 116, 115], n)
structure Ln where
  nm : Tx
  reads : Reads
  fin : Tx × Tx
def encL (l : Ln) : DV := .tup [.str l.nm, .tup (l.reads.map encRead), encRead l.fin]
def cpP (p : Tx × Tx) : Bool := cpT p.1 && cpT p.2
structure LnOk (l : Ln) : Prop where
  r : ∀ p ∈ l.reads, cpP p = true
  f : cpP l.fin = true
def nextP (rs : Reads) (fin : Tx × Tx) (k : Nat) : Tx × Tx := match rs[k]? with
  | some p => wantsP p.1
  | none => fin
def oddsF : Reads → Tx × Tx → Reads → Tx × Tx → Bool
  | [], e, [], e' => decide (e ≠ e')
  | [], e, p :: _, _ => decide (e ≠ wantsP p.1)
  | p :: _, _, [], e' => decide (wantsP p.1 ≠ e')
  | p :: r, e, p' :: r', e' => if p.1 ≠ p'.1 then true else if p.2 ≠ p'.2 then false else oddsF r e r' e'
def odds (a b : Ln) : Bool := oddsF a.reads a.fin b.reads b.fin
theorem cpP_iff {p : Tx × Tx} : cpP p = true ↔ cpT p.1 = true ∧ cpT p.2 = true := Bool.and_eq_true_iff
theorem next_ok {rs : Reads} {fin : Tx × Tx} {k : Nat} (h : ∀ p ∈ rs, cpP p = true) (hf : cpP fin = true) : cpP (nextP rs fin k) = true := by
  unfold nextP
  split
  · rename_i p e
    have := cpP_iff.mp (h p (List.mem_of_getElem? e))
    exact cpP_iff.mpr ⟨(by show cpT [119, 97, 110, 116, 115] = true; decide), this.1⟩
  · exact hf
theorem sp_next {cl : Nat → PySem.Addr} {n : Nat} (hn : 1 ≤ n) {l : Ln} {k : Nat} {S : DH} {Q : DK} (h : Q (encRead (nextP l.reads l.fin k)) S) : D cl n ix_next_step [encL l, .int k] S Q := by
  obtain ⟨n, rfl⟩ : ∃ j, n = j + 1 := ⟨n - 1, by omega⟩
  walk_at "w"
  refine ⟨rfl, ?_⟩
  walk_at "w"
  rw [List.length_map]
  unfold nextP at h
  refine br_split (fun e => ?_) fun e => ?_
  · have e := ltI_iff.mp e
    have hk : k < l.reads.length := by omega
    rw [List.getElem?_eq_getElem hk] at h
    walk_at "w"
    refine opt_some (d := encRead l.reads[k]) (by rw [atD_ofNat, List.getElem?_map, List.getElem?_eq_getElem hk]; rfl) ?_
    walk_at "w"
    exact rt_ok h
  · have e := ltI_f.mp e
    rw [List.getElem?_eq_none (by omega)] at h
    exact rt_ok h
theorem odds_next : ∀ {r1 r2 : Reads} {e1 e2 : Tx × Tx}, (∀ p q : Tx × Tx, r1[0]? = some p → r2[0]? = some q → p ≠ q) → oddsF r1 e1 r2 e2 = decide (nextP r1 e1 0 ≠ nextP r2 e2 0)
  | [], [], e1, e2, _ => rfl
  | [], _ :: _, e1, e2, _ => rfl
  | _ :: _, [], e1, e2, _ => rfl
  | p :: _, q :: _, e1, e2, h => by
    have hne := h p q rfl rfl
    show (if p.1 ≠ q.1 then true else if p.2 ≠ q.2 then false else _) = decide (wantsP p.1 ≠ wantsP q.1)
    by_cases h1 : p.1 = q.1
    · rw [if_neg (by simpa using h1), if_pos (fun h2 => hne (Prod.ext h1 h2)), h1]
      simp
    · rw [if_pos h1]
      simp [wantsP, h1]
theorem sp_at_odds {cl : Nat → PySem.Addr} {n : Nat} (hn : 2 ≤ n) {a b : Ln} (ha : LnOk a) (hb : LnOk b) {S : DH} {Q : DK} (h : Q (.bl (odds a b)) S) : D cl n ix_at_odds [encL a, encL b] S Q := by
  obtain ⟨n, rfl⟩ : ∃ j, n = j + 1 := ⟨n - 1, by omega⟩
  walk_at "w"
  refine ⟨rfl, ?_⟩
  walk_at "w"
  refine wWhile_inv (fun m ρ S' => S' = S ∧ ∃ k : Nat, ρ = [some (encL a), some (encL b), some (.int k)] ∧ m + k = a.reads.length ∧ k ≤ b.reads.length ∧ oddsF (a.reads.drop k) a.fin (b.reads.drop k) b.fin = odds a b) (fun m ρ S' K inv hK => ?_) a.reads.length _ _ ⟨rfl, 0, rfl, rfl, Nat.zero_le _, rfl⟩
  obtain ⟨rfl, k, rfl, hm, hk, he⟩ := inv
  have stop : (∀ p q : Tx × Tx, a.reads[k]? = some p → b.reads[k]? = some q → p ≠ q) → decide (nextP a.reads a.fin k = nextP b.reads b.fin k) = !odds a b := fun hne => by
    rw [← he, odds_next (by simpa [List.getElem?_drop] using hne)]
    simp [nextP, List.getElem?_drop]
    try exact decide_eq_decide.mpr Iff.rfl
  have na := next_ok (k := k) ha.r ha.f
  have nb := next_ok (k := k) hb.r hb.f
  have tail : decide (nextP a.reads a.fin k = nextP b.reads b.fin k) = (!odds a b) → dNe (encRead (nextP a.reads a.fin k)) (encRead (nextP b.reads b.fin k)) S' fun d S1 => ∃ d2 S2, Weak d S1 d2 S2 ∧ Q d2 S2 := fun e => by
    show gd (okE (encRead _) && okE (encRead _)) _
    obtain ⟨a1, a2⟩ := cpP_iff.mp na
    obtain ⟨b1, b2⟩ := cpP_iff.mp nb
    refine gd_t (by rw [okE_read a1 a2, okE_read b1 b2]; rfl) ?_
    refine rt_ok ?_
    show Q (.bl (true ^^ deqv (encRead _) (encRead _))) S'
    rw [deqv_read, e]
    simpa using h
  walk_at "w"
  rw [List.length_map]
  refine br_split (fun e1 => ?_) fun e1 => ?_
  · have hk1 : k < a.reads.length := by have := ltI_iff.mp e1; omega
    walk_at "w"
    rw [List.length_map]
    refine br_split (fun e2 => ?_) fun e2 => ?_
    · have hk2 : k < b.reads.length := by have := ltI_iff.mp e2; omega
      walk_at "w"
      refine opt_some (d := encRead a.reads[k]) (by rw [atD_ofNat, List.getElem?_map, List.getElem?_eq_getElem hk1]; rfl) ?_
      walk_at "w"
      refine opt_some (d := encRead b.reads[k]) (by rw [atD_ofNat, List.getElem?_map, List.getElem?_eq_getElem hk2]; rfl) ?_
      obtain ⟨a1, a2⟩ := cpP_iff.mp (ha.r _ (List.getElem_mem hk1))
      obtain ⟨b1, b2⟩ := cpP_iff.mp (hb.r _ (List.getElem_mem hk2))
      walk_at "w"
      refine gd_t (by show (okE (encRead _) && okE (encRead _)) = true; rw [okE_read a1 a2, okE_read b1 b2]; rfl) ?_
      walk_at "w"
      have ex : ∀ c, (false ^^ deqv (res S' (encRead a.reads[k])) (res S' (encRead b.reads[k]))) = c → decide (a.reads[k] = b.reads[k]) = c := fun c e => by
        rw [← deqv_read]; exact (Bool.false_xor _).symm.trans e
      refine br_split (fun e3 => ?_) fun e3 => ?_
      · have e3 := of_decide_eq_true (ex _ e3)
        walk_at "w"
        refine hK (m - 1) _ _ (by omega) ⟨rfl, k + 1, rfl, by omega, by omega, ?_⟩
        rw [← he, List.drop_eq_getElem_cons hk1, List.drop_eq_getElem_cons hk2, e3]
        simp [oddsF]
      · have e3 := of_decide_eq_false (ex _ e3)
        walk_at "w"
        refine sp_next (by omega) ?_
        walk_at "w"
        refine sp_next (by omega) ?_
        refine tail (stop fun p q h1 h2 => ?_)
        rw [List.getElem?_eq_getElem hk1] at h1
        rw [List.getElem?_eq_getElem hk2] at h2
        cases h1; cases h2; exact e3
    · walk_at "w"
      refine sp_next (by omega) ?_
      walk_at "w"
      refine sp_next (by omega) ?_
      refine tail (stop fun p q h1 h2 => ?_)
      rw [List.getElem?_eq_none (by have := ltI_f.mp e2; omega)] at h2
      cases h2
  · walk_at "w"
    refine sp_next (by omega) ?_
    walk_at "w"
    refine sp_next (by omega) ?_
    refine tail (stop fun p q h1 h2 => ?_)
    rw [List.getElem?_eq_none (by have := ltI_f.mp e1; omega)] at h1
    cases h1
end DL

set_option maxRecDepth 100000
set_option linter.all false
namespace DL
open PySem
local macro_rules | `(tactic| walk_at "w") => `(tactic| conv => whnf)
theorem lc_mapG {α : Type} {D : PySem.Addr} {cs : Cs} {g : WG} {we : WE} {ρ : Env'} {S : DH} {enc f : α → DV} {R : List DV → DH → Prop} (hn : S D = none) (hc : okcs cs S) :
    ∀ (xs : List α) (acc : List DV), acc.length + xs.length < 16777216 → (∀ x ∈ xs, ∀ acc' Q, Q (f x) (put S D (.lst acc')) → g (enc x) ρ (put S D (.lst acc')) fun ρ1 S1 => we ρ1 S1 Q) →
    R (acc ++ xs.map f) (put S D (.lst (acc ++ xs.map f))) → lcLoop D cs g wYes we ρ (xs.map enc) acc (put S D (.lst acc)) R
  | [], acc, _, _, h => by
    show okc cs _ _
    refine okc_iff.mpr ⟨fun q hq => put_old (hc q hq) hn, ?_⟩
    simpa using h
  | x :: xs, acc, hl, st, h => by
    show okc cs _ _
    refine okc_iff.mpr ⟨fun q hq => put_old (hc q hq) hn, ?_⟩
    refine st x (List.mem_cons_self ..) acc _ ⟨put_same, gd_t (decide_eq_true (by simp at hl; omega)) ?_⟩
    rw [put_put]
    refine lc_mapG hn hc xs (acc ++ [f x]) (by simp at hl ⊢; omega) (fun y hy => st y (List.mem_cons_of_mem _ hy)) ?_
    simpa using h
theorem comp_mapG {α : Type} {cs : Cs} {g : WG} {we : WE} {ρ : Env'} {S : DH} {enc f : α → DV} {Q : DK} (xs : List α) (hc : okcs cs S) (hl : xs.length < 16777216)
    (st : ∀ x ∈ xs, ∀ S' Q, Sub S S' → Q (f x) S' → g (enc x) ρ S' fun ρ1 S1 => we ρ1 S1 Q) (h : Q (.lst (xs.map f)) S) :
    ∀ D, S D = none → lcLoop D cs g wYes we ρ (xs.map enc) [] (put S D (.lst [])) fun acc S2 => finV D acc S2 Q := fun D hn =>
  lc_mapG hn hc xs [] (by simpa using hl) (fun x hx acc' Q q => st x hx _ Q ((Sub.refl S).new hn _) q) (by unfold finV; rw [drop_put hn]; simpa using h)
def stepV (p : Tx × Tx) : DV := .tup [encRead (wantsP p.1), .str p.2]
def stepsV (r : Reads) (e : Tx × Tx) : List DV := r.map stepV ++ [.tup [encRead e, .non]]
theorem sp_steps {cl : Nat → PySem.Addr} {n : Nat} (hn : 1 ≤ n) {l : Ln} {S : DH} {Q : DK} (hl : l.reads.length ≤ 1000) (h : Q (.lst (stepsV l.reads l.fin)) S) : D cl n ix__law_steps [encL l] S Q := by
  obtain ⟨n, rfl⟩ : ∃ j, n = j + 1 := ⟨n - 1, by omega⟩
  walk_at "w"
  refine ⟨rfl, ?_⟩
  walk_at "w"
  refine comp_mapG (f := stepV) l.reads (fun _ z => nomatch z) (by omega) (fun p hp S' Q' sub q => ?_) ?_
  · walk_at "w"; exact q
  · walk_at "w"
    refine gd_t (decide_eq_true (by simp; omega)) (rt_ok h)
theorem deqv_sn (s : Tx) : deqv (.str s) .non = false := by simp [deqv, toP, PyData.eqv]
theorem deqv_ns (s : Tx) : deqv .non (.str s) = false := by simp [deqv, toP, PyData.eqv]
theorem deqv_nn : deqv .non .non = true := by simp [deqv, toP, PyData.eqv]
theorem okE_non : okE .non = true := by simp [okE, toP, SeqAt.shaped, PyData.canLay0, PyData.depth]
def oBody : WS := wSeq (wIf (wBinT dNe (wBin dIxS (wVar 2) (wC (.int 0))) (wBin dIxS (wVar 3) (wC (.int 0)))) (wRet (wC (.bl true))) (wNext))
    (wIf (wBinT dNe (wBin dIxS (wVar 2) (wC (.int 1))) (wBin dIxS (wVar 3) (wC (.int 1)))) (wRet (wC (.bl false))) (wNext))
def oG : WG := wgTup 2 (wgCons (wgN 2) (wgCons (wgN 3) (wgNil)))
theorem o_step {d1 d2 : DV} {p q : Tx × Tx} {a b : DV} {x y : Option DV} {D0 : DEnds} {S : DH} (hp : cpP p = true) (hq : cpP q = true) (h1 : p ≠ q → D0.rt (.bl true) S)
    (h2 : p = q → wBinT dNe (wC d1) (wC d2) [] S fun k S1 => br k (D0.rt (.bl false) S1) (D0.nx [some a, some b, some (.tup [encRead p, d1]), some (.tup [encRead q, d2])] S1)) :
    oG (.tup [.tup [encRead p, d1], .tup [encRead q, d2]]) [some a, some b, x, y] S fun ρ1 S1 => oBody D0 ρ1 S1 := by
  obtain ⟨a1, a2⟩ := cpP_iff.mp hp
  obtain ⟨b1, b2⟩ := cpP_iff.mp hq
  walk_at "w"
  refine gd_t (by show (okE (encRead p) && okE (encRead q)) = true; rw [okE_read a1 a2, okE_read b1 b2]; rfl) ?_
  walk_at "w"
  have ex : ∀ c, (true ^^ deqv (res S (encRead p)) (res S (encRead q))) = c → decide (p = q) = !c := fun c e => by
    rw [← deqv_read, ← e]; show _ = !(true ^^ deqv (encRead p) (encRead q)); simp
  refine br_split (fun e => ?_) fun e => ?_
  · exact h1 (of_decide_eq_false (ex _ e))
  · exact h2 (of_decide_eq_true (ex _ e))
theorem odds_loop {e1 e2 : Tx × Tx} {a b : DV} {D0 : DEnds} {S : DH} (h1 : cpP e1 = true) (h2 : cpP e2 = true) : ∀ (r1 r2 : Reads) (x y : Option DV), (∀ p ∈ r1, cpP p = true) → (∀ p ∈ r2, cpP p = true) → D0.rt (.bl (oddsF r1 e1 r2 e2)) S →
    (oddsF r1 e1 r2 e2 = false → ∀ x y, D0.nx [some a, some b, x, y] S) → fLoop [] oG oBody (pairs (stepsV r1 e1) (stepsV r2 e2)) D0 [some a, some b, x, y] S
  | [], [], x, y, c1, c2, hr, hx => by
    refine okc_iff.mpr ⟨fun _ z => (nomatch z), o_step h1 h2 (fun e => ?_) fun e => ?_⟩
    · have hr : D0.rt (.bl (decide (e1 ≠ e2))) S := hr
      rw [decide_eq_true e] at hr; exact hr
    · walk_at "w"
      refine gd_t (by show (okE .non && okE .non) = true; rw [okE_non]; rfl) ?_
      refine br_f (p := D0.rt (.bl false) S) (by show (true ^^ deqv .non .non) = false; rw [deqv_nn]; rfl) ?_
      exact hx (by show decide (e1 ≠ e2) = false; simp [e]) _ _
  | [], p :: r2, x, y, c1, c2, hr, hx => by
    refine okc_iff.mpr ⟨fun _ z => (nomatch z), o_step h1 (cpP_iff.mpr ⟨(by show cpT [119, 97, 110, 116, 115] = true; decide), (cpP_iff.mp (c2 p (List.mem_cons_self ..))).1⟩) (fun e => ?_) fun e => ?_⟩
    · have hr : D0.rt (.bl (decide (e1 ≠ wantsP p.1))) S := hr
      rw [decide_eq_true e] at hr; exact hr
    · have hr : D0.rt (.bl (decide (e1 ≠ wantsP p.1))) S := hr
      rw [decide_eq_false (by simpa using e)] at hr
      walk_at "w"
      refine gd_t (by show (okE .non && okE (.str _)) = true; rw [okE_non, okE_str (cpP_iff.mp (c2 p (List.mem_cons_self ..))).2]; rfl) ?_
      refine br_t (by show (true ^^ deqv .non (.str _)) = true; rw [deqv_ns]; rfl) ?_
      exact hr
  | p :: r1, [], x, y, c1, c2, hr, hx => by
    refine okc_iff.mpr ⟨fun _ z => (nomatch z), o_step (cpP_iff.mpr ⟨(by show cpT [119, 97, 110, 116, 115] = true; decide), (cpP_iff.mp (c1 p (List.mem_cons_self ..))).1⟩) h2 (fun e => ?_) fun e => ?_⟩
    · have hr : D0.rt (.bl (decide (wantsP p.1 ≠ e2))) S := hr
      rw [decide_eq_true e] at hr; exact hr
    · have hr : D0.rt (.bl (decide (wantsP p.1 ≠ e2))) S := hr
      rw [decide_eq_false (by simpa using e)] at hr
      walk_at "w"
      refine gd_t (by show (okE (.str _) && okE .non) = true; rw [okE_non, okE_str (cpP_iff.mp (c1 p (List.mem_cons_self ..))).2]; rfl) ?_
      refine br_t (by show (true ^^ deqv (.str _) .non) = true; rw [deqv_sn]; rfl) ?_
      exact hr
  | p :: r1, q :: r2, x, y, c1, c2, hr, hx => by
    have e0 : oddsF (p :: r1) e1 (q :: r2) e2 = if p.1 ≠ q.1 then true else if p.2 ≠ q.2 then false else oddsF r1 e1 r2 e2 := rfl
    rw [e0] at hr hx
    refine okc_iff.mpr ⟨fun _ z => (nomatch z), o_step (cpP_iff.mpr ⟨(by show cpT [119, 97, 110, 116, 115] = true; decide), (cpP_iff.mp (c1 p (List.mem_cons_self ..))).1⟩) (cpP_iff.mpr ⟨(by show cpT [119, 97, 110, 116, 115] = true; decide), (cpP_iff.mp (c2 q (List.mem_cons_self ..))).1⟩) (fun e => ?_) fun e => ?_⟩
    · rw [if_pos (fun z => e (by rw [wantsP, wantsP, z]))] at hr; exact hr
    · have e : p.1 = q.1 := congrArg Prod.snd e
      rw [if_neg (by simpa using e)] at hr hx
      walk_at "w"
      refine br_split (fun e2 => ?_) fun e2 => ?_
      · rw [if_pos (by simpa using e2)] at hr; exact hr
      · have e2 : p.2 = q.2 := by simpa using e2
        rw [if_neg (by simpa using e2)] at hr hx
        exact odds_loop h1 h2 r1 r2 _ _ (fun z hz => c1 z (List.mem_cons_of_mem _ hz)) (fun z hz => c2 z (List.mem_cons_of_mem _ hz)) hr hx
theorem sp_odds {cl : Nat → PySem.Addr} {n : Nat} (hn : 2 ≤ n) {a b : Ln} (ha : LnOk a) (hb : LnOk b) (la : a.reads.length ≤ 1000) (lb : b.reads.length ≤ 1000) {S : DH} {Q : DK} (h : Q (.bl (odds a b)) S) : D cl n ix__law_odds [encL a, encL b] S Q := by
  obtain ⟨n, rfl⟩ : ∃ j, n = j + 1 := ⟨n - 1, by omega⟩
  walk_at "w"
  refine ⟨rfl, ?_⟩
  walk_at "w"
  refine sp_steps (by omega) la ?_
  walk_at "w"
  refine sp_steps (by omega) lb ?_
  walk_at "w"
  refine odds_loop ha.f hb.f a.reads b.reads _ _ ha.r hb.r (rt_ok h) fun e x y => ?_
  walk_at "w"
  unfold odds at h
  rw [e] at h
  exact rt_ok h
end DL

set_option maxRecDepth 100000
set_option linter.all false
namespace DL
open PySem
local macro_rules | `(tactic| walk_at "w") => `(tactic| conv => whnf)
abbrev Seen := List (Tx × Ln)
abbrev Finds := List (Tx × Ln × Ln)
def encS (p : Tx × Ln) : DV := .tup [.str p.1, encL p.2]
def encF (p : Tx × Ln × Ln) : DV := .tup [.str p.1, encL p.2.1, encL p.2.2]
def encLo : Option Ln → DV
  | none => .non
  | some l => encL l
def elderF (seen : Seen) (t : Tx) (l : Ln) : Option Ln := (seen.find? fun p => decide (p.1 = t) && odds p.2 l).map Prod.snd
def oneL : Option Ln → List DV
  | none => []
  | some l => [encL l]
structure LnK (l : Ln) : Prop where
  ok : LnOk l
  sz : l.reads.length ≤ 1000
def eBody (cl : Nat → Addr) (n : Nat) : WS := wIf (wAnd (wBinT dEq (wVar 3) (wVar 1)) (wBt (wCall 2 (D cl n 19) (wCons (wVar 4) (wCons (wVar 2) (wNil)))))) (wRet (wLst (wCons (wVar 4) (wNil)))) (wNext)
def eG : WG := wgTup 2 (wgCons (wgN 3) (wgCons (wgN 4) (wgNil)))
theorem elder_loop {cl : Nat → Addr} {n : Nat} (hn : 2 ≤ n) {a : DV} {t : Tx} {l : Ln} (hl : LnK l) {cs : Cs} {D0 : DEnds} {S : DH} (hc : okcs cs S) : ∀ (seen : Seen) (x y : Option DV), (∀ p ∈ seen, LnK p.2) →
    (∀ e, elderF seen t l = some e → D0.rt (.lst [encL e]) S) → (elderF seen t l = none → ∀ x y, D0.nx [some a, some (.str t), some (encL l), x, y] S) →
    fLoop cs eG (eBody cl n) (seen.map encS) D0 [some a, some (.str t), some (encL l), x, y] S
  | [], x, y, _, h1, h2 => okc_iff.mpr ⟨hc, h2 rfl x y⟩
  | p :: seen, x, y, hp, h1, h2 => by
    refine okc_iff.mpr ⟨hc, ?_⟩
    have e0 : elderF (p :: seen) t l = match decide (p.1 = t) && odds p.2 l with | true => some p.2 | false => elderF seen t l := by
      unfold elderF
      rw [List.find?_cons]
      cases decide (p.1 = t) && odds p.2 l <;> rfl
    rw [e0] at h1 h2
    have ih := fun x y h1 h2 => elder_loop (cl := cl) hn hl hc seen (a := a) (D0 := D0) (t := t) x y (fun q hq => hp q (List.mem_cons_of_mem _ hq)) h1 h2
    have hp0 := hp p (List.mem_cons_self ..)
    walk_at "w"
    refine br_split (fun e => ?_) fun e => ?_
    · rw [e] at h1 h2
      walk_at "w"
      refine sp_odds hn hp0.ok hl.ok hp0.sz hl.sz ?_
      cases q : odds p.2 l with
      | true => rw [q] at h1; exact h1 _ rfl
      | false => rw [q] at h1 h2; exact ih _ _ h1 h2
    · rw [e] at h1 h2
      exact ih _ _ h1 h2
theorem sp_elder {cl : Nat → Addr} {n : Nat} (hn : 3 ≤ n) {sa : Addr} {seen : Seen} {t : Tx} {l : Ln} {S : DH} {Q : DK} (hs : S sa = some (.lst (seen.map encS))) (hk : ∀ p ∈ seen, LnK p.2) (hl : LnK l) (h : Q (.lst (oneL (elderF seen t l))) S) :
    D cl n ix__law_elder [.ref sa, .str t, encL l] S Q := by
  obtain ⟨n, rfl⟩ : ∃ j, n = j + 1 := ⟨n - 1, by omega⟩
  walk_at "w"
  refine ⟨rfl, ?_⟩
  walk_at "w"
  rw [show srcL S (.ref sa) = some (seen.map encS, [(sa, seen.map encS)]) by simp [srcL, hs]]
  walk_at "w"
  refine elder_loop (n := n) (by omega) hl (fun q hq => by cases List.mem_singleton.mp hq; exact hs) seen _ _ hk (fun e he => ?_) fun he x y => ?_
  · rw [he] at h; exact rt_ok h
  · rw [he] at h; walk_at "w"; exact rt_ok h
def seenT : Tx := [115, 101, 101, 110]
def findsT : Tx := [102, 105, 110, 100, 115]
structure WRep (C : Addr) (S : DH) (w sd fd : Addr) (kvs : List (Tx × Addr)) (seen : Seen) (finds : Finds) : Prop where
  nd : (w :: sd :: fd :: kvs.map Prod.snd).Nodup
  cw : S w = some (.ins C [(seenT, .ref sd), (findsT, .ref fd)])
  cs : S sd = some (.dic (kvs.map fun p => (p.1, .ref p.2)))
  cf : S fd = some (.lst (finds.map encF))
  al : ∀ a ∈ w :: sd :: fd :: kvs.map Prod.snd, S a ≠ none
  no : ∀ t, kvs.lookup t = none → ∀ p ∈ seen, p.1 ≠ t
  is : ∀ t a, kvs.lookup t = some a → S a = some (.lst ((seen.filter fun p => decide (p.1 = t)).map fun p => encL p.2))
theorem put_al {S : DH} {a b : Addr} {c : Cell} (h : S b ≠ none) : put S a c b ≠ none := by
  unfold put; split
  · intro e; cases e
  · exact h
def foot (w sd fd : Addr) (kvs : List (Tx × Addr)) : List Addr := w :: sd :: fd :: kvs.map Prod.snd
theorem lookup_kv {k : Tx} {v : Addr} : ∀ {g : List (Tx × Addr)}, g.lookup k = some v → (k, v) ∈ g
  | [], h => by cases h
  | (a, w) :: g, h => by
    rw [List.lookup_cons] at h
    cases e : k == a with
    | true => rw [e] at h; cases h; rw [show k = a by simpa using e]; exact List.mem_cons_self ..
    | false => rw [e] at h; exact List.mem_cons_of_mem _ (lookup_kv h)
theorem kv_inj : ∀ {g : List (Tx × Addr)} {k k' : Tx} {v : Addr}, (g.map Prod.snd).Nodup → (k, v) ∈ g → (k', v) ∈ g → k = k'
  | [], _, _, _, _, h, _ => nomatch h
  | p :: g, k, k', v, hn, h1, h2 => by
    rw [List.map_cons, List.nodup_cons] at hn
    rcases List.mem_cons.mp h1 with e1 | e1
    · rcases List.mem_cons.mp h2 with e2 | e2
      · rw [← e1] at e2; exact (congrArg Prod.fst e2).symm
      · subst e1; exact absurd (List.mem_map.mpr ⟨_, e2, rfl⟩) hn.1
    · rcases List.mem_cons.mp h2 with e2 | e2
      · subst e2; exact absurd (List.mem_map.mpr ⟨_, e1, rfl⟩) hn.1
      · exact kv_inj hn.2 e1 e2
theorem lookup_app {k : Tx} {g : List (Tx × Addr)} {k' : Tx} {v : Addr} : (g ++ [(k', v)]).lookup k = match g.lookup k with | some a => some a | none => if k = k' then some v else none := by
  induction g with
  | nil =>
    show List.lookup k [(k', v)] = _
    rw [List.lookup_cons]
    by_cases h : k = k'
    · subst h; simp
    · rw [show (k == k') = false by simpa using h]; simp [h]
  | cons p g ih =>
    obtain ⟨a, b⟩ := p
    rw [List.cons_append, List.lookup_cons, List.lookup_cons]
    cases k == a
    · exact ih
    · rfl
/-- what a saw leaves: the store elsewhere as it was -/
def Frame (S S' : DH) (F : List Addr) : Prop := ∀ a c, S a = some c → a ∉ F → S' a = some c
theorem lookup_ref (k : Tx) : ∀ g : List (Tx × Addr), (g.map fun p => (p.1, DV.ref p.2)).lookup k = (g.lookup k).map .ref
  | [] => rfl
  | (a, v) :: g => by
    rw [List.map_cons, List.lookup_cons, List.lookup_cons]
    cases k == a
    · exact lookup_ref k g
    · rfl
theorem foldl_find {α : Type} (p : α → Bool) : ∀ (xs : List α) (c : Option α), xs.foldl (fun c x => match p x with | true => some x | false => c) c = match xs.reverse.find? p with | some x => some x | none => c
  | [], c => rfl
  | x :: xs, c => by
    rw [List.foldl_cons, foldl_find p xs, List.reverse_cons, List.find?_append]
    cases xs.reverse.find? p with
    | some y => rfl
    | none =>
      rw [List.find?_cons]
      cases p x <;> rfl
def sBody (cl : Nat → Addr) (n : Nat) : WS := wIf (wBt (wCall 2 (D cl n 1) (wCons (wVar 5) (wCons (wVar 2) (wNil))))) (wAsg (wVar 5) (wgN 4)) (wNext)
theorem saw_loop {cl : Nat → Addr} {n : Nat} (hn : 2 ≤ n) {a b c : DV} {l : Ln} (hl : LnOk l) {cs : Cs} {D0 : DEnds} {S : DH} (hc : okcs cs S) : ∀ (ls : List Ln) (cur : Option Ln) (x : Option DV), (∀ p ∈ ls, LnOk p) →
    (∀ x, D0.nx [some a, some b, some (encL l), some c, some (encLo (ls.foldl (fun c y => match odds y l with | true => some y | false => c) cur)), x] S) →
    fLoop cs (wgN 5) (sBody cl n) (ls.map encL) D0 [some a, some b, some (encL l), some c, some (encLo cur), x] S
  | [], cur, x, _, h => okc_iff.mpr ⟨hc, h x⟩
  | y :: ls, cur, x, hp, h => by
    refine okc_iff.mpr ⟨hc, ?_⟩
    walk_at "w"
    refine sp_at_odds hn (hp y (List.mem_cons_self ..)) hl ?_
    rw [List.foldl_cons] at h
    cases e : odds y l with
    | true => rw [e] at h; exact saw_loop hn hl hc ls (some y) _ (fun p hq => hp p (List.mem_cons_of_mem _ hq)) h
    | false => rw [e] at h; exact saw_loop hn hl hc ls cur _ (fun p hq => hp p (List.mem_cons_of_mem _ hq)) h
def sTail (cl : Nat → Addr) (n : Nat) : WS := wSeq (wAsg (wC .non) (wgN 4))
    (wSeq (wFor (wRev1 (wVar 3)) (wgN 5) (sBody cl n))
    (wSeq (wIf (wUnT (fun x => !isNon x) (wVar 4)) (wDrop (wBM isL mAppend (wFld (cl 0) [102, 105, 110, 100, 115] (wVar 0)) (wCons (wTup (wCons (wVar 1) (wCons (wVar 4) (wCons (wVar 2) (wNil))))) (wNil)))) (wNext))
    (wSeq (wDrop (wBM isL mAppend (wVar 3) (wCons (wVar 2) (wNil))))
    (wRet (wVar 4)))))
theorem elder_filter (seen : Seen) (t : Tx) (l : Ln) : ((seen.filter fun p => decide (p.1 = t)).map Prod.snd).find? (fun y => odds y l) = elderF seen t l := by
  unfold elderF
  rw [List.find?_map, List.find?_filter]
  refine congrArg (fun q => Option.map Prod.snd (seen.find? q)) (funext fun p => ?_)
  simp [Bool.decide_and]
def newF (e : Option Ln) (t : Tx) (l : Ln) : Finds := match e with
  | none => []
  | some y => [(t, y, l)]
theorem WRep.add {C : Addr} {S : DH} {w sd fd a : Addr} {kvs : List (Tx × Addr)} {seen : Seen} {finds : Finds} (h : WRep C S w sd fd kvs seen finds) {t : Tx} {l : Ln} (hk : kvs.lookup t = some a) :
    WRep C (put S a (.lst ((seen.filter fun p => decide (p.1 = t)).map (fun p => encL p.2) ++ [encL l]))) w sd fd kvs (seen ++ [(t, l)]) finds := by
  have hm := lookup_kv hk
  have ha : a ∈ kvs.map Prod.snd := List.mem_map.mpr ⟨_, hm, rfl⟩
  have nd := h.nd
  simp only [List.nodup_cons, List.mem_cons, not_or] at nd
  obtain ⟨⟨n1, n2, n3⟩, ⟨n4, n5⟩, n6, n7⟩ := nd
  have e1 : w ≠ a := fun e => n3 (e ▸ ha)
  have e2 : sd ≠ a := fun e => n5 (e ▸ ha)
  have e3 : fd ≠ a := fun e => n6 (e ▸ ha)
  refine ⟨h.nd, by rw [put_ne e1, h.cw], by rw [put_ne e2, h.cs], by rw [put_ne e3, h.cf], fun b hb => put_al (h.al b hb), fun t' ht p hp => ?_, fun t' a' ht => ?_⟩
  · rcases List.mem_append.mp hp with hp | hp
    · exact h.no t' ht p hp
    · cases List.mem_singleton.mp hp
      intro e
      have e : t = t' := e
      subst e; rw [hk] at ht; cases ht
  · by_cases e : t' = t
    · subst e
      rw [hk] at ht; cases ht
      rw [put_same, List.filter_append]
      simp
    · have ne : a' ≠ a := fun e' => by
        subst e'
        exact e (kv_inj n7 (lookup_kv ht) hm)
      rw [put_ne ne, h.is t' a' ht, List.filter_append]
      simp [Ne.symm e]
theorem WRep.find {C : Addr} {S : DH} {w sd fd : Addr} {kvs : List (Tx × Addr)} {seen : Seen} {finds : Finds} (h : WRep C S w sd fd kvs seen finds) (f : Tx × Ln × Ln) :
    WRep C (put S fd (.lst (finds.map encF ++ [encF f]))) w sd fd kvs seen (finds ++ [f]) := by
  have nd := h.nd
  simp only [List.nodup_cons, List.mem_cons, not_or] at nd
  obtain ⟨⟨n1, n2, n3⟩, ⟨n4, n5⟩, n6, n7⟩ := nd
  refine ⟨h.nd, by rw [put_ne n2, h.cw], by rw [put_ne n4, h.cs], by rw [put_same]; simp, fun b hb => put_al (h.al b hb), h.no, fun t' a' ht => ?_⟩
  have ne : a' ≠ fd := fun e => by subst e; exact n6 (List.mem_map.mpr ⟨_, lookup_kv ht, rfl⟩)
  rw [put_ne ne, h.is t' a' ht]
theorem WRep.key {C : Addr} {S : DH} {w sd fd p : Addr} {kvs : List (Tx × Addr)} {seen : Seen} {finds : Finds} (h : WRep C S w sd fd kvs seen finds) {t : Tx} (hk : kvs.lookup t = none) (hp : S p = none) :
    WRep C (put (put S p (.lst [])) sd (.dic ((kvs ++ [(t, p)]).map fun q => (q.1, .ref q.2)))) w sd fd (kvs ++ [(t, p)]) seen finds := by
  have nd := h.nd
  have hpk : p ∉ w :: sd :: fd :: kvs.map Prod.snd := fun hm => h.al p hm hp
  have hpk2 := hpk
  simp only [List.mem_cons, not_or] at hpk2 nd
  simp only [List.nodup_cons, List.mem_cons, not_or] at nd
  obtain ⟨⟨n1, n2, n3⟩, ⟨n4, n5⟩, n6, n7⟩ := nd
  obtain ⟨p1, p2, p3, p4⟩ := hpk2
  refine ⟨?_, by rw [put_ne n1, put_ne (Ne.symm p1), h.cw], put_same, by rw [put_ne (Ne.symm n4), put_ne (Ne.symm p3), h.cf], ?_, fun t' ht => ?_, fun t' a' ht => ?_⟩
  · have : (w :: sd :: fd :: (kvs ++ [(t, p)]).map Prod.snd) = (w :: sd :: fd :: kvs.map Prod.snd) ++ [p] := by simp
    rw [this, List.nodup_append]
    refine ⟨h.nd, by simp, fun a ha b hb e => ?_⟩
    cases List.mem_singleton.mp hb
    subst e
    exact hpk ha
  · intro b hb
    by_cases e : b = p
    · subst e; exact put_al (by rw [put_same]; intro z; cases z)
    · refine put_al (put_al (h.al b ?_))
      simp at hb ⊢
      rcases hb with hb | hb | hb | hb | hb
      · exact .inl hb
      · exact .inr (.inl hb)
      · exact .inr (.inr (.inl hb))
      · exact .inr (.inr (.inr hb))
      · exact absurd hb e
  · rw [lookup_app] at ht
    cases hl : kvs.lookup t' with
    | some b => rw [hl] at ht; cases ht
    | none => exact h.no t' hl
  · rw [lookup_app] at ht
    cases hl : kvs.lookup t' with
    | some b =>
      rw [hl] at ht; cases ht
      have hb : a' ∈ kvs.map Prod.snd := List.mem_map.mpr ⟨_, lookup_kv hl, rfl⟩
      rw [put_ne (fun e => by subst e; exact n5 hb), put_ne (fun e => by subst e; exact p4 hb)]
      exact h.is t' a' hl
    | none =>
      rw [hl] at ht
      dsimp only at ht
      split at ht
      · rename_i e
        cases ht
        subst e
        rw [put_ne p2, put_same]
        have : seen.filter (fun q => decide (q.1 = t')) = [] := List.filter_eq_nil_iff.mpr fun q hq => by simpa using h.no t' hl q hq
        rw [this]; rfl
      · cases ht
end DL

set_option maxRecDepth 100000
set_option linter.all false
namespace DL
open PySem
local macro_rules | `(tactic| walk_at "w") => `(tactic| conv => whnf)
theorem Frame.pu {S S' : DH} {F : List Addr} (h : Frame S S' F) {a : Addr} {c : Cell} (ha : a ∈ F) : Frame S (put S' a c) F := fun b d e n => by
  rw [put_ne (show b ≠ a from fun z => n (z ▸ ha))]; exact h b d e n
theorem Frame.new {S S' : DH} {F : List Addr} (h : Frame S S' F) {a : Addr} {c : Cell} (ha : S a = none) : Frame S (put S' a c) F := fun b d e n => by
  rw [put_ne (fun z => by subst z; rw [ha] at e; cases e)]; exact h b d e n
theorem Frame.refl (S : DH) (F : List Addr) : Frame S S F := fun _ _ e _ => e
theorem Frame.trans {S S1 S2 : DH} {F : List Addr} (h : Frame S S1 F) (h2 : Frame S1 S2 F) : Frame S S2 F := fun b d e n => h2 b d (h b d e n) n
theorem saw_tail {cl : Nat → Addr} {n : Nat} (hn : 2 ≤ n) {S : DH} {w sd fd a : Addr} {kvs : List (Tx × Addr)} {seen : Seen} {finds : Finds} {t : Tx} {l : Ln} {D0 : DEnds} {x y : Option DV}
    (h : WRep (cl 0) S w sd fd kvs seen finds) (hk : kvs.lookup t = some a) (hs : ∀ p ∈ seen, LnOk p.2) (hl : LnOk l) (z1 : seen.length ≤ 1000) (z2 : finds.length ≤ 1000)
    (k : ∀ S', WRep (cl 0) S' w sd fd kvs (seen ++ [(t, l)]) (finds ++ newF (elderF seen t l) t l) → Frame S S' (foot w sd fd kvs) → D0.rt (encLo (elderF seen t l)) S') :
    sTail cl n D0 [some (.ref w), some (.str t), some (encL l), some (.ref a), x, y] S := by
  have ca := h.is t a hk
  have ma : a ∈ foot w sd fd kvs := by simp only [foot, List.mem_cons]; exact .inr (.inr (.inr (List.mem_map.mpr ⟨_, lookup_kv hk, rfl⟩)))
  have mf : fd ∈ foot w sd fd kvs := by simp [foot]
  have zl : ((seen.filter fun p => decide (p.1 = t)).map fun p => encL p.2).length < 16777216 := by
    rw [List.length_map]; have := List.length_filter_le (fun p : Tx × Ln => decide (p.1 = t)) seen; omega
  walk_at "w"
  rw [show srcL S (.ref a) = some (((seen.filter fun p => decide (p.1 = t)).map fun p => encL p.2), [(a, ((seen.filter fun p => decide (p.1 = t)).map fun p => encL p.2))]) by simp [srcL, ca]]
  walk_at "w"
  rw [show ((seen.filter fun p => decide (p.1 = t)).map fun p => encL p.2).reverse = (((seen.filter fun p => decide (p.1 = t)).map Prod.snd).reverse).map encL by rw [← List.map_reverse, ← List.map_reverse, List.map_map]; rfl]
  refine saw_loop (n := n) hn hl (fun q hq => by cases List.mem_singleton.mp hq; exact ca) _ none _ (fun p hp => ?_) fun x => ?_
  · obtain ⟨q, hq, rfl⟩ := List.mem_map.mp (List.mem_reverse.mp hp)
    exact hs q ((List.mem_filter.mp hq).1)
  rw [foldl_find (fun y => odds y l), List.reverse_reverse, elder_filter]
  cases he : elderF seen t l with
  | none =>
    rw [he] at k
    walk_at "w"
    refine gd_t (isL_ref ca) ?_
    walk_at "w"
    refine ⟨_, ca, gd_t (decide_eq_true zl) ?_⟩
    walk_at "w"
    refine k _ ?_ ((Frame.refl S _).pu ma)
    have := h.add (l := l) hk
    simpa [newF] using this
  | some e =>
    rw [he] at k
    walk_at "w"
    refine ⟨_, h.cw, ?_⟩
    walk_at "w"
    refine gd_t (isL_ref h.cf) ?_
    walk_at "w"
    refine ⟨_, h.cf, gd_t (decide_eq_true (by rw [List.length_map]; omega)) ?_⟩
    have h2 := h.find (t, e, l)
    have ca2 := h2.is t a hk
    have f2 := (Frame.refl S (foot w sd fd kvs)).pu (c := .lst (finds.map encF ++ [encF (t, e, l)])) mf
    have k : ∀ S', WRep (cl 0) S' w sd fd kvs (seen ++ [(t, l)]) (finds ++ [(t, e, l)]) → Frame S S' (foot w sd fd kvs) → D0.rt (encL e) S' := k
    have e0 : encF (t, e, l) = .tup [.str t, encL e, encL l] := rfl
    rw [e0] at h2 ca2 f2
    walk_at "w"
    refine gd_t (isL_ref ca2) ?_
    walk_at "w"
    refine ⟨_, ca2, gd_t (decide_eq_true zl) ?_⟩
    walk_at "w"
    exact k _ (h2.add (l := l) hk) (f2.pu ma)
theorem sp_saw {cl : Nat → Addr} {n : Nat} (hn : 3 ≤ n) {S : DH} {w sd fd : Addr} {kvs : List (Tx × Addr)} {seen : Seen} {finds : Finds} {t : Tx} {l : Ln} {Q : DK}
    (h : WRep (cl 0) S w sd fd kvs seen finds) (hs : ∀ p ∈ seen, LnOk p.2) (hl : LnOk l) (z0 : kvs.length ≤ 1000) (z1 : seen.length ≤ 1000) (z2 : finds.length ≤ 1000)
    (k : ∀ S' kvs', WRep (cl 0) S' w sd fd kvs' (seen ++ [(t, l)]) (finds ++ newF (elderF seen t l) t l) → Frame S S' (foot w sd fd kvs) → (∀ a ∈ foot w sd fd kvs', a ∈ foot w sd fd kvs ∨ S a = none) → kvs'.length ≤ kvs.length + 1 → Q (encLo (elderF seen t l)) S') :
    D cl n ix_Watch_saw [.ref w, .str t, encL l] S Q := by
  obtain ⟨n, rfl⟩ : ∃ j, n = j + 1 := ⟨n - 1, by omega⟩
  walk_at "w"
  refine ⟨rfl, ?_⟩
  walk_at "w"
  refine ⟨_, h.cw, ?_⟩
  walk_at "w"
  refine ⟨by simp [isD, h.cs], ?_⟩
  walk_at "w"
  intro p hp
  have ms : sd ∈ foot w sd fd kvs := by simp [foot]
  have hps : sd ≠ p := fun e => by subst e; rw [h.cs] at hp; cases hp
  walk_at "w"
  refine ⟨_, by rw [put_ne hps, h.cs], gd_t (decide_eq_true (by rw [List.length_map]; omega)) ?_⟩
  rw [lookup_ref]
  cases hk : kvs.lookup t with
  | some a =>
    have h1 : WRep (cl 0) (put S p (.lst [])) w sd fd kvs seen finds := by
      have ne : ∀ a, a ∈ w :: sd :: fd :: kvs.map Prod.snd → a ≠ p := fun a ha e => h.al a ha (e ▸ hp)
      refine ⟨h.nd, by rw [put_ne (ne _ (by simp)), h.cw], by rw [put_ne (ne _ (by simp)), h.cs], by rw [put_ne (ne _ (by simp)), h.cf], fun a ha => put_al (h.al a ha), h.no, fun t' a' ht => ?_⟩
      rw [put_ne (ne _ (by simp only [List.mem_cons]; exact .inr (.inr (.inr (List.mem_map.mpr ⟨_, lookup_kv ht, rfl⟩)))))]
      exact h.is t' a' ht
    refine saw_tail (n := n) (by omega) h1 hk hs hl z1 z2 fun S' h2 f2 => rt_ok ?_
    exact k S' kvs h2 (((Frame.refl S _).new (c := .lst []) hp).trans f2) (fun a ha => .inl ha) (by omega)
  | none =>
    have h1 := h.key hk hp
    have hk1 : (kvs ++ [(t, p)]).lookup t = some p := by rw [lookup_app, hk]; simp
    have ep : (putDV t (.ref p) (kvs.map fun q => (q.1, .ref q.2))) = (kvs ++ [(t, p)]).map fun q => (q.1, .ref q.2) := by
      unfold putDV; rw [lookup_ref, hk]; simp
    show sTail cl n _ [some (.ref w), some (.str t), some (encL l), some (.ref p), none, none] (put (put S p (.lst [])) sd (.dic (putDV t (.ref p) (kvs.map fun q => (q.1, .ref q.2)))))
    rw [ep]
    refine saw_tail (n := n) (by omega) h1 hk1 hs hl z1 z2 fun S' h2 f2 => rt_ok ?_
    have fx : ∀ a ∈ foot w sd fd (kvs ++ [(t, p)]), a ∈ foot w sd fd kvs ∨ a = p := fun a ha => by
      simp [foot] at ha ⊢
      rcases ha with ha | ha | ha | ha | ha
      · exact .inl (.inl ha)
      · exact .inl (.inr (.inl ha))
      · exact .inl (.inr (.inr (.inl ha)))
      · exact .inl (.inr (.inr (.inr ha)))
      · exact .inr ha
    refine k S' _ h2 (fun b d e nb => ?_) (fun a ha => ?_) (by simp)
    · have hb : b ≠ p := fun z => by subst z; rw [hp] at e; cases e
      refine f2 b d ?_ fun z => ?_
      · rw [put_ne (show b ≠ sd from fun z => nb (z ▸ ms)), put_ne hb, e]
      · rcases fx b z with z | z
        · exact nb z
        · exact hb z
    · rcases fx a ha with z | z
      · exact .inl z
      · exact .inr (z ▸ hp)
theorem sp_faults {cl : Nat → Addr} {n : Nat} (hn : 1 ≤ n) {S : DH} {w sd fd : Addr} {kvs : List (Tx × Addr)} {seen : Seen} {finds : Finds} {Q : DK} (h : WRep (cl 0) S w sd fd kvs seen finds)
    (k : ∀ p, S p = none → Q (.ref p) (put S p (.lst (finds.map encF)))) : D cl n ix_Watch_faults [.ref w] S Q := by
  obtain ⟨n, rfl⟩ : ∃ j, n = j + 1 := ⟨n - 1, by omega⟩
  walk_at "w"
  refine ⟨rfl, ?_⟩
  walk_at "w"
  refine ⟨_, h.cw, ?_⟩
  walk_at "w"
  rw [show seqD S (.ref fd) = some (finds.map encF) by simp [seqD, asL, h.cf]]
  walk_at "w"
  intro p hp
  exact rt_ok (k p hp)
theorem sp_init {cl : Nat → Addr} {n : Nat} (hn : 1 ≤ n) {S : DH} {w : Addr} {Q : DK} (hw : S w = some (.ins (cl 0) []))
    (k : ∀ S' sd fd, WRep (cl 0) S' w sd fd [] [] [] → Frame S S' [w] → S sd = none → S fd = none → Q .non S') : D cl n ix_Watch___init__ [.ref w] S Q := by
  obtain ⟨n, rfl⟩ : ∃ j, n = j + 1 := ⟨n - 1, by omega⟩
  walk_at "w"
  refine ⟨rfl, ?_⟩
  walk_at "w"
  intro sd hsd
  have e1 : w ≠ sd := fun e => by subst e; rw [hw] at hsd; cases hsd
  walk_at "w"
  refine ⟨_, by rw [put_ne e1, hw], gd_t (by decide) ?_⟩
  walk_at "w"
  intro fd hfd
  have e2 : fd ≠ w := fun e => by subst e; rw [put_same] at hfd; cases hfd
  rw [put_ne e2] at hfd
  have e3 : fd ≠ sd := fun e => by subst e; rw [put_same] at hfd; cases hfd
  rw [put_ne e3] at hfd
  walk_at "w"
  refine ⟨_, by rw [put_ne (Ne.symm e2), put_same], gd_t (by simp [putD]) ?_⟩
  walk_at "w"
  refine ⟨_, .refl _, k _ sd fd ⟨by simp [e1, Ne.symm e2, Ne.symm e3], put_same, by rw [put_ne (Ne.symm e1), put_ne (Ne.symm e3), put_ne (Ne.symm e1), put_same]; rfl, by rw [put_ne e2, put_same]; rfl, ?_, ?_, ?_⟩ ?_ hsd hfd⟩
  · intro a ha
    simp at ha
    rcases ha with rfl | rfl | rfl
    · rw [put_same]; intro z; cases z
    · exact put_al (put_al (put_al (by rw [put_same]; intro z; cases z)))
    · exact put_al (by rw [put_same]; intro z; cases z)
  · intro t _ p hp; nomatch hp
  · intro t a ht; cases ht
  · exact ((((Frame.refl S _).new hsd).pu (List.mem_cons_self ..)).new hfd).pu (List.mem_cons_self ..)
end DL

set_option maxRecDepth 100000
set_option linter.all false
namespace DL
open PySem
local macro_rules | `(tactic| walk_at "w") => `(tactic| conv => whnf)
/-! how long a print may be -/
theorem len_tupleText (ts : List Str) : (tupleText ts).length ≤ piled ts + 3 := by
  unfold tupleText
  rw [strLen_append, strLen_append]
  have e1 : ((("(" : String) : Str)).length = 1 := rfl
  have e3 : (((if ts.length == 1 then ",)" else ")" : String) : Str)).length ≤ 2 := by split <;> decide
  rw [e1]
  by_cases h : ts = []
  · subst h
    have : (Str.join ", " []).length = 0 := by decide
    rw [this]; omega
  · have := join_length_add ts h
    omega
theorem len_listText : ∀ ts : List Str, (listText ts).length ≤ piled ts + 3
  | [] => by decide
  | t :: r => by
    have h := textFrom_length_pos r 1 (("[" : Str) ++ (if (0 : Nat) > 0 then ", " else "" : String) ++ t) (Nat.succ_pos 0)
    have e : ((("[" : Str) ++ (if (0 : Nat) > 0 then ", " else "" : String) ++ t)).length = 1 + t.length := by
      rw [strLen_append, strLen_append]; rfl
    have hX : (listText (t :: r)).length = (textFrom 0 "[" (t :: r)).length + 1 := by
      show (textFrom 0 "[" (t :: r) ++ "]").length = _
      rw [strLen_append]; rfl
    have hY : (textFrom 0 "[" (t :: r)).length = (textFrom 1 (("[" : Str) ++ (if (0 : Nat) > 0 then ", " else "" : String) ++ t) r).length := rfl
    rw [hX, hY, h, e, piled_cons]; omega
structure RO (k n : Nat) (d : DV) (p : PyData) : Prop where
  to : toP d = some p
  sh : p.showable = true
  de : p.depth ≤ k
  le : p.shown.length ≤ n
theorem RO.mono {k n k' n' : Nat} {d : DV} {p : PyData} (h : RO k n d p) (h1 : k ≤ k') (h2 : n ≤ n') : RO k' n' d p := ⟨h.to, h.sh, Nat.le_trans h.de h1, Nat.le_trans h.le h2⟩
theorem RO.ok {k n : Nat} {d : DV} {p : PyData} (h : RO k n d p) (h1 : k ≤ 64) (h2 : n ≤ 16777216) : reprOk p := ⟨h.sh, Nat.le_trans h.de h1, Nat.le_trans h.le h2⟩
theorem ro_non : RO 1 4 .non .none := ⟨by simp [toP], by simp [PyData.showable], by simp [PyData.depth], by simp only [PyData.shown]; decide⟩
theorem ro_str {s : Tx} {m : Nat} (hc : cpT s = true) (hl : s.length ≤ m) : RO 1 (10 * m + 2) (.str s) (.str (sOf s)) := by
  refine ⟨by simp [toP], by simp [PyData.showable], by simp [PyData.depth], ?_⟩
  simp only [PyData.shown]
  have := StrLaws.reprText_len (sOf s) fun c hc' => by
    have : c < 1114112 := by
      have h2 : c ∈ s := hc'
      simpa using List.all_eq_true.mp hc c h2
    omega
  rw [sOf_len] at this
  omega
theorem ro_all {k n : Nat} : ∀ {ds : List DV}, (∀ d ∈ ds, ∃ p, RO k n d p) → ∃ ps, toPs ds = some ps ∧ PyData.showableAll ps = true ∧ PyData.depthAll ps ≤ k ∧ piled (PyData.shownAll ps) ≤ ds.length * (n + 2) ∧ True
  | [], _ => ⟨[], by simp [toPs], by simp [PyData.showableAll], by simp [PyData.depthAll], by simp [PyData.shownAll, piled], trivial⟩
  | d :: ds, h => by
    obtain ⟨p, r⟩ := h d (List.mem_cons_self ..)
    obtain ⟨ps, e1, e2, e3, e4, _⟩ := ro_all fun x hx => h x (List.mem_cons_of_mem _ hx)
    refine ⟨p :: ps, by simp [toPs, r.to, e1], by simp [PyData.showableAll, r.sh, e2], ?_, ?_, trivial⟩
    · have := r.de; simp only [PyData.depthAll]; omega
    · have := r.le
      simp only [PyData.shownAll, piled_cons, List.length_cons, Nat.succ_mul]
      omega
theorem ro_tup {k n m : Nat} {ds : List DV} (h : ∀ d ∈ ds, ∃ p, RO k n d p) (hm : ds.length ≤ m) : ∃ p, RO (k + 1) (m * (n + 2) + 3) (.tup ds) p := by
  obtain ⟨ps, e1, e2, e3, e4, _⟩ := ro_all h
  refine ⟨.tuple ps, by simp [toP, e1], by simpa [PyData.showable] using e2, ?_, ?_⟩
  · simp only [PyData.depth]; omega
  · simp only [PyData.shown]
    have := len_tupleText (PyData.shownAll ps)
    have := Nat.mul_le_mul_right (n + 2) hm
    omega
theorem ro_lst {k n m : Nat} {ds : List DV} (h : ∀ d ∈ ds, ∃ p, RO k n d p) (hm : ds.length ≤ m) : ∃ p, RO (k + 1) (m * (n + 2) + 3) (.lst ds) p := by
  obtain ⟨ps, e1, e2, e3, e4, _⟩ := ro_all h
  refine ⟨.list ps, by simp [toP, e1], by simpa [PyData.showable] using e2, ?_, ?_⟩
  · simp only [PyData.depth]; omega
  · simp only [PyData.shown]
    have := len_listText (PyData.shownAll ps)
    have := Nat.mul_le_mul_right (n + 2) hm
    omega
theorem ro_ex {k n k' n' : Nat} {d : DV} (h : ∃ p, RO k n d p) (h1 : k ≤ k') (h2 : n ≤ n') : ∃ p, RO k' n' d p := by obtain ⟨p, r⟩ := h; exact ⟨p, r.mono h1 h2⟩
def smT (s : Tx) : Bool := cpT s && leI s.length 20
theorem smT_iff {s : Tx} : smT s = true ↔ cpT s = true ∧ s.length ≤ 20 := by unfold smT; rw [Bool.and_eq_true, leI_iff]; exact and_congr Iff.rfl (by omega)
structure LnS (l : Ln) : Prop where
  nm : smT l.nm = true
  r : ∀ p ∈ l.reads, smT p.1 = true ∧ smT p.2 = true
  n : l.reads.length ≤ 3
  f : smT l.fin.1 = true ∧ smT l.fin.2 = true
theorem LnS.k {l : Ln} (h : LnS l) : LnK l := ⟨⟨fun p hp => cpP_iff.mpr ⟨(smT_iff.mp (h.r p hp).1).1, (smT_iff.mp (h.r p hp).2).1⟩, cpP_iff.mpr ⟨(smT_iff.mp h.f.1).1, (smT_iff.mp h.f.2).1⟩⟩, by have := h.n; omega⟩
theorem ro_sm {s : Tx} (h : smT s = true) : ∃ p, RO 1 202 (.str s) p := ⟨_, ro_str (m := 20) (smT_iff.mp h).1 (smT_iff.mp h).2⟩
theorem ro_read {p : Tx × Tx} (h : smT p.1 = true ∧ smT p.2 = true) : ∃ q, RO 2 411 (encRead p) q := show ∃ q, RO 2 411 (.tup [.str p.1, .str p.2]) q from ro_tup (k := 1) (n := 202) (m := 2) (fun d hd => by
  simp only [List.mem_cons, List.mem_nil_iff, or_false] at hd
  rcases hd with rfl | rfl
  · exact ro_sm h.1
  · exact ro_sm h.2) (Nat.le_refl _)
theorem ro_ln {l : Ln} (h : LnS l) : ∃ q, RO 4 4000 (encL l) q := ro_ex (ro_tup (k := 3) (n := 1300) (m := 3) (fun d hd => by
  simp only [List.mem_cons, List.mem_nil_iff, or_false] at hd
  rcases hd with rfl | rfl | rfl
  · exact ro_ex (ro_sm h.nm) (by omega) (by omega)
  · refine ro_ex (ro_tup (k := 2) (n := 411) (m := 3) (fun d hd => ?_) (by rw [List.length_map]; exact h.n)) (by omega) (by omega)
    obtain ⟨p, hp, rfl⟩ := List.mem_map.mp hd
    exact ro_read (h.r p hp)
  · exact ro_ex (ro_read h.f) (by omega) (by omega)) (Nat.le_refl _)) (by omega) (by omega)
structure FS (f : Tx × Ln × Ln) : Prop where
  t : smT f.1 = true
  a : LnS f.2.1
  b : LnS f.2.2
theorem ro_find {f : Tx × Ln × Ln} (h : FS f) : ∃ q, RO 5 12100 (encF f) q := ro_ex (ro_tup (k := 4) (n := 4000) (m := 3) (fun d hd => by
  simp only [List.mem_cons, List.mem_nil_iff, or_false] at hd
  rcases hd with rfl | rfl | rfl
  · exact ro_ex (ro_sm h.t) (by omega) (by omega)
  · exact ro_ln h.a
  · exact ro_ln h.b) (Nat.le_refl _)) (by omega) (by omega)
theorem ro_finds {fs : Finds} (h : ∀ f ∈ fs, FS f) (hl : fs.length ≤ 1000) : ∃ q, RO 6 16000000 (.lst (fs.map encF)) q := ro_ex (ro_lst (k := 5) (n := 12100) (m := 1000) (fun d hd => by
  obtain ⟨f, hf, rfl⟩ := List.mem_map.mp hd
  exact ro_find (h f hf)) (by rw [List.length_map]; exact hl)) (by omega) (by omega)
theorem sp_same {cl : Nat → Addr} {n : Nat} (hn : 1 ≤ n) {d1 d2 : DV} {S : DH} {Q : DK} {k : Nat} {p : PyData} (hk : kd S d2 = some k) (h6 : isK 6 k = false) (e1 : toP (res S d1) = some p) (e2 : toP (res S d2) = some p) (ok : reprOk p) (h : Q (.bl true) S) :
    D cl n ix__law_same [d1, d2] S Q := by
  obtain ⟨n, rfl⟩ : ∃ j, n = j + 1 := ⟨n - 1, by omega⟩
  walk_at "w"
  refine ⟨rfl, ?_⟩
  walk_at "w"
  rw [hk]
  walk_at "w"
  rw [h6]
  walk_at "w"
  refine ⟨p, e1, ok, ?_⟩
  walk_at "w"
  refine ⟨p, e2, ok, ?_⟩
  walk_at "w"
  refine rt_ok ?_
  rw [decide_eq_true (rfl : p.shown.cps.toList = p.shown.cps.toList)]
  exact h
end DL

set_option maxRecDepth 100000
set_option linter.all false
namespace DL
open PySem
local macro_rules | `(tactic| walk_at "w") => `(tactic| conv => whnf)
theorem WRep.same {C : Addr} {S S' : DH} {w sd fd : Addr} {kvs : List (Tx × Addr)} {seen : Seen} {finds : Finds} (h : WRep C S w sd fd kvs seen finds) (e : ∀ a ∈ foot w sd fd kvs, S' a = S a) : WRep C S' w sd fd kvs seen finds := by
  refine ⟨h.nd, by rw [e w (by simp [foot]), h.cw], by rw [e sd (by simp [foot]), h.cs], by rw [e fd (by simp [foot]), h.cf], fun a ha => by rw [e a ha]; exact h.al a ha, h.no, fun t a ht => ?_⟩
  rw [e a (by simp only [foot, List.mem_cons]; exact .inr (.inr (.inr (List.mem_map.mpr ⟨_, lookup_kv ht, rfl⟩))))]
  exact h.is t a ht
theorem WRep.out {C : Addr} {S : DH} {w sd fd : Addr} {kvs : List (Tx × Addr)} {seen : Seen} {finds : Finds} (h : WRep C S w sd fd kvs seen finds) {a : Addr} {c : Cell} (ha : a ∉ foot w sd fd kvs) : WRep C (put S a c) w sd fd kvs seen finds :=
  h.same fun b hb => put_ne fun e => ha (e ▸ hb)
theorem WRep.sub {C : Addr} {S S' : DH} {w sd fd : Addr} {kvs : List (Tx × Addr)} {seen : Seen} {finds : Finds} (h : WRep C S w sd fd kvs seen finds) (s : Sub S S') : WRep C S' w sd fd kvs seen finds :=
  h.same fun b hb => by
    cases q : S b with
    | none => exact absurd q (h.al b hb)
    | some c => exact s b c q
def zTail (cl : Nat → Addr) (n : Nat) : WS := wSeq (wAsg (wMeth (cl 0) [102, 97, 117, 108, 116, 115] 1 (D cl n 4) (wVar 0) (wNil)) (wgN 7))
    (wSeq (wIf (wNot (wBt (wCall 2 (D cl n 6) (wCons (wVar 7) (wCons (wVar 2) (wNil)))))) (wRet (wC (.bl false))) (wNext))
    (wSeq (wDrop (wBM isL mAppend (wVar 7) (wCons (wC (.str [120])) (wNil))))
    (wRet (wCall 2 (D cl n 6) (wCons (wMeth (cl 0) [102, 97, 117, 108, 116, 115] 1 (D cl n 4) (wVar 0) (wNil)) (wCons (wVar 2) (wNil)))))))
theorem res_ref {S : DH} {a : Addr} {ds : List DV} (h : S a = some (.lst ds)) : res S (.ref a) = .lst ds := by simp [res, asL, h]
theorem kd_ref {S : DH} {a : Addr} {ds : List DV} (h : S a = some (.lst ds)) : kd S (.ref a) = some 5 := by simp [kd, h]
theorem saw_end {cl : Nat → Addr} {n : Nat} (hn : 1 ≤ n) {S : DH} {w sd fd fa : Addr} {kvs : List (Tx × Addr)} {seen : Seen} {finds : Finds} {D0 : DEnds} {x1 x3 x4 x5 x6 x7 : Option DV} (h : WRep (cl 0) S w sd fd kvs seen finds) (hf : S fa = some (.lst (finds.map encF)))
    (ok : ∀ f ∈ finds, FS f) (z : finds.length ≤ 1000) (k : ∀ S', Sub S S' → D0.rt (.bl true) S') : zTail cl n D0 [some (.ref w), x1, some (.ref fa), x3, x4, x5, x6, x7] S := by
  obtain ⟨p, r⟩ := ro_finds ok z
  have rk : reprOk p := r.ok (by omega) (by omega)
  walk_at "w"
  refine ⟨_, h.cw, rfl, ?_⟩
  walk_at "w"
  refine sp_faults hn h fun q hq => ?_
  have hfq : fa ≠ q := fun e => by subst e; rw [hf] at hq; cases hq
  walk_at "w"
  refine sp_same (k := 5) (p := p) hn (kd_ref (by rw [put_ne hfq, hf])) (by decide) (by rw [res_ref put_same]; exact r.to) (by rw [res_ref (by rw [put_ne hfq, hf])]; exact r.to) rk ?_
  walk_at "w"
  refine gd_t (isL_ref put_same) ?_
  walk_at "w"
  refine ⟨_, put_same, gd_t (decide_eq_true (by rw [List.length_map]; omega)) ?_⟩
  rw [put_put]
  have s2 : Sub S (put S q (.lst (finds.map encF ++ [.str [120]]))) := (Sub.refl S).put hq _
  have h2 := h.sub s2
  have hf2 := s2 _ _ hf
  revert s2 h2 hf2
  generalize put S q (.lst (finds.map encF ++ [.str [120]])) = S2
  intro s2 h2 hf2
  walk_at "w"
  refine ⟨_, h2.cw, rfl, ?_⟩
  walk_at "w"
  refine sp_faults hn h2 fun q hq => ?_
  have hfq : fa ≠ q := fun e => by subst e; rw [hf2] at hq; cases hq
  walk_at "w"
  refine sp_same (k := 5) (p := p) hn (kd_ref (by rw [put_ne hfq, hf2])) (by decide) (by rw [res_ref put_same]; exact r.to) (by rw [res_ref (by rw [put_ne hfq, hf2])]; exact r.to) rk ?_
  exact k _ (s2.put (s2.no hq) _)
structure SRep (cl : Nat → Addr) (S : DH) (w sd fd : Addr) (kvs : List (Tx × Addr)) (sa fa : Addr) (seen : Seen) (finds : Finds) : Prop where
  W : WRep (cl 0) S w sd fd kvs seen finds
  ca : S sa = some (.lst (seen.map encS))
  cf : S fa = some (.lst (finds.map encF))
  n1 : sa ∉ foot w sd fd kvs
  n2 : fa ∉ foot w sd fd kvs
  n3 : sa ≠ fa
  z1 : kvs.length ≤ seen.length
  z2 : finds.length ≤ seen.length
  f : ∀ f ∈ finds, FS f
  s : ∀ p ∈ seen, LnK p.2
def footS (w sd fd : Addr) (kvs : List (Tx × Addr)) (sa fa : Addr) : List Addr := sa :: fa :: foot w sd fd kvs
theorem sp_law_saw {cl : Nat → Addr} {n : Nat} (hn : 4 ≤ n) {S : DH} {w sd fd sa fa : Addr} {kvs : List (Tx × Addr)} {seen : Seen} {finds : Finds} {t : Tx} {l : Ln} {Q : DK} (h : SRep cl S w sd fd kvs sa fa seen finds) (z : seen.length ≤ 900) (hl : LnK l)
    (he : ∀ e, elderF seen t l = some e → smT t = true ∧ LnS e ∧ LnS l)
    (k : ∀ S' kvs', SRep cl S' w sd fd kvs' sa fa (seen ++ [(t, l)]) (finds ++ newF (elderF seen t l) t l) → Frame S S' (footS w sd fd kvs sa fa) → (∀ a ∈ footS w sd fd kvs' sa fa, a ∈ footS w sd fd kvs sa fa ∨ S a = none) → Q (.bl true) S') :
    D cl n ix__law_saw [.ref w, .ref sa, .ref fa, .str t, encL l] S Q := by
  obtain ⟨n, rfl⟩ : ∃ j, n = j + 1 := ⟨n - 1, by omega⟩
  have hz1 := h.z1
  have hz2 := h.z2
  walk_at "w"
  refine ⟨rfl, ?_⟩
  walk_at "w"
  refine sp_elder (by omega) h.ca h.s hl ?_
  walk_at "w"
  refine ⟨_, h.W.cw, rfl, ?_⟩
  walk_at "w"
  refine sp_saw (by omega) h.W (fun p hp => (h.s p hp).ok) hl.ok (by omega) (by omega) (by omega) fun S1 kvs' w1 f1 fr zk => ?_
  have c1 := f1 _ _ h.ca h.n1
  have c2 := f1 _ _ h.cf h.n2
  have nn : ∀ a c, S a = some c → a ∉ foot w sd fd kvs → a ∉ foot w sd fd kvs' := fun a c e na hm => by
    rcases fr a hm with q | q
    · exact na q
    · rw [e] at q; cases q
  have m1 := nn _ _ h.ca h.n1
  have m2 := nn _ _ h.cf h.n2
  have fin : ∀ S2, WRep (cl 0) S2 w sd fd kvs' (seen ++ [(t, l)]) (finds ++ newF (elderF seen t l) t l) → S2 sa = some (.lst ((seen ++ [(t, l)]).map encS)) → S2 fa = some (.lst ((finds ++ newF (elderF seen t l) t l).map encF)) → Frame S S2 (footS w sd fd kvs sa fa) →
      (∀ f ∈ finds ++ newF (elderF seen t l) t l, FS f) → (finds ++ newF (elderF seen t l) t l).length ≤ seen.length + 1 → ∀ S', Sub S2 S' → Q (.bl true) S' := fun S2 w2 a1 a2 f2 fo fz S' s' => by
    refine k S' kvs' ⟨w2.sub s', s' _ _ a1, s' _ _ a2, m1, m2, h.n3, by simp; omega, by simpa using fz, fo, fun p hp => ?_⟩ (fun a c e na => s' a c (f2 a c e na)) fun a ha => ?_
    · rcases List.mem_append.mp hp with hp | hp
      · exact h.s p hp
      · cases List.mem_singleton.mp hp; exact hl
    · simp only [footS, List.mem_cons] at ha ⊢
      rcases ha with ha | ha | ha
      · exact .inl (.inl ha)
      · exact .inl (.inr (.inl ha))
      · rcases fr a ha with q | q
        · exact .inl (.inr (.inr q))
        · exact .inr q
  have fS : Frame S S1 (footS w sd fd kvs sa fa) := fun a c e na => f1 a c e fun hm => na (by simp only [footS, List.mem_cons]; exact .inr (.inr hm))
  cases hel : elderF seen t l with
  | none =>
    rw [hel] at fin w1
    have w1 : WRep (cl 0) S1 w sd fd kvs' (seen ++ [(t, l)]) finds := by simpa [newF] using w1
    have r := ro_non
    walk_at "w"
    refine sp_same (k := 0) (p := .none) (by omega) rfl (by decide) r.to r.to (r.ok (by omega) (by omega)) ?_
    walk_at "w"
    refine gd_t (isL_ref c1) ?_
    walk_at "w"
    refine ⟨_, c1, gd_t (decide_eq_true (by rw [List.length_map]; omega)) ?_⟩
    have w2 := w1.out (c := .lst (seen.map encS ++ [encS (t, l)])) m1
    have a2 : put S1 sa (.lst (seen.map encS ++ [encS (t, l)])) fa = some (.lst (finds.map encF)) := by rw [put_ne (Ne.symm h.n3), c2]
    have e0 : encS (t, l) = .tup [.str t, encL l] := rfl
    rw [e0] at w2 a2
    refine saw_end (n := n) (by omega) w2 a2 h.f (by omega) fun S' s' => rt_ok ?_
    refine fin _ (by simpa [newF] using w2) (by rw [put_same]; simp [encS]) (by simpa [newF] using a2) (fS.pu (by simp [footS])) (by simpa [newF] using h.f) (by simp [newF]; omega) S' s'
  | some e =>
    rw [hel] at fin w1
    obtain ⟨ht, hE, hL⟩ := he e hel
    obtain ⟨p, r⟩ := ro_ln hE
    walk_at "w"
    refine sp_same (k := 4) (p := p) (by omega) rfl (by decide) r.to r.to (r.ok (by omega) (by omega)) ?_
    walk_at "w"
    refine gd_t (isL_ref c1) ?_
    walk_at "w"
    refine ⟨_, c1, gd_t (decide_eq_true (by rw [List.length_map]; omega)) ?_⟩
    have w2 := w1.out (c := .lst (seen.map encS ++ [encS (t, l)])) m1
    have a2 : put S1 sa (.lst (seen.map encS ++ [encS (t, l)])) fa = some (.lst (finds.map encF)) := by rw [put_ne (Ne.symm h.n3), c2]
    have a1 : put S1 sa (.lst (seen.map encS ++ [encS (t, l)])) sa = some (.lst ((seen ++ [(t, l)]).map encS)) := by rw [put_same]; simp
    have f2 := fS.pu (a := sa) (c := .lst (seen.map encS ++ [encS (t, l)])) (by simp [footS])
    have e0 : encS (t, l) = .tup [.str t, encL l] := rfl
    rw [e0] at w2 a2 a1 f2
    revert w2 a2 a1 f2
    generalize put S1 sa (.lst (seen.map encS ++ [.tup [.str t, encL l]])) = S2
    intro w2 a2 a1 f2
    walk_at "w"
    refine gd_t (isL_ref a2) ?_
    walk_at "w"
    refine ⟨_, a2, gd_t (decide_eq_true (by rw [List.length_map]; omega)) ?_⟩
    have w3 := w2.out (c := .lst (finds.map encF ++ [encF (t, e, l)])) m2
    have b2 : put S2 fa (.lst (finds.map encF ++ [encF (t, e, l)])) fa = some (.lst ((finds ++ [(t, e, l)]).map encF)) := by rw [put_same]; simp
    have fo : ∀ f ∈ finds ++ [(t, e, l)], FS f := fun f hf => by
      rcases List.mem_append.mp hf with hf | hf
      · exact h.f f hf
      · cases List.mem_singleton.mp hf; exact ⟨ht, hE, hL⟩
    refine saw_end (n := n) (by omega) w3 b2 fo (by simp [newF]; omega) fun S' s' => rt_ok ?_
    exact fin _ w3 (by rw [put_ne h.n3, a1]) b2 (f2.pu (by simp [footS])) fo (by simp [newF]; omega) S' s'
end DL

set_option maxRecDepth 100000
set_option linter.all false
namespace DL
open PySem
local macro_rules | `(tactic| walk_at "w") => `(tactic| conv => whnf)
theorem fLoop_map {α : Type} {enc : α → DV} {cs : Cs} {g : WG} {tb : WS} {D : DEnds} (Inv : List α → Env' → DH → Prop) (hend : ∀ ρ S, Inv [] ρ S → okcs cs S ∧ D.nx ρ S)
    (hstep : ∀ x xs ρ S (K : Env' → DH → Prop), Inv (x :: xs) ρ S → (∀ ρ' S', Inv xs ρ' S' → K ρ' S') → okcs cs S ∧ g (enc x) ρ S fun ρ1 S1 => tb { nx := K, ct := K, bk := D.nx, rt := D.rt } ρ1 S1) :
    ∀ (xs : List α) (ρ : Env') (S : DH), Inv xs ρ S → fLoop cs g tb (xs.map enc) D ρ S
  | [], ρ, S, h => okc_iff.mpr (hend ρ S h)
  | x :: xs, ρ, S, h => okc_iff.mpr (hstep x xs ρ S _ h fun ρ' S' h' => fLoop_map Inv hend hstep xs ρ' S' h')
theorem rng_mem {js : List Nat} {n : Int} {j : Nat} (h : js = List.range n.toNat) (hj : j ∈ js) : (j : Int) < n := by
  subst h; simp at hj; omega
def nmMenu : List Tx := [[97], [97], [97, 98], [98]]
def stMenu : List Tx := [[49], [39, 97], [40, 41]]
def endMenu : List (Tx × Tx) := [([109, 97, 100, 101], [49]), ([109, 97, 100, 101], [39]), ([102, 97, 105, 108, 115], [97]), ([102, 97, 105, 108, 115], [97, 98]), ([119, 97, 110, 116, 115], [97]), ([119, 97, 110, 116, 115], [98]), ([119, 97, 110, 116, 115], [97, 98])]
def lnMenu : List Tx := [[120], [121], [120]]
theorem sp_one_line {cl : Nat → Addr} {n : Nat} (hn : 2 ≤ n) {ns : List Int} {k : Nat} {S : DH} {Q : DK} (hl : ns.length ≤ 63) (hk : k ≤ 999900) (h : ∀ l, LnS l → Q (encL l) S) : D cl n ix__law_one_line [.scr ns, .int k] S Q := by
  obtain ⟨n, rfl⟩ : ∃ j, n = j + 1 := ⟨n - 1, by omega⟩
  walk_at "w"
  refine ⟨rfl, ?_⟩
  walk_at "w"
  intro r hr
  walk_at "w"
  refine sp_draw (m := 4) (by omega) hl (by omega) (by decide) fun m hm => ?_
  walk_at "w"
  refine gd_t (Bool.and_eq_true_iff.mpr ⟨leI_iff.mpr (by omega), ltI_iff.mpr (by omega)⟩) ?_
  refine fLoop_map (fun js ρ S' => ∃ (reads : Reads) (x y z : Option DV), ρ = [some (.scr ns), some (.int k), some (.ref r), x, y, z] ∧ (∀ j ∈ js, j < 4) ∧ js.length + reads.length ≤ 3 ∧
    S' r = some (.lst (reads.map encRead)) ∧ Sub S S' ∧ (∀ p ∈ reads, smT p.1 = true ∧ smT p.2 = true)) ?_ ?_ _ _ _ ⟨[], _, _, _, rfl, fun j hj => ?_, ?_, put_same, (Sub.refl S).put hr _, fun p hp => (nomatch hp)⟩
  · rintro ρ S' ⟨reads, x, y, z, rfl, hj, hz, hs, sub, hr2⟩
    refine ⟨(fun _ z => nomatch z), ?_⟩
    walk_at "w"
    intro q hq
    have hqr : r ≠ q := fun e => by subst e; rw [hs] at hq; cases hq
    walk_at "w"
    refine gd_t (isL_ref put_same) ?_
    walk_at "w"
    refine ⟨_, put_same, gd_t (decide_eq_true (by simp)) ?_⟩
    rw [put_put]
    have hreads : reads.length ≤ 3 := by simpa using hz
    have c1 : put S' q (.lst (endMenu.map encRead)) r = some (.lst (reads.map encRead)) := by rw [put_ne hqr, hs]
    have c2 : put S' q (.lst (endMenu.map encRead)) q = some (.lst (endMenu.map encRead)) := put_same
    have c3 : Sub S (put S' q (.lst (endMenu.map encRead))) := sub.put (sub.no hq) _
    have e0 : [DV.tup [.str [109, 97, 100, 101], .str [49]], .tup [.str [109, 97, 100, 101], .str [39]], .tup [.str [102, 97, 105, 108, 115], .str [97]], .tup [.str [102, 97, 105, 108, 115], .str [97, 98]], .tup [.str [119, 97, 110, 116, 115], .str [97]], .tup [.str [119, 97, 110, 116, 115], .str [98]]] ++ [.tup [.str [119, 97, 110, 116, 115], .str [97, 98]]] = (endMenu.map encRead) := rfl
    rw [e0]
    revert c1 c2 c3
    generalize put S' q (.lst (endMenu.map encRead)) = S2
    intro c1 c2 c3
    walk_at "w"
    refine sp_draw (k := k + 8) (m := 3) (by omega) hl (by omega) (by decide) fun r1 h1 => ?_
    walk_at "w"
    obtain ⟨nm, hnm, q1⟩ := menu_get (f := DV.str) (xs := lnMenu) (r := r1) h1
    refine opt_some q1 ?_
    walk_at "w"
    rw [asL_ref c1]
    walk_at "w"
    refine sp_draw (k := k + 9) (m := 7) (by omega) hl (by omega) (by decide) fun r2 h2 => ?_
    walk_at "w"
    rw [asL_ref c2]
    walk_at "w"
    obtain ⟨en, hen, q2⟩ := menu_get (f := encRead) (xs := endMenu) (r := r2) h2
    refine opt_some q2 ?_
    walk_at "w"
    have f1 : ∀ s ∈ lnMenu, smT s = true := by decide
    have f2 : ∀ p ∈ endMenu, smT p.1 = true ∧ smT p.2 = true := by decide
    exact ⟨_, S, .drop c3, h ⟨nm, reads, en⟩ ⟨f1 nm hnm, hr2, hreads, f2 en hen⟩⟩
  · rintro j js ρ S' K ⟨reads, x, y, z, rfl, hj, hz, hs, sub, hr2⟩ hK
    have j4 := hj j (List.mem_cons_self ..)
    refine ⟨(fun _ z => nomatch z), ?_⟩
    walk_at "w"
    refine sp_draw (k := k + 1 + 2 * j) (m := 4) (by omega) hl (by omega) (by decide) fun r1 h1 => ?_
    walk_at "w"
    obtain ⟨nm, hnm, q1⟩ := menu_get (f := DV.str) (xs := nmMenu) (r := r1) h1
    refine opt_some q1 ?_
    walk_at "w"
    refine gd_t (isL_ref hs) ?_
    walk_at "w"
    refine sp_draw (k := k + 2 + 2 * j) (m := 3) (by omega) hl (by omega) (by decide) fun r2 h2 => ?_
    walk_at "w"
    obtain ⟨st, hst, q2⟩ := menu_get (f := DV.str) (xs := stMenu) (r := r2) h2
    refine opt_some q2 ?_
    walk_at "w"
    simp only [List.length_cons] at hz
    refine ⟨_, hs, gd_t (decide_eq_true (by rw [List.length_map]; omega)) ?_⟩
    refine hK _ _ ⟨reads ++ [(nm, st)], _, _, _, rfl, fun i hi => hj i (List.mem_cons_of_mem _ hi), by simp; omega, by rw [put_same]; simp [encRead], sub.put hr _, fun p hp => ?_⟩
    rcases List.mem_append.mp hp with hp | hp
    · exact hr2 p hp
    · cases List.mem_singleton.mp hp
      have f1 : ∀ s ∈ nmMenu, smT s = true := by decide
      have f2 : ∀ s ∈ stMenu, smT s = true := by decide
      exact ⟨f1 nm hnm, f2 st hst⟩
  · have := rng_mem rfl hj; omega
  · simp; omega
end DL

set_option maxRecDepth 100000
set_option linter.all false
namespace DL
open PySem
local macro_rules | `(tactic| walk_at "w") => `(tactic| conv => whnf)
def endP : End → Tx × Tx
  | .fails w => ([102, 97, 105, 108, 115], w)
  | .wants w => ([119, 97, 110, 116, 115], w)
  | .made w => ([109, 97, 100, 101], w)
theorem encEnd_eq (e : End) : encEnd e = encRead (endP e) := by cases e <;> rfl
/-! a run's reads pile up -/
theorem run_pre (good : Good) : ∀ (rc : Rc) (gots : List Val) (reads : Reads), (runF good gots reads rc).reads = reads ++ (runF good gots [] rc).reads ∧ (runF good gots reads rc).fin = (runF good gots [] rc).fin
  | .say e, gots, reads => by
    unfold runF
    split <;> simp
  | .fail w, gots, reads => by
    unfold runF
    simp
  | .want e r, gots, reads => by
    unfold runF
    split
    · simp
    · split
      · simp
      · split
        · simp
        · rename_i _ v _ _ _ _ g _
          have h1 := run_pre good r (gots ++ [g]) (reads ++ [(nameV v, stamp g)])
          have h2 := run_pre good r (gots ++ [g]) ([] ++ [(nameV v, stamp g)])
          rw [h1.1, h2.1, h1.2, h2.2]
          simp
  | .peek e r, gots, reads => by
    unfold runF
    split
    · simp
    · split
      · simp
      · split
        · simp
        · exact run_pre good r _ reads
  | .cond e a b, gots, reads => by
    unfold runF
    split
    · simp
    · split
      · exact run_pre good b gots reads
      · exact run_pre good a gots reads
theorem no_odds {V : Val → Prop} (inj : ∀ a b, V a → V b → stamp a = stamp b → a = b) {g1 g2 : Good} (h1 : ∀ p ∈ g1, V p.2) (h2 : ∀ p ∈ g2, V p.2) : ∀ (rc : Rc) (gots : List Val), honest rc = true →
    oddsF (runF g1 gots [] rc).reads (endP (runF g1 gots [] rc).fin) (runF g2 gots [] rc).reads (endP (runF g2 gots [] rc).fin) = false
  | .say e, gots, _ => by
    unfold runF
    cases toldF gots e <;> simp [oddsF]
  | .fail w, gots, _ => by
    unfold runF
    simp [oddsF]
  | .want e r, gots, hh => by
    have hh : honest r = true := by simpa [honest] using hh
    unfold runF
    cases toldF gots e with
    | bad w => simp [oddsF]
    | val v =>
      dsimp only
      cases isName v with
      | false => simp [oddsF]
      | true =>
        dsimp only
        cases e1 : g1.lookup (nameV v) with
        | none =>
          cases e2 : g2.lookup (nameV v) with
          | none => simp [oddsF]
          | some b =>
            dsimp only
            have q2 := run_pre g2 r (gots ++ [b]) ([] ++ [(nameV v, stamp b)])
            rw [q2.1]
            show decide (endP (.wants (nameV v)) ≠ wantsP (nameV v)) = false
            simp [endP, wantsP]
        | some a =>
          dsimp only
          have q1 := run_pre g1 r (gots ++ [a]) ([] ++ [(nameV v, stamp a)])
          rw [q1.1, q1.2]
          cases e2 : g2.lookup (nameV v) with
          | none =>
            show decide (wantsP (nameV v) ≠ endP (.wants (nameV v))) = false
            simp [endP, wantsP]
          | some b =>
            dsimp only
            have q2 := run_pre g2 r (gots ++ [b]) ([] ++ [(nameV v, stamp b)])
            rw [q2.1, q2.2]
            show (if nameV v ≠ nameV v then true else if stamp a ≠ stamp b then false else _) = false
            rw [if_neg (by simp)]
            by_cases hs : stamp a = stamp b
            · rw [if_neg (by simpa using hs)]
              have := inj a b (h1 _ (lookup_mem e1)) (h2 _ (lookup_mem e2)) hs
              subst this
              exact no_odds inj h1 h2 r (gots ++ [a]) hh
            · rw [if_pos hs]
  | .peek e r, gots, hh => by simp [honest] at hh
  | .cond e a b, gots, hh => by
    have hh : honest a = true ∧ honest b = true := by simpa [honest] using hh
    unfold runF
    cases toldF gots e with
    | bad w => simp [oddsF]
    | val v =>
      dsimp only
      cases emptyV v with
      | true => exact no_odds inj h1 h2 b gots hh.2
      | false => exact no_odds inj h1 h2 a gots hh.1
/-! the pool -/
def allV : List Val := menuV ++ menuN.map .str
theorem numD_0 : numD 0 = [48] := by rw [show (0 : Int) = ((0 : Nat) : Int) from rfl, numD_nat]; decide +kernel
theorem numD_1 : numD 1 = [49] := by rw [show (1 : Int) = ((1 : Nat) : Int) from rfl, numD_nat]; decide +kernel
theorem numD_2 : numD 2 = [50] := by rw [show (2 : Int) = ((2 : Nat) : Int) from rfl, numD_nat]; decide +kernel
theorem numD_m3 : numD (-3) = [45, 51] := by rw [show (-3 : Int) = Int.negSucc 2 from rfl, numD_neg]; decide +kernel
theorem numD_big : numD (10 ^ 18) = [49, 48, 48, 48, 48, 48, 48, 48, 48, 48, 48, 48, 48, 48, 48, 48, 48, 48, 48] := by rw [show (10 ^ 18 : Int) = ((1000000000000000000 : Nat) : Int) from rfl, numD_nat]; decide +kernel
def tab : List (Tx × Val) := [([48], .int 0), ([49], .int 1), ([50], .int 2), ([45, 51], .int (-3)), ([39], .str []), ([39, 97], .str [97]), ([39, 45, 48], .str [45, 48]), ([40, 41], .row []), ([40, 49, 44, 39, 98, 41], .row [.int 1, .str [98]]),
  ([40, 39, 97, 44, 40, 48, 41, 41], .row [.str [97], .row [.int 0]]), ([49, 48, 48, 48, 48, 48, 48, 48, 48, 48, 48, 48, 48, 48, 48, 48, 48, 48, 48], .int (10 ^ 18))] ++ menuN.map fun s => (39 :: s, .str s)
theorem tab_ok : ∀ v ∈ allV, tab.lookup (stamp v) = some v := by
  intro v hv
  simp only [allV, menuV, menuN, List.map_cons, List.map_nil, List.cons_append, List.nil_append, List.mem_cons, List.mem_nil_iff, or_false] at hv
  rcases hv with rfl | rfl | rfl | rfl | rfl | rfl | rfl | rfl | rfl | rfl | rfl | rfl | rfl | rfl | rfl | rfl | rfl | rfl | rfl | rfl | rfl | rfl | rfl | rfl | rfl <;>
    simp only [stamp, stamps, numD_0, numD_1, numD_2, numD_m3, numD_big] <;> rfl
theorem stamp_inj (a b : Val) (ha : a ∈ allV) (hb : b ∈ allV) (h : stamp a = stamp b) : a = b := by
  have h1 := tab_ok a ha
  have h2 := tab_ok b hb
  rw [h, h2] at h1
  exact (Option.some.inj h1).symm
theorem pool_all {names : List Tx} (h : NamesOk names) {v : Val} (hv : v ∈ pool names) : v ∈ allV := by
  rcases List.mem_append.mp hv with hv | hv
  · exact List.mem_append.mpr (.inl hv)
  · obtain ⟨s, hs, rfl⟩ := List.mem_map.mp hv
    exact List.mem_append.mpr (.inr (List.mem_map.mpr ⟨s, h.mem s hs, rfl⟩))
mutual
def cpB : Val → Bool
  | .int _ => true
  | .str s => cpT s
  | .row vs => cpBs vs
def cpBs : List Val → Bool
  | [] => true
  | v :: vs => cpB v && cpBs vs
end
theorem cpB_cp : ∀ (v : Val), cpB v = true → Cp v
  | .int _, _ => .int
  | .str s, h => .str h
  | .row vs, h => .row fun v hv => by
    have key : ∀ ws : List Val, cpBs ws = true → ∀ v ∈ ws, cpB v = true := fun ws => by
      induction ws with
      | nil => intro _ v hv; nomatch hv
      | cons w ws ih =>
        intro hh v hv
        have hh : cpB w = true ∧ cpBs ws = true := by simpa [cpBs] using hh
        rcases List.mem_cons.mp hv with e | e
        · subst e; exact hh.1
        · exact ih hh.2 v e
    exact cpB_cp v (key vs h v hv)
theorem all_bd {v : Val} (h : v ∈ allV) : Bd 4 v := fits_bd (d := 0) (by decide) ((by decide +kernel : ∀ v ∈ allV, fitsB 0 v = true) v h)
theorem all_cp {v : Val} (h : v ∈ allV) : Cp v := cpB_cp v ((by decide +kernel : ∀ v ∈ allV, cpB v = true) v h)
end DL

set_option maxRecDepth 100000
set_option linter.all false
namespace DL
open PySem
local macro_rules | `(tactic| walk_at "w") => `(tactic| conv => whnf)
theorem chr_lt (c : Char) : c.toNat < 1114112 := by
  have := c.valid
  unfold UInt32.isValidChar Nat.isValidChar at this
  show c.val.toNat < _
  omega
theorem numD_cp (i : Int) : cpT (numD i) = true := by
  unfold cpT numD
  simp only [List.all_map, List.all_eq_true]
  intro c _
  exact decide_eq_true (chr_lt c)
theorem join_cp : ∀ {xs : List Tx}, (∀ x ∈ xs, cpT x = true) → cpT (joinD [44] xs) = true
  | [], _ => rfl
  | [x], h => h x (List.mem_cons_self ..)
  | x :: y :: r, h => cp_app (cp_app (h x (List.mem_cons_self ..)) (by decide)) (join_cp fun z hz => h z (List.mem_cons_of_mem _ hz))
theorem stamp_cp : ∀ {d : Nat} {v : Val}, Bd d v → Cp v → cpT (stamp v) = true
  | _, .int i, _, _ => numD_cp i
  | _, .str s, _, .str h => cp_app (a := [39]) (by decide) h
  | d + 1, .row vs, .row _ hb, .row hc => by
    have : cpT ([40] ++ joinD [44] (stamps vs) ++ [41]) = true := cp_app (cp_app (by decide) (join_cp fun x hx => by
      rw [stamps_map] at hx
      obtain ⟨v, hv, rfl⟩ := List.mem_map.mp hx
      exact stamp_cp (hb v hv) (hc v hv))) (by decide)
    exact this
theorem firstBad_some : ∀ {rs : List Res} {w : Tx}, firstBad rs = some w → Res.bad w ∈ rs
  | .bad w :: _, _, h => by cases h; exact List.mem_cons_self ..
  | .val _ :: rs, _, h => List.mem_cons_of_mem _ (firstBad_some (rs := rs) h)
theorem finR_bad {v : Val} {w : Tx} (h : finR v = .bad w) : cpT w = true := by
  unfold finR at h
  split at h <;> cases h
  decide
theorem told_bad {P : Val → Prop} {gots : List Val} : ∀ {d : Nat} {e : Ex} {w : Tx}, OkE P gots.length d e → toldF gots e = .bad w → cpT w = true
  | d, .put _, w, _, q => by rw [toldF] at q; cases q
  | d, .got _, w, _, q => by rw [toldF] at q; cases q
  | d + 1, .row es, w, .row _ ho, q => by
    rw [toldF] at q
    split at q
    · rename_i w2 e
      cases q
      have := firstBad_some e
      rw [toldsF_map] at this
      obtain ⟨e, he, e2⟩ := List.mem_map.mp this
      exact told_bad (ho e he) e2
    · exact finR_bad q
  | d + 1, .many e, w, .many h, q => by
    rw [toldF] at q
    split at q
    · rename_i w2 e2
      cases q
      exact told_bad h e2
    · rename_i v _
      cases v <;> cases q
      decide
  | d + 1, .bin o a b, w, .bin ha hb, q => by
    rw [toldF] at q
    split at q
    · rename_i e2; cases q; exact told_bad ha e2
    · rename_i e2; cases q; exact told_bad hb e2
    · unfold binR at q
      split at q
      · cases q; decide
      · split at q
        · cases q; decide
        · exact finR_bad q
def cpR : Rc → Bool
  | .say _ => true
  | .fail w => cpT w
  | .want _ r => cpR r
  | .peek _ r => cpR r
  | .cond _ a b => cpR a && cpR b
theorem name_cp {v : Val} (h : isName v = true) : cpT (nameV v) = true := by
  cases v with
  | str s =>
    unfold isName at h
    have h := (Bool.and_eq_true_iff.mp h).2
    refine List.all_eq_true.mpr fun c hc => ?_
    have := List.all_eq_true.mp h c hc
    exact (by decide : ∀ c ∈ abc, decide (c < 1114112) = true) c (by simpa using this)
  | _ => cases h
theorem run_ok {P : Val → Prop} (hP : ∀ v, P v → Bd 4 v) (hP2 : ∀ v, P v → Cp v) {good : Good} (hg : ∀ p ∈ good, Bd 4 p.2 ∧ Cp p.2) : ∀ (rc : Rc) (gots : List Val), OkR P gots.length rc → cpR rc = true → (∀ v ∈ gots, Bd 4 v ∧ Cp v) →
    (∀ p ∈ (runF good gots [] rc).reads, cpP p = true) ∧ cpP (endP (runF good gots [] rc).fin) = true ∧ (runF good gots [] rc).reads.length ≤ rcSize rc
  | .say e, gots, .say ho, hc, hgo => by
    have b1 : ∀ v ∈ gots, Bd 4 v := fun v hv => (hgo v hv).1
    have b2 : ∀ v ∈ gots, Cp v := fun v hv => (hgo v hv).2
    unfold runF
    cases ht : toldF gots e with
    | bad w => exact ⟨fun p hp => (nomatch hp), cpP_iff.mpr ⟨by show cpT [102, 97, 105, 108, 115] = true; decide, told_bad ho ht⟩, by simp⟩
    | val v => exact ⟨fun p hp => (nomatch hp), cpP_iff.mpr ⟨by show cpT [109, 97, 100, 101] = true; decide, stamp_cp (told_bd hP b1 ho ht) (told_cp hP2 b2 ho ht)⟩, by simp⟩
  | .fail w, gots, _, hc, hgo => by
    unfold runF
    exact ⟨fun p hp => (nomatch hp), cpP_iff.mpr ⟨by show cpT [102, 97, 105, 108, 115] = true; decide, hc⟩, by simp⟩
  | .want e r, gots, .want ho hr, hc, hgo => by
    have b1 : ∀ v ∈ gots, Bd 4 v := fun v hv => (hgo v hv).1
    unfold runF
    cases ht : toldF gots e with
    | bad w => exact ⟨fun p hp => (nomatch hp), cpP_iff.mpr ⟨by show cpT [102, 97, 105, 108, 115] = true; decide, told_bad ho ht⟩, by simp⟩
    | val v =>
      dsimp only
      cases hi : isName v with
      | false => exact ⟨fun p hp => (nomatch hp), (by show cpP ([102, 97, 105, 108, 115], [110, 97, 109, 101]) = true; decide), by simp⟩
      | true =>
        dsimp only
        cases hl : good.lookup (nameV v) with
        | none => exact ⟨fun p hp => (nomatch hp), cpP_iff.mpr ⟨by show cpT [119, 97, 110, 116, 115] = true; decide, name_cp hi⟩, by simp⟩
        | some g =>
          dsimp only
          have hg0 := hg _ (lookup_mem hl)
          have ih := run_ok hP hP2 hg r (gots ++ [g]) (by simpa using hr) hc fun v hv => by
            rcases List.mem_append.mp hv with hv | hv
            · exact hgo v hv
            · cases List.mem_singleton.mp hv; exact hg0
          have q := run_pre good r (gots ++ [g]) ([] ++ [(nameV v, stamp g)])
          rw [q.1, q.2]
          refine ⟨fun p hp => ?_, ih.2.1, by simp [rcSize]; exact ih.2.2⟩
          rcases List.mem_append.mp hp with hp | hp
          · cases List.mem_singleton.mp hp
            exact cpP_iff.mpr ⟨name_cp hi, stamp_cp hg0.1 hg0.2⟩
          · exact ih.1 p hp
  | .peek e r, gots, .peek ho hr, hc, hgo => by
    have b1 : ∀ v ∈ gots, Bd 4 v := fun v hv => (hgo v hv).1
    unfold runF
    cases ht : toldF gots e with
    | bad w => exact ⟨fun p hp => (nomatch hp), cpP_iff.mpr ⟨by show cpT [102, 97, 105, 108, 115] = true; decide, told_bad ho ht⟩, by simp⟩
    | val v =>
      dsimp only
      cases hi : isName v with
      | false => exact ⟨fun p hp => (nomatch hp), (by show cpP ([102, 97, 105, 108, 115], [110, 97, 109, 101]) = true; decide), by simp⟩
      | true =>
        dsimp only
        cases hl : good.lookup (nameV v) with
        | none => exact ⟨fun p hp => (nomatch hp), cpP_iff.mpr ⟨by show cpT [119, 97, 110, 116, 115] = true; decide, name_cp hi⟩, by simp⟩
        | some g =>
          dsimp only
          have hg0 := hg _ (lookup_mem hl)
          have ih := run_ok hP hP2 hg r (gots ++ [g]) (by simpa using hr) hc fun v hv => by
            rcases List.mem_append.mp hv with hv | hv
            · exact hgo v hv
            · cases List.mem_singleton.mp hv; exact hg0
          exact ⟨ih.1, ih.2.1, by simp [rcSize]; omega⟩
  | .cond e a b, gots, .cond ho ha hb, hc, hgo => by
    have hc : cpR a = true ∧ cpR b = true := by simpa [cpR] using hc
    unfold runF
    cases ht : toldF gots e with
    | bad w => exact ⟨fun p hp => (nomatch hp), cpP_iff.mpr ⟨by show cpT [102, 97, 105, 108, 115] = true; decide, told_bad ho ht⟩, by simp⟩
    | val v =>
      dsimp only
      cases emptyV v with
      | true => have ih := run_ok hP hP2 hg b gots hb hc.2 hgo; exact ⟨ih.1, ih.2.1, by simp [rcSize]; omega⟩
      | false => have ih := run_ok hP hP2 hg a gots ha hc.1 hgo; exact ⟨ih.1, ih.2.1, by simp [rcSize]; omega⟩
def doL (good : Good) (rc : Rc) : Ln := ⟨[120], (runF good [] [] rc).reads, endP (runF good [] [] rc).fin⟩
theorem putDV_enc (k : Tx) (v : Val) (g : Good) {P : Val → Prop} (hv : P v) (hg : ∀ p ∈ g, P p.2) : ∃ g' : Good, putDV k (encV v) (encG g) = encG g' ∧ (∀ p ∈ g', P p.2) ∧ g'.length ≤ g.length + 1 := by
  unfold putDV
  rw [lookup_encG]
  cases g.lookup k with
  | none =>
    refine ⟨g ++ [(k, v)], by simp [encG], fun p hp => ?_, by simp⟩
    rcases List.mem_append.mp hp with hp | hp
    · exact hg p hp
    · cases List.mem_singleton.mp hp; exact hv
  | some w =>
    refine ⟨g.map fun kv => if kv.1 = k then (kv.1, v) else kv, ?_, fun p hp => ?_, by simp⟩
    · simp only [Option.map, encG, List.map_map]
      refine List.map_congr_left fun p _ => ?_
      simp only [Function.comp]
      split <;> rfl
    · obtain ⟨q, hq, rfl⟩ := List.mem_map.mp hp
      split
      · exact hv
      · exact hg q hq
theorem sp_doing {cl : Nat → Addr} {P : Val → Prop} (hP : ∀ v, P v → Bd 4 v) (hP2 : ∀ v, P v → Cp v) {n : Nat} (hn : 11 ≤ n) {ns : List Int} {k : Nat} {names : List Tx} {rc : Rc} {S : DH} {Q : DK} (hl : ns.length ≤ 63) (hk : k ≤ 999900) (ho : NamesOk names) (hpo : ∀ v ∈ pool names, P v)
    (hrc : OkR P 0 rc) (hz : rcSize rc ≤ 1000) (h : ∀ good : Good, (∀ p ∈ good, P p.2) → Q (encL (doL good rc)) S) : D cl n ix__law_doing [.scr ns, .int k, .lst (names.map .str), encRc rc] S Q := by
  obtain ⟨n, rfl⟩ : ∃ j, n = j + 1 := ⟨n - 1, by omega⟩
  have ho2 := ho.hi
  walk_at "w"
  refine ⟨rfl, ?_⟩
  walk_at "w"
  intro dd hdd
  walk_at "w"
  refine gd_t (Bool.and_eq_true_iff.mpr ⟨leI_iff.mpr (by omega), ltI_iff.mpr (by rw [List.length_map]; omega)⟩) ?_
  rw [List.length_map]
  refine fLoop_map (fun js ρ S' => ∃ (good : Good) (x : Option DV), ρ = [some (.scr ns), some (.int k), some (.lst (names.map .str)), some (encRc rc), some (.ref dd), x, none] ∧ (∀ j ∈ js, j < names.length) ∧
    S' dd = some (.dic (encG good)) ∧ Sub S S' ∧ (∀ p ∈ good, P p.2) ∧ good.length + js.length ≤ 7) ?_ ?_ _ _ _ ⟨[], _, rfl, fun j hj => ?_, put_same, (Sub.refl S).put hdd _, fun p hp => (nomatch hp), ?_⟩
  · rintro ρ S' ⟨good, x, rfl, hj, hs, sub, hg, hz2⟩
    refine ⟨(fun _ z => nomatch z), ?_⟩
    walk_at "w"
    refine sp_run hP hP2 (by omega) hs (fun p hp => ⟨hP _ (hg p hp), hP2 _ (hg p hp)⟩) hrc hz ?_
    walk_at "w"
    refine ⟨_, S, .drop sub, ?_⟩
    have := h good hg
    unfold doL encL at this
    rw [← encEnd_eq] at this
    exact this
  · rintro j js ρ S' K ⟨good, x, rfl, hj, hs, sub, hg, hz2⟩ hK
    have j4 := hj j (List.mem_cons_self ..)
    refine ⟨(fun _ z => nomatch z), ?_⟩
    walk_at "w"
    refine sp_draw (k := k + 2 * j) (m := 4) (by omega) hl (by omega) (by decide) fun r1 h1 => ?_
    walk_at "w"
    simp only [List.length_cons] at hz2
    refine br_split (fun e => ?_) fun e => ?_
    · walk_at "w"
      refine sp_value (k := k + 1 + 2 * j) (by omega) hl (by omega) ho2 fun v hv => ?_
      walk_at "w"
      refine opt_some (d := .str names[j]) (by rw [atD_ofNat, List.getElem?_map, List.getElem?_eq_getElem j4]; rfl) ?_
      walk_at "w"
      refine ⟨_, hs, gd_t (decide_eq_true (by rw [encG, List.length_map]; omega)) ?_⟩
      obtain ⟨g', e1, hg', hz3⟩ := putDV_enc names[j] v good (hpo v hv) hg
      rw [e1]
      exact hK _ _ ⟨g', _, rfl, fun i hi => hj i (List.mem_cons_of_mem _ hi), put_same, sub.put hdd _, hg', by omega⟩
    · exact hK _ _ ⟨good, _, rfl, fun i hi => hj i (List.mem_cons_of_mem _ hi), hs, sub, hg, by omega⟩
  · have := rng_mem rfl hj; omega
  · simp; omega
end DL

set_option maxRecDepth 100000
set_option linter.all false
namespace DL
open PySem
local macro_rules | `(tactic| walk_at "w") => `(tactic| conv => whnf)
/-! the recipes drawn -/
theorem okE_menuE {P : Val → Prop} (h0 : P (.int 0)) (h1 : P (.int 1)) (ha : P (.str [97])) {w : Val} (hw : P w) {g : Nat} (hg : 0 < g) : ∀ x ∈ menuE w, OkE P g 2 x := by
  intro x hx
  simp only [menuE, List.mem_cons, List.mem_nil_iff, or_false] at hx
  have g0 : ∀ {d : Nat}, OkE P g d (.got 0) := .got hg
  rcases hx with rfl | rfl | rfl | rfl | rfl | rfl | rfl | rfl | rfl | rfl
  · exact g0
  · exact .bin g0 (.put h1)
  · exact .bin g0 (.put ha)
  · exact .many g0
  · exact .bin g0 (.put hw)
  · refine .row (by simp) fun e he => ?_
    simp only [List.mem_cons, List.mem_nil_iff, or_false] at he
    rcases he with rfl | rfl
    · exact g0
    · exact .put hw
  · exact .bin g0 (.put h0)
  · exact .bin g0 (.put h1)
  · exact .many g0
  · exact g0
theorem okE_menuT {P : Val → Prop} {g : Nat} (hg : 1 < g) : ∀ x ∈ menuT, OkE P g 2 x := by
  intro x hx
  simp only [menuT, List.mem_cons, List.mem_nil_iff, or_false] at hx
  have g0 : ∀ {d : Nat}, OkE P g d (.got 0) := .got (by omega)
  have g1 : ∀ {d : Nat}, OkE P g d (.got 1) := .got hg
  rcases hx with rfl | rfl | rfl
  · refine .row (by simp) fun e he => ?_
    simp only [List.mem_cons, List.mem_nil_iff, or_false] at he
    rcases he with rfl | rfl
    · exact g0
    · exact g1
  · exact .bin g0 g1
  · exact .bin g1 g0
structure RcOk (P : Val → Prop) (r : Rc) : Prop where
  ok : OkR P 0 r
  z : rcSize r ≤ 1000
  c : cpR r = true
theorem recipes {P : Val → Prop} (h0 : P (.int 0)) (h1 : P (.int 1)) (hA : P (.str [97])) {a b f : Tx} {v w : Val} {x two : Ex} (ha : P (.str a)) (hb : P (.str b)) (hv : P v) (hw : P w) (hx : x ∈ menuE w) (h2 : two ∈ menuT) (hf : cpT f = true) :
    ∀ r ∈ menuR a b v x two f, RcOk P r := by
  intro r hr
  simp only [menuR, List.mem_cons, List.mem_nil_iff, or_false] at hr
  have x1 := okE_menuE h0 h1 hA hw (g := 1) (by omega) x hx
  have x2 := okE_menuE h0 h1 hA hw (g := 2) (by omega) x hx
  have t2 := okE_menuT (P := P) (g := 2) (by omega) two h2
  have g0 : ∀ {g d : Nat}, OkE P (g + 1) d (.got 0) := .got (by omega)
  have g1 : ∀ {g d : Nat}, OkE P (g + 2) d (.got 1) := .got (by omega)
  rcases hr with rfl | rfl | rfl | rfl | rfl | rfl | rfl | rfl | rfl | rfl | rfl | rfl
  · exact ⟨.say (.put hv), by simp [rcSize], rfl⟩
  · exact ⟨.want (.put ha) (.say x1), by simp [rcSize], rfl⟩
  · exact ⟨.want (.put ha) (.want (.put hb) (.say t2)), by simp [rcSize], rfl⟩
  · exact ⟨.want (.put ha) (.say x1), by simp [rcSize], rfl⟩
  · exact ⟨.want (.put ha) (.cond x1 (.want (.put hb) (.say g1)) (.say (.put hv))), by simp [rcSize], rfl⟩
  · exact ⟨.want (.put ha) (.want g0 (.say g1)), by simp [rcSize], rfl⟩
  · exact ⟨.fail, by simp [rcSize], hf⟩
  · exact ⟨.want (.put ha) (.want (.put ha) (.say t2)), by simp [rcSize], rfl⟩
  · exact ⟨.peek (.put ha) (.say x1), by simp [rcSize], rfl⟩
  · exact ⟨.peek (.put ha) (.cond x1 (.want (.put hb) (.say g1)) (.say (.put hv))), by simp [rcSize], rfl⟩
  · exact ⟨.want (.put ha) (.peek (.put hb) (.say t2)), by simp [rcSize], rfl⟩
  · exact ⟨.peek (.put ha) (.want (.put hb) (.say t2)), by simp [rcSize], rfl⟩
theorem recipes_honest {a b f : Tx} {v : Val} {x two : Ex} : ∀ r ∈ (menuR a b v x two f).take 8, honest r = true := by
  intro r hr
  simp only [menuR, List.take, List.mem_cons, List.mem_nil_iff, or_false] at hr
  rcases hr with rfl | rfl | rfl | rfl | rfl | rfl | rfl | rfl <;> rfl
/-! two watches -/
structure Sd where
  w : Addr
  sd : Addr
  fd : Addr
  sa : Addr
  fa : Addr
  kvs : List (Tx × Addr)
  seen : Seen
  finds : Finds
def Sd.foot (A : Sd) : List Addr := footS A.w A.sd A.fd A.kvs A.sa A.fa
def Sd.Rep (cl : Nat → Addr) (S : DH) (A : Sd) : Prop := SRep cl S A.w A.sd A.fd A.kvs A.sa A.fa A.seen A.finds
def Sd.Same (A B : Sd) : Prop := A.w = B.w ∧ A.sa = B.sa ∧ A.fa = B.fa
def Disj (A B : Sd) : Prop := ∀ a ∈ A.foot, a ∉ B.foot
theorem Sd.al {cl : Nat → Addr} {S : DH} {A : Sd} (h : A.Rep cl S) : ∀ a ∈ A.foot, S a ≠ none := by
  intro a ha
  simp only [Sd.foot, footS, List.mem_cons] at ha
  rcases ha with rfl | rfl | ha
  · rw [h.ca]; intro z; cases z
  · rw [h.cf]; intro z; cases z
  · exact h.W.al a ha
theorem Sd.same {cl : Nat → Addr} {S S' : DH} {A : Sd} (h : A.Rep cl S) (e : ∀ a ∈ A.foot, S' a = S a) : A.Rep cl S' :=
  ⟨h.W.same fun a ha => e a (by simp only [Sd.foot, footS, List.mem_cons]; exact .inr (.inr ha)), by rw [e A.sa (by simp [Sd.foot, footS]), h.ca], by rw [e A.fa (by simp [Sd.foot, footS]), h.cf], h.n1, h.n2, h.n3, h.z1, h.z2, h.f, h.s⟩
theorem Sd.sub {cl : Nat → Addr} {S S' : DH} {A : Sd} (h : A.Rep cl S) (s : Sub S S') : A.Rep cl S' := Sd.same h fun a ha => by
  cases q : S a with
  | none => exact absurd q (Sd.al h a ha)
  | some c => exact s a c q
theorem two_saw {cl : Nat → Addr} {n : Nat} (hn : 4 ≤ n) {S : DH} {A B : Sd} {t : Tx} {l : Ln} {Q : DK} (hA : A.Rep cl S) (hB : B.Rep cl S) (hd : Disj A B) (z : A.seen.length ≤ 900) (hl : LnK l)
    (he : ∀ e, elderF A.seen t l = some e → smT t = true ∧ LnS e ∧ LnS l)
    (k : ∀ S' A', A'.Rep cl S' → B.Rep cl S' → Disj A' B → A'.Same A → A'.seen = A.seen ++ [(t, l)] → A'.finds = A.finds ++ newF (elderF A.seen t l) t l → Q (.bl true) S') :
    D cl n ix__law_saw [.ref A.w, .ref A.sa, .ref A.fa, .str t, encL l] S Q := by
  refine sp_law_saw hn hA z hl he fun S' kvs' h1 f1 fr => ?_
  refine k S' ⟨A.w, A.sd, A.fd, A.sa, A.fa, kvs', _, _⟩ h1 (Sd.same hB fun a ha => ?_) (fun a ha hb => ?_) ⟨rfl, rfl, rfl⟩ rfl rfl
  · cases q : S a with
    | none => exact absurd q (Sd.al hB a ha)
    | some c => exact f1 a c q fun z => hd a z ha
  · rcases fr a ha with q | q
    · exact hd a q hb
    · exact Sd.al hB a hb q
theorem Disj.symm {A B : Sd} (h : Disj A B) : Disj B A := fun a ha hb => h a hb ha
def T123 : Tx := [115, 97, 121, 32, 112, 117, 116, 32, 49, 50, 51]
def txMenu : List Tx := [[115, 97, 121, 32, 112, 117, 116, 32, 49], [115, 97, 121, 32, 112, 117, 116, 32, 49, 50], [102, 97, 105, 108, 32, 97]]
/-- what a watch was shown, and what it found -/
structure Hist (P : Val → Prop) (rc : Rc) (A : Sd) : Prop where
  a : ∀ p ∈ A.seen, p.1 = T123 → ∃ good : Good, (∀ q ∈ good, P q.2) ∧ p.2 = doL good rc
  b : ∀ p ∈ A.seen, p.1 ≠ T123 → LnS p.2
  c : ∀ f ∈ A.finds, f.1 ≠ T123
theorem elder_mem {seen : Seen} {t : Tx} {l e : Ln} (h : elderF seen t l = some e) : ∃ p ∈ seen, p.1 = t ∧ odds p.2 l = true ∧ p.2 = e := by
  unfold elderF at h
  cases q : seen.find? (fun p => decide (p.1 = t) && odds p.2 l) with
  | none => rw [q] at h; cases h
  | some p =>
    rw [q] at h; cases h
    have h1 := List.find?_some q
    have h2 := List.mem_of_find?_eq_some q
    have h1 := Bool.and_eq_true_iff.mp h1
    exact ⟨p, h2, of_decide_eq_true h1.1, h1.2, rfl⟩
theorem saw_small {cl : Nat → Addr} {P : Val → Prop} {rc : Rc} {n : Nat} (hn : 4 ≤ n) {S : DH} {A B : Sd} {t : Tx} {l : Ln} {Q : DK} (hA : A.Rep cl S) (hB : B.Rep cl S) (hd : Disj A B) (z : A.seen.length ≤ 900) (hh : Hist P rc A) (ht : t ∈ txMenu) (hl : LnS l)
    (k : ∀ S' A', A'.Rep cl S' → B.Rep cl S' → Disj A' B → A'.Same A → Hist P rc A' → A'.seen.length = A.seen.length + 1 → Q (.bl true) S') :
    D cl n ix__law_saw [.ref A.w, .ref A.sa, .ref A.fa, .str t, encL l] S Q := by
  have t1 : smT t = true := (by decide : ∀ t ∈ txMenu, smT t = true) t ht
  have t2 : t ≠ T123 := (by decide : ∀ t ∈ txMenu, t ≠ T123) t ht
  refine two_saw hn hA hB hd z hl.k (fun e he => ?_) fun S' A' hA' hB' hd' hs e1 e2 => k S' A' hA' hB' hd' hs ⟨fun p hp hpt => ?_, fun p hp hpt => ?_, fun f hf => ?_⟩ (by rw [e1]; simp)
  · obtain ⟨p, hp, hpt, _, rfl⟩ := elder_mem he
    exact ⟨t1, hh.b p hp (hpt ▸ t2), hl⟩
  · rw [e1] at hp
    rcases List.mem_append.mp hp with hp | hp
    · exact hh.a p hp hpt
    · cases List.mem_singleton.mp hp; exact absurd hpt t2
  · rw [e1] at hp
    rcases List.mem_append.mp hp with hp | hp
    · exact hh.b p hp hpt
    · cases List.mem_singleton.mp hp; exact hl
  · rw [e2] at hf
    rcases List.mem_append.mp hf with hf | hf
    · exact hh.c f hf
    · cases q : elderF A.seen t l with
      | none => rw [q] at hf; nomatch hf
      | some e => rw [q] at hf; cases List.mem_singleton.mp hf; exact t2
theorem saw_doing {cl : Nat → Addr} {P : Val → Prop} (hP : ∀ v, P v → Bd 4 v) (hP2 : ∀ v, P v → Cp v) (inj : ∀ a b, P a → P b → stamp a = stamp b → a = b) {rc : Rc} (ho : RcOk P rc) (hon : honest rc = true) {n : Nat} (hn : 4 ≤ n) {S : DH} {A B : Sd} {good : Good} {Q : DK}
    (hA : A.Rep cl S) (hB : B.Rep cl S) (hd : Disj A B) (z : A.seen.length ≤ 900) (hh : Hist P rc A) (hg : ∀ q ∈ good, P q.2)
    (k : ∀ S' A', A'.Rep cl S' → B.Rep cl S' → Disj A' B → A'.Same A → Hist P rc A' → A'.seen.length = A.seen.length + 1 → Q (.bl true) S') :
    D cl n ix__law_saw [.ref A.w, .ref A.sa, .ref A.fa, .str T123, encL (doL good rc)] S Q := by
  have el : elderF A.seen T123 (doL good rc) = none := by
    cases q : elderF A.seen T123 (doL good rc) with
    | none => rfl
    | some e =>
      obtain ⟨p, hp, hpt, hod, rfl⟩ := elder_mem q
      obtain ⟨g2, hg2, e2⟩ := hh.a p hp hpt
      have := no_odds inj hg2 hg rc [] hon
      rw [e2] at hod
      have hod : oddsF (doL g2 rc).reads (doL g2 rc).fin (doL good rc).reads (doL good rc).fin = true := hod
      exact absurd (hod.symm.trans this) (by decide)
  have rk := run_ok hP hP2 (fun p hp => ⟨hP _ (hg p hp), hP2 _ (hg p hp)⟩) rc [] ho.ok ho.c fun v hv => nomatch hv
  have hz := ho.z
  have hk : LnK (doL good rc) := ⟨⟨rk.1, rk.2.1⟩, Nat.le_trans rk.2.2 hz⟩
  refine two_saw hn hA hB hd z hk (fun e he => ?_) fun S' A' hA' hB' hd' hs e1 e2 => k S' A' hA' hB' hd' hs ⟨fun p hp hpt => ?_, fun p hp hpt => ?_, fun f hf => ?_⟩ (by rw [e1]; simp)
  · rw [el] at he; cases he
  · rw [e1] at hp
    rcases List.mem_append.mp hp with hp | hp
    · exact hh.a p hp hpt
    · cases List.mem_singleton.mp hp; exact ⟨good, hg, rfl⟩
  · rw [e1] at hp
    rcases List.mem_append.mp hp with hp | hp
    · exact hh.b p hp hpt
    · cases List.mem_singleton.mp hp; exact absurd rfl hpt
  · rw [e2, el] at hf
    rcases List.mem_append.mp hf with hf | hf
    · exact hh.c f hf
    · nomatch hf
end DL

set_option maxRecDepth 100000
set_option linter.all false
namespace DL
open PySem
local macro_rules | `(tactic| walk_at "w") => `(tactic| conv => whnf)
theorem okE_nil : okE (.lst []) = true := by simp [okE, toP, toPs, SeqAt.shaped, PyData.canLay0, PyData.canLayAll0, PyData.depth, PyData.depthAll]
theorem deqv_nil : deqv (.lst []) (.lst []) = true := by simp [deqv, toP, toPs, PyData.eqv, PyData.eqvAll]
theorem put_none {S : DH} {a b : Addr} {c : Cell} (h : put S a c b = none) : S b = none ∧ b ≠ a := by
  by_cases e : b = a
  · subst e; rw [put_same] at h; cases h
  · rw [put_ne e] at h; exact ⟨h, e⟩
def lBody (cl : Nat → Addr) (n : Nat) : WS := (wSeq (wAsg (wBin dAdd (wC (.int 10)) (wBin dMul (wC (.int 20)) (wVar 7))) (wgN 8))
    (wSeq (wAsg (wCall 3 (D cl n 5) (wCons (wVar 0) (wCons (wBin dAdd (wVar 8) (wC (.int 10))) (wCons (wC (.int 2)) (wNil))))) (wgN 9))
    (wSeq (wAsg (wBin dIxS (wVar 1) (wCall 3 (D cl n 5) (wCons (wVar 0) (wCons (wBin dAdd (wVar 8) (wC (.int 11))) (wCons (wC (.int 3)) (wNil)))))) (wgN 10))
    (wSeq (wIf (wNot (wBt (wCall 5 (D cl n 21) (wCons (wBin dIxS (wVar 2) (wVar 9)) (wCons (wBin dIxS (wVar 3) (wVar 9)) (wCons (wBin dIxS (wVar 4) (wVar 9)) (wCons (wVar 10) (wCons (wCall 2 (D cl n 17) (wCons (wVar 0) (wCons (wVar 8) (wNil)))) (wNil))))))))) (wRet (wC (.bl false))) (wNext))
    (wIf (wBinT dEq (wCall 3 (D cl n 5) (wCons (wVar 0) (wCons (wC (.int 1)) (wCons (wC (.int 2)) (wNil))))) (wC (.int 0))) (wSeq (wAsg (wCall 4 (D cl n 22) (wCons (wVar 0) (wCons (wBin dAdd (wC (.int 400)) (wVar 8)) (wCons (wVar 5) (wCons (wVar 6) (wNil)))))) (wgN 11))
    (wIf (wNot (wBt (wCall 5 (D cl n 21) (wCons (wBin dIxS (wVar 2) (wVar 9)) (wCons (wBin dIxS (wVar 3) (wVar 9)) (wCons (wBin dIxS (wVar 4) (wVar 9)) (wCons (wC (.str [115, 97, 121, 32, 112, 117, 116, 32, 49, 50, 51])) (wCons (wVar 11) (wNil))))))))) (wRet (wC (.bl false))) (wNext))) (wNext))))))
def PV (v : Val) : Prop := v ∈ allV
def lEnv (ns : List Int) (names : List Tx) (rc : Rc) (A B : Sd) (x7 x8 x9 x10 x11 x12 : Option DV) : Env' :=
  [some (.scr ns), some (.lst (txMenu.map .str)), some (.lst [.ref A.w, .ref B.w]), some (.lst [.ref A.sa, .ref B.sa]), some (.lst [.ref A.fa, .ref B.fa]), some (.lst (names.map .str)), some (encRc rc), x7, x8, x9, x10, x11, x12]
structure LInv (cl : Nat → Addr) (rc : Rc) (js : List Nat) (S : DH) (A B : Sd) : Prop where
  a : A.Rep cl S
  b : B.Rep cl S
  d : Disj A B
  ha : Hist PV rc A
  hb : Hist PV rc B
  z : A.seen.length + B.seen.length + 2 * js.length ≤ 30
  j : ∀ j ∈ js, j < 15
theorem lEnv_same {ns : List Int} {names : List Tx} {rc : Rc} {A B A' B' : Sd} {x7 x8 x9 x10 x11 x12 : Option DV} (h1 : A'.Same A) (h2 : B'.Same B) : lEnv ns names rc A B x7 x8 x9 x10 x11 x12 = lEnv ns names rc A' B' x7 x8 x9 x10 x11 x12 := by
  unfold lEnv; rw [h1.1, h1.2.1, h1.2.2, h2.1, h2.2.1, h2.2.2]
theorem Sd.Same.refl (A : Sd) : A.Same A := ⟨rfl, rfl, rfl⟩
theorem Sd.Same.trans {A B C : Sd} (h : A.Same B) (k : B.Same C) : A.Same C := ⟨h.1.trans k.1, h.2.1.trans k.2.1, h.2.2.trans k.2.2⟩
theorem law_turn {cl : Nat → Addr} {n : Nat} (hn : 11 ≤ n) {ns : List Int} {names : List Tx} {rc : Rc} (hl : ns.length ≤ 63) (ho : NamesOk names) (hr : RcOk PV rc) (hon : honest rc = true) {j : Nat} {js : List Nat} {A B : Sd} {S : DH} {D0 : DEnds} {x8 x9 x10 x11 x12 : Option DV}
    (h : LInv cl rc (j :: js) S A B) (k : ∀ S' A' B' y8 y9 y10 y11 y12, LInv cl rc js S' A' B' → A'.Same A → B'.Same B → D0.nx (lEnv ns names rc A' B' (some (.int j)) y8 y9 y10 y11 y12) S') :
    lBody cl n D0 (lEnv ns names rc A B (some (.int j)) x8 x9 x10 x11 x12) S := by
  have hz := h.z
  simp only [List.length_cons] at hz
  have hj := h.j j (List.mem_cons_self ..)
  have hjs : ∀ i ∈ js, i < 15 := fun i hi => h.j i (List.mem_cons_of_mem _ hi)
  have hP : ∀ v, PV v → Bd 4 v := fun v h => all_bd h
  have hP2 : ∀ v, PV v → Cp v := fun v h => all_cp h
  have hpo : ∀ v ∈ pool names, PV v := fun v hv => pool_all ho hv
  walk_at "w"
  refine sp_draw (k := 10 + 20 * j + 10) (m := 2) (by omega) hl (by omega) (by decide) fun r1 h1 => ?_
  walk_at "w"
  refine sp_draw (k := 10 + 20 * j + 11) (m := 3) (by omega) hl (by omega) (by decide) fun r2 h2 => ?_
  walk_at "w"
  obtain ⟨t, ht, q1⟩ := menu_get (f := DV.str) (xs := txMenu) (r := r2) h2
  refine opt_some q1 ?_
  match r1, h1 with
  | 0, _ =>
    walk_at "w"
    refine sp_one_line (k := 10 + 20 * j) (by omega) hl (by omega) fun l hll => ?_
    walk_at "w"
    refine saw_small (P := PV) (rc := rc) (by omega) h.a h.b h.d (by omega) h.ha ht hll fun S1 A1 a1 b1 d1 s1 ha1 z1 => ?_
    walk_at "w"
    refine sp_draw (k := 1) (m := 2) (by omega) hl (by omega) (by decide) fun r3 h3 => ?_
    walk_at "w"
    have done : ∀ y8 y9 y10 y11 y12, D0.nx (lEnv ns names rc A1 B (some (.int j)) y8 y9 y10 y11 y12) S1 := fun y8 y9 y10 y11 y12 => k S1 A1 B _ _ _ _ _ ⟨a1, b1, d1, ha1, h.hb, by omega, hjs⟩ s1 (.refl B)
    refine br_split (fun e => ?_) fun e => ?_
    · walk_at "w"
      refine sp_doing hP hP2 (k := 400 + (10 + 20 * j)) (by omega) hl (by omega) ho hpo hr.ok hr.z fun good hg => ?_
      walk_at "w"
      obtain ⟨e1, e2, e3⟩ := s1
      rw [← e1, ← e2, ← e3]
      refine saw_doing hP hP2 (fun a b ha hb => stamp_inj a b ha hb) hr hon (by omega) a1 b1 d1 (by omega) ha1 hg fun S2 A2 a2 b2 d2 s2 ha2 z2 => ?_
      walk_at "w"
      have := k S2 A2 B (some (.int (10 + 20 * j))) (some (.int (0 : Nat))) (some (.str t)) (some (encL (doL good rc))) x12 ⟨a2, b2, d2, ha2, h.hb, by omega, hjs⟩ (s2.trans ⟨e1, e2, e3⟩) (.refl B)
      rw [← lEnv_same (s2.trans ⟨e1, e2, e3⟩) (.refl B)] at this
      exact this
    · have := done (some (.int (10 + 20 * j))) (some (.int (0 : Nat))) (some (.str t)) x11 x12
      rw [← lEnv_same s1 (.refl B)] at this
      exact this
  | 1, _ =>
    walk_at "w"
    refine sp_one_line (k := 10 + 20 * j) (by omega) hl (by omega) fun l hll => ?_
    walk_at "w"
    refine saw_small (P := PV) (rc := rc) (by omega) h.b h.a h.d.symm (by omega) h.hb ht hll fun S1 A1 a1 b1 d1 s1 ha1 z1 => ?_
    walk_at "w"
    refine sp_draw (k := 1) (m := 2) (by omega) hl (by omega) (by decide) fun r3 h3 => ?_
    walk_at "w"
    have done : ∀ y8 y9 y10 y11 y12, D0.nx (lEnv ns names rc A A1 (some (.int j)) y8 y9 y10 y11 y12) S1 := fun y8 y9 y10 y11 y12 => k S1 A A1 _ _ _ _ _ ⟨b1, a1, d1.symm, h.ha, ha1, by omega, hjs⟩ (.refl A) s1
    refine br_split (fun e => ?_) fun e => ?_
    · walk_at "w"
      refine sp_doing hP hP2 (k := 400 + (10 + 20 * j)) (by omega) hl (by omega) ho hpo hr.ok hr.z fun good hg => ?_
      walk_at "w"
      obtain ⟨e1, e2, e3⟩ := s1
      rw [← e1, ← e2, ← e3]
      refine saw_doing hP hP2 (fun a b ha hb => stamp_inj a b ha hb) hr hon (by omega) a1 b1 d1 (by omega) ha1 hg fun S2 A2 a2 b2 d2 s2 ha2 z2 => ?_
      walk_at "w"
      have := k S2 A A2 (some (.int (10 + 20 * j))) (some (.int (1 : Nat))) (some (.str t)) (some (encL (doL good rc))) x12 ⟨b2, a2, d2.symm, h.ha, ha2, by omega, hjs⟩ (.refl A) (s2.trans ⟨e1, e2, e3⟩)
      rw [← lEnv_same (.refl A) (s2.trans ⟨e1, e2, e3⟩)] at this
      exact this
    · have := done (some (.int (10 + 20 * j))) (some (.int (1 : Nat))) (some (.str t)) x11 x12
      rw [← lEnv_same (.refl A) s1] at this
      exact this
end DL

set_option maxRecDepth 100000
set_option linter.all false
namespace DL
open PySem
local macro_rules | `(tactic| walk_at "w") => `(tactic| conv => whnf)
theorem sp_law {cl : Nat → Addr} {n : Nat} (hn : 12 ≤ n) {ns : List Int} {S : DH} {Q : DK} (hl : ns.length ≤ 63) (h : ∀ S', Q (.bl true) S') : D cl n ix_law [.scr ns] S Q := by
  obtain ⟨n, rfl⟩ : ∃ j, n = j + 1 := ⟨n - 1, by omega⟩
  walk_at "w"
  refine ⟨rfl, ?_⟩
  walk_at "w"
  intro w0 hw0
  walk_at "w"
  refine sp_init (by omega) put_same fun S1 sd0 fd0 W0 f0 hsd0 hfd0 => ?_
  walk_at "w"
  intro w1 hw1
  walk_at "w"
  refine sp_init (by omega) put_same fun S2 sd1 fd1 W1 f1 hsd1 hfd1 => ?_
  have sub2 : Sub S1 S2 := fun a c e => f1 a c (by rw [put_ne (show a ≠ w1 from fun z => by subst z; rw [hw1] at e; cases e), e]) (by intro z; cases List.mem_singleton.mp z; rw [hw1] at e; cases e)
  walk_at "w"
  intro sa0 h1
  walk_at "w"
  intro sa1 h2
  walk_at "w"
  intro fa0 h3
  walk_at "w"
  intro fa1 h4
  have sub3 : Sub S2 (put (put (put (put S2 sa0 (.lst [])) sa1 (.lst [])) fa0 (.lst [])) fa1 (.lst [])) := ((((Sub.refl S2).new h1 _).new h2 _).new h3 _).new h4 _
  obtain ⟨h2, n21⟩ := put_none h2
  obtain ⟨h3, n32⟩ := put_none h3
  obtain ⟨h3, n31⟩ := put_none h3
  obtain ⟨h4, n43⟩ := put_none h4
  obtain ⟨h4, n42⟩ := put_none h4
  obtain ⟨h4, n41⟩ := put_none h4
  obtain ⟨hsd1, _⟩ := put_none hsd1
  obtain ⟨hfd1, _⟩ := put_none hfd1
  have W0' := W0.sub sub2
  have c1 : put (put (put (put S2 sa0 (.lst [])) sa1 (.lst [])) fa0 (.lst [])) fa1 (.lst []) sa0 = some (.lst []) := by rw [put_ne (Ne.symm n41), put_ne (Ne.symm n31), put_ne (Ne.symm n21), put_same]
  have c2 : put (put (put (put S2 sa0 (.lst [])) sa1 (.lst [])) fa0 (.lst [])) fa1 (.lst []) sa1 = some (.lst []) := by rw [put_ne (Ne.symm n42), put_ne (Ne.symm n32), put_same]
  have c3 : put (put (put (put S2 sa0 (.lst [])) sa1 (.lst [])) fa0 (.lst [])) fa1 (.lst []) fa0 = some (.lst []) := by rw [put_ne (Ne.symm n43), put_same]
  have c4 : put (put (put (put S2 sa0 (.lst [])) sa1 (.lst [])) fa0 (.lst [])) fa1 (.lst []) fa1 = some (.lst []) := put_same
  revert c1 c2 c3 c4 sub3
  generalize put (put (put (put S2 sa0 (.lst [])) sa1 (.lst [])) fa0 (.lst [])) fa1 (.lst []) = S3
  intro sub3 c1 c2 c3 c4
  have o0 : ∀ a, S2 a = none → a ∉ foot w0 sd0 fd0 [] := fun a e m => W0'.al a m e
  have o1 : ∀ a, S2 a = none → a ∉ foot w1 sd1 fd1 [] := fun a e m => W1.al a m e
  have A : Sd.Rep cl S3 ⟨w0, sd0, fd0, sa0, fa0, [], [], []⟩ := ⟨W0'.sub sub3, c1, c3, o0 _ h1, o0 _ h3, Ne.symm n31, Nat.le_refl _, Nat.le_refl _, fun _ m => (nomatch m), fun _ m => (nomatch m)⟩
  have B : Sd.Rep cl S3 ⟨w1, sd1, fd1, sa1, fa1, [], [], []⟩ := ⟨W1.sub sub3, c2, c4, o1 _ h2, o1 _ h4, Ne.symm n42, Nat.le_refl _, Nat.le_refl _, fun _ m => (nomatch m), fun _ m => (nomatch m)⟩
  have dj : Disj ⟨w0, sd0, fd0, sa0, fa0, [], [], []⟩ ⟨w1, sd1, fd1, sa1, fa1, [], [], []⟩ := fun a ha hb => by
    simp only [Sd.foot, footS, List.mem_cons] at ha hb
    have nb : ∀ a, a ∈ foot w1 sd1 fd1 [] → S1 a = none := fun a m => by
      simp [foot] at m
      rcases m with rfl | rfl | rfl
      · exact hw1
      · exact hsd1
      · exact hfd1
    have na : ∀ a, a ∈ foot w0 sd0 fd0 [] → S1 a ≠ none := fun a m => W0.al a m
    rcases ha with rfl | rfl | ha
    · rcases hb with e | e | hb
      · exact n21 e.symm
      · exact n41 e.symm
      · exact o1 _ h1 hb
    · rcases hb with e | e | hb
      · exact n32 e
      · exact n43 e.symm
      · exact o1 _ h3 hb
    · rcases hb with rfl | rfl | hb
      · exact o0 _ h2 ha
      · exact o0 _ h4 ha
      · exact na _ ha (nb _ hb)
  have h0 : ∀ rc, Hist PV rc ⟨w0, sd0, fd0, sa0, fa0, [], [], []⟩ := fun rc => ⟨fun _ m => (nomatch m), fun _ m => (nomatch m), fun _ m => (nomatch m)⟩
  have h0' : ∀ rc, Hist PV rc ⟨w1, sd1, fd1, sa1, fa1, [], [], []⟩ := fun rc => ⟨fun _ m => (nomatch m), fun _ m => (nomatch m), fun _ m => (nomatch m)⟩
  clear c1 c2 c3 c4 o0 o1 h1 h2 h3 h4 W0 W0' W1 f0 f1
  walk_at "w"
  refine ⟨_, A.W.cw, rfl, ?_⟩
  walk_at "w"
  refine sp_faults (by omega) A.W fun p hp => ?_
  walk_at "w"
  rw [res_ref put_same]
  refine gd_t (by show (okE (.lst []) && okE (.lst [])) = true; rw [okE_nil]; rfl) ?_
  walk_at "w"
  have s4 : Sub S3 (put S3 p (.lst (List.map encF []))) := (Sub.refl S3).put hp _
  have A := Sd.sub A s4
  have B := Sd.sub B s4
  dsimp only
  revert A B
  generalize put S3 p (.lst (List.map encF [])) = S4
  intro A B
  refine ⟨_, B.W.cw, rfl, ?_⟩
  walk_at "w"
  refine sp_faults (by omega) B.W fun p hp => ?_
  walk_at "w"
  rw [res_ref put_same]
  refine gd_t (by show (okE (.lst []) && okE (.lst [])) = true; rw [okE_nil]; rfl) ?_
  walk_at "w"
  have s4 : Sub S4 (put S4 p (.lst (List.map encF []))) := (Sub.refl S4).put hp _
  have A := Sd.sub A s4
  have B := Sd.sub B s4
  dsimp only
  revert A B
  generalize put S4 p (.lst (List.map encF [])) = S5
  intro A B
  refine sp_names (k := 300) (by omega) hl (by omega) fun names ho => ?_
  walk_at "w"
  refine sp_recipe (k := 310) (ways := 8) (by omega) hl (by omega) ho (by omega) (by omega) fun a ha b hb v hv w hw x hx two h2 f hf rc hrc => ?_
  have pv : ∀ v ∈ pool names, PV v := fun v hv => pool_all ho hv
  have pn : ∀ a ∈ names, PV (.str a) := fun a ha => pv _ (List.mem_append.mpr (.inr (List.mem_map.mpr ⟨a, ha, rfl⟩)))
  have rok : RcOk PV rc := recipes (by show _ ∈ allV; simp [allV, menuV]) (by show _ ∈ allV; simp [allV, menuV]) (by show _ ∈ allV; simp [allV, menuV]) (pn a ha) (pn b hb) (pv v hv) (pv w hw) hx h2
    ((by decide : ∀ s ∈ menuN, cpT s = true) f (ho.mem f hf)) rc (List.mem_of_mem_take hrc)
  have hon := recipes_honest rc hrc
  walk_at "w"
  refine sp_draw (k := 0) (m := 13) (by omega) hl (by omega) (by decide) fun r hr => ?_
  walk_at "w"
  refine gd_t (Bool.and_eq_true_iff.mpr ⟨leI_iff.mpr (by omega), ltI_iff.mpr (by omega)⟩) ?_
  refine fLoop_map (tb := lBody cl n) (fun js ρ S' => ∃ A B x7 x8 x9 x10 x11 x12, LInv cl rc js S' A B ∧ A.Same ⟨w0, sd0, fd0, sa0, fa0, [], [], []⟩ ∧ B.Same ⟨w1, sd1, fd1, sa1, fa1, [], [], []⟩ ∧ ρ = lEnv ns names rc A B x7 x8 x9 x10 x11 x12) ?_ ?_ _ _ _
    ⟨_, _, _, _, _, _, _, _, ⟨A, B, dj, h0 _, h0' _, ?_, fun j hj => ?_⟩, .refl _, .refl _, rfl⟩
  · rintro ρ S' ⟨A, B, x7, x8, x9, x10, x11, x12, L, sA, sB, rfl⟩
    refine ⟨(fun _ z => nomatch z), ?_⟩
    walk_at "w"
    rw [asL_ref L.a.cf, asL_ref L.b.cf]
    walk_at "w"
    have zz := L.z
    have za := L.a.z2
    have zb := L.b.z2
    refine gd_t (decide_eq_true (by rw [List.length_map, List.length_map]; omega)) ?_
    walk_at "w"
    rw [show A.finds.map encF ++ B.finds.map encF = (A.finds ++ B.finds).map encF by rw [List.map_append]]
    refine comp_map (f := fun f : Tx × Ln × Ln => .bl true) (A.finds ++ B.finds) (fun _ z => nomatch z) (by rw [List.length_append]; omega) (fun f hf S6 Q' _ q => ?_) ?_
    · have hne : f.1 ≠ T123 := by
        rcases List.mem_append.mp hf with hf | hf
        · exact L.ha.c f hf
        · exact L.hb.c f hf
      walk_at "w"
      have e : (!decide (f.1 = T123)) = true := by rw [decide_eq_false hne]; rfl
      rw [← e] at q
      exact q
    · walk_at "w"
      rw [bls_map]
      refine rt_ok ?_
      have e : ((A.finds ++ B.finds).map fun _ => true).all id = true := by simp
      rw [e]
      exact h _
  · rintro j js ρ S' K ⟨A, B, x7, x8, x9, x10, x11, x12, L, sA, sB, rfl⟩ hK
    refine ⟨(fun _ z => nomatch z), ?_⟩
    show lBody cl n _ (lEnv ns names rc A B (some (.int j)) x8 x9 x10 x11 x12) S'
    exact law_turn (by omega) hl ho rok hon L fun S' A' B' y8 y9 y10 y11 y12 L' s1 s2 => hK _ _ ⟨A', B', _, _, _, _, _, _, L', s1.trans sA, s2.trans sB, rfl⟩
  · simp; omega
  · have := rng_mem rfl hj; omega
end DL

set_option maxRecDepth 100000
set_option linter.all false
namespace DL
open PySem PySem.Spec PyProof.Rows L2
/-- the end: the promise of a calm function, at the heap that the top has left -/
theorem end_call {P : Program} {w : World} {K : PySem.W.Frag} {mg nb : Str → Option Value} {k : Nat} {f scr : Addr} {fd : FuncData} {x : Str} {sp : Sp} {t : Shared} {us : List Value} {is : List Int}
    (kin : K.In t.heap) (gl : t.heap.Ns mainGlobals mg) (bn : t.heap.Ns builtinsNs nb) (bb : ∀ y : Str, y ≠ "__name__" → nb y = bootBuiltins y) (lim : t.heap.NoLimit) (gens : t.gens = #[])
    (at_ : t.heap.get? scr = some { cls := .type "list", data := .seq us.toArray }) (ia : IntsAre us is) (small : is.length ≤ sizeLine) (room : Room k callerA)
    (FG : ∀ base : Heap, K.In base → base.Ns mainGlobals mg → FnG P w K mg base CX0 k f fd [x] sp) (bind : ∀ (s : Shared) (u : Value), BindsTo s fd ⟨[u], []⟩ [(x, u)])
    (law : ∀ J : Hp, Only J → SqL K J scr (is.map V.int) → sp [.ref scr] J (fun v _ => v = .bl true) fun _ _ _ => False) :
    codeAny (model P w) callerA (.call (.ref f) ⟨[.ref scr], []⟩) (fun r s' => r = .ok (.ret (.bool true)) ∧ OldK t.heap s'.heap ∧ s'.os = t.os ∧ AllBare s'.gens) t := by
  have ri := vals_ints ia
  have li := ia.length
  suffices main : ∀ J : Hp, Only J → SqL K J scr (is.map V.int) → HOk P w J t.heap → (∀ p, J p ≠ none → p = scr) → (J scr ≠ none → K.lookup scr = none) → codeAny (model P w) callerA (.call (.ref f) ⟨[.ref scr], []⟩) (fun r s' => r = .ok (.ret (.bool true)) ∧ OldK t.heap s'.heap ∧ s'.os = t.os ∧ AllBare s'.gens) t by
    cases own : K.lookup scr with
    | some ob =>
      have same := kin scr ob own
      rw [at_] at same
      cases same
      refine main (fun _ => none) (fun _ => Or.inl rfl) (Or.inr ⟨_, us.toArray, _, own, rfl, rfl, rfl, ?_, by simpa using ri⟩) ?_ (fun p n => absurd rfl n) (fun n => absurd rfl n)
      · rw [List.size_toArray, li]; exact small
      · intro p u n
        have n' : (none : Option HO) = some u := n
        cases n'
    | none =>
      let J : Hp := fun p => if p = scr then some (.frz { cls := .type "list", data := .seq us.toArray } (.lst (is.map V.int))) else none
      have J1 : J scr = some (.frz { cls := .type "list", data := .seq us.toArray } (.lst (is.map V.int))) := if_pos rfl
      have J2 : ∀ p, p ≠ scr → J p = none := fun p n => if_neg n
      refine main J (fun p => ?_) (Or.inl (Or.inr ⟨{ cls := .type "list", data := .seq us.toArray }, J1⟩)) (fun p u n => ?_) (fun p n => ?_) (fun _ => own)
      · by_cases e : p = scr
        · exact Or.inr ⟨_, _, e ▸ J1⟩
        · exact Or.inl (J2 p e)
      · by_cases e : p = scr
        · subst e
          have n' := J1.symm.trans n
          cases n'
          exact ⟨at_, by rw [List.length_map]; exact small, us, _, ri, at_⟩
        · have n' := (J2 p e).symm.trans n
          cases n'
      · by_cases e : p = scr
        · exact e
        · exact absurd (J2 p e) n
  intro J only sq hok dom free
  have hid : ∀ {p : Addr} {ob : Obj}, t.heap.get? p = some ob → J p = none → (hidT t.heap J).get? p = some ob := fun e n => hidT_get e n
  have nodict : ∀ {p : Addr} {ob : Obj} {es : Array DictEntry} {ep : Nat}, t.heap.get? p = some ob → ob.data = .dict es ep → J p = none := fun {p ob es ep} e d => by
    cases q : J p with
    | none => rfl
    | some u =>
      have ps : p = scr := dom p (by rw [q]; simp)
      subst ps
      rw [at_] at e; cases e
      have d2 : Data.seq us.toArray _ = Data.dict es ep := d
      cases d2
  have ns : ∀ {p : Addr} {m : Str → Option Value}, t.heap.Ns p m → (hidT t.heap J).Ns p m := fun {p m} ⟨ob, es, ep, e, d, r⟩ => ⟨ob, es, ep, hid e (nodict e d), d, r⟩
  have kin2 : K.In (hidT t.heap J) := fun p ob e => hid (kin p ob e) (by
    cases q : J p with
    | none => rfl
    | some u =>
      have ps : p = scr := dom p (by rw [q]; simp)
      subst ps
      rw [free (by rw [q]; simp)] at e; cases e)
  have mod : Mod K mg (hidT t.heap J) := ⟨kin2, ns gl, ⟨nb, ns bn, bb⟩, let ⟨mc, l1, l2⟩ := lim; ⟨mc, ns l1, l2⟩⟩
  have env : Env0 P w K mg (hidT t.heap J) callerA [] t J := ⟨rfl, mod, fun p ob e => of_hidT e, Nat.le_of_eq (hidT_size _ _), trivial, fun p n => absurd (show p ∈ ([] : List Addr) from n) (by simp), hok, .of_eq gens⟩
  refine codeAny_mono ((FG _ kin2 (ns gl)).go callerA [] t J ⟨[.ref scr], []⟩ [.ref scr] [.ref scr] _ _ rfl room env (bind t (.ref scr)) (.cons rfl .nil) (law J only sq)) fun r s' res => ?_
  rcases r with er | fl
  · exact (show False from res).elim
  rcases fl with _ | _ | _ | u
  · exact (show False from res).elim
  · exact (show False from res).elim
  · exact (show False from res).elim
  obtain ⟨v, J', os, bare, un, hok', rv, ev⟩ := res
  have ev : v = .bl true := ev
  subst ev
  obtain rfl : u = Value.bool true := rv
  refine ⟨rfl, OldK.of_keep fun p ob e => ?_, os, bare⟩
  cases q : J p with
  | none => exact un.keep p ob e q (by intro n; exact absurd (show p ∈ ([] : List Addr) from n) (by simp)) (by simp)
  | some u =>
    rcases only p with n | ⟨o2, xs, n⟩
    · rw [q] at n; cases n
    · obtain ⟨g1, _⟩ := hok p _ n
      obtain ⟨g2, _⟩ := hok' p _ (un.frzs p o2 _ n)
      rw [e] at g1; cases g1
      exact g2
theorem law_sp {K : PySem.W.Frag} {J : Hp} {scr : Addr} {is : List Int} {sp : Spec} (only : Only J) (sq : SqL K J scr (is.map V.int)) (h : sp [.scr is] (fun _ => none) fun d _ => d = .bl true) : lSp K 1 sp [.ref scr] J (fun v _ => v = .bl true) E0 := by
  refine ⟨rfl, [.scr is], fun _ => none, _, .cons (.scr (Scr.of only sq)) .nil, fun _ _ e => (nomatch e), h, fun d S' e v H' g r hr => ?_⟩
  subst e
  cases r
  rfl
theorem end_walk {l : PySem.W.OpenLaw} {q : Program} {loose : List Str} {XP : (Str → Option Value) → Heap → Prop} {YP : World → Heap → Prop} {d : DefRec} {K : Params → PySem.W.Frag} {x : Str} {k : Nat}
    (hn : l.most = some 63) (hdf : d.params.defaults = []) (room : Room k callerA) (hY : ∀ (w : World) (h : Heap), YP w h → (K w.params).In h)
    (F : ∀ (w : World) (mg : Str → Option Value) (fa : Addr) (h : Heap), (K w.params).In h → h.Ns mainGlobals mg → mg d.name = some (.ref fa) →
      ∃ (fd : FuncData) (sp : Spec), (∀ (s : Shared) (u : Value), BindsTo s fd ⟨[u], []⟩ [(x, u)]) ∧ (∀ is : List Int, is.length ≤ 63 → sp [.scr is] (fun _ => none) fun d _ => d = .bl true) ∧ ∀ base : Heap, (K w.params).In base → base.Ns mainGlobals mg → FnG l.prog w (K w.params) mg base CX0 k fa fd [x] (lSp (K w.params) 1 sp)) :
    PySem.W.WalkO q loose XP YP l.row.toRowW d [] (fun f vs => PySem.call f vs) := by
  refine Att.attach_call hn hdf fun w s₀ t mg nb fa o pm cd doc scr us is G Y ho hd hcd hmg at_ ia small hg => ?_
  have kin := hY w _ Y
  obtain ⟨fd, sp, bind, law, FG⟩ := F w mg fa _ kin G.T.g hmg
  exact end_call kin G.T.g G.T.b G.T.builtins G.T.nolimit hg at_ ia (Nat.le_trans small (by decide)) room FG bind fun J only sq => law_sp only sq (law is small)
end DL

set_option maxRecDepth 100000
set_option linter.all false
namespace DL
open PySem PySem.Spec PyProof.Rows L2
set_option maxHeartbeats 0 in
theorem all_mk {l : PySem.W.OpenLaw} {w : World} {K : PySem.W.Frag} {h : Heap} {mg : Str → Option Value} {fa C0 f0 f1 f2 f3 f4 f5 f6 f7 f8 f9 f10 f11 f12 f13 f14 f15 f16 f17 f18 f19 f20 f21 f22 f23 : Addr} (X : K.In h) (G : h.Ns mainGlobals mg) (hfa : mg "law" = some (.ref fa))
    {od0 an0 : Option Addr} {sl0 : Array (Option Value)} {oc0 kV0 dc0 pm0 cd0 ct0 : Value}
    (a0 : PySem.W.nsIn K mainGlobals "next_step" = some (some (.ref f0)))
    (l0 : K.lookup f0 = some ⟨oc0, od0, .func (PySem.W.fnOf "next_step" "next_step" (defArgs s_next_step) (defBody s_next_step) (defScope s_next_step) .none kV0 dc0 pm0 an0 cd0 ct0), sl0⟩)
    (c0 : PySem.W.codeIn K cd0 "next_step" = true) (k0 : PySem.W.keepIn K (.ref f0) = true)
    {od1 an1 : Option Addr} {sl1 : Array (Option Value)} {oc1 kV1 dc1 pm1 cd1 ct1 : Value}
    (a1 : PySem.W.nsIn K mainGlobals "at_odds" = some (some (.ref f1)))
    (l1 : K.lookup f1 = some ⟨oc1, od1, .func (PySem.W.fnOf "at_odds" "at_odds" (defArgs s_at_odds) (defBody s_at_odds) (defScope s_at_odds) .none kV1 dc1 pm1 an1 cd1 ct1), sl1⟩)
    (c1 : PySem.W.codeIn K cd1 "at_odds" = true) (k1 : PySem.W.keepIn K (.ref f1) = true)
    {od2 an2 : Option Addr} {sl2 : Array (Option Value)} {oc2 kV2 dc2 pm2 cd2 ct2 : Value}
    (a2 : PySem.W.findIn K (.ref C0) "__init__" = some (some (.ref f2))) (i2 : PySem.W.isFn K (.ref f2) = true)
    (l2 : K.lookup f2 = some ⟨oc2, od2, .func (PySem.W.fnOf "__init__" "Watch.__init__" (defArgs s_Watch___init__) (defBody s_Watch___init__) (defScope s_Watch___init__) .none kV2 dc2 pm2 an2 cd2 ct2), sl2⟩)
    (c2 : PySem.W.codeIn K cd2 "Watch.__init__" = true) (k2 : PySem.W.keepIn K (.ref f2) = true)
    {od3 an3 : Option Addr} {sl3 : Array (Option Value)} {oc3 kV3 dc3 pm3 cd3 ct3 : Value}
    (a3 : PySem.W.findIn K (.ref C0) "saw" = some (some (.ref f3))) (i3 : PySem.W.isFn K (.ref f3) = true)
    (l3 : K.lookup f3 = some ⟨oc3, od3, .func (PySem.W.fnOf "saw" "Watch.saw" (defArgs s_Watch_saw) (defBody s_Watch_saw) (defScope s_Watch_saw) .none kV3 dc3 pm3 an3 cd3 ct3), sl3⟩)
    (c3 : PySem.W.codeIn K cd3 "Watch.saw" = true) (k3 : PySem.W.keepIn K (.ref f3) = true)
    {od4 an4 : Option Addr} {sl4 : Array (Option Value)} {oc4 kV4 dc4 pm4 cd4 ct4 : Value}
    (a4 : PySem.W.findIn K (.ref C0) "faults" = some (some (.ref f4))) (i4 : PySem.W.isFn K (.ref f4) = true)
    (l4 : K.lookup f4 = some ⟨oc4, od4, .func (PySem.W.fnOf "faults" "Watch.faults" (defArgs s_Watch_faults) (defBody s_Watch_faults) (defScope s_Watch_faults) .none kV4 dc4 pm4 an4 cd4 ct4), sl4⟩)
    (c4 : PySem.W.codeIn K cd4 "Watch.faults" = true) (k4 : PySem.W.keepIn K (.ref f4) = true)
    {od5 an5 : Option Addr} {sl5 : Array (Option Value)} {oc5 kV5 dc5 pm5 cd5 ct5 : Value}
    (a5 : PySem.W.nsIn K mainGlobals "_law_draw" = some (some (.ref f5)))
    (l5 : K.lookup f5 = some ⟨oc5, od5, .func (PySem.W.fnOf "_law_draw" "_law_draw" (defArgs s__law_draw) (defBody s__law_draw) (defScope s__law_draw) .none kV5 dc5 pm5 an5 cd5 ct5), sl5⟩)
    (c5 : PySem.W.codeIn K cd5 "_law_draw" = true) (k5 : PySem.W.keepIn K (.ref f5) = true)
    {od6 an6 : Option Addr} {sl6 : Array (Option Value)} {oc6 kV6 dc6 pm6 cd6 ct6 : Value}
    (a6 : PySem.W.nsIn K mainGlobals "_law_same" = some (some (.ref f6)))
    (l6 : K.lookup f6 = some ⟨oc6, od6, .func (PySem.W.fnOf "_law_same" "_law_same" (defArgs s__law_same) (defBody s__law_same) (defScope s__law_same) .none kV6 dc6 pm6 an6 cd6 ct6), sl6⟩)
    (c6 : PySem.W.codeIn K cd6 "_law_same" = true) (k6 : PySem.W.keepIn K (.ref f6) = true)
    {od7 an7 : Option Addr} {sl7 : Array (Option Value)} {oc7 kV7 dc7 pm7 cd7 ct7 : Value}
    (a7 : PySem.W.nsIn K mainGlobals "_law_stamp" = some (some (.ref f7)))
    (l7 : K.lookup f7 = some ⟨oc7, od7, .func (PySem.W.fnOf "_law_stamp" "_law_stamp" (defArgs s__law_stamp) (defBody s__law_stamp) (defScope s__law_stamp) .none kV7 dc7 pm7 an7 cd7 ct7), sl7⟩)
    (c7 : PySem.W.codeIn K cd7 "_law_stamp" = true) (k7 : PySem.W.keepIn K (.ref f7) = true)
    {od8 an8 : Option Addr} {sl8 : Array (Option Value)} {oc8 kV8 dc8 pm8 cd8 ct8 : Value}
    (a8 : PySem.W.nsIn K mainGlobals "_law_names" = some (some (.ref f8)))
    (l8 : K.lookup f8 = some ⟨oc8, od8, .func (PySem.W.fnOf "_law_names" "_law_names" (defArgs s__law_names) (defBody s__law_names) (defScope s__law_names) .none kV8 dc8 pm8 an8 cd8 ct8), sl8⟩)
    (c8 : PySem.W.codeIn K cd8 "_law_names" = true) (k8 : PySem.W.keepIn K (.ref f8) = true)
    {od9 an9 : Option Addr} {sl9 : Array (Option Value)} {oc9 kV9 dc9 pm9 cd9 ct9 : Value}
    (a9 : PySem.W.nsIn K mainGlobals "_law_value" = some (some (.ref f9)))
    (l9 : K.lookup f9 = some ⟨oc9, od9, .func (PySem.W.fnOf "_law_value" "_law_value" (defArgs s__law_value) (defBody s__law_value) (defScope s__law_value) .none kV9 dc9 pm9 an9 cd9 ct9), sl9⟩)
    (c9 : PySem.W.codeIn K cd9 "_law_value" = true) (k9 : PySem.W.keepIn K (.ref f9) = true)
    {od10 an10 : Option Addr} {sl10 : Array (Option Value)} {oc10 kV10 dc10 pm10 cd10 ct10 : Value}
    (a10 : PySem.W.nsIn K mainGlobals "_law_expr" = some (some (.ref f10)))
    (l10 : K.lookup f10 = some ⟨oc10, od10, .func (PySem.W.fnOf "_law_expr" "_law_expr" (defArgs s__law_expr) (defBody s__law_expr) (defScope s__law_expr) .none kV10 dc10 pm10 an10 cd10 ct10), sl10⟩)
    (c10 : PySem.W.codeIn K cd10 "_law_expr" = true) (k10 : PySem.W.keepIn K (.ref f10) = true)
    {od11 an11 : Option Addr} {sl11 : Array (Option Value)} {oc11 kV11 dc11 pm11 cd11 ct11 : Value}
    (a11 : PySem.W.nsIn K mainGlobals "_law_recipe" = some (some (.ref f11)))
    (l11 : K.lookup f11 = some ⟨oc11, od11, .func (PySem.W.fnOf "_law_recipe" "_law_recipe" (defArgs s__law_recipe) (defBody s__law_recipe) (defScope s__law_recipe) .none kV11 dc11 pm11 an11 cd11 ct11), sl11⟩)
    (c11 : PySem.W.codeIn K cd11 "_law_recipe" = true) (k11 : PySem.W.keepIn K (.ref f11) = true)
    {od12 an12 : Option Addr} {sl12 : Array (Option Value)} {oc12 kV12 dc12 pm12 cd12 ct12 : Value}
    (a12 : PySem.W.nsIn K mainGlobals "_law_fits" = some (some (.ref f12)))
    (l12 : K.lookup f12 = some ⟨oc12, od12, .func (PySem.W.fnOf "_law_fits" "_law_fits" (defArgs s__law_fits) (defBody s__law_fits) (defScope s__law_fits) .none kV12 dc12 pm12 an12 cd12 ct12), sl12⟩)
    (c12 : PySem.W.codeIn K cd12 "_law_fits" = true) (k12 : PySem.W.keepIn K (.ref f12) = true)
    {od13 an13 : Option Addr} {sl13 : Array (Option Value)} {oc13 kV13 dc13 pm13 cd13 ct13 : Value}
    (a13 : PySem.W.nsIn K mainGlobals "_law_of_two" = some (some (.ref f13)))
    (l13 : K.lookup f13 = some ⟨oc13, od13, .func (PySem.W.fnOf "_law_of_two" "_law_of_two" (defArgs s__law_of_two) (defBody s__law_of_two) (defScope s__law_of_two) .none kV13 dc13 pm13 an13 cd13 ct13), sl13⟩)
    (c13 : PySem.W.codeIn K cd13 "_law_of_two" = true) (k13 : PySem.W.keepIn K (.ref f13) = true)
    {od14 an14 : Option Addr} {sl14 : Array (Option Value)} {oc14 kV14 dc14 pm14 cd14 ct14 : Value}
    (a14 : PySem.W.nsIn K mainGlobals "_law_told" = some (some (.ref f14)))
    (l14 : K.lookup f14 = some ⟨oc14, od14, .func (PySem.W.fnOf "_law_told" "_law_told" (defArgs s__law_told) (defBody s__law_told) (defScope s__law_told) .none kV14 dc14 pm14 an14 cd14 ct14), sl14⟩)
    (c14 : PySem.W.codeIn K cd14 "_law_told" = true) (k14 : PySem.W.keepIn K (.ref f14) = true)
    {od15 an15 : Option Addr} {sl15 : Array (Option Value)} {oc15 kV15 dc15 pm15 cd15 ct15 : Value}
    (a15 : PySem.W.nsIn K mainGlobals "_law_is_name" = some (some (.ref f15)))
    (l15 : K.lookup f15 = some ⟨oc15, od15, .func (PySem.W.fnOf "_law_is_name" "_law_is_name" (defArgs s__law_is_name) (defBody s__law_is_name) (defScope s__law_is_name) .none kV15 dc15 pm15 an15 cd15 ct15), sl15⟩)
    (c15 : PySem.W.codeIn K cd15 "_law_is_name" = true) (k15 : PySem.W.keepIn K (.ref f15) = true)
    {od16 an16 : Option Addr} {sl16 : Array (Option Value)} {oc16 kV16 dc16 pm16 cd16 ct16 : Value}
    (a16 : PySem.W.nsIn K mainGlobals "_law_run" = some (some (.ref f16)))
    (l16 : K.lookup f16 = some ⟨oc16, od16, .func (PySem.W.fnOf "_law_run" "_law_run" (defArgs s__law_run) (defBody s__law_run) (defScope s__law_run) .none kV16 dc16 pm16 an16 cd16 ct16), sl16⟩)
    (c16 : PySem.W.codeIn K cd16 "_law_run" = true) (k16 : PySem.W.keepIn K (.ref f16) = true)
    {od17 an17 : Option Addr} {sl17 : Array (Option Value)} {oc17 kV17 dc17 pm17 cd17 ct17 : Value}
    (a17 : PySem.W.nsIn K mainGlobals "_law_one_line" = some (some (.ref f17)))
    (l17 : K.lookup f17 = some ⟨oc17, od17, .func (PySem.W.fnOf "_law_one_line" "_law_one_line" (defArgs s__law_one_line) (defBody s__law_one_line) (defScope s__law_one_line) .none kV17 dc17 pm17 an17 cd17 ct17), sl17⟩)
    (c17 : PySem.W.codeIn K cd17 "_law_one_line" = true) (k17 : PySem.W.keepIn K (.ref f17) = true)
    {od18 an18 : Option Addr} {sl18 : Array (Option Value)} {oc18 kV18 dc18 pm18 cd18 ct18 : Value}
    (a18 : PySem.W.nsIn K mainGlobals "_law_steps" = some (some (.ref f18)))
    (l18 : K.lookup f18 = some ⟨oc18, od18, .func (PySem.W.fnOf "_law_steps" "_law_steps" (defArgs s__law_steps) (defBody s__law_steps) (defScope s__law_steps) .none kV18 dc18 pm18 an18 cd18 ct18), sl18⟩)
    (c18 : PySem.W.codeIn K cd18 "_law_steps" = true) (k18 : PySem.W.keepIn K (.ref f18) = true)
    {od19 an19 : Option Addr} {sl19 : Array (Option Value)} {oc19 kV19 dc19 pm19 cd19 ct19 : Value}
    (a19 : PySem.W.nsIn K mainGlobals "_law_odds" = some (some (.ref f19)))
    (l19 : K.lookup f19 = some ⟨oc19, od19, .func (PySem.W.fnOf "_law_odds" "_law_odds" (defArgs s__law_odds) (defBody s__law_odds) (defScope s__law_odds) .none kV19 dc19 pm19 an19 cd19 ct19), sl19⟩)
    (c19 : PySem.W.codeIn K cd19 "_law_odds" = true) (k19 : PySem.W.keepIn K (.ref f19) = true)
    {od20 an20 : Option Addr} {sl20 : Array (Option Value)} {oc20 kV20 dc20 pm20 cd20 ct20 : Value}
    (a20 : PySem.W.nsIn K mainGlobals "_law_elder" = some (some (.ref f20)))
    (l20 : K.lookup f20 = some ⟨oc20, od20, .func (PySem.W.fnOf "_law_elder" "_law_elder" (defArgs s__law_elder) (defBody s__law_elder) (defScope s__law_elder) .none kV20 dc20 pm20 an20 cd20 ct20), sl20⟩)
    (c20 : PySem.W.codeIn K cd20 "_law_elder" = true) (k20 : PySem.W.keepIn K (.ref f20) = true)
    {od21 an21 : Option Addr} {sl21 : Array (Option Value)} {oc21 kV21 dc21 pm21 cd21 ct21 : Value}
    (a21 : PySem.W.nsIn K mainGlobals "_law_saw" = some (some (.ref f21)))
    (l21 : K.lookup f21 = some ⟨oc21, od21, .func (PySem.W.fnOf "_law_saw" "_law_saw" (defArgs s__law_saw) (defBody s__law_saw) (defScope s__law_saw) .none kV21 dc21 pm21 an21 cd21 ct21), sl21⟩)
    (c21 : PySem.W.codeIn K cd21 "_law_saw" = true) (k21 : PySem.W.keepIn K (.ref f21) = true)
    {od22 an22 : Option Addr} {sl22 : Array (Option Value)} {oc22 kV22 dc22 pm22 cd22 ct22 : Value}
    (a22 : PySem.W.nsIn K mainGlobals "_law_doing" = some (some (.ref f22)))
    (l22 : K.lookup f22 = some ⟨oc22, od22, .func (PySem.W.fnOf "_law_doing" "_law_doing" (defArgs s__law_doing) (defBody s__law_doing) (defScope s__law_doing) .none kV22 dc22 pm22 an22 cd22 ct22), sl22⟩)
    (c22 : PySem.W.codeIn K cd22 "_law_doing" = true) (k22 : PySem.W.keepIn K (.ref f22) = true)
    {od23 an23 : Option Addr} {sl23 : Array (Option Value)} {oc23 kV23 dc23 pm23 cd23 ct23 : Value}
    (a23 : PySem.W.nsIn K mainGlobals "law" = some (some (.ref f23)))
    (l23 : K.lookup f23 = some ⟨oc23, od23, .func (PySem.W.fnOf "law" "law" (defArgs s_law) (defBody s_law) (defScope s_law) .none kV23 dc23 pm23 an23 cd23 ct23), sl23⟩)
    (c23 : PySem.W.codeIn K cd23 "law" = true) (k23 : PySem.W.keepIn K (.ref f23) = true)
    (aC0 : PySem.W.nsIn K mainGlobals "Watch" = some (some (.ref C0)))
    (pg0 : PySem.W.plainGet K C0 Str.empty = true) (hd0 : PySem.W.hasDictIn K C0 = true) (po0 : PySem.W.plainOver K C0 = true) (sa0 : PySem.W.findIn K (.ref C0) "__setattr__" = some (some (.builtin "object.__setattr__"))) (mk0 : PySem.W.makesIn K C0 = true) (kc0 : PySem.W.keepIn K (.ref C0) = true)
    (n0_finds : PySem.W.findIn K (.ref C0) "finds" = some none)
    (n0_seen : PySem.W.findIn K (.ref C0) "seen" = some none)
    (z_all : PySem.W.nsIn K mainGlobals "all" = some none)
    (z_dict : PySem.W.nsIn K mainGlobals "dict" = some none)
    (z_int : PySem.W.nsIn K mainGlobals "int" = some none)
    (z_isinstance : PySem.W.nsIn K mainGlobals "isinstance" = some none)
    (z_len : PySem.W.nsIn K mainGlobals "len" = some none)
    (z_list : PySem.W.nsIn K mainGlobals "list" = some none)
    (z_min : PySem.W.nsIn K mainGlobals "min" = some none)
    (z_range : PySem.W.nsIn K mainGlobals "range" = some none)
    (z_repr : PySem.W.nsIn K mainGlobals "repr" = some none)
    (z_reversed : PySem.W.nsIn K mainGlobals "reversed" = some none)
    (z_str : PySem.W.nsIn K mainGlobals "str" = some none)
    (z_tuple : PySem.W.nsIn K mainGlobals "tuple" = some none)
    (z_zip : PySem.W.nsIn K mainGlobals "zip" = some none)
    : ∃ (fd : FuncData) (sp : Spec), (∀ (s : Shared) (u : Value), BindsTo s fd ⟨[u], []⟩ [("_law_script", u)]) ∧ (∀ is : List Int, is.length ≤ 63 → sp [.scr is] (fun _ => none) fun d _ => d = .bl true) ∧ ∀ base : Heap, K.In base → base.Ns mainGlobals mg → FnG l.prog w K mg base CX0 24 fa fd ["_law_script"] (lSp K 1 sp) := by
  have e := hfa.symm.trans (PySem.W.mg_of X G a23)
  cases e
  have F0 := fun_mk (st := s_next_step) l0 c0 k0
  have F1 := fun_mk (st := s_at_odds) l1 c1 k1
  have F2 := fun_mk (st := s_Watch___init__) l2 c2 k2
  have F3 := fun_mk (st := s_Watch_saw) l3 c3 k3
  have F4 := fun_mk (st := s_Watch_faults) l4 c4 k4
  have F5 := fun_mk (st := s__law_draw) l5 c5 k5
  have F6 := fun_mk (st := s__law_same) l6 c6 k6
  have F7 := fun_mk (st := s__law_stamp) l7 c7 k7
  have F8 := fun_mk (st := s__law_names) l8 c8 k8
  have F9 := fun_mk (st := s__law_value) l9 c9 k9
  have F10 := fun_mk (st := s__law_expr) l10 c10 k10
  have F11 := fun_mk (st := s__law_recipe) l11 c11 k11
  have F12 := fun_mk (st := s__law_fits) l12 c12 k12
  have F13 := fun_mk (st := s__law_of_two) l13 c13 k13
  have F14 := fun_mk (st := s__law_told) l14 c14 k14
  have F15 := fun_mk (st := s__law_is_name) l15 c15 k15
  have F16 := fun_mk (st := s__law_run) l16 c16 k16
  have F17 := fun_mk (st := s__law_one_line) l17 c17 k17
  have F18 := fun_mk (st := s__law_steps) l18 c18 k18
  have F19 := fun_mk (st := s__law_odds) l19 c19 k19
  have F20 := fun_mk (st := s__law_elder) l20 c20 k20
  have F21 := fun_mk (st := s__law_saw) l21 c21 k21
  have F22 := fun_mk (st := s__law_doing) l22 c22 k22
  have F23 := fun_mk (st := s_law) l23 c23 k23
  have b0 := F0.binds (ps := ps 0) fun _ _ _ _ _ _ us hl => match us, hl with | [_, _], _ => rfl
  have b1 := F1.binds (ps := ps 1) fun _ _ _ _ _ _ us hl => match us, hl with | [_, _], _ => rfl
  have b2 := F2.binds (ps := ps 2) fun _ _ _ _ _ _ us hl => match us, hl with | [_], _ => rfl
  have b3 := F3.binds (ps := ps 3) fun _ _ _ _ _ _ us hl => match us, hl with | [_, _, _], _ => rfl
  have b4 := F4.binds (ps := ps 4) fun _ _ _ _ _ _ us hl => match us, hl with | [_], _ => rfl
  have b5 := F5.binds (ps := ps 5) fun _ _ _ _ _ _ us hl => match us, hl with | [_, _, _], _ => rfl
  have b6 := F6.binds (ps := ps 6) fun _ _ _ _ _ _ us hl => match us, hl with | [_, _], _ => rfl
  have b7 := F7.binds (ps := ps 7) fun _ _ _ _ _ _ us hl => match us, hl with | [_], _ => rfl
  have b8 := F8.binds (ps := ps 8) fun _ _ _ _ _ _ us hl => match us, hl with | [_, _], _ => rfl
  have b9 := F9.binds (ps := ps 9) fun _ _ _ _ _ _ us hl => match us, hl with | [_, _, _], _ => rfl
  have b10 := F10.binds (ps := ps 10) fun _ _ _ _ _ _ us hl => match us, hl with | [_, _, _], _ => rfl
  have b11 := F11.binds (ps := ps 11) fun _ _ _ _ _ _ us hl => match us, hl with | [_, _, _, _], _ => rfl
  have b12 := F12.binds (ps := ps 12) fun _ _ _ _ _ _ us hl => match us, hl with | [_, _], _ => rfl
  have b13 := F13.binds (ps := ps 13) fun _ _ _ _ _ _ us hl => match us, hl with | [_, _, _], _ => rfl
  have b14 := F14.binds (ps := ps 14) fun _ _ _ _ _ _ us hl => match us, hl with | [_, _], _ => rfl
  have b15 := F15.binds (ps := ps 15) fun _ _ _ _ _ _ us hl => match us, hl with | [_], _ => rfl
  have b16 := F16.binds (ps := ps 16) fun _ _ _ _ _ _ us hl => match us, hl with | [_, _], _ => rfl
  have b17 := F17.binds (ps := ps 17) fun _ _ _ _ _ _ us hl => match us, hl with | [_, _], _ => rfl
  have b18 := F18.binds (ps := ps 18) fun _ _ _ _ _ _ us hl => match us, hl with | [_], _ => rfl
  have b19 := F19.binds (ps := ps 19) fun _ _ _ _ _ _ us hl => match us, hl with | [_, _], _ => rfl
  have b20 := F20.binds (ps := ps 20) fun _ _ _ _ _ _ us hl => match us, hl with | [_, _, _], _ => rfl
  have b21 := F21.binds (ps := ps 21) fun _ _ _ _ _ _ us hl => match us, hl with | [_, _, _, _, _], _ => rfl
  have b22 := F22.binds (ps := ps 22) fun _ _ _ _ _ _ us hl => match us, hl with | [_, _, _, _], _ => rfl
  have b23 := F23.binds (ps := ps 23) fun _ _ _ _ _ _ us hl => match us, hl with | [_], _ => rfl
  let A : Nat → Addr := fun i => match i with | 0 => f0 | 1 => f1 | 2 => f2 | 3 => f3 | 4 => f4 | 5 => f5 | 6 => f6 | 7 => f7 | 8 => f8 | 9 => f9 | 10 => f10 | 11 => f11 | 12 => f12 | 13 => f13 | 14 => f14 | 15 => f15 | 16 => f16 | 17 => f17 | 18 => f18 | 19 => f19 | 20 => f20 | 21 => f21 | 22 => f22 | 23 => fa | _ => fa
  let FD : Nat → FuncData := fun i => match i with | 0 => PySem.W.fnOf "next_step" "next_step" (defArgs s_next_step) (defBody s_next_step) (defScope s_next_step) .none kV0 dc0 pm0 an0 cd0 ct0 | 1 => PySem.W.fnOf "at_odds" "at_odds" (defArgs s_at_odds) (defBody s_at_odds) (defScope s_at_odds) .none kV1 dc1 pm1 an1 cd1 ct1 | 2 => PySem.W.fnOf "__init__" "Watch.__init__" (defArgs s_Watch___init__) (defBody s_Watch___init__) (defScope s_Watch___init__) .none kV2 dc2 pm2 an2 cd2 ct2 | 3 => PySem.W.fnOf "saw" "Watch.saw" (defArgs s_Watch_saw) (defBody s_Watch_saw) (defScope s_Watch_saw) .none kV3 dc3 pm3 an3 cd3 ct3 | 4 => PySem.W.fnOf "faults" "Watch.faults" (defArgs s_Watch_faults) (defBody s_Watch_faults) (defScope s_Watch_faults) .none kV4 dc4 pm4 an4 cd4 ct4 | 5 => PySem.W.fnOf "_law_draw" "_law_draw" (defArgs s__law_draw) (defBody s__law_draw) (defScope s__law_draw) .none kV5 dc5 pm5 an5 cd5 ct5 | 6 => PySem.W.fnOf "_law_same" "_law_same" (defArgs s__law_same) (defBody s__law_same) (defScope s__law_same) .none kV6 dc6 pm6 an6 cd6 ct6 | 7 => PySem.W.fnOf "_law_stamp" "_law_stamp" (defArgs s__law_stamp) (defBody s__law_stamp) (defScope s__law_stamp) .none kV7 dc7 pm7 an7 cd7 ct7 | 8 => PySem.W.fnOf "_law_names" "_law_names" (defArgs s__law_names) (defBody s__law_names) (defScope s__law_names) .none kV8 dc8 pm8 an8 cd8 ct8 | 9 => PySem.W.fnOf "_law_value" "_law_value" (defArgs s__law_value) (defBody s__law_value) (defScope s__law_value) .none kV9 dc9 pm9 an9 cd9 ct9 | 10 => PySem.W.fnOf "_law_expr" "_law_expr" (defArgs s__law_expr) (defBody s__law_expr) (defScope s__law_expr) .none kV10 dc10 pm10 an10 cd10 ct10 | 11 => PySem.W.fnOf "_law_recipe" "_law_recipe" (defArgs s__law_recipe) (defBody s__law_recipe) (defScope s__law_recipe) .none kV11 dc11 pm11 an11 cd11 ct11 | 12 => PySem.W.fnOf "_law_fits" "_law_fits" (defArgs s__law_fits) (defBody s__law_fits) (defScope s__law_fits) .none kV12 dc12 pm12 an12 cd12 ct12 | 13 => PySem.W.fnOf "_law_of_two" "_law_of_two" (defArgs s__law_of_two) (defBody s__law_of_two) (defScope s__law_of_two) .none kV13 dc13 pm13 an13 cd13 ct13 | 14 => PySem.W.fnOf "_law_told" "_law_told" (defArgs s__law_told) (defBody s__law_told) (defScope s__law_told) .none kV14 dc14 pm14 an14 cd14 ct14 | 15 => PySem.W.fnOf "_law_is_name" "_law_is_name" (defArgs s__law_is_name) (defBody s__law_is_name) (defScope s__law_is_name) .none kV15 dc15 pm15 an15 cd15 ct15 | 16 => PySem.W.fnOf "_law_run" "_law_run" (defArgs s__law_run) (defBody s__law_run) (defScope s__law_run) .none kV16 dc16 pm16 an16 cd16 ct16 | 17 => PySem.W.fnOf "_law_one_line" "_law_one_line" (defArgs s__law_one_line) (defBody s__law_one_line) (defScope s__law_one_line) .none kV17 dc17 pm17 an17 cd17 ct17 | 18 => PySem.W.fnOf "_law_steps" "_law_steps" (defArgs s__law_steps) (defBody s__law_steps) (defScope s__law_steps) .none kV18 dc18 pm18 an18 cd18 ct18 | 19 => PySem.W.fnOf "_law_odds" "_law_odds" (defArgs s__law_odds) (defBody s__law_odds) (defScope s__law_odds) .none kV19 dc19 pm19 an19 cd19 ct19 | 20 => PySem.W.fnOf "_law_elder" "_law_elder" (defArgs s__law_elder) (defBody s__law_elder) (defScope s__law_elder) .none kV20 dc20 pm20 an20 cd20 ct20 | 21 => PySem.W.fnOf "_law_saw" "_law_saw" (defArgs s__law_saw) (defBody s__law_saw) (defScope s__law_saw) .none kV21 dc21 pm21 an21 cd21 ct21 | 22 => PySem.W.fnOf "_law_doing" "_law_doing" (defArgs s__law_doing) (defBody s__law_doing) (defScope s__law_doing) .none kV22 dc22 pm22 an22 cd22 ct22 | 23 => PySem.W.fnOf "law" "law" (defArgs s_law) (defBody s_law) (defScope s_law) .none kV23 dc23 pm23 an23 cd23 ct23 | _ => PySem.W.fnOf "next_step" "next_step" (defArgs s_next_step) (defBody s_next_step) (defScope s_next_step) .none kV0 dc0 pm0 an0 cd0 ct0
  let cl : Nat → Addr := fun i => match i with | 0 => C0 | _ => C0
  have T : Txt K mg A FD cl :=
    { F_next_step := F0
      b_next_step := b0
      m_next_step := PySem.W.mg_of X G a0
      F_at_odds := F1
      b_at_odds := b1
      m_at_odds := PySem.W.mg_of X G a1
      F_Watch___init__ := F2
      b_Watch___init__ := b2
      F_Watch_saw := F3
      b_Watch_saw := b3
      F_Watch_faults := F4
      b_Watch_faults := b4
      F__law_draw := F5
      b__law_draw := b5
      m__law_draw := PySem.W.mg_of X G a5
      F__law_same := F6
      b__law_same := b6
      m__law_same := PySem.W.mg_of X G a6
      F__law_stamp := F7
      b__law_stamp := b7
      m__law_stamp := PySem.W.mg_of X G a7
      F__law_names := F8
      b__law_names := b8
      m__law_names := PySem.W.mg_of X G a8
      F__law_value := F9
      b__law_value := b9
      m__law_value := PySem.W.mg_of X G a9
      F__law_expr := F10
      b__law_expr := b10
      m__law_expr := PySem.W.mg_of X G a10
      F__law_recipe := F11
      b__law_recipe := b11
      m__law_recipe := PySem.W.mg_of X G a11
      F__law_fits := F12
      b__law_fits := b12
      m__law_fits := PySem.W.mg_of X G a12
      F__law_of_two := F13
      b__law_of_two := b13
      m__law_of_two := PySem.W.mg_of X G a13
      F__law_told := F14
      b__law_told := b14
      m__law_told := PySem.W.mg_of X G a14
      F__law_is_name := F15
      b__law_is_name := b15
      m__law_is_name := PySem.W.mg_of X G a15
      F__law_run := F16
      b__law_run := b16
      m__law_run := PySem.W.mg_of X G a16
      F__law_one_line := F17
      b__law_one_line := b17
      m__law_one_line := PySem.W.mg_of X G a17
      F__law_steps := F18
      b__law_steps := b18
      m__law_steps := PySem.W.mg_of X G a18
      F__law_odds := F19
      b__law_odds := b19
      m__law_odds := PySem.W.mg_of X G a19
      F__law_elder := F20
      b__law_elder := b20
      m__law_elder := PySem.W.mg_of X G a20
      F__law_saw := F21
      b__law_saw := b21
      m__law_saw := PySem.W.mg_of X G a21
      F__law_doing := F22
      b__law_doing := b22
      m__law_doing := PySem.W.mg_of X G a22
      F_law := F23
      b_law := b23
      m_law := PySem.W.mg_of X G a23
      me_Watch_faults := ⟨a4, i4, k4⟩
      me_Watch_saw := ⟨a3, i3, k3⟩
      c_Watch := ⟨pg0, hd0, po0, sa0⟩
      g_Watch := PySem.W.mg_of X G aC0
      k_Watch := ⟨mk0, a2, i2, kc0⟩
      n_Watch_finds := n0_finds
      n_Watch_seen := n0_seen
      z_all := PySem.W.mg_none_of X G z_all
      z_dict := PySem.W.mg_none_of X G z_dict
      z_int := PySem.W.mg_none_of X G z_int
      z_isinstance := PySem.W.mg_none_of X G z_isinstance
      z_len := PySem.W.mg_none_of X G z_len
      z_list := PySem.W.mg_none_of X G z_list
      z_min := PySem.W.mg_none_of X G z_min
      z_range := PySem.W.mg_none_of X G z_range
      z_repr := PySem.W.mg_none_of X G z_repr
      z_reversed := PySem.W.mg_none_of X G z_reversed
      z_str := PySem.W.mg_none_of X G z_str
      z_tuple := PySem.W.mg_none_of X G z_tuple
      z_zip := PySem.W.mg_none_of X G z_zip }
  exact ⟨FD 23, D cl 12 23, fun s v => .of_eq rfl, fun is h => sp_law (by omega) h (fun _ => rfl), fun base _ _ => all_ok T 12 23 (by decide)⟩
end DL
open PySem PySem.W PyProof.Rows
set_option maxRecDepth 100000 in
set_option maxHeartbeats 0 in
theorem PySem.Challenge.cw_redo_k76_a_watch_holds : PySem.Challenge.rw_redo_k76_a_watch.Holds := by
  w_on; o_law; k_head; (case hw => w_witness2)
  k_fill
  refine DL.end_walk (l := PySem.Challenge.rw_redo_k76_a_watch) (x := "_law_script") (k := 24) rfl rfl ⟨rfl, by decide, by decide⟩ (fun w h Y => PySem.W.kIn_of Y) ?F
  case F =>
    intro w mg fa h KX G hmg
    refine' DL.all_mk KX G hmg ?a0 ?l0 ?c0 ?k0 ?a1 ?l1 ?c1 ?k1 ?a2 ?i2 ?l2 ?c2 ?k2 ?a3 ?i3 ?l3 ?c3 ?k3 ?a4 ?i4 ?l4 ?c4 ?k4 ?a5 ?l5 ?c5 ?k5 ?a6 ?l6 ?c6 ?k6 ?a7 ?l7 ?c7 ?k7 ?a8 ?l8 ?c8 ?k8 ?a9 ?l9 ?c9 ?k9 ?a10 ?l10 ?c10 ?k10 ?a11 ?l11 ?c11 ?k11 ?a12 ?l12 ?c12 ?k12 ?a13 ?l13 ?c13 ?k13 ?a14 ?l14 ?c14 ?k14 ?a15 ?l15 ?c15 ?k15 ?a16 ?l16 ?c16 ?k16 ?a17 ?l17 ?c17 ?k17 ?a18 ?l18 ?c18 ?k18 ?a19 ?l19 ?c19 ?k19 ?a20 ?l20 ?c20 ?k20 ?a21 ?l21 ?c21 ?k21 ?a22 ?l22 ?c22 ?k22 ?a23 ?l23 ?c23 ?k23 ?aC0 ?pg0 ?hd0 ?po0 ?sa0 ?mk0 ?kc0 ?n0_finds ?n0_seen ?z_all ?z_dict ?z_int ?z_isinstance ?z_len ?z_list ?z_min ?z_range ?z_repr ?z_reversed ?z_str ?z_tuple ?z_zip
    (case aC0 => k_is)
    (case a0 => k_is)
    (case l0 => k_is)
    (case c0 => k_is)
    (case k0 => k_is)
    (case a1 => k_is)
    (case l1 => k_is)
    (case c1 => k_is)
    (case k1 => k_is)
    (case a2 => k_is)
    (case i2 => k_is)
    (case l2 => k_is)
    (case c2 => k_is)
    (case k2 => k_is)
    (case a3 => k_is)
    (case i3 => k_is)
    (case l3 => k_is)
    (case c3 => k_is)
    (case k3 => k_is)
    (case a4 => k_is)
    (case i4 => k_is)
    (case l4 => k_is)
    (case c4 => k_is)
    (case k4 => k_is)
    (case a5 => k_is)
    (case l5 => k_is)
    (case c5 => k_is)
    (case k5 => k_is)
    (case a6 => k_is)
    (case l6 => k_is)
    (case c6 => k_is)
    (case k6 => k_is)
    (case a7 => k_is)
    (case l7 => k_is)
    (case c7 => k_is)
    (case k7 => k_is)
    (case a8 => k_is)
    (case l8 => k_is)
    (case c8 => k_is)
    (case k8 => k_is)
    (case a9 => k_is)
    (case l9 => k_is)
    (case c9 => k_is)
    (case k9 => k_is)
    (case a10 => k_is)
    (case l10 => k_is)
    (case c10 => k_is)
    (case k10 => k_is)
    (case a11 => k_is)
    (case l11 => k_is)
    (case c11 => k_is)
    (case k11 => k_is)
    (case a12 => k_is)
    (case l12 => k_is)
    (case c12 => k_is)
    (case k12 => k_is)
    (case a13 => k_is)
    (case l13 => k_is)
    (case c13 => k_is)
    (case k13 => k_is)
    (case a14 => k_is)
    (case l14 => k_is)
    (case c14 => k_is)
    (case k14 => k_is)
    (case a15 => k_is)
    (case l15 => k_is)
    (case c15 => k_is)
    (case k15 => k_is)
    (case a16 => k_is)
    (case l16 => k_is)
    (case c16 => k_is)
    (case k16 => k_is)
    (case a17 => k_is)
    (case l17 => k_is)
    (case c17 => k_is)
    (case k17 => k_is)
    (case a18 => k_is)
    (case l18 => k_is)
    (case c18 => k_is)
    (case k18 => k_is)
    (case a19 => k_is)
    (case l19 => k_is)
    (case c19 => k_is)
    (case k19 => k_is)
    (case a20 => k_is)
    (case l20 => k_is)
    (case c20 => k_is)
    (case k20 => k_is)
    (case a21 => k_is)
    (case l21 => k_is)
    (case c21 => k_is)
    (case k21 => k_is)
    (case a22 => k_is)
    (case l22 => k_is)
    (case c22 => k_is)
    (case k22 => k_is)
    (case a23 => k_is)
    (case l23 => k_is)
    (case c23 => k_is)
    (case k23 => k_is)
    (case pg0 => k_is)
    (case hd0 => k_is)
    (case po0 => k_is)
    (case sa0 => k_is)
    (case mk0 => k_is)
    (case kc0 => k_is)
    (case n0_finds => k_is)
    (case n0_seen => k_is)
    (case z_all => k_is)
    (case z_dict => k_is)
    (case z_int => k_is)
    (case z_isinstance => k_is)
    (case z_len => k_is)
    (case z_list => k_is)
    (case z_min => k_is)
    (case z_range => k_is)
    (case z_repr => k_is)
    (case z_reversed => k_is)
    (case z_str => k_is)
    (case z_tuple => k_is)
    (case z_zip => k_is)

