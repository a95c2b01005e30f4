import PyProof.Rows.All
import Wide.All
import OpenK.AllK
import Wide.FinOn
import HandS.ForMost
import HandS.Flow
import HandS.Style
import HandS.Conv
import HandS.IsInst
import HandS.Wide
import HandS.TupAny
import HandS.TupMul
import HandS.SortInts
import HandS.More
import HandS.Zip
import KE.GoesEnum
import HandS.List
import HandS.NoneIn
import PySem.Challenge.RW_reckonloft_k65_triangles_of_named_number
set_option Elab.async false
set_option linter.all false
set_option maxRecDepth 100000
set_option maxHeartbeats 2000000
/-! Rk: values as plain data over the hand layer; a reading is a weakest precondition over these. -/
namespace Rk
open PySem PySem.Spec L2

/-- plain data; ref a: the list that stands at a and may change -/
inductive D where
  | non | bl (b : Bool) | int (i : Int) | str (x : Str) | tup (ds : List D) | lst (ds : List D) | ref (a : Addr) | scr (ns : List Int)
inductive AO where
  | lst (ds : List D)
abbrev AH := Addr → Option AO
def aupd (A : AH) (p : Addr) (o : AO) : AH := fun b => if b = p then some o else A b
theorem aupd_same {A : AH} {p : Addr} {o : AO} : aupd A p o p = some o := by unfold aupd; rw [if_pos rfl]
theorem aupd_ne {A : AH} {p q : Addr} {o : AO} (h : q ≠ p) : aupd A p o q = A q := by unfold aupd; rw [if_neg h]
theorem aupd_aupd {A : AH} {p : Addr} {o u : AO} : aupd (aupd A p o) p u = aupd A p u := by
  funext b; unfold aupd; split <;> rfl

def KTup (K : PySem.W.Frag) (a : Addr) (xs : List V) : Prop := ∃ (o : Obj) (its : Array Value) (n : Nat), K.lookup a = some o ∧ o.cls = .type "tuple" ∧ o.data = .seq its n ∧ its.size ≤ sizeLine ∧ Vals xs its.toList
def KLst (K : PySem.W.Frag) (a : Addr) (xs : List V) : Prop := ∃ (o : Obj) (its : Array Value) (n : Nat), K.lookup a = some o ∧ o.cls = .type "list" ∧ o.dict = none ∧ o.data = .seq its n ∧ its.size ≤ sizeLine ∧ Vals xs its.toList
def TAt (K : PySem.W.Frag) (A : AH) (H : Hp) (a : Addr) (xs : List V) : Prop := (A a = none ∧ Rd H a (.tup xs)) ∨ KTup K a xs
def LAt (A : AH) (H : Hp) (a : Addr) (xs : List V) : Prop := A a = none ∧ H a = some (.lst xs)
def CAt (K : PySem.W.Frag) (A : AH) (H : Hp) (a : Addr) (xs : List V) : Prop := (A a = none ∧ Rd H a (.lst xs)) ∨ KLst K a xs
theorem TAt.sq {K : PySem.W.Frag} {A : AH} {H : Hp} {a : Addr} {xs : List V} (h : TAt K A H a xs) : SqT K H a xs := by
  rcases h with ⟨_, h⟩ | h
  · exact .inl h
  · exact .inr h
theorem LAt.sq {K : PySem.W.Frag} {A : AH} {H : Hp} {a : Addr} {xs : List V} (h : LAt A H a xs) : SqL K H a xs := .inl (.inl h.2)
theorem CAt.sq {K : PySem.W.Frag} {A : AH} {H : Hp} {a : Addr} {xs : List V} (h : CAt K A H a xs) : SqL K H a xs := by
  rcases h with ⟨_, h⟩ | h
  · exact .inl h
  · exact .inr h
mutual
def Rep (K : PySem.W.Frag) (A : AH) (H : Hp) : D → V → Prop
  | .non, v => v = .non
  | .bl b, v => v = .bl b
  | .int i, v => v = .int i
  | .str x, v => v = .str x
  | .tup ds, v => ∃ a xs, v = .ref a ∧ TAt K A H a xs ∧ Reps K A H ds xs
  | .lst ds, v => ∃ a xs, v = .ref a ∧ LAt A H a xs ∧ Reps K A H ds xs
  | .ref a, v => v = .ref a
  | .scr ns, v => ∃ a, v = .ref a ∧ CAt K A H a (ns.map V.int)
def Reps (K : PySem.W.Frag) (A : AH) (H : Hp) : List D → List V → Prop
  | [], vs => vs = []
  | d :: ds, vs => ∃ v r, vs = v :: r ∧ Rep K A H d v ∧ Reps K A H ds r
end

/-- what is not tracked stays -/
def Adv (A : AH) (H : Hp) (A' : AH) (H' : Hp) : Prop := ∀ a o, A a = none → H a = some o → A' a = none ∧ H' a = some o
theorem Adv.refl {A : AH} {H : Hp} : Adv A H A H := fun _ _ h e => ⟨h, e⟩
theorem Adv.trans {A A1 A2 : AH} {H H1 H2 : Hp} (h : Adv A H A1 H1) (g : Adv A1 H1 A2 H2) : Adv A H A2 H2 := fun a o e1 e2 =>
  let ⟨x, y⟩ := h a o e1 e2
  g a o x y
section
variable {K : PySem.W.Frag} {A A' : AH} {H H' : Hp}
theorem Adv.rd (h : Adv A H A' H') {a : Addr} {u : HO} (e : A a = none) (r : Rd H a u) : A' a = none ∧ Rd H' a u := by
  rcases r with r | ⟨o, r⟩
  · obtain ⟨x, y⟩ := h a _ e r
    exact ⟨x, .inl y⟩
  · obtain ⟨x, y⟩ := h a _ e r
    exact ⟨x, .inr ⟨o, y⟩⟩
theorem TAt.adv (h : Adv A H A' H') {a : Addr} {xs : List V} (r : TAt K A H a xs) : TAt K A' H' a xs := by
  rcases r with ⟨e, r⟩ | r
  · exact .inl (h.rd e r)
  · exact .inr r
theorem LAt.adv (h : Adv A H A' H') {a : Addr} {xs : List V} (r : LAt A H a xs) : LAt A' H' a xs := h a _ r.1 r.2
theorem CAt.adv (h : Adv A H A' H') {a : Addr} {xs : List V} (r : CAt K A H a xs) : CAt K A' H' a xs := by
  rcases r with ⟨e, r⟩ | r
  · exact .inl (h.rd e r)
  · exact .inr r
mutual
theorem Rep.adv (h : Adv A H A' H') : ∀ {d : D} {v : V}, Rep K A H d v → Rep K A' H' d v
  | .non, _, r => r
  | .bl _, _, r => r
  | .int _, _, r => r
  | .str _, _, r => r
  | .tup _, _, ⟨a, xs, e, t, r⟩ => ⟨a, xs, e, t.adv h, Reps.adv h r⟩
  | .lst _, _, ⟨a, xs, e, t, r⟩ => ⟨a, xs, e, t.adv h, Reps.adv h r⟩
  | .ref _, _, r => r
  | .scr _, _, ⟨a, e, r⟩ => ⟨a, e, r.adv h⟩
theorem Reps.adv (h : Adv A H A' H') : ∀ {ds : List D} {vs : List V}, Reps K A H ds vs → Reps K A' H' ds vs
  | [], _, r => r
  | _ :: _, _, ⟨v, r, e, x, y⟩ => ⟨v, r, e, Rep.adv h x, Reps.adv h y⟩
end
theorem Reps.length : ∀ {ds : List D} {vs : List V}, Reps K A H ds vs → vs.length = ds.length
  | [], _, r => by subst r; rfl
  | _ :: _, _, ⟨v, r, e, _, y⟩ => by subst e; simp [Reps.length y]
theorem Reps.get : ∀ {ds : List D} {vs : List V} {i : Nat} {d : D}, Reps K A H ds vs → ds[i]? = some d → ∃ v, vs[i]? = some v ∧ Rep K A H d v
  | [], _, _, _, _, h => by simp at h
  | _ :: _, _, 0, d, ⟨v, r, e, x, _⟩, h => by
    subst e
    simp at h
    subst h
    exact ⟨v, rfl, x⟩
  | _ :: ds, _, i + 1, d, ⟨v, r, e, _, y⟩, h => by
    subst e
    simp at h
    obtain ⟨u, h1, h2⟩ := Reps.get y h
    exact ⟨u, by simpa using h1, h2⟩
theorem Reps.get' : ∀ {ds : List D} {vs : List V} {i : Nat} {v : V}, Reps K A H ds vs → vs[i]? = some v → ∃ d, ds[i]? = some d ∧ Rep K A H d v
  | [], _, _, _, r, h => by subst r; simp at h
  | d :: _, _, 0, _, ⟨v, r, e, x, _⟩, h => by
    subst e
    simp at h
    subst h
    exact ⟨d, rfl, x⟩
  | _ :: ds, _, i + 1, _, ⟨v, r, e, _, y⟩, h => by
    subst e
    simp at h
    obtain ⟨u, h1, h2⟩ := Reps.get' y h
    exact ⟨u, by simpa using h1, h2⟩
theorem Reps.append : ∀ {ds es : List D} {vs us : List V}, Reps K A H ds vs → Reps K A H es us → Reps K A H (ds ++ es) (vs ++ us)
  | [], _, _, _, r, q => by subst r; exact q
  | _ :: _, _, _, _, ⟨v, r, e, x, y⟩, q => by subst e; exact ⟨v, _, rfl, x, Reps.append y q⟩
theorem Reps.one {d : D} {v : V} (h : Rep K A H d v) : Reps K A H [d] [v] := ⟨v, [], rfl, h, rfl⟩
theorem Reps.take : ∀ {ds : List D} {vs : List V} (n : Nat), Reps K A H ds vs → Reps K A H (ds.take n) (vs.take n)
  | _, _, 0, _ => rfl
  | [], _, _ + 1, r => by subst r; rfl
  | _ :: _, _, n + 1, ⟨v, r, e, x, y⟩ => by subst e; exact ⟨v, _, rfl, x, Reps.take n y⟩
theorem Reps.drop : ∀ {ds : List D} {vs : List V} (n : Nat), Reps K A H ds vs → Reps K A H (ds.drop n) (vs.drop n)
  | _, _, 0, r => r
  | [], _, _ + 1, r => by subst r; rfl
  | _ :: _, _, n + 1, ⟨v, r, e, x, y⟩ => by subst e; exact Reps.drop n y
theorem Reps.set {d : D} {v : V} (h : Rep K A H d v) : ∀ {ds : List D} {vs : List V} (i : Nat), Reps K A H ds vs → Reps K A H (ds.set i d) (vs.set i v)
  | [], _, _, r => by subst r; rfl
  | _ :: _, _, 0, ⟨u, r, e, x, y⟩ => by subst e; exact ⟨v, r, rfl, h, y⟩
  | _ :: _, _, i + 1, ⟨u, r, e, x, y⟩ => by subst e; exact ⟨u, _, rfl, x, Reps.set h i y⟩
theorem Reps.rev : ∀ {ds : List D} {vs : List V}, Reps K A H ds vs → Reps K A H ds.reverse vs.reverse
  | [], _, r => by subst r; rfl
  | _ :: _, _, ⟨v, r, e, x, y⟩ => by
    subst e
    rw [List.reverse_cons, List.reverse_cons]
    exact (Reps.rev y).append (Reps.one x)
theorem Reps.ints : ∀ {ns : List Int} {vs : List V}, Reps K A H (ns.map D.int) vs → vs = ns.map V.int
  | [], _, r => r
  | n :: ns, _, ⟨v, r, e, x, y⟩ => by
    subst e
    cases (show v = V.int n from x)
    rw [Reps.ints y]
    rfl
theorem Reps.of_ints : ∀ (ns : List Int), Reps K A H (ns.map D.int) (ns.map V.int)
  | [] => rfl
  | n :: ns => ⟨_, _, rfl, rfl, Reps.of_ints ns⟩
end

/-- the tracked lists are as told -/
def HRep (K : PySem.W.Frag) (A : AH) (H : Hp) : Prop := ∀ a o, A a = some o → match o with
  | .lst ds => ∃ vs, H a = some (.lst vs) ∧ Reps K A H ds vs
theorem HRep.none {K : PySem.W.Frag} {A : AH} {H : Hp} (h : HRep K A H) {p : Addr} (e : H p = Option.none) : A p = Option.none := by
  cases q : A p with
  | none => rfl
  | some o =>
    cases o with
    | lst ds =>
      obtain ⟨vs, e1, _⟩ := h p _ q
      rw [e] at e1
      cases e1
/-- a new object that is not tracked -/
theorem adv_new {K : PySem.W.Frag} {A : AH} {H : Hp} {p : Addr} {o : HO} (h : HRep K A H) (e : H p = none) : Adv A H A (upd H p o) ∧ HRep K A (upd H p o) := by
  have a : Adv A H A (upd H p o) := fun b u e1 e2 => ⟨e1, by rw [upd_ne (ne_of_none e2 e)]; exact e2⟩
  refine ⟨a, fun b u e1 => ?_⟩
  cases u with
  | lst ds =>
    obtain ⟨vs, e2, r⟩ := h b _ e1
    exact ⟨vs, by rw [upd_ne (ne_of_none e2 e)]; exact e2, r.adv a⟩
/-- a new list that is tracked -/
theorem adv_newT {K : PySem.W.Frag} {A : AH} {H : Hp} {p : Addr} {ds : List D} {vs : List V} (h : HRep K A H) (e : H p = none) (r : Reps K A H ds vs) :
    Adv A H (aupd A p (.lst ds)) (upd H p (.lst vs)) ∧ HRep K (aupd A p (.lst ds)) (upd H p (.lst vs)) := by
  have a : Adv A H (aupd A p (.lst ds)) (upd H p (.lst vs)) := fun b u e1 e2 => ⟨by rw [aupd_ne (ne_of_none e2 e)]; exact e1, by rw [upd_ne (ne_of_none e2 e)]; exact e2⟩
  refine ⟨a, fun b u e1 => ?_⟩
  by_cases hb : b = p
  · subst hb
    rw [aupd_same] at e1
    cases e1
    exact ⟨vs, upd_same, r.adv a⟩
  · rw [aupd_ne hb] at e1
    cases u with
    | lst ds =>
      obtain ⟨vs, e2, r⟩ := h b _ e1
      exact ⟨vs, by rw [upd_ne hb]; exact e2, r.adv a⟩
/-- a tracked list is changed -/
theorem adv_set {K : PySem.W.Frag} {A : AH} {H : Hp} {p : Addr} {ds ds' : List D} {vs' : List V} (h : HRep K A H) (e : A p = some (.lst ds)) (r : Reps K A H ds' vs') :
    Adv A H (aupd A p (.lst ds')) (upd H p (.lst vs')) ∧ HRep K (aupd A p (.lst ds')) (upd H p (.lst vs')) := by
  have a : Adv A H (aupd A p (.lst ds')) (upd H p (.lst vs')) := fun b u e1 e2 => by
    have hb : b ≠ p := fun z => by rw [z, e] at e1; cases e1
    exact ⟨by rw [aupd_ne hb]; exact e1, by rw [upd_ne hb]; exact e2⟩
  refine ⟨a, fun b u e1 => ?_⟩
  by_cases hb : b = p
  · subst hb
    rw [aupd_same] at e1
    cases e1
    exact ⟨vs', upd_same, r.adv a⟩
  · rw [aupd_ne hb] at e1
    cases u with
    | lst ds =>
      obtain ⟨vs, e2, r⟩ := h b _ e1
      exact ⟨vs, by rw [upd_ne hb]; exact e2, r.adv a⟩

/-! ### slots -/
abbrev ASt := List (Option D)
def slot : ASt → Nat → Option D
  | [], _ => none
  | o :: _, 0 => o
  | _ :: r, n + 1 => slot r n
def sset : ASt → Nat → D → ASt
  | [], _, _ => []
  | _ :: r, 0, d => some d :: r
  | o :: r, n + 1, d => o :: sset r n d
def swipe1 : ASt → Nat → ASt
  | [], _ => []
  | _ :: r, 0 => none :: r
  | o :: r, n + 1 => o :: swipe1 r n
def swipe (σ : ASt) : List Nat → ASt
  | [] => σ
  | v :: vs => swipe1 (swipe σ vs) v
def ORep (K : PySem.W.Frag) (A : AH) (H : Hp) : Option D → Option V → Prop
  | none, _ => True
  | some d, some v => Rep K A H d v
  | some _, none => False
def SRep (K : PySem.W.Frag) (A : AH) (H : Hp) : ASt → St → Prop
  | [], vs => vs = []
  | o :: r, vs => ∃ v q, vs = v :: q ∧ ORep K A H o v ∧ SRep K A H r q
section
variable {K : PySem.W.Frag} {A A' : AH} {H H' : Hp}
theorem ORep.adv (h : Adv A H A' H') : ∀ {d : Option D} {v : Option V}, ORep K A H d v → ORep K A' H' d v
  | none, _, _ => trivial
  | some _, some _, r => Rep.adv h r
  | some _, none, r => r.elim
theorem SRep.adv (h : Adv A H A' H') : ∀ {σ : ASt} {vs : St}, SRep K A H σ vs → SRep K A' H' σ vs
  | [], _, r => r
  | _ :: _, _, ⟨v, q, e, x, y⟩ => ⟨v, q, e, x.adv h, SRep.adv h y⟩
theorem SRep.get : ∀ {σ : ASt} {vs : St} {i : Nat} {d : D}, SRep K A H σ vs → slot σ i = some d → ∃ v, vs[i]? = some (some v) ∧ Rep K A H d v
  | [], _, _, _, _, h => by cases h
  | _ :: _, _, 0, d, ⟨v, q, e, x, _⟩, h => by
    subst e
    simp only [slot] at h
    subst h
    cases v with
    | none => exact (show False from x).elim
    | some v => exact ⟨v, rfl, x⟩
  | _ :: _, _, i + 1, d, ⟨v, q, e, _, y⟩, h => by
    subst e
    obtain ⟨u, h1, h2⟩ := SRep.get (i := i) y h
    exact ⟨u, by simpa using h1, h2⟩
theorem SRep.set {d : D} {v : V} (h : Rep K A H d v) : ∀ {σ : ASt} {vs : St} (i : Nat), SRep K A H σ vs → SRep K A H (sset σ i d) (vs.set i (some v))
  | [], _, _, r => by subst r; rfl
  | _ :: _, _, 0, ⟨u, q, e, x, y⟩ => by subst e; exact ⟨some v, q, rfl, h, y⟩
  | _ :: _, _, i + 1, ⟨u, q, e, x, y⟩ => by subst e; exact ⟨u, _, rfl, x, SRep.set h i y⟩
theorem SRep.wipe1 : ∀ {σ : ASt} {vs : St} (i : Nat), SRep K A H σ vs → SRep K A H (swipe1 σ i) (vs.set i none)
  | [], _, _, r => by subst r; rfl
  | _ :: _, _, 0, ⟨u, q, e, x, y⟩ => by subst e; exact ⟨none, q, rfl, trivial, y⟩
  | _ :: _, _, i + 1, ⟨u, q, e, x, y⟩ => by subst e; exact ⟨u, _, rfl, x, SRep.wipe1 i y⟩
theorem SRep.wipe {σ : ASt} {vs : St} (h : SRep K A H σ vs) : ∀ is : List Nat, SRep K A H (swipe σ is) (L2.wipe vs is)
  | [] => h
  | i :: is => SRep.wipe1 i (SRep.wipe h is)
theorem SRep.nones : ∀ (n : Nat), SRep K A H (List.replicate n none) (List.replicate n none)
  | 0 => rfl
  | n + 1 => ⟨none, _, rfl, trivial, SRep.nones n⟩
end
def startD (n : Nat) (ds : List D) : ASt := ds.map some ++ List.replicate (n - ds.length) none
theorem srep_start {K : PySem.W.Frag} {A : AH} {H : Hp} {m : Nat} : ∀ {ds : List D} {vs : List V}, Reps K A H ds vs → SRep K A H (ds.map some ++ List.replicate m none) (vs.map some ++ List.replicate m none)
  | [], _, r => by subst r; exact SRep.nones m
  | d :: ds, _, ⟨v, r, e, x, y⟩ => by subst e; exact ⟨some v, _, rfl, x, srep_start y⟩

/-! ### judgements -/
abbrev DK := D → AH → Prop
abbrev AT := ASt → AH → DK → Prop
abbrev ABt := ASt → AH → (Bool → AH → Prop) → Prop
abbrev AAt := ASt → AH → (List D → AH → Prop) → Prop
structure AEnds where
  nx : ASt → AH → Prop
  rt : DK
  bk : ASt → AH → Prop := fun _ _ => False
  ct : ASt → AH → Prop := fun _ _ => False
abbrev ASt' := AEnds → ASt → AH → Prop
def post (K : PySem.W.Frag) (A : AH) (H : Hp) (Q : VK) : DK := fun d A' => ∀ v H', Adv A H A' H' → HRep K A' H' → Rep K A' H' d v → Q v H'
def postB (K : PySem.W.Frag) (A : AH) (H : Hp) (Q : Bool → Hp → Prop) : Bool → AH → Prop := fun b A' => ∀ H', Adv A H A' H' → HRep K A' H' → Q b H'
def postA (K : PySem.W.Frag) (A : AH) (H : Hp) (Q : List V → Hp → Prop) : List D → AH → Prop := fun ds A' => ∀ vs H', Adv A H A' H' → HRep K A' H' → Reps K A' H' ds vs → Q vs H'
def postS (K : PySem.W.Frag) (A : AH) (H : Hp) (Q : St → Hp → Prop) : ASt → AH → Prop := fun σ' A' => ∀ vs H', Adv A H A' H' → HRep K A' H' → SRep K A' H' σ' vs → Q vs H'
def liftE (K : PySem.W.Frag) (t : AT) : TE := fun vs H Q => ∃ σ A, HRep K A H ∧ SRep K A H σ vs ∧ t σ A (post K A H Q)
def liftB (K : PySem.W.Frag) (t : ABt) : TT := fun vs H Q => ∃ σ A, HRep K A H ∧ SRep K A H σ vs ∧ t σ A (postB K A H Q)
def liftA (K : PySem.W.Frag) (t : AAt) : TA := fun vs H Q => ∃ σ A, HRep K A H ∧ SRep K A H σ vs ∧ t σ A (postA K A H Q)
def liftD (K : PySem.W.Frag) (A : AH) (H : Hp) (D : Ends) : AEnds := { nx := postS K A H D.nx, rt := post K A H D.rt, bk := postS K A H D.bk, ct := postS K A H D.ct }
def liftS (K : PySem.W.Frag) (t : ASt') : TS := fun D vs H => ∃ σ A, HRep K A H ∧ SRep K A H σ vs ∧ t (liftD K A H D) σ A
def MonE (t : AT) : Prop := ∀ σ A (Q Q' : DK), (∀ d A', Q d A' → Q' d A') → t σ A Q → t σ A Q'
def MonB (t : ABt) : Prop := ∀ σ A (Q Q' : Bool → AH → Prop), (∀ d A', Q d A' → Q' d A') → t σ A Q → t σ A Q'
def MonA (t : AAt) : Prop := ∀ σ A (Q Q' : List D → AH → Prop), (∀ d A', Q d A' → Q' d A') → t σ A Q → t σ A Q'
structure Sub (D D' : AEnds) : Prop where
  nx : ∀ σ A, D.nx σ A → D'.nx σ A
  rt : ∀ d A, D.rt d A → D'.rt d A
  bk : ∀ σ A, D.bk σ A → D'.bk σ A
  ct : ∀ σ A, D.ct σ A → D'.ct σ A
def MonS (t : ASt') : Prop := ∀ D D' σ A, Sub D D' → t D σ A → t D' σ A
structure AE (X : Cx) (e : Expr) (t : AT) : Prop where
  mono : MonE t
  pe : PE X e (liftE X.K t)
structure AB (X : Cx) (e : Expr) (t : ABt) : Prop where
  mono : MonB t
  pt : PT X e (liftB X.K t)
structure AW (X : Cx) (e : Expr) (t : ABt) : Prop where
  mono : MonB t
  pw : PW X e (liftB X.K t)
structure AA (X : Cx) (es : List Expr) (t : AAt) : Prop where
  mono : MonA t
  pa : PA X es (liftA X.K t)
structure AS (X : Cx) (st : Stmt) (t : ASt') : Prop where
  mono : MonS t
  ps : PS X st (liftS X.K t)
structure ASs (X : Cx) (sts : List Stmt) (t : ASt') : Prop where
  mono : MonS t
  pss : PSs X sts (liftS X.K t)
section
variable {X : Cx}
theorem pe_weak {e : Expr} {t t' : TE} (h : PE X e t) (k : ∀ σ H Q, t' σ H Q → t σ H Q) : PE X e t' := ⟨fun pins s σ H Q I q => h.run pins s σ H Q I (k σ H Q q)⟩
theorem pt_weak {e : Expr} {t t' : TT} (h : PT X e t) (k : ∀ σ H Q, t' σ H Q → t σ H Q) : PT X e t' := ⟨fun pins s σ H Q I q => h.run pins s σ H Q I (k σ H Q q)⟩
theorem pw_weak {e : Expr} {t t' : TT} (h : PW X e t) (k : ∀ σ H Q, t' σ H Q → t σ H Q) : PW X e t' := ⟨fun wh pins s σ H Q I q => h.run wh pins s σ H Q I (k σ H Q q)⟩
theorem pa_weak {es : List Expr} {t t' : TA} (h : PA X es t) (k : ∀ σ H Q, t' σ H Q → t σ H Q) : PA X es t' := ⟨fun pos pins s σ H Q I q => h.run pos pins s σ H Q I (k σ H Q q)⟩
theorem ps_weak {e : Stmt} {t t' : TS} (h : PS X e t) (k : ∀ D σ H, t' D σ H → t D σ H) : PS X e t' := ⟨fun pins s σ H D I q => h.run pins s σ H D I (k D σ H q)⟩
theorem pss_weak {e : List Stmt} {t t' : TS} (h : PSs X e t) (k : ∀ D σ H, t' D σ H → t D σ H) : PSs X e t' := ⟨fun pins s σ H D I q => h.run pins s σ H D I (k D σ H q)⟩
theorem AW.ab {e : Expr} {t : ABt} (h : AW X e t) : AB X e t := ⟨h.mono, h.pw.pt⟩
end
section
variable {K : PySem.W.Frag} {A A' : AH} {H H' : Hp}
theorem post.fin {Q : VK} {d : D} (h : post K A H Q d A) (r : HRep K A H) {v : V} (e : Rep K A H d v) : Q v H := h v H Adv.refl r e
theorem post.adv {Q : VK} (a : Adv A H A' H') {d : D} {B : AH} (h : post K A H Q d B) : post K A' H' Q d B := fun v H2 b r e => h v H2 (a.trans b) r e
theorem postB.adv {Q : Bool → Hp → Prop} (a : Adv A H A' H') {d : Bool} {B : AH} (h : postB K A H Q d B) : postB K A' H' Q d B := fun H2 b r => h H2 (a.trans b) r
theorem postA.adv {Q : List V → Hp → Prop} (a : Adv A H A' H') {d : List D} {B : AH} (h : postA K A H Q d B) : postA K A' H' Q d B := fun v H2 b r e => h v H2 (a.trans b) r e
theorem postS.adv {Q : St → Hp → Prop} (a : Adv A H A' H') {d : ASt} {B : AH} (h : postS K A H Q d B) : postS K A' H' Q d B := fun v H2 b r e => h v H2 (a.trans b) r e
theorem liftD.adv {D : Ends} (a : Adv A H A' H') : Sub (liftD K A H D) (liftD K A' H' D) := ⟨fun _ _ h => postS.adv a h, fun _ _ h => post.adv a h, fun _ _ h => postS.adv a h, fun _ _ h => postS.adv a h⟩
/-- the next part, from where one has come -/
theorem liftE.go {t : AT} (m : MonE t) {σ : ASt} {vs : St} (a : Adv A H A' H') (r : HRep K A' H') (s : SRep K A H σ vs) {Q : DK} (h : t σ A' Q) {R : VK} (k : ∀ d B, Q d B → post K A' H' R d B) : liftE K t vs H' R :=
  ⟨σ, A', r, s.adv a, m _ _ _ _ k h⟩
end
end Rk

namespace Rk
open PySem PySem.Spec L2
section
variable {X : Cx} {pos : Pos} {a b c e : Expr} {es : List Expr} {ta tb tc : AT}

/-! ### names, constants -/
def aVar (i : Nat) : AT := fun σ A Q => match slot σ i with | some d => Q d A | none => False
def aC (d : D) : AT := fun _ A Q => Q d A
theorem mon_c (d : D) : MonE (aC d) := fun _ _ _ _ k h => k _ _ h
theorem ae_var (i : Nat) {x : Str} (hN : X.N[i]? = some x := by rfl) (hv : Vis X.env.scope x := by first | exact Or.inl rfl | exact Or.inr (Or.inl rfl) | exact Or.inr (Or.inr rfl)) (hd : (x == ("__debug__" : Str)) = false := by decide)
    (hcd : (x == ("__classdict__" : Str)) = false := by decide) : AE X (.Name x pos) (aVar i) := by
  refine ⟨fun σ A Q Q' k h => ?_, pe_weak (pe_var hN hv hd hcd) fun vs H Q h => ?_⟩
  · unfold aVar at h ⊢
    cases e : slot σ i with
    | none => rw [e] at h; exact h
    | some d => rw [e] at h; exact k _ _ h
  · obtain ⟨σ, A, hr, sr, h⟩ := h
    unfold aVar at h
    cases e : slot σ i with
    | none => rw [e] at h; exact h.elim
    | some d =>
      rw [e] at h
      obtain ⟨v, e1, r⟩ := sr.get e
      exact ⟨v, e1, h.fin hr r⟩
theorem ae_c {d : D} {v : V} (h : PE X e (tC v)) (r : ∀ A H, Rep X.K A H d v) : AE X e (aC d) :=
  ⟨mon_c d, pe_weak h fun vs H Q ⟨σ, A, hr, sr, q⟩ => post.fin q hr (r A H)⟩
theorem ae_int {i : Int} {j} : AE X (.Constant (.int i) j pos) (aC (.int i)) := ae_c pe_int fun _ _ => rfl
theorem ae_bl {i : Bool} {j} : AE X (.Constant (.bool i) j pos) (aC (.bl i)) := ae_c pe_bl fun _ _ => rfl
theorem ae_non {j} : AE X (.Constant .none j pos) (aC .non) := ae_c pe_non fun _ _ => rfl
theorem ae_str {i : Str} {j} : AE X (.Constant (.str i) j pos) (aC (.str i)) := ae_c pe_str fun _ _ => rfl
/-- a module's constant -/
structure GlobD (K : PySem.W.Frag) (mg : Str → Option Value) (x : Str) (d : D) : Prop where
  ex : ∃ u v, mg x = some u ∧ RelV v u ∧ ∀ A H, Rep K A H d v
theorem ae_glob {x : Str} {d : D} (g : GlobD X.K X.mg x d) (hg : Gl X x := by rfl) (hd : (x == ("__debug__" : Str)) = false := by decide) : AE X (.Name x pos) (aC d) := by
  obtain ⟨u, v, h1, h2, h3⟩ := g.ex
  exact ae_c (pe_glob hg h1 h2 hd) h3

/-! ### two-place operations -/
def lift2 (K : PySem.W.Frag) (f : D → D → AH → DK → Prop) : R2 := fun x y H Q => ∃ d e A, HRep K A H ∧ Rep K A H d x ∧ Rep K A H e y ∧ f d e A (post K A H Q)
abbrev Mon2 (f : D → D → AH → DK → Prop) : Prop := ∀ d e A (Q Q' : DK), (∀ d A', Q d A' → Q' d A') → f d e A Q → f d e A Q'
structure AOp (X : Cx) (g : Value → Value → Sem Value) (f : D → D → AH → DK → Prop) : Prop where
  mono : Mon2 f
  op : OpR X g (lift2 X.K f)
def aOp (f : D → D → AH → DK → Prop) (ta tb : AT) : AT := fun σ A Q => ta σ A fun x A1 => tb σ A1 fun y A2 => f x y A2 Q
theorem mon_op {f : D → D → AH → DK → Prop} (mf : Mon2 f) (ma : MonE ta) (mb : MonE tb) : MonE (aOp f ta tb) := fun σ A Q Q' k h =>
  ma _ _ _ _ (fun x A1 h1 => mb _ _ _ _ (fun y A2 h2 => mf _ _ _ _ _ k h2) h1) h
theorem bin_lift {K : PySem.W.Frag} {f : D → D → AH → DK → Prop} {r : R2} (mf : Mon2 f) (ma : MonE ta) (mb : MonE tb) {vs : L2.St} {H : Hp} {Q : VK} (h : liftE K (aOp f ta tb) vs H Q) (k : ∀ x y H2, lift2 K f x y H2 Q → r x y H2 Q) :
    tOp r (liftE K ta) (liftE K tb) vs H Q := by
  obtain ⟨σ, A, hr, sr, h⟩ := h
  refine ⟨σ, A, hr, sr, ma _ _ _ _ (fun d A1 h1 v1 H1 a1 r1 e1 => ?_) h⟩
  refine ⟨σ, A1, r1, sr.adv a1, mb _ _ _ _ (fun e A2 h2 v2 H2 a2 r2 e2 => ?_) h1⟩
  exact k _ _ _ ⟨d, e, A2, r2, e1.adv a2, e2, mf _ _ _ _ _ (fun d B q => post.adv (a1.trans a2) q) h2⟩
theorem ae_op {op : Operator} {f : D → D → AH → DK → Prop} (ho : AOp X (binaryOp op) f) (ha : AE X a ta) (hb : AE X b tb) : AE X (.BinOp a op b pos) (aOp f ta tb) :=
  ⟨mon_op ho.mono ha.mono hb.mono, pe_weak (pe_op ho.op ha.pe hb.pe) fun vs H Q h => bin_lift ho.mono ha.mono hb.mono h fun _ _ _ q => q⟩
theorem ae_cmp {op : CmpOp} {f : D → D → AH → DK → Prop} (ho : AOp X (compareOp op) f) (ha : AE X a ta) (hb : AE X b tb) (hm : behindInMarks op b = false := by first | exact nomark _ | with_unfolding_all rfl) : AE X (.Compare a [op] [b] pos) (aOp f ta tb) :=
  ⟨mon_op ho.mono ha.mono hb.mono, pe_weak (pe_cmpR ho.op ha.pe hb.pe hm) fun vs H Q h => bin_lift ho.mono ha.mono hb.mono h fun _ _ _ q => q⟩
/-- an expression's value as a test: a bool -/
def aTest (t : AT) : ABt := fun σ A Q => t σ A fun d A' => match d with | .bl k => Q k A' | _ => False
theorem mon_test {t : AT} (m : MonE t) : MonB (aTest t) := fun σ A Q Q' k h => m _ _ _ _ (fun d A' q => by cases d <;> first | exact q.elim | exact k _ _ q) h
theorem test_lift {K : PySem.W.Frag} {t : AT} (m : MonE t) {vs : L2.St} {H : Hp} {Q : Bool → Hp → Prop} (h : liftB K (aTest t) vs H Q) : liftE K t vs H fun x H' => ∃ k, x = .bl k ∧ Q k H' := by
  obtain ⟨σ, A, hr, sr, h⟩ := h
  refine ⟨σ, A, hr, sr, m _ _ _ _ (fun d A1 h1 v1 H1 a1 r1 e1 => ?_) h⟩
  cases d <;> first | exact (show False from h1).elim | exact ⟨_, e1, h1 H1 a1 r1⟩
theorem ab_cmp {op : CmpOp} {f : D → D → AH → DK → Prop} (ho : AOp X (compareOp op) f) (ha : AE X a ta) (hb : AE X b tb) (hm : behindInMarks op b = false := by first | exact nomark _ | with_unfolding_all rfl) : AB X (.Compare a [op] [b] pos) (aTest (aOp f ta tb)) := by
  refine ⟨mon_test (mon_op ho.mono ha.mono hb.mono), pt_weak (pt_cmpR ho.op ha.pe hb.pe hm) fun vs H Q h => ?_⟩
  exact bin_lift ho.mono ha.mono hb.mono (test_lift (mon_op ho.mono ha.mono hb.mono) h) fun _ _ _ q => q

/-! ### one way or the other -/
@[irreducible] def br (k : Bool) (p q : Prop) : Prop := match k with | true => p | false => q
theorem br_t {p q : Prop} (h : p) : br true p q := by unfold br; exact h
theorem br_f {p q : Prop} (h : q) : br false p q := by unfold br; exact h
theorem br_te {p q : Prop} : br true p q = p := by unfold br; rfl
theorem br_fe {p q : Prop} : br false p q = q := by unfold br; rfl
theorem br_gt {p q : Prop} (h : br true p q) : p := by unfold br at h; exact h
theorem br_gf {p q : Prop} (h : br false p q) : q := by unfold br at h; exact h
theorem br_mono {k : Bool} {p q p' q' : Prop} (h : br k p q) (hp : p → p') (hq : q → q') : br k p' q' := by
  cases k with
  | true => exact br_t (hp (br_gt h))
  | false => exact br_f (hq (br_gf h))
theorem br_of {k : Bool} {p q : Prop} (hp : k = true → p) (hq : k = false → q) : br k p q := by
  cases k with
  | true => exact br_t (hp rfl)
  | false => exact br_f (hq rfl)
theorem br_dec {c p q : Prop} [Decidable c] (hp : c → p) (hq : ¬ c → q) : br (decide c) p q := by
  by_cases h : c
  · rw [decide_eq_true h]; exact br_t (hp h)
  · rw [decide_eq_false h]; exact br_f (hq h)
theorem br_yes {k : Bool} {p q : Prop} (e : k = true) (h : p) : br k p q := by rw [e]; exact br_t h
theorem br_no {k : Bool} {p q : Prop} (e : k = false) (h : q) : br k p q := by rw [e]; exact br_f h
theorem br_not {k : Bool} {p q : Prop} (h : br k q p) : br (!k) p q := by
  cases k with
  | true => exact br_f (br_gt h)
  | false => exact br_t (br_gf h)
theorem br_and {j k : Bool} {p q : Prop} (h : br j (br k p q) q) : br (j && k) p q := by
  cases j with
  | true => exact br_gt h
  | false => exact br_f (br_gf h)
theorem br_or {j k : Bool} {p q : Prop} (h : br j p (br k p q)) : br (j || k) p q := by
  cases j with
  | true => exact br_t (br_gt h)
  | false => exact br_gf h
theorem br_same {k : Bool} {p : Prop} (h : p) : br k p p := br_of (fun _ => h) fun _ => h
theorem br_ite {k : Bool} {p q : Prop} (h : br k p q) : if k = true then p else q := by
  cases k with
  | true => rw [if_pos rfl]; exact br_gt h
  | false => rw [if_neg Bool.false_ne_true]; exact br_gf h
/-- a op1 b op2 c -/
def aChain (f g : D → D → AH → DK → Prop) (ta tb tc : AT) : AT := fun σ A Q => ta σ A fun x A1 => tb σ A1 fun y A2 => f x y A2 fun z A3 => match z with
  | .bl k => br k (tc σ A3 fun w A4 => g y w A4 Q) (Q (.bl false) A3)
  | _ => False
theorem mon_chain {f g : D → D → AH → DK → Prop} (mf : Mon2 f) (mg : Mon2 g) (ma : MonE ta) (mb : MonE tb) (mc : MonE tc) : MonE (aChain f g ta tb tc) := fun σ A Q Q' k h =>
  ma _ _ _ _ (fun x A1 h1 => mb _ _ _ _ (fun y A2 h2 => mf _ _ _ _ _ (fun z A3 h3 => by
    cases z <;> first | exact h3.elim | exact br_mono h3 (mc _ _ _ _ fun w A4 h4 => mg _ _ _ _ _ k h4) (k _ _)) h2) h1) h
theorem chain_lift {K : PySem.W.Frag} {f g : D → D → AH → DK → Prop} (mf : Mon2 f) (mg : Mon2 g) (ma : MonE ta) (mb : MonE tb) (mc : MonE tc) {vs : L2.St} {H : Hp} {Q : VK} (h : liftE K (aChain f g ta tb tc) vs H Q) :
    tChain (lift2 K f) (lift2 K g) (liftE K ta) (liftE K tb) (liftE K tc) vs H Q := by
  obtain ⟨σ, A, hr, sr, h⟩ := h
  refine ⟨σ, A, hr, sr, ma _ _ _ _ (fun d A1 h1 v1 H1 a1 r1 e1 => ?_) h⟩
  refine ⟨σ, A1, r1, sr.adv a1, mb _ _ _ _ (fun e A2 h2 v2 H2 a2 r2 e2 => ?_) h1⟩
  refine ⟨d, e, A2, r2, e1.adv a2, e2, mf _ _ _ _ _ (fun z A3 h3 v3 H3 a3 r3 e3 => ?_) h2⟩
  cases z <;> first
    | exact (show False from h3).elim
    | (rename_i k
       refine ⟨k, e3, br_ite (br_mono h3 (fun h4 => ?_) (fun q => ?_))⟩
       · refine ⟨σ, A3, r3, sr.adv ((a1.trans a2).trans a3), mc _ _ _ _ (fun w A4 h5 v4 H4 a4 r4 e4 => ?_) h4⟩
         exact ⟨e, w, A4, r4, e2.adv (a3.trans a4), e4, mg _ _ _ _ _ (fun d B q => post.adv (((a1.trans a2).trans a3).trans a4) q) h5⟩
       · exact q _ _ ((a1.trans a2).trans a3) r3 rfl)
theorem ae_chain {op op' : CmpOp} {f g : D → D → AH → DK → Prop} (ho : AOp X (compareOp op) f) (ho' : AOp X (compareOp op') g) (ha : AE X a ta) (hb : AE X b tb) (hc : AE X c tc)
    (hm : lastMarks [op, op'] [b, c] = false := by with_unfolding_all rfl) : AE X (.Compare a [op, op'] [b, c] pos) (aChain f g ta tb tc) :=
  ⟨mon_chain ho.mono ho'.mono ha.mono hb.mono hc.mono, pe_weak (pe_chain ho.op ho'.op ha.pe hb.pe hc.pe hm) fun vs H Q h => chain_lift ho.mono ho'.mono ha.mono hb.mono hc.mono h⟩
theorem ab_chain {op op' : CmpOp} {f g : D → D → AH → DK → Prop} (ho : AOp X (compareOp op) f) (ho' : AOp X (compareOp op') g) (ha : AE X a ta) (hb : AE X b tb) (hc : AE X c tc)
    (hm : lastMarks [op, op'] [b, c] = false := by with_unfolding_all rfl) : AB X (.Compare a [op, op'] [b, c] pos) (aTest (aChain f g ta tb tc)) :=
  ⟨mon_test (mon_chain ho.mono ho'.mono ha.mono hb.mono hc.mono), pt_weak (pt_chain ho.op ho'.op ha.pe hb.pe hc.pe hm) fun vs H Q h =>
    chain_lift ho.mono ho'.mono ha.mono hb.mono hc.mono (test_lift (mon_chain ho.mono ho'.mono ha.mono hb.mono hc.mono) h)⟩

/-! ### truth, tests -/
/-- the truth of what a value is -/
def aTru (d : D) (A : AH) (Q : Bool → Prop) : Prop := match d with
  | .non => Q false
  | .bl b => Q b
  | .int i => Q (i != 0)
  | .tup ds => Q (!ds.isEmpty)
  | .lst ds => Q (!ds.isEmpty)
  | .ref a => ∃ ds, A a = some (.lst ds) ∧ Q (!ds.isEmpty)
  | .str x => x.length ≤ 100000 ∧ Q (x.length != 0)
  | .scr ns => Q (!ns.isEmpty)
theorem aTru_mono {d : D} {A : AH} {Q Q' : Bool → Prop} (h : aTru d A Q) (k : ∀ b, Q b → Q' b) : aTru d A Q' := by
  cases d <;> first | exact k _ h | exact ⟨h.1, k _ h.2⟩ | (obtain ⟨ds, e, h⟩ := h; exact ⟨ds, e, k _ h⟩)
theorem isEmpty_len {α β : Type} {xs : List α} {ys : List β} (h : xs.length = ys.length) : xs.isEmpty = ys.isEmpty := by
  cases xs <;> cases ys <;> first | rfl | (simp at h)
theorem tru_of {K : PySem.W.Frag} {A : AH} {H : Hp} (hr : HRep K A H) {d : D} {v : V} (r : Rep K A H d v) {Q : Bool → Prop} (h : aTru d A Q) : ∃ k, TruV K v H k ∧ Q k := by
  cases d with
  | non => cases (show v = V.non from r); exact ⟨false, rfl, h⟩
  | bl b => cases (show v = V.bl b from r); exact ⟨b, rfl, h⟩
  | int i => cases (show v = V.int i from r); exact ⟨_, rfl, h⟩
  | str x =>
    cases (show v = V.str x from r)
    refine ⟨_, ⟨Nat.le_trans h.1 (by decide), rfl⟩, ?_⟩
    have e : ((x.length : Int) != 0) = (x.length != 0) := by
      rw [Bool.eq_iff_iff]
      simp
    rw [e]
    exact h.2
  | tup ds =>
    obtain ⟨a, xs, e, t, q⟩ := r
    subst e
    refine ⟨_, .inr (.inl ⟨xs, t.sq, rfl⟩), ?_⟩
    rw [isEmpty_len q.length]
    exact h
  | lst ds =>
    obtain ⟨a, xs, e, t, q⟩ := r
    subst e
    refine ⟨_, .inl ⟨xs, t.sq, rfl⟩, ?_⟩
    rw [isEmpty_len q.length]
    exact h
  | ref a =>
    cases (show v = V.ref a from r)
    obtain ⟨ds, e, h⟩ := h
    obtain ⟨vs, e1, q⟩ := hr a _ e
    refine ⟨_, .inl ⟨vs, SqL.of e1, rfl⟩, ?_⟩
    rw [isEmpty_len q.length]
    exact h
  | scr ns =>
    obtain ⟨a, e, t⟩ := r
    subst e
    refine ⟨_, .inl ⟨_, t.sq, rfl⟩, ?_⟩
    rw [isEmpty_len (List.length_map ..)]
    exact h
/-- an expression (a name, a call, a subscript ..) by its truth -/
def aTruE (t : AT) : ABt := fun σ A Q => t σ A fun d A' => aTru d A' fun k => Q k A'
theorem mon_truE {t : AT} (m : MonE t) : MonB (aTruE t) := fun σ A Q Q' k h => m _ _ _ _ (fun d A' q => aTru_mono q fun b => k b A') h
theorem ab_truth (ha : AE X a ta) (he : ∀ whole, isTrue a X.env whole = (do let v ← whole; standAt a.pos; holding [v] (truthy v)) := by intro _; rfl) : AB X a (aTruE ta) := by
  refine ⟨mon_truE ha.mono, pt_weak (pt_truth ha.pe he) fun vs H Q h => ?_⟩
  obtain ⟨σ, A, hr, sr, h⟩ := h
  refine ⟨σ, A, hr, sr, ha.mono _ _ _ _ (fun d A1 h1 v1 H1 a1 r1 e1 => ?_) h⟩
  exact tru_of r1 e1 (aTru_mono h1 fun k q => q H1 a1 r1)
def aNot (t : ABt) : ABt := fun σ A Q => t σ A fun k A' => Q (!k) A'
theorem ab_not {t : ABt} (h : AB X a t) : AB X (.UnaryOp .Not a pos) (aNot t) := by
  refine ⟨fun σ A Q Q' k q => h.mono _ _ _ _ (fun b A' => k _ A') q, pt_weak (pt_not h.pt) fun vs H Q q => ?_⟩
  obtain ⟨σ, A, hr, sr, q⟩ := q
  exact ⟨σ, A, hr, sr, q⟩
def aAnd (t u : ABt) : ABt := fun σ A Q => t σ A fun k A1 => br k (u σ A1 Q) (Q false A1)
def aOr (t u : ABt) : ABt := fun σ A Q => t σ A fun k A1 => br k (Q true A1) (u σ A1 Q)
variable {rest : List Expr} {t u : ABt}
theorem aw_and1 (h : AB X a t) : AW X (.BoolOp .And [a] pos) t := ⟨h.mono, pw_and1 h.pt⟩
theorem aw_or1 (h : AB X a t) : AW X (.BoolOp .Or [a] pos) t := ⟨h.mono, pw_or1 h.pt⟩
theorem aw_and (h : AB X a t) (g : AW X (.BoolOp .And (b :: rest) pos) u) : AW X (.BoolOp .And (a :: b :: rest) pos) (aAnd t u) := by
  refine ⟨fun σ A Q Q' k q => h.mono _ _ _ _ (fun c A' q => br_mono q (g.mono _ _ _ _ k) (k _ _)) q, pw_weak (pw_and h.pt g.pw) fun vs H Q q => ?_⟩
  obtain ⟨σ, A, hr, sr, q⟩ := q
  refine ⟨σ, A, hr, sr, h.mono _ _ _ _ (fun c A1 q H1 a1 r1 => br_ite (br_mono q (fun q => ?_) fun q => q H1 a1 r1)) q⟩
  exact ⟨σ, A1, r1, sr.adv a1, g.mono _ _ _ _ (fun c A2 q => postB.adv a1 q) q⟩
theorem aw_or (h : AB X a t) (g : AW X (.BoolOp .Or (b :: rest) pos) u) : AW X (.BoolOp .Or (a :: b :: rest) pos) (aOr t u) := by
  refine ⟨fun σ A Q Q' k q => h.mono _ _ _ _ (fun c A' q => br_mono q (k _ _) (g.mono _ _ _ _ k)) q, pw_weak (pw_or h.pt g.pw) fun vs H Q q => ?_⟩
  obtain ⟨σ, A, hr, sr, q⟩ := q
  refine ⟨σ, A, hr, sr, h.mono _ _ _ _ (fun c A1 q H1 a1 r1 => br_ite (br_mono q (fun q => q H1 a1 r1) fun q => ?_)) q⟩
  exact ⟨σ, A1, r1, sr.adv a1, g.mono _ _ _ _ (fun c A2 q => postB.adv a1 q) q⟩
/-! ### and, or, not as values; a if t else b -/
theorem ae_one {op} (h : AE X a ta) : AE X (.BoolOp op [a] pos) ta := ⟨h.mono, pe_one h.pe⟩
def aAndV (ta tb : AT) : AT := fun σ A Q => ta σ A fun d A1 => aTru d A1 fun k => br k (tb σ A1 Q) (Q d A1)
def aOrV (ta tb : AT) : AT := fun σ A Q => ta σ A fun d A1 => aTru d A1 fun k => br k (Q d A1) (tb σ A1 Q)
theorem ae_and (ha : AE X a ta) (hb : AE X (.BoolOp .And (b :: rest) pos) tb) : AE X (.BoolOp .And (a :: b :: rest) pos) (aAndV ta tb) := by
  refine ⟨fun σ A Q Q' k q => ha.mono _ _ _ _ (fun d A1 q => aTru_mono q fun c q => br_mono q (hb.mono _ _ _ _ k) (k _ _)) q, pe_weak (pe_andT ha.pe hb.pe) fun vs H Q q => ?_⟩
  obtain ⟨σ, A, hr, sr, q⟩ := q
  refine ⟨σ, A, hr, sr, ha.mono _ _ _ _ (fun d A1 q v1 H1 a1 r1 e1 => ?_) q⟩
  refine tru_of r1 e1 (aTru_mono q fun k q => br_ite (br_mono q (fun q => ?_) fun q => q _ _ a1 r1 e1))
  exact ⟨σ, A1, r1, sr.adv a1, hb.mono _ _ _ _ (fun c A2 q => post.adv a1 q) q⟩
theorem ae_or (ha : AE X a ta) (hb : AE X (.BoolOp .Or (b :: rest) pos) tb) : AE X (.BoolOp .Or (a :: b :: rest) pos) (aOrV ta tb) := by
  refine ⟨fun σ A Q Q' k q => ha.mono _ _ _ _ (fun d A1 q => aTru_mono q fun c q => br_mono q (k _ _) (hb.mono _ _ _ _ k)) q, pe_weak (pe_orT ha.pe hb.pe) fun vs H Q q => ?_⟩
  obtain ⟨σ, A, hr, sr, q⟩ := q
  refine ⟨σ, A, hr, sr, ha.mono _ _ _ _ (fun d A1 q v1 H1 a1 r1 e1 => ?_) q⟩
  refine tru_of r1 e1 (aTru_mono q fun k q => br_ite (br_mono q (fun q => q _ _ a1 r1 e1) fun q => ?_))
  exact ⟨σ, A1, r1, sr.adv a1, hb.mono _ _ _ _ (fun c A2 q => post.adv a1 q) q⟩
def aNotV (ta : AT) : AT := fun σ A Q => ta σ A fun d A1 => aTru d A1 fun k => Q (.bl (!k)) A1
theorem ae_not (ha : AE X a ta) : AE X (.UnaryOp .Not a pos) (aNotV ta) := by
  refine ⟨fun σ A Q Q' k q => ha.mono _ _ _ _ (fun d A1 q => aTru_mono q fun c q => k _ _ q) q, pe_weak (pe_notT ha.pe) fun vs H Q q => ?_⟩
  obtain ⟨σ, A, hr, sr, q⟩ := q
  refine ⟨σ, A, hr, sr, ha.mono _ _ _ _ (fun d A1 q v1 H1 a1 r1 e1 => ?_) q⟩
  exact tru_of r1 e1 (aTru_mono q fun k q => q _ _ a1 r1 rfl)
def aIf (t : ABt) (ta tb : AT) : AT := fun σ A Q => t σ A fun k A1 => br k (ta σ A1 Q) (tb σ A1 Q)
theorem ae_if (ht : AB X c t) (ha : AE X a ta) (hb : AE X b tb) : AE X (.IfExp c a b pos) (aIf t ta tb) := by
  refine ⟨fun σ A Q Q' k q => ht.mono _ _ _ _ (fun d A1 q => br_mono q (ha.mono _ _ _ _ k) (hb.mono _ _ _ _ k)) q, pe_weak (pe_ifExp ht.pt ha.pe hb.pe) fun vs H Q q => ?_⟩
  obtain ⟨σ, A, hr, sr, q⟩ := q
  refine ⟨σ, A, hr, sr, ht.mono _ _ _ _ (fun d A1 q H1 a1 r1 => br_ite (br_mono q (fun q => ?_) fun q => ?_)) q⟩
  · exact ⟨σ, A1, r1, sr.adv a1, ha.mono _ _ _ _ (fun c A2 q => post.adv a1 q) q⟩
  · exact ⟨σ, A1, r1, sr.adv a1, hb.mono _ _ _ _ (fun c A2 q => post.adv a1 q) q⟩

/-! ### argument lists, displays -/
def aNil : AAt := fun _ A Q => Q [] A
def aCons (ta : AT) (tr : AAt) : AAt := fun σ A Q => ta σ A fun d A1 => tr σ A1 fun ds A2 => Q (d :: ds) A2
theorem aa_nil : AA X [] aNil := ⟨fun _ _ _ _ k q => k _ _ q, pa_weak pa_nil fun vs H Q ⟨σ, A, hr, sr, q⟩ => q _ _ Adv.refl hr rfl⟩
theorem aa_cons {tr : AAt} (ha : AE X e ta) (hr : AA X es tr) (hs : starEach (e :: es) X.env = (false, eval e X.env) :: starEach es X.env := by rfl) : AA X (e :: es) (aCons ta tr) := by
  refine ⟨fun σ A Q Q' k q => ha.mono _ _ _ _ (fun d A1 q => hr.mono _ _ _ _ (fun _ _ => k _ _) q) q, pa_weak (pa_cons ha.pe hr.pa hs) fun vs H Q q => ?_⟩
  obtain ⟨σ, A, hr', sr, q⟩ := q
  refine ⟨σ, A, hr', sr, ha.mono _ _ _ _ (fun d A1 q v1 H1 a1 r1 e1 => ?_) q⟩
  refine ⟨σ, A1, r1, sr.adv a1, hr.mono _ _ _ _ (fun ds A2 q vs2 H2 a2 r2 e2 => ?_) q⟩
  exact q _ _ (a1.trans a2) r2 ⟨v1, vs2, rfl, e1.adv a2, e2⟩
variable {tr : AAt}
def aTup (t : AAt) : AT := fun σ A Q => t σ A fun ds A1 => ds.length ≤ 100000 ∧ Q (.tup ds) A1
def aLst (t : AAt) : AT := fun σ A Q => t σ A fun ds A1 => ds.length ≤ 100000 ∧ Q (.lst ds) A1
/-- a list that will change -/
def aLstM (t : AAt) : AT := fun σ A Q => t σ A fun ds A1 => ds.length ≤ 100000 ∧ ∀ p, A1 p = none → Q (.ref p) (aupd A1 p (.lst ds))
theorem big_ok {n : Nat} (h : n ≤ 100000) : n ≤ sizeLine := Nat.le_trans h (by decide)
theorem lt_ok {n : Nat} (h : n ≤ 1000000) : n < sizeLine := Nat.lt_of_le_of_lt h (by decide)
theorem le_ok {n : Nat} (h : n ≤ 1000000) : n ≤ sizeLine := Nat.le_trans h (by decide)
theorem rep_tup {K : PySem.W.Frag} {A : AH} {H : Hp} {p : Addr} {ds : List D} {vs : List V} (hr : HRep K A H) (e : H p = none) (r : Reps K A H ds vs) :
    Rep K A (upd H p (.tup vs)) (.tup ds) (.ref p) := ⟨p, vs, rfl, .inl ⟨hr.none e, .inl upd_same⟩, r.adv (adv_new hr e).1⟩
theorem rep_lst {K : PySem.W.Frag} {A : AH} {H : Hp} {p : Addr} {ds : List D} {vs : List V} (hr : HRep K A H) (e : H p = none) (r : Reps K A H ds vs) :
    Rep K A (upd H p (.lst vs)) (.lst ds) (.ref p) := ⟨p, vs, rfl, ⟨hr.none e, upd_same⟩, r.adv (adv_new hr e).1⟩
theorem ae_tup {x1} (h : AA X es tr) : AE X (.Tuple es x1 pos) (aTup tr) := by
  refine ⟨fun σ A Q Q' k q => h.mono _ _ _ _ (fun d A1 q => ⟨q.1, k _ _ q.2⟩) q, pe_weak (pe_tup h.pa) fun vs H Q q => ?_⟩
  obtain ⟨σ, A, hr, sr, q⟩ := q
  refine ⟨σ, A, hr, sr, h.mono _ _ _ _ (fun ds A1 q vs1 H1 a1 r1 e1 => ⟨big_ok (by rw [e1.length]; exact q.1), fun p hp => ?_⟩) q⟩
  exact q.2 _ _ (a1.trans (adv_new r1 hp).1) (adv_new r1 hp).2 (rep_tup r1 hp e1)
theorem ae_lst (h : AA X es tr) : AE X (.List es pos) (aLst tr) := by
  refine ⟨fun σ A Q Q' k q => h.mono _ _ _ _ (fun d A1 q => ⟨q.1, k _ _ q.2⟩) q, pe_weak (pe_lst h.pa) fun vs H Q q => ?_⟩
  obtain ⟨σ, A, hr, sr, q⟩ := q
  refine ⟨σ, A, hr, sr, h.mono _ _ _ _ (fun ds A1 q vs1 H1 a1 r1 e1 => ⟨big_ok (by rw [e1.length]; exact q.1), fun p hp => ?_⟩) q⟩
  exact q.2 _ _ (a1.trans (adv_new r1 hp).1) (adv_new r1 hp).2 (rep_lst r1 hp e1)
theorem ae_lstM (h : AA X es tr) : AE X (.List es pos) (aLstM tr) := by
  refine ⟨fun σ A Q Q' k q => h.mono _ _ _ _ (fun d A1 q => ⟨q.1, fun p hp => k _ _ (q.2 p hp)⟩) q, pe_weak (pe_lst h.pa) fun vs H Q q => ?_⟩
  obtain ⟨σ, A, hr, sr, q⟩ := q
  refine ⟨σ, A, hr, sr, h.mono _ _ _ _ (fun ds A1 q vs1 H1 a1 r1 e1 => ⟨big_ok (by rw [e1.length]; exact q.1), fun p hp => ?_⟩) q⟩
  exact q.2 p (r1.none hp) _ _ (a1.trans (adv_newT r1 hp e1).1) (adv_newT r1 hp e1).2 rfl
end
end Rk

namespace Rk
open PySem PySem.Spec L2
section
variable {X : Cx} {pos : Pos} {a b c e : Expr} {es : List Expr} {ta tb tc : AT}
/-- numbers that one works with -/
abbrev LIM : Int := 10000000000000000000000000000000000000000000000000000000000000000000000
@[irreducible] def BIG : Nat := 2 ^ 8000
theorem BIG_eq : BIG = 2 ^ 8000 := by unfold BIG; rfl
theorem big_le {i : Int} (n : Nat) (h : i.natAbs ≤ n) (hn : n.blt (2 ^ 8000) = true) : i.natAbs < BIG := by
  rw [BIG_eq]
  exact Nat.lt_of_le_of_lt h (Nat.le_of_ble_eq_true hn)
def Fac (i j : Int) : Prop := (-18446744073709551616 < i ∧ i < 18446744073709551616) ∨ (-18446744073709551616 < j ∧ j < 18446744073709551616) ∨
  ((-10000000000000000000000000000000000000000000000000000000000000000000000 < i ∧ i < 10000000000000000000000000000000000000000000000000000000000000000000000) ∧ -10000000000000000000000000000000000000000000000000000000000000000000000 < j ∧ j < 10000000000000000000000000000000000000000000000000000000000000000000000) ∨ (i.natAbs < BIG ∧ j.natAbs < BIG)
def Dvs (j : Int) : Prop := 0 < j ∧ j < 10000000000000000000000000000000000000000000000000000000000000000000000
theorem lim_nat {i : Int} (h1 : -10000000000000000000000000000000000000000000000000000000000000000000000 < i) (h2 : i < 10000000000000000000000000000000000000000000000000000000000000000000000) : i.natAbs < 2 ^ 240 := by
  have : (2 : Nat) ^ 240 = 1766847064778384329583297500742918515827483896875618958121606201292619776 := by decide
  omega
theorem Fac.ok {i j : Int} (h : Fac i j) : IntMulOk i j := by
  rcases h with ⟨h1, h2⟩ | ⟨h1, h2⟩ | ⟨⟨h1, h2⟩, h3, h4⟩ | ⟨h1, h2⟩
  · exact .of_left (intBits_le_64 (by omega) (by omega))
  · exact .of_right (intBits_le_64 (by omega) (by omega))
  · exact (wide_mul (lim_nat h1 h2) (lim_nat h3 h4) (by decide) (by decide) (by decide)).ok
  · rw [BIG_eq] at h1 h2
    exact (wide_mul h1 h2 (by decide) (by decide) (by decide)).ok
theorem Dvs.ok {i j : Int} (h : Dvs j) : CDivW i j := wide_div h.1 (lim_nat (by have := h.1; omega) h.2) (by decide) (by decide)

/-! ### + - * // % ** -/
def aAdd : D → D → AH → DK → Prop
  | .int i, .int j, A, Q => Q (.int (i + j)) A
  | .tup xs, .tup ys, A, Q => xs.length + ys.length ≤ 1000000 ∧ Q (.tup (xs ++ ys)) A
  | .lst xs, .lst ys, A, Q => xs.length + ys.length ≤ 1000000 ∧ Q (.lst (xs ++ ys)) A
  | .str x, .str y, A, Q => x.length + y.length ≤ 1000000 ∧ Q (.str (x ++ y)) A
  | _, _, _, _ => False
theorem op_intsF {X : Cx} {g : Value → Value → Sem Value} {C : Int → Int → Prop} {f : Int → Int → V} (h : OpR X g (rI C f)) {A : AH} {H : Hp} {i j : Int} {Q : VK} {pins : List (Addr × Obj)} {s : Shared} {σ : L2.St} {v u : Value} (I : Inv X pins σ H s) (rx : RelV (.int i) v) (ry : RelV (.int j) u)
    (hc : C i j) (q : Q (f i j) H) : wpAny (model X.prog X.w) X.A (g v u) (EP X pins σ Q) X.xe s := h pins s σ H _ _ v u Q I rx ry ⟨i, j, rfl, rfl, hc, q⟩
theorem op_ints0 {X : Cx} {g : Value → Value → Sem Value} {f : Int → Int → V} (h : OpR X g (rI0 f)) {A : AH} {H : Hp} {i j : Int} {Q : VK} {pins : List (Addr × Obj)} {s : Shared} {σ : L2.St} {v u : Value} (I : Inv X pins σ H s) (rx : RelV (.int i) v) (ry : RelV (.int j) u)
    (q : Q (f i j) H) : wpAny (model X.prog X.w) X.A (g v u) (EP X pins σ Q) X.xe s := h pins s σ H _ _ v u Q I rx ry ⟨i, j, rfl, rfl, q⟩
theorem cat_nil {α : Type} {xs ys : List α} (h : ys = []) : xs ++ ys = xs := by rw [h, List.append_nil]
theorem op_add : AOp X (binaryOp .Add) aAdd := by
  refine ⟨fun d e A Q Q' k h => ?_, ?_⟩
  · cases d <;> cases e <;> first | exact h.elim | exact k _ _ h | exact ⟨h.1, k _ _ h.2⟩
  · intro pins s σ H x y v u Q I rx ry ⟨d, e, A, hr, rd, re, h⟩
    cases d <;> cases e <;> first | exact (show False from h).elim | skip
    · cases (show x = V.int _ from rd)
      cases (show y = V.int _ from re)
      exact op_ints0 (A := A) L2.op_add I rx ry (post.fin h hr rfl)
    · cases (show x = V.str _ from rd)
      cases (show y = V.str _ from re)
      exact L2.op_add_str pins s σ H _ _ v u Q I rx ry ⟨_, _, rfl, rfl, le_ok h.1, post.fin h.2 hr rfl⟩
    · rename_i xs ys
      obtain ⟨p, vs, rfl, t1, q1⟩ := rd
      obtain ⟨q, us, rfl, t2, q2⟩ := re
      refine L2.op_catA pins s σ H _ _ v u Q I rx ry ⟨p, q, vs, us, rfl, rfl, t1.sq, t2.sq, le_ok (by rw [q1.length, q2.length]; exact h.1), fun e0 => ?_, fun _ e0 => ?_, fun _ _ p hp => ?_⟩
      · have e1 : xs = [] := by
          have := q1.length
          rw [e0] at this
          exact List.eq_nil_of_length_eq_zero this.symm
        have h2 := h.2
        rw [e1, List.nil_append] at h2
        exact h2.fin hr ⟨q, us, rfl, t2, q2⟩
      · have e1 : ys = [] := by
          have := q2.length
          rw [e0] at this
          exact List.eq_nil_of_length_eq_zero this.symm
        have h2 := h.2
        rw [e1, List.append_nil] at h2
        exact h2.fin hr ⟨p, vs, rfl, t1, q1⟩
      · exact h.2 _ _ (adv_new hr hp).1 (adv_new hr hp).2 (rep_tup hr hp (q1.append q2))
    · rename_i xs ys
      obtain ⟨p, vs, rfl, t1, q1⟩ := rd
      obtain ⟨q, us, rfl, t2, q2⟩ := re
      refine L2.op_cat pins s σ H _ _ v u Q I rx ry ⟨p, q, vs, us, rfl, rfl, t1.2, t2.2, le_ok (by rw [q1.length, q2.length]; exact h.1), fun p hp => ?_⟩
      exact h.2 _ _ (adv_new hr hp).1 (adv_new hr hp).2 (rep_lst hr hp (q1.append q2))
def aSub : D → D → AH → DK → Prop
  | .int i, .int j, A, Q => Q (.int (i - j)) A
  | _, _, _, _ => False
def aMul : D → D → AH → DK → Prop
  | .int i, .int j, A, Q => Fac i j ∧ Q (.int (i * j)) A
  | .lst xs, .int k, A, Q => (xs.length * k.toNat ≤ 1000000 ∧ -1000000000 < k ∧ k < 1000000000) ∧ Q (.lst (List.replicate k.toNat xs).flatten) A
  | .tup xs, .int k, A, Q => (xs ≠ [] ∧ xs.length ≤ 1000 ∧ 2 ≤ k ∧ k ≤ 1000) ∧ Q (.tup (List.replicate k.toNat xs).flatten) A
  | _, _, _, _ => False
def aFDiv : D → D → AH → DK → Prop
  | .int i, .int j, A, Q => Dvs j ∧ Q (.int (i / j)) A
  | _, _, _, _ => False
def aMod : D → D → AH → DK → Prop
  | .int i, .int j, A, Q => 0 < j ∧ Q (.int (i % j)) A
  | _, _, _, _ => False
/-- by a divisor of either sign -/
def aFDivN : D → D → AH → DK → Prop
  | .int i, .int j, A, Q => (j ≠ 0 ∧ -1073741824 < j ∧ j < 1073741824) ∧ Q (.int (i.fdiv j)) A
  | _, _, _, _ => False
def aModN : D → D → AH → DK → Prop
  | .int i, .int j, A, Q => j ≠ 0 ∧ Q (.int (i.fmod j)) A
  | _, _, _, _ => False
def aPow : D → D → AH → DK → Prop
  | .int i, .int j, A, Q => (0 ≤ j ∧ j ≤ 1000000 ∧ -18446744073709551616 < i ∧ i < 18446744073709551616) ∧ Q (.int (i ^ j.toNat)) A
  | _, _, _, _ => False
theorem op_sub : AOp X (binaryOp .Sub) aSub := by
  refine ⟨fun d e A Q Q' k h => ?_, ?_⟩
  · cases d <;> cases e <;> first | exact h.elim | exact k _ _ h
  · intro pins s σ H x y v u Q I rx ry ⟨d, e, A, hr, rd, re, h⟩
    cases d <;> cases e <;> first | exact (show False from h).elim | skip
    cases (show x = V.int _ from rd)
    cases (show y = V.int _ from re)
    exact op_ints0 (A := A) L2.op_sub I rx ry (post.fin h hr rfl)
theorem reps_rep {K : PySem.W.Frag} {A : AH} {H : Hp} {ds : List D} {vs : List V} (r : Reps K A H ds vs) : ∀ n : Nat, Reps K A H (List.replicate n ds).flatten (List.replicate n vs).flatten
  | 0 => rfl
  | n + 1 => by
    rw [List.replicate_succ, List.replicate_succ, List.flatten_cons, List.flatten_cons]
    exact r.append (reps_rep r n)
theorem op_mul : AOp X (binaryOp .Mult) aMul := by
  refine ⟨fun d e A Q Q' k h => ?_, ?_⟩
  · cases d <;> cases e <;> first | exact h.elim | exact ⟨h.1, k _ _ h.2⟩
  · intro pins s σ H x y v u Q I rx ry ⟨d, e, A, hr, rd, re, h⟩
    cases d <;> cases e <;> first | exact (show False from h).elim | skip
    · cases (show x = V.int _ from rd)
      cases (show y = V.int _ from re)
      obtain ⟨t, rfl⟩ := rx
      obtain ⟨t', rfl⟩ := ry
      exact PyProof.Rows.mul_int ⟨.int _, H, I.tok _, ⟨_, rfl⟩, post.fin h.2 hr rfl⟩ h.1.ok
    · rename_i xs k
      obtain ⟨p, vs, rfl, t1, q1⟩ := rd
      cases (show y = V.int _ from re)
      obtain ⟨⟨h1, h2, h3, h4⟩, h⟩ := h
      refine L2.op_repT pins s σ H _ _ v u Q I rx ry ⟨p, k, vs, rfl, rfl, t1.sq, fun z => h1 ?_, h3, h4, by rw [q1.length]; exact h2, fun p hp => ?_⟩
      · have := q1.length
        rw [z] at this
        exact List.eq_nil_of_length_eq_zero this.symm
      · exact h _ _ (adv_new hr hp).1 (adv_new hr hp).2 (rep_tup hr hp (reps_rep q1 _))
    · rename_i xs k
      obtain ⟨p, vs, rfl, t1, q1⟩ := rd
      cases (show y = V.int _ from re)
      obtain ⟨⟨h1, h2, h3⟩, h⟩ := h
      refine L2.op_rep pins s σ H _ _ v u Q I rx ry ⟨p, k, vs, rfl, rfl, t1.2, by omega, by omega, by rw [q1.length]; exact le_ok h1, fun p hp => ?_⟩
      exact h _ _ (adv_new hr hp).1 (adv_new hr hp).2 (rep_lst hr hp (reps_rep q1 _))
/-- a list that will change -/
def aMulM : D → D → AH → DK → Prop
  | .lst xs, .int k, A, Q => (xs.length * k.toNat ≤ 1000000 ∧ -1000000000 < k ∧ k < 1000000000) ∧ ∀ p, A p = none → Q (.ref p) (aupd A p (.lst (List.replicate k.toNat xs).flatten))
  | _, _, _, _ => False
theorem op_mulM : AOp X (binaryOp .Mult) aMulM := by
  refine ⟨fun d e A Q Q' k h => ?_, ?_⟩
  · cases d <;> cases e <;> first | exact h.elim | exact ⟨h.1, fun p hp => k _ _ (h.2 p hp)⟩
  · intro pins s σ H x y v u Q I rx ry ⟨d, e, A, hr, rd, re, h⟩
    cases d <;> cases e <;> first | exact (show False from h).elim | skip
    rename_i xs k
    obtain ⟨p, vs, rfl, t1, q1⟩ := rd
    cases (show y = V.int _ from re)
    obtain ⟨⟨h1, h2, h3⟩, h⟩ := h
    refine L2.op_rep pins s σ H _ _ v u Q I rx ry ⟨p, k, vs, rfl, rfl, t1.2, by omega, by omega, by rw [q1.length]; exact le_ok h1, fun p hp => ?_⟩
    have q2 := reps_rep q1 k.toNat
    exact h p (hr.none hp) _ _ (adv_newT hr hp q2).1 (adv_newT hr hp q2).2 rfl
theorem op_fdiv : AOp X (binaryOp .FloorDiv) aFDiv := by
  refine ⟨fun d e A Q Q' k h => ?_, ?_⟩
  · cases d <;> cases e <;> first | exact h.elim | exact ⟨h.1, k _ _ h.2⟩
  · intro pins s σ H x y v u Q I rx ry ⟨d, e, A, hr, rd, re, h⟩
    cases d <;> cases e <;> first | exact (show False from h).elim | skip
    cases (show x = V.int _ from rd)
    cases (show y = V.int _ from re)
    exact op_intsF (A := A) L2.op_fdivW I rx ry h.1.ok (post.fin h.2 hr rfl)
theorem op_fdivN : AOp X (binaryOp .FloorDiv) aFDivN := by
  refine ⟨fun d e A Q Q' k h => ?_, ?_⟩
  · cases d <;> cases e <;> first | exact h.elim | exact ⟨h.1, k _ _ h.2⟩
  · intro pins s σ H x y v u Q I rx ry ⟨d, e, A, hr, rd, re, h⟩
    cases d <;> cases e <;> first | exact (show False from h).elim | skip
    cases (show x = V.int _ from rd)
    cases (show y = V.int _ from re)
    exact op_intsF (A := A) L2.op_fdivN I rx ry ⟨h.1.1, by have := h.1; omega⟩ (post.fin h.2 hr rfl)
theorem op_mod : AOp X (binaryOp .Mod) aMod := by
  refine ⟨fun d e A Q Q' k h => ?_, ?_⟩
  · cases d <;> cases e <;> first | exact h.elim | exact ⟨h.1, k _ _ h.2⟩
  · intro pins s σ H x y v u Q I rx ry ⟨d, e, A, hr, rd, re, h⟩
    cases d <;> cases e <;> first | exact (show False from h).elim | skip
    cases (show x = V.int _ from rd)
    cases (show y = V.int _ from re)
    exact op_intsF (A := A) L2.op_mod I rx ry h.1 (post.fin h.2 hr rfl)
theorem op_modN : AOp X (binaryOp .Mod) aModN := by
  refine ⟨fun d e A Q Q' k h => ?_, ?_⟩
  · cases d <;> cases e <;> first | exact h.elim | exact ⟨h.1, k _ _ h.2⟩
  · intro pins s σ H x y v u Q I rx ry ⟨d, e, A, hr, rd, re, h⟩
    cases d <;> cases e <;> first | exact (show False from h).elim | skip
    cases (show x = V.int _ from rd)
    cases (show y = V.int _ from re)
    exact op_intsF (A := A) L2.op_modN I rx ry h.1 (post.fin h.2 hr rfl)
theorem op_pow : AOp X (binaryOp .Pow) aPow := by
  refine ⟨fun d e A Q Q' k h => ?_, ?_⟩
  · cases d <;> cases e <;> first | exact h.elim | exact ⟨h.1, k _ _ h.2⟩
  · intro pins s σ H x y v u Q I rx ry ⟨d, e, A, hr, rd, re, h⟩
    cases d <;> cases e <;> first | exact (show False from h).elim | skip
    cases (show x = V.int _ from rd)
    cases (show y = V.int _ from re)
    obtain ⟨⟨h1, h2, h3, h4⟩, h⟩ := h
    exact op_intsF (A := A) L2.op_pow I rx ry ⟨h1, h2, by omega⟩ (post.fin h hr rfl)
/-! ### comparisons -/
/-- the order of rows of ints -/
def lexD : List D → List D → Option Bool
  | [], [] => some false
  | [], _ :: _ => some true
  | _ :: _, [] => some false
  | .int i :: xs, .int j :: ys => if i < j then some true else if j < i then some false else lexD xs ys
  | _, _ => none
def aLt : D → D → AH → DK → Prop
  | .int i, .int j, A, Q => Q (.bl (decide (i < j))) A
  | _, _, _, _ => False
def aLe : D → D → AH → DK → Prop
  | .int i, .int j, A, Q => Q (.bl (decide (i ≤ j))) A
  | _, _, _, _ => False
def aGt : D → D → AH → DK → Prop
  | .int i, .int j, A, Q => Q (.bl (decide (j < i))) A
  | _, _, _, _ => False
def aGe : D → D → AH → DK → Prop
  | .int i, .int j, A, Q => Q (.bl (decide (j ≤ i))) A
  | _, _, _, _ => False
theorem op_lt : AOp X (compareOp .Lt) aLt := by
  refine ⟨fun d e A Q Q' k h => ?_, ?_⟩
  · cases d <;> cases e <;> first | exact h.elim | exact k _ _ h
  · intro pins s σ H x y v u Q I rx ry ⟨d, e, A, hr, rd, re, h⟩
    cases d <;> cases e <;> first | exact (show False from h).elim | skip
    cases (show x = V.int _ from rd)
    cases (show y = V.int _ from re)
    exact op_ints0 (A := A) L2.op_lt I rx ry (post.fin h hr rfl)
theorem op_le : AOp X (compareOp .LtE) aLe := by
  refine ⟨fun d e A Q Q' k h => ?_, ?_⟩
  · cases d <;> cases e <;> first | exact h.elim | exact k _ _ h
  · intro pins s σ H x y v u Q I rx ry ⟨d, e, A, hr, rd, re, h⟩
    cases d <;> cases e <;> first | exact (show False from h).elim | skip
    cases (show x = V.int _ from rd)
    cases (show y = V.int _ from re)
    exact op_ints0 (A := A) L2.op_le I rx ry (post.fin h hr rfl)
theorem op_gt : AOp X (compareOp .Gt) aGt := by
  refine ⟨fun d e A Q Q' k h => ?_, ?_⟩
  · cases d <;> cases e <;> first | exact h.elim | exact k _ _ h
  · intro pins s σ H x y v u Q I rx ry ⟨d, e, A, hr, rd, re, h⟩
    cases d <;> cases e <;> first | exact (show False from h).elim | skip
    cases (show x = V.int _ from rd)
    cases (show y = V.int _ from re)
    exact op_ints0 (A := A) L2.op_gt I rx ry (post.fin h hr rfl)
theorem op_ge : AOp X (compareOp .GtE) aGe := by
  refine ⟨fun d e A Q Q' k h => ?_, ?_⟩
  · cases d <;> cases e <;> first | exact h.elim | exact k _ _ h
  · intro pins s σ H x y v u Q I rx ry ⟨d, e, A, hr, rd, re, h⟩
    cases d <;> cases e <;> first | exact (show False from h).elim | skip
    cases (show x = V.int _ from rd)
    cases (show y = V.int _ from re)
    exact op_ints0 (A := A) L2.op_ge I rx ry (post.fin h hr rfl)

/-! ### == -/
mutual
def eqD : D → D → Bool
  | .non, .non => true
  | .bl a, .bl b => a == b
  | .bl a, .int j => (if a then 1 else 0) == j
  | .int i, .bl b => i == (if b then 1 else 0)
  | .int i, .int j => decide (i = j)
  | .str x, .str y => x == y
  | .lst xs, .lst ys => eqDs xs ys
  | .tup xs, .tup ys => eqDs xs ys
  | _, _ => false
def eqDs : List D → List D → Bool
  | [], [] => true
  | x :: xs, y :: ys => eqD x y && eqDs xs ys
  | [], _ :: _ => false
  | _ :: _, [] => false
end
mutual
/-- no list that may change, at most so deep -/
def okD : Nat → D → Bool
  | _, .non => true
  | _, .bl _ => true
  | _, .int _ => true
  | _, .str x => PyData.strOk x
  | n + 1, .tup ds => okDs n ds
  | n + 1, .lst ds => okDs n ds
  | _, _ => false
def okDs : Nat → List D → Bool
  | _, [] => true
  | n, d :: ds => okD n d && okDs n ds
end
mutual
def toPy : D → PyData
  | .non => .none
  | .bl b => .bool b
  | .int i => .int i
  | .str x => .str x
  | .tup ds => .tuple (toPys ds)
  | .lst ds => .list (toPys ds)
  | _ => .none
def toPys : List D → List PyData
  | [] => []
  | d :: ds => toPy d :: toPys ds
end
theorem okD_tup {n : Nat} {ds : List D} (h : okD n (.tup ds) = true) : ∃ m, n = m + 1 ∧ okDs m ds = true := by
  cases n with
  | zero => simp [okD] at h
  | succ m => exact ⟨m, rfl, by simpa [okD] using h⟩
theorem okD_lst {n : Nat} {ds : List D} (h : okD n (.lst ds) = true) : ∃ m, n = m + 1 ∧ okDs m ds = true := by
  cases n with
  | zero => simp [okD] at h
  | succ m => exact ⟨m, rfl, by simpa [okD] using h⟩
theorem okD_ref {n : Nat} {a : Addr} (h : okD n (.ref a) = true) : False := by
  cases n <;> simp [okD] at h
theorem okD_scr {n : Nat} {a : List Int} (h : okD n (.scr a) = true) : False := by
  cases n <;> simp [okD] at h
theorem okDs_cons {n : Nat} {d : D} {ds : List D} (h : okDs n (d :: ds) = true) : okD n d = true ∧ okDs n ds = true := by simpa [okDs] using h
mutual
theorem dp_of {K : PySem.W.Frag} {A : AH} {H : Hp} : ∀ (d : D) (n : Nat) (v : V), Rep K A H d v → okD n d = true → Dp K H v (toPy d)
  | .non, _, _, r, _ => by rw [show _ = V.non from r]; exact .non
  | .bl b, _, _, r, _ => by rw [show _ = V.bl b from r]; exact .bl _
  | .int b, _, _, r, _ => by rw [show _ = V.int b from r]; exact .int _
  | .str b, _, _, r, _ => by rw [show _ = V.str b from r]; exact .str _
  | .tup ds, n, v, r, h => by
    obtain ⟨a, xs, e, t, q⟩ := r
    obtain ⟨m, _, h⟩ := okD_tup h
    rw [e]
    exact .tup t.sq (dps_of ds m xs q h)
  | .lst ds, n, v, r, h => by
    obtain ⟨a, xs, e, t, q⟩ := r
    obtain ⟨m, _, h⟩ := okD_lst h
    rw [e]
    exact .lst t.sq (dps_of ds m xs q h)
  | .ref _, _, _, _, h => (okD_ref h).elim
  | .scr _, _, _, _, h => (okD_scr h).elim
theorem dps_of {K : PySem.W.Frag} {A : AH} {H : Hp} : ∀ (ds : List D) (n : Nat) (vs : List V), Reps K A H ds vs → okDs n ds = true → DpAll K H vs (toPys ds)
  | [], _, _, r, _ => by rw [show _ = [] from r]; exact .nil
  | d :: ds, n, _, r, h => by
    obtain ⟨v, q, e, x, y⟩ := r
    have h' := okDs_cons h
    rw [e]
    exact .cons (dp_of d n v x h'.1) (dps_of ds n q y h'.2)
end
mutual
theorem lay_of : ∀ (d : D) (n : Nat), okD n d = true → (toPy d).canLay0 = true ∧ (toPy d).depth ≤ n
  | .non, _, _ => by simp [toPy, PyData.canLay0, PyData.depth]
  | .bl _, _, _ => by simp [toPy, PyData.canLay0, PyData.depth]
  | .int _, _, _ => by simp [toPy, PyData.canLay0, PyData.depth]
  | .str x, n, h => by
    have h' : PyData.strOk x = true := by cases n <;> simpa [okD] using h
    exact ⟨by simpa [toPy, PyData.canLay0] using h', by simp [toPy, PyData.depth]⟩
  | .tup ds, n, h => by
    obtain ⟨m, e, h⟩ := okD_tup h
    have := lays_of ds m h
    simp only [toPy, PyData.canLay0, PyData.depth]
    exact ⟨this.1, by omega⟩
  | .lst ds, n, h => by
    obtain ⟨m, e, h⟩ := okD_lst h
    have := lays_of ds m h
    simp only [toPy, PyData.canLay0, PyData.depth]
    exact ⟨this.1, by omega⟩
  | .ref _, _, h => (okD_ref h).elim
  | .scr _, _, h => (okD_scr h).elim
theorem lays_of : ∀ (ds : List D) (n : Nat), okDs n ds = true → PyData.canLayAll0 (toPys ds) = true ∧ PyData.depthAll (toPys ds) ≤ n
  | [], _, _ => by simp [toPys, PyData.canLayAll0, PyData.depthAll]
  | d :: ds, n, h => by
    have h' := okDs_cons h
    have h1 := lay_of d n h'.1
    have h2 := lays_of ds n h'.2
    simp only [toPys, PyData.canLayAll0, PyData.depthAll, Bool.and_eq_true]
    exact ⟨⟨h1.1, h2.1⟩, by omega⟩
end
theorem shaped_of {n : Nat} {d : D} (h : okD n d = true) (hn : n ≤ 64) : PySem.SeqAt.shaped (toPy d) = true := by
  have := lay_of d n h
  unfold PySem.SeqAt.shaped
  rw [this.1, Bool.true_and]
  exact decide_eq_true (by omega)
mutual
theorem eqv_of : ∀ (d e : D) (n : Nat), okD n d = true → okD n e = true → PyData.eqv (toPy d) (toPy e) = eqD d e
  | .non, e, n, _, h => by cases e <;> first | exact (okD_ref h).elim | exact (okD_scr h).elim | simp [toPy, PyData.eqv, eqD]
  | .bl _, e, n, _, h => by cases e <;> first | exact (okD_ref h).elim | exact (okD_scr h).elim | simp [toPy, PyData.eqv, eqD]
  | .int i, e, n, _, h => by
    cases e <;> first
      | exact (okD_ref h).elim
      | exact (okD_scr h).elim
      | (simp [toPy, PyData.eqv, eqD]; done)
      | (simp only [toPy, PyData.eqv, eqD]; rw [Bool.eq_iff_iff]; simp)
  | .str _, e, n, _, h => by cases e <;> first | exact (okD_ref h).elim | exact (okD_scr h).elim | simp [toPy, PyData.eqv, eqD]
  | .tup xs, e, n, h1, h => by
    cases e <;> first
      | exact (okD_ref h).elim
      | exact (okD_scr h).elim
      | (simp [toPy, PyData.eqv, eqD]; done)
      | (rename_i ys
         obtain ⟨m, e1, h1⟩ := okD_tup h1
         obtain ⟨m2, e2, h2⟩ := okD_tup h
         have e3 : m2 = m := by omega
         subst e3
         simp only [toPy, PyData.eqv, eqD]
         exact eqvs_of xs ys m2 h1 h2)
  | .lst xs, e, n, h1, h => by
    cases e <;> first
      | exact (okD_ref h).elim
      | exact (okD_scr h).elim
      | (simp [toPy, PyData.eqv, eqD]; done)
      | (rename_i ys
         obtain ⟨m, e1, h1⟩ := okD_lst h1
         obtain ⟨m2, e2, h2⟩ := okD_lst h
         have e3 : m2 = m := by omega
         subst e3
         simp only [toPy, PyData.eqv, eqD]
         exact eqvs_of xs ys m2 h1 h2)
  | .ref _, _, _, h, _ => (okD_ref h).elim
  | .scr _, _, _, h, _ => (okD_scr h).elim
theorem eqvs_of : ∀ (d e : List D) (n : Nat), okDs n d = true → okDs n e = true → PyData.eqvAll (toPys d) (toPys e) = eqDs d e
  | [], [], n, _, _ => by simp [toPys, PyData.eqvAll, eqDs]
  | [], _ :: _, n, _, _ => by simp [toPys, PyData.eqvAll, eqDs]
  | _ :: _, [], n, _, _ => by simp [toPys, PyData.eqvAll, eqDs]
  | x :: xs, y :: ys, n, h1, h2 => by
    have a := okDs_cons h1
    have b := okDs_cons h2
    simp only [toPys, PyData.eqvAll, eqDs]
    rw [eqv_of x y n a.1 b.1, eqvs_of xs ys n a.2 b.2]
end
def aEq : D → D → AH → DK → Prop
  | .int i, .int j, A, Q => Q (.bl (decide (i = j))) A
  | .bl i, .bl j, A, Q => Q (.bl (decide (i = j))) A
  | .ref p, e, A, Q => ∃ ds, A p = some (.lst ds) ∧ (okD 20 (.lst ds) = true ∧ okD 20 e = true) ∧ Q (.bl (eqD (.lst ds) e)) A
  | d, e, A, Q => (okD 20 d = true ∧ okD 20 e = true) ∧ Q (.bl (eqD d e)) A
def aNe : D → D → AH → DK → Prop
  | .int i, .int j, A, Q => Q (.bl (!decide (i = j))) A
  | .bl i, .bl j, A, Q => Q (.bl (!decide (i = j))) A
  | .ref p, e, A, Q => ∃ ds, A p = some (.lst ds) ∧ (okD 20 (.lst ds) = true ∧ okD 20 e = true) ∧ Q (.bl (!eqD (.lst ds) e)) A
  | d, e, A, Q => (okD 20 d = true ∧ okD 20 e = true) ∧ Q (.bl (!eqD d e)) A
theorem aEq_gen {d e : D} {A : AH} {Q : DK} (nr : ∀ p, d ≠ .ref p) (h : aEq d e A Q) : ∃ n, n ≤ 64 ∧ okD n d = true ∧ okD n e = true ∧ Q (.bl (eqD d e)) A := by
  cases d <;> cases e <;> first
    | exact absurd rfl (nr _)
    | exact ⟨20, by decide, h.1.1, h.1.2, h.2⟩
    | (refine ⟨20, by decide, rfl, rfl, ?_⟩; exact h)
    | (refine ⟨20, by decide, rfl, rfl, ?_⟩; rename_i i j; have e1 : eqD (.bl i) (.bl j) = decide (i = j) := (by cases i <;> cases j <;> rfl); rw [e1]; exact h)
theorem aNe_gen {d e : D} {A : AH} {Q : DK} (nr : ∀ p, d ≠ .ref p) (h : aNe d e A Q) : ∃ n, n ≤ 64 ∧ okD n d = true ∧ okD n e = true ∧ Q (.bl (!eqD d e)) A := by
  cases d <;> cases e <;> first
    | exact absurd rfl (nr _)
    | exact ⟨20, by decide, h.1.1, h.1.2, h.2⟩
    | (refine ⟨20, by decide, rfl, rfl, ?_⟩; exact h)
    | (refine ⟨20, by decide, rfl, rfl, ?_⟩; rename_i i j; have e1 : eqD (.bl i) (.bl j) = decide (i = j) := (by cases i <;> cases j <;> rfl); rw [e1]; exact h)
theorem op_eq (hu : X.A.units + 64 < cLine) : AOp X (compareOp .Eq) aEq := by
  refine ⟨fun d e A Q Q' k h => ?_, ?_⟩
  · cases d <;> cases e <;> first | exact k _ _ h | exact ⟨h.1, k _ _ h.2⟩ | exact ⟨h.choose, h.choose_spec.1, h.choose_spec.2.1, k _ _ h.choose_spec.2.2⟩
  · intro pins s σ H x y v u Q I rx ry ⟨d, e, A, hr, rd, re, h⟩
    by_cases nr : ∃ p, d = .ref p
    · obtain ⟨p, rfl⟩ := nr
      cases (show x = V.ref p from rd)
      have h : ∃ ds, A p = some (.lst ds) ∧ (okD 20 (.lst ds) = true ∧ okD 20 e = true) ∧ post X.K A H Q (.bl (eqD (.lst ds) e)) A := by cases e <;> exact h
      obtain ⟨ds, e0, ⟨h1, h2⟩, q⟩ := h
      obtain ⟨ws, e1, r1⟩ := hr _ _ e0
      obtain ⟨m, _, h1'⟩ := okD_lst h1
      refine L2.op_eqD hu pins s σ H _ y v u Q I rx ry ⟨toPy (.lst ds), toPy e, .lst (.inl (.inl e1)) (dps_of ds m ws r1 h1'), dp_of e 20 y re h2, shaped_of h1 (by decide), shaped_of h2 (by decide), ?_⟩
      rw [eqv_of (.lst ds) e 20 h1 h2]
      exact q.fin hr rfl
    obtain ⟨n, hn, h1, h2, q⟩ := aEq_gen (fun p e => nr ⟨p, e⟩) h
    refine L2.op_eqD hu pins s σ H x y v u Q I rx ry ⟨toPy d, toPy e, dp_of d n x rd h1, dp_of e n y re h2, shaped_of h1 hn, shaped_of h2 hn, ?_⟩
    rw [eqv_of d e n h1 h2]
    exact q.fin hr rfl
theorem op_ne (hu : X.A.units + 64 < cLine) : AOp X (compareOp .NotEq) aNe := by
  refine ⟨fun d e A Q Q' k h => ?_, ?_⟩
  · cases d <;> cases e <;> first | exact k _ _ h | exact ⟨h.1, k _ _ h.2⟩ | exact ⟨h.choose, h.choose_spec.1, h.choose_spec.2.1, k _ _ h.choose_spec.2.2⟩
  · intro pins s σ H x y v u Q I rx ry ⟨d, e, A, hr, rd, re, h⟩
    by_cases nr : ∃ p, d = .ref p
    · obtain ⟨p, rfl⟩ := nr
      cases (show x = V.ref p from rd)
      have h : ∃ ds, A p = some (.lst ds) ∧ (okD 20 (.lst ds) = true ∧ okD 20 e = true) ∧ post X.K A H Q (.bl (!eqD (.lst ds) e)) A := by cases e <;> exact h
      obtain ⟨ds, e0, ⟨h1, h2⟩, q⟩ := h
      obtain ⟨ws, e1, r1⟩ := hr _ _ e0
      obtain ⟨m, _, h1'⟩ := okD_lst h1
      refine L2.op_neD hu pins s σ H _ y v u Q I rx ry ⟨toPy (.lst ds), toPy e, .lst (.inl (.inl e1)) (dps_of ds m ws r1 h1'), dp_of e 20 y re h2, shaped_of h1 (by decide), shaped_of h2 (by decide), ?_⟩
      rw [eqv_of (.lst ds) e 20 h1 h2]
      exact q.fin hr rfl
    obtain ⟨n, hn, h1, h2, q⟩ := aNe_gen (fun p e => nr ⟨p, e⟩) h
    refine L2.op_neD hu pins s σ H x y v u Q I rx ry ⟨toPy d, toPy e, dp_of d n x rd h1, dp_of e n y re h2, shaped_of h1 hn, shaped_of h2 hn, ?_⟩
    rw [eqv_of d e n h1 h2]
    exact q.fin hr rfl
/-! ### is -/
def isNonD : D → Bool
  | .non => true
  | _ => false
theorem isNon_rep {K : PySem.W.Frag} {A : AH} {H : Hp} {d : D} {v : V} (r : Rep K A H d v) : decide (v = V.non) = isNonD d := by
  cases d with
  | non => cases (show v = V.non from r); rfl
  | bl b => cases (show v = V.bl b from r); rfl
  | int b => cases (show v = V.int b from r); rfl
  | str b => cases (show v = V.str b from r); rfl
  | tup ds => obtain ⟨a, xs, e, _⟩ := r; subst e; rfl
  | lst ds => obtain ⟨a, xs, e, _⟩ := r; subst e; rfl
  | ref a => cases (show v = V.ref a from r); rfl
  | scr ds => obtain ⟨a, e, _⟩ := r; subst e; rfl
def aIs : D → D → AH → DK → Prop
  | d, .non, A, Q => Q (.bl (isNonD d)) A
  | .bl a, .bl b, A, Q => Q (.bl (decide (a = b))) A
  | _, _, _, _ => False
def aIsNot : D → D → AH → DK → Prop
  | d, .non, A, Q => Q (.bl (!isNonD d)) A
  | .bl a, .bl b, A, Q => Q (.bl (!decide (a = b))) A
  | _, _, _, _ => False
theorem op_is : AOp X (compareOp .Is) aIs := by
  refine ⟨fun d e A Q Q' k h => ?_, ?_⟩
  · cases d <;> cases e <;> first | exact h.elim | exact k _ _ h
  · intro pins s σ H x y v u Q I rx ry ⟨d, e, A, hr, rd, re, h⟩
    have nn : ∀ d', aIs d' .non A (post X.K A H Q) → Rep X.K A H d' x → y = .non → wpAny (model X.prog X.w) X.A (compareOp .Is v u) (EP X pins σ Q) X.xe s := fun d' h rd ey => by
      refine L2.op_isN pins s σ H x y v u Q I rx ry ⟨ey, ?_⟩
      rw [isNon_rep rd]
      have h' : post X.K A H Q (.bl (isNonD d')) A := by cases d' <;> exact h
      exact h'.fin hr rfl
    cases e with
    | non => exact nn d h rd re
    | bl b =>
      cases d <;> first | exact (show False from h).elim | skip
      cases (show x = V.bl _ from rd)
      cases (show y = V.bl _ from re)
      exact L2.op_isBl pins s σ H _ _ v u Q I rx ry ⟨_, _, rfl, rfl, post.fin h hr rfl⟩
    | _ => cases d <;> exact (show False from h).elim
theorem op_isNot : AOp X (compareOp .IsNot) aIsNot := by
  refine ⟨fun d e A Q Q' k h => ?_, ?_⟩
  · cases d <;> cases e <;> first | exact h.elim | exact k _ _ h
  · intro pins s σ H x y v u Q I rx ry ⟨d, e, A, hr, rd, re, h⟩
    have nn : ∀ d', aIsNot d' .non A (post X.K A H Q) → Rep X.K A H d' x → y = .non → wpAny (model X.prog X.w) X.A (compareOp .IsNot v u) (EP X pins σ Q) X.xe s := fun d' h rd ey => by
      refine L2.op_notN pins s σ H x y v u Q I rx ry ⟨ey, ?_⟩
      rw [isNon_rep rd]
      have h' : post X.K A H Q (.bl (!isNonD d')) A := by cases d' <;> exact h
      exact h'.fin hr rfl
    cases e with
    | non => exact nn d h rd re
    | bl b =>
      cases d <;> first | exact (show False from h).elim | skip
      cases (show x = V.bl _ from rd)
      cases (show y = V.bl _ from re)
      exact L2.op_notBl pins s σ H _ _ v u Q I rx ry ⟨_, _, rfl, rfl, post.fin h hr rfl⟩
    | _ => cases d <;> exact (show False from h).elim
/-! ### - a -/
def aNeg (ta : AT) : AT := fun σ A Q => ta σ A fun d A1 => match d with
  | .int i => Q (.int (-i)) A1
  | _ => False
theorem ae_neg (ha : AE X a ta) : AE X (.UnaryOp .USub a pos) (aNeg ta) := by
  refine ⟨fun σ A Q Q' k q => ha.mono _ _ _ _ (fun d A1 q => by cases d <;> first | exact q.elim | exact k _ _ q) q, pe_weak (pe_un un_neg ha.pe) fun vs H Q q => ?_⟩
  obtain ⟨σ, A, hr, sr, q⟩ := q
  refine ⟨σ, A, hr, sr, ha.mono _ _ _ _ (fun d A1 q v1 H1 a1 r1 e1 => ?_) q⟩
  cases d <;> first | exact (show False from q).elim | skip
  exact ⟨_, e1, q _ _ a1 r1 rfl⟩

end
end Rk

/-! enumerate of a tuple -/
namespace Rk
open PySem PySem.Spec PyProof.Rows L2
open Sem (wp)
theorem meets_enumerate_newB1 {v : Value} {o : Obj} {H : Heap → Prop} (B : Begins v o H) :
    Meets (Builtin.«enumerate.__new__» ⟨[.type "enumerate", v], []⟩) (fun _ R s => H s.heap ∧
      R (.ok (.ret (.ref (s.heap.push o).objs.size))) { s with heap := (s.heap.push o).push { cls := .type "enumerate", data := .fields #[.none, .bool false, .ref s.heap.objs.size, rawInt 0, .none, .none] } }) :=
  .of_wp fun prog w A R s h => by
    obtain ⟨hp, g, d, tk, os⟩ := s; obtain ⟨h1, h⟩ := h
    have hsub := sub_enumerate
    have q1 : ∀ {A' : Around} {E : Value → Shared → Prop} {Q : Value → Shared → Prop}, Q (.ref hp.objs.size) ⟨hp.push o, g, d, tk, os⟩ → wpAny (model prog w) A' (pyIter v) Q E ⟨hp, g, d, tk, os⟩ :=
      fun q => B.iter prog w _ _ ⟨hp, g, d, tk, os⟩ _ h1 q
    wp_walk using q1
    refine wpAny_stack_any fun st => wpAny_pure ?_
    split
    · rename_i c _ _ _ _ _
      cases (c == Value.type "enumerate")
      · wp_walk using q1
        exact ⟨_, rfl, h⟩
      · wp_walk using q1
        exact ⟨_, rfl, h⟩
    · wp_walk using q1
      exact ⟨_, rfl, h⟩
section
variable {prog : Program} {w : World} {A : Around} {E : Value → Shared → Prop} {s : Shared}
theorem call_enumT {t : Addr} {items : Array Value} {Q : Value → Shared → Prop} (ht : s.heap.IsTuple t items)
    (h : ∀ h', IsEnum h' (s.heap.objs.size + 1) s.heap.objs.size 0 .none → h'.IsTupleIter s.heap.objs.size t 0 → h'.objs.size = s.heap.objs.size + 2 →
      (∀ b o, s.heap.get? b = some o → h'.get? b = some o) → Q (.ref (s.heap.objs.size + 1)) { s with heap := h' }) :
    wpAny (model prog w) A (call (.type "enumerate") [.ref t]) Q E s := by
  refine callType_new F.called_enumerate (by decide) (F.typeCall_enumerate_1 _) (F.newCall_enumerate_1 _) (fun obj => F.args_object_init_2 obj _) F.entry_enumerate_new
    (meets_enumerate_newB1 (begins_tuple t items)) ⟨ht, ?_⟩
  have hz : (s.heap.push { cls := .type "tuple_iterator", data := .fields #[.ref t, .int 0 0] }).objs.size = s.heap.objs.size + 1 := Heap.size_push ..
  show _ ∧ _
  rw [hz]
  have he : IsEnum ((s.heap.push { cls := .type "tuple_iterator", data := .fields #[.ref t, .int 0 0] }).push { cls := .type "enumerate", data := .fields #[.none, .bool false, .ref s.heap.objs.size, rawInt 0, .none, .none] }) (s.heap.objs.size + 1) s.heap.objs.size 0 .none := by
    have := Heap.get?_push_size (s.heap.push { cls := .type "tuple_iterator", data := .fields #[.ref t, .int 0 0] }) (o := { cls := .type "enumerate", data := .fields #[.none, .bool false, .ref s.heap.objs.size, rawInt 0, .none, .none] }) rfl
    rw [hz] at this; exact this
  refine ⟨⟨_, he, rfl⟩, h _ he ⟨_, Heap.get?_push_of_some _ (Heap.get?_push_size _ rfl), rfl, rfl⟩ (by rw [Heap.size_push, hz]) fun b o x => Heap.get?_push_of_some _ (Heap.get?_push_of_some _ x)⟩
end
/-- the tuple at a as it stands at each turn, each item in a new pair -/
def IteT (K : PySem.W.Frag) (a : Addr) : It :=
  ⟨fun i H => ∃ (xs : List V) (x : V), SqT K H a xs ∧ xs[i]? = some x, fun i H v H' => ∃ T x, v = .ref T ∧ H T = none ∧ H' = upd H T (.tup [.int (i : Nat), x]) ∧ ∀ xs, SqT K H a xs → xs[i]? = some x, fun i H => ∃ xs : List V, SqT K H a xs ∧ xs.length ≤ i⟩
theorem turn_enumT {P : Program} {w : World} {K : PySem.W.Frag} {elts : List Expr} {kk : Nat} {tpos : Pos} (a e it : Addr) :
    Turn P w K (.Tuple elts kk tpos) (IteT K a) [e, it] e (fun i h => (∃ old, IsEnum h e it ((i : Nat) : Int) old) ∧ h.IsTupleIter it a i ∧ e ≠ it ∧ e ≠ a ∧ a ≠ it) where
  mem := by simp
  obj := fun i h st b hb => by
    obtain ⟨⟨old, he⟩, ⟨o, ho, hc, hd⟩, _⟩ := st
    have e' : b = e ∨ b = it := by simpa using hb
    rcases e' with z | z
    · rw [z]; exact ⟨_, he, fun v q => nomatch q⟩
    · rw [z]; exact ⟨o, ho, fun v q => by rw [hd] at q; cases q⟩
  keep := fun i h h' st k => let ⟨⟨old, he⟩, hi, hne⟩ := st; ⟨⟨old, k e (by simp) _ he⟩, hi.at fun o q => k it (by simp) o q, hne⟩
  item := by
    intro X hP hw hK hc i pins s σ H E I hf st hg
    subst hP hw hK
    obtain ⟨⟨old, he⟩, hit, hne, hea, hai⟩ := st
    obtain ⟨xs, x, hq, hx⟩ := hg
    obtain ⟨its, rv, p, hz⟩ := I.tuple hq
    obtain ⟨u, hu, ru⟩ := rv.get hx
    have hel : e < s.heap.objs.size := Heap.lt_size he
    have hil : it < s.heap.objs.size := by obtain ⟨_, q, _⟩ := hit; exact Heap.lt_size q
    have hlt : i < its.toArray.size := by
      have := (List.getElem?_eq_some_iff.mp hu).1
      simpa using this
    refine wpAny_pyNext_enum_itemD (Draws.tuple (A := X.A.in1) (I.ok.hd hc) it a hai its.toArray) he ⟨hit, p⟩ hlt hne (by simp [hne, hea]) fun y h' tk hP ho hs' hT hsz hk => ?_
    have ey : y = u := by
      have : its[i]? = some y := by simpa using hP
      rw [hu] at this
      exact (Option.some.inj this).symm
    subst ey
    refine ⟨_, rfl, wpAny_letOwnedTupleGo_enum (s := { s with heap := h', toks := tk + 1 }) ho fun h'' he' sb => ?_⟩
    have hT2 : h''.get? s.heap.objs.size = some { cls := .type "tuple", data := .seq #[.int i tk, y] } := (sb.2 _ (Nat.ne_of_gt hel)).trans hT
    have new : ObjOk X.prog X.w (upd H s.heap.objs.size (.tup [.int (i : Nat), x])) h'' s.heap.objs.size (.tup [.int (i : Nat), x]) :=
      ⟨by show 2 ≤ sizeLine; decide, [.int i tk, y], .cons ⟨_, rfl⟩ (.cons ru .nil), ⟨_, hT2, rfl, _, rfl⟩⟩
    have I1 : Inv X pins σ (upd H s.heap.objs.size (.tup [.int (i : Nat), x])) { s with heap := h'', toks := tk + 1 } :=
      I.turnedNew (ch := [e, it]) (fun b ob hb q => (sb.2 b (fun z => hb (by simp [z]))).trans (hk b ob (fun z => hb (by simp [z])) (fun z => hb (by simp [z])) q)) hf (Nat.le_refl _) new
    refine ⟨.ref s.heap.objs.size, _, I1, rfl, ⟨_, x, rfl, I.hok.fresh (Nat.le_refl _), rfl, fun ys hy => by rw [I.tuple_inj hy hq]; exact hx⟩, ⟨⟨y, ?_⟩, hs'.1.at fun o q => (sb.2 it (Ne.symm hne)).trans q, hne, hea, hai⟩, fun b hb => ?_⟩
    · have e1 : ((i + 1 : Nat) : Int) = (i : Int) + 1 := by omega
      rw [e1]; exact he'
    · have hb' : b < s.heap.objs.size := by
        have e' : b = e ∨ b = it := by simpa using hb
        rcases e' with z | z
        · rw [z]; exact hel
        · rw [z]; exact hil
      rw [upd_ne (Nat.ne_of_lt hb')]
      exact (hf b hb).1
  done := by
    intro X hP hw hK hc i pins s σ H E I hf st hg
    subst hP hw hK
    obtain ⟨⟨old, he⟩, hit, hne, hea, hai⟩ := st
    obtain ⟨xs, hq, hx⟩ := hg
    obtain ⟨its, rv, p, hz⟩ := I.tuple hq
    have hl := rv.length
    obtain ⟨o, ho, hc', hd'⟩ := id hit
    obtain ⟨f0, f1, f2, f3, f4, f5⟩ := hf it (by simp)
    have hT : s.TypeIs (.ref e) "enumerate" := ⟨_, he, rfl⟩
    unfold pyNext
    refine wpAny_bind (wpAny_attempt (wpAny_callSpecial?_slot (name := Str.ofString "__next__") hT F.slot_enumerate_next
      (wpAny_call_entry F.slot_enumerate_next hT F.entry_enumerate_next ?_ (F.args_enumerate_next_1 _))))
    show wpAny _ _ (field (.ref e) 2 >>= _) _ _ _
    refine wpAny_bind (wpAny_field he rfl (x := .ref it) rfl ?_)
    refine wpAny_bind (wpAny_nextOf_tuple_end (A := X.A.in1) (I.ok.hd hc) hit p (by simp; omega) fun h' x he' hx' => ?_)
    obtain ⟨o, ho, hc⟩ := hx'
    refine wpAny_bind (wpAny_isInstance (T := "StopIteration") (b := true) ⟨o, ho, hc⟩ isSubtype_stop ?_)
    exact wpAny_pure ⟨rfl, I.turned (t' := s.toks) (fun b o hb q => he' b o hb q) f0 f1 f3 f4 f5⟩
  self := fun A i s Q E st h => let ⟨⟨_, he⟩, _⟩ := st; wpAny_pyIter_enum he h
def iEnumA (K : PySem.W.Frag) (ta : TA) : TI := fun σ H R => ta σ H fun vs H1 => ∃ a xs, vs = [.ref a] ∧ ((SqL K H1 a xs ∧ R (Ite K a) H1) ∨ (SqT K H1 a xs ∧ R (IteT K a) H1))
theorem pi_enumA {X : Cx} {e : Expr} {ta : TA} {p pos tpos : Pos} {elts : List Expr} {kk : Nat} (hg : Gl X "enumerate") (hm : X.mg "enumerate" = none) (ha : PA X [e] ta) (hs : starEach [e] X.env = [(false, eval e X.env)] := by rfl) :
    PI X (.Tuple elts kk tpos) (.Call (.Name "enumerate" p) [e] [] pos) (iEnumA X.K ta) := by
  refine ⟨fun pins s σ H R I h => ?_⟩
  refine Call_ (ld_blt I hg hm boot_enumerate (PyProof.Rows.callWith_type1 (thn (ha.run pos pins s σ H _ I h) fun us s1 ⟨vs, H1, I1, r1, q1⟩ => ?_) hs rfl))
  obtain ⟨a, xs, ex, q⟩ := q1
  subst ex
  cases r1 with
  | cons r rr =>
    cases rr
    cases r
    have fresh2 : ∀ b ∈ [s1.heap.objs.size + 1, s1.heap.objs.size], FpOk X pins H1 b := fun b hb => by
      have e' : b = s1.heap.objs.size + 1 ∨ b = s1.heap.objs.size := by simpa using hb
      have hle : s1.heap.objs.size ≤ b := by
        rcases e' with z | z
        · rw [z]; exact Nat.le_add_right _ _
        · rw [z]; exact Nat.le_refl _
      exact I1.fpOk hle (I1.hok.fresh hle)
    rcases q with ⟨hq, q⟩ | ⟨hq, q⟩
    · obtain ⟨its, rv, p', hz⟩ := I1.list hq
      refine call_enumerate_list p'.isList fun h' he hit hsz hk => wpAny_pyIter_enum he ?_
      have I2 : Inv X pins σ H1 { s1 with heap := h' } := I1.kept (t' := s1.toks) hk
      exact ⟨s1.heap.objs.size + 1, [s1.heap.objs.size + 1, s1.heap.objs.size], _, _, H1, rfl, I2, turn_enum a (s1.heap.objs.size + 1) s1.heap.objs.size, ⟨⟨.none, he⟩, hit, Nat.succ_ne_self _⟩, fresh2, q⟩
    · obtain ⟨its, rv, p', hz⟩ := I1.tuple hq
      obtain ⟨o1, ho1, _⟩ := id p'
      have hal : a < s1.heap.objs.size := Heap.lt_size ho1
      refine call_enumT (show s1.heap.IsTuple a its.toArray from p') fun h' he hit hsz hk => wpAny_pyIter_enum he ?_
      have I2 : Inv X pins σ H1 { s1 with heap := h' } := I1.kept (t' := s1.toks) hk
      exact ⟨s1.heap.objs.size + 1, [s1.heap.objs.size + 1, s1.heap.objs.size], _, _, H1, rfl, I2, turn_enumT a (s1.heap.objs.size + 1) s1.heap.objs.size, ⟨⟨.none, he⟩, hit, Nat.succ_ne_self _, Nat.ne_of_gt (Nat.lt_succ_of_lt hal), Nat.ne_of_lt hal⟩, fresh2, q⟩
end Rk

/-! sum, max, min, all, any of a tuple -/
namespace Rk
open PySem PySem.Spec PyProof.Rows L2
section
variable {prog : Program} {w : World} {A : Around} {E : Value → Shared → Prop} {s : Shared} {l : Addr} {xs : Array (Int × Tok)}
theorem iter_tup {items : Array Value} {Q : Value → Shared → Prop} (hl : s.heap.IsTuple l items)
    (h : ∀ s₂ : Shared, s₂ = { s with heap := s.heap.push { cls := .type "tuple_iterator", data := .fields #[.ref l, .int 0 0] } } →
      (s₂.heap.IsTupleIter s.heap.objs.size l 0 ∧ s₂.heap.IsTuple l items) → (∀ b ∈ [s.heap.objs.size, l], b < s₂.heap.objs.size) → l ≠ s.heap.objs.size → Q (.ref s.heap.objs.size) s₂) :
    wpAny (model prog w) A (pyIter (.ref l)) Q E s := by
  have hlt : l < s.heap.objs.size := by obtain ⟨_, e, _⟩ := hl; exact Heap.lt_size e
  refine wpAny_pyIter_tuple hl (h _ rfl ⟨⟨_, Heap.get?_push_size _ rfl, rfl, rfl⟩, hl.push _⟩ (fun b hb => ?_) (Nat.ne_of_lt hlt))
  show b < (s.heap.push _).objs.size
  rw [Heap.size_push]
  rcases List.mem_cons.mp hb with rfl | hb
  · exact Nat.lt_succ_self _
  · rcases List.mem_cons.mp hb with rfl | hb
    · exact Nat.lt_succ_of_lt hlt
    · cases hb
theorem old_keptO {h' : Heap} {ob : Obj} (hk : ∀ b o, b ∉ [s.heap.objs.size] → (s.heap.push ob).get? b = some o → h'.get? b = some o) :
    ∀ b o, s.heap.get? b = some o → h'.get? b = some o := fun b o e => by
  refine hk b o (fun hm => ?_) (Heap.get?_push_of_some _ e)
  rcases List.mem_cons.mp hm with e1 | hm
  · exact absurd (e1 ▸ Heap.lt_size e) (Nat.lt_irrefl _)
  · cases hm
theorem sum_tupR {its : List Value} {ns : List Int} {Q : Value → Shared → Prop} (hh : A.handled = none) (hl : s.heap.IsTuple l its.toArray) (hi : IntsAre its ns)
    (h : ∀ h' tk t', (∀ b o, s.heap.get? b = some o → h'.get? b = some o) → Q (.int ns.sum t') { s with heap := h', toks := tk }) : wpAny (model prog w) A (call (.builtin "sum") [.ref l]) Q E s := by
  obtain ⟨xs, e⟩ := hi.allInts.items
  have hn : numsOf (intItems xs).toList = ns := by rw [← e]; exact hi.numsOf
  rw [nums_intItems] at hn
  rw [e] at hl
  refine call_sum_walkG (iter_tup hl fun s₂ e st hfp hlI => ?_)
  subst e
  refine ⟨_, _, _, _, _, _, numAt xs, rfl, Walks.tuple (A := A.in1) hh _ l hlI (intItems xs), st, hfp, (fun _ _ => intItems_at), fun h' tk t' hk => ?_⟩
  have := h h' tk t' (old_keptO hk)
  have e2 : preSum (numAt xs) (intItems xs).size = ns.sum := by
    rw [preSum_eq, ← hn]
    rw [List.take_of_length_le (by simp [intItems])]
  rw [e2]
  exact this
theorem max_tupR {its : List Value} {ns : List Int} {Q : Value → Shared → Prop} (hh : A.handled = none) (hl : s.heap.IsTuple l its.toArray) (hi : IntsAre its ns) (hne : 0 < ns.length)
    (h : ∀ h' tk M t', (∀ b o, s.heap.get? b = some o → h'.get? b = some o) → M ∈ ns → (∀ a, a ∈ ns → a ≤ M) → Q (.int M t') { s with heap := h', toks := tk }) : wpAny (model prog w) A (call (.builtin "max") [.ref l]) Q E s := by
  obtain ⟨xs, e⟩ := hi.allInts.items
  have hn : numsOf (intItems xs).toList = ns := by rw [← e]; exact hi.numsOf
  rw [nums_intItems] at hn
  subst hn
  rw [e] at hl
  have hsz : 0 < xs.size := by simpa using hne
  refine call_max_walk (iter_tup hl fun s₂ e st hfp hlI => ?_)
  subst e
  refine ⟨_, _, _, _, _, _, _, rfl, Walks.tuple (A := A.in1) hh _ l hlI (intItems xs), st, hfp, by simpa [intItems] using hsz, CmpOf.ints_gt (numAt xs) (fun _ _ => intItems_at), fun v h' tk hP hk => ?_⟩
  obtain ⟨t, rfl⟩ := intItems_at hP
  have es : (intItems xs).size = xs.size := by simp [intItems]
  rw [es]
  obtain ⟨h1, h2⟩ := argBest_gt (numAt xs) (xs.size - 1)
  refine h h' tk _ t (old_keptO hk) ?_ fun a ha => ?_
  · rw [numAt_eq]; exact PySem.getD_mem (by rw [List.length_map, Array.length_toList]; omega)
  · obtain ⟨j, hj, rfl⟩ := mem_getD ha
    rw [List.length_map, Array.length_toList] at hj
    rw [← numAt_eq]; exact h2 j (by omega)
theorem min_tupR {its : List Value} {ns : List Int} {Q : Value → Shared → Prop} (hh : A.handled = none) (hl : s.heap.IsTuple l its.toArray) (hi : IntsAre its ns) (hne : 0 < ns.length)
    (h : ∀ h' tk M t', (∀ b o, s.heap.get? b = some o → h'.get? b = some o) → M ∈ ns → (∀ a, a ∈ ns → M ≤ a) → Q (.int M t') { s with heap := h', toks := tk }) : wpAny (model prog w) A (call (.builtin "min") [.ref l]) Q E s := by
  obtain ⟨xs, e⟩ := hi.allInts.items
  have hn : numsOf (intItems xs).toList = ns := by rw [← e]; exact hi.numsOf
  rw [nums_intItems] at hn
  subst hn
  rw [e] at hl
  have hsz : 0 < xs.size := by simpa using hne
  refine call_min_walk (iter_tup hl fun s₂ e st hfp hlI => ?_)
  subst e
  refine ⟨_, _, _, _, _, _, _, rfl, Walks.tuple (A := A.in1) hh _ l hlI (intItems xs), st, hfp, by simpa [intItems] using hsz, CmpOf.ints_lt (numAt xs) (fun _ _ => intItems_at), fun v h' tk hP hk => ?_⟩
  obtain ⟨t, rfl⟩ := intItems_at hP
  have es : (intItems xs).size = xs.size := by simp [intItems]
  rw [es]
  obtain ⟨h1, h2⟩ := argBest_lt (numAt xs) (xs.size - 1)
  refine h h' tk _ t (old_keptO hk) ?_ fun a ha => ?_
  · rw [numAt_eq]; exact PySem.getD_mem (by rw [List.length_map, Array.length_toList]; omega)
  · obtain ⟨j, hj, rfl⟩ := mem_getD ha
    rw [List.length_map, Array.length_toList] at hj
    rw [← numAt_eq]; exact h2 j (by omega)
end
section
variable {X : Cx}
theorem crT_sum (hc : X.calm = true) : CallR X (.builtin "sum") (fun vs H Q => ∃ (a : Addr) (ns : List Int), vs = [V.ref a] ∧ SqT X.K H a (ns.map V.int) ∧ Q (.int ns.sum) H) := by
  intro pins s σ H vs us Q I r h
  obtain ⟨a, ns, rfl, hs, q⟩ := h
  obtain ⟨its, rv, hl, _⟩ := I.tuple hs
  rw [Vals.ref1 r]
  exact sum_tupR (I.ok.hd hc) hl rv.ints fun h' tk t' hk => ⟨.int _, H, I.kept hk, ⟨_, rfl⟩, q⟩
theorem crT_max (hc : X.calm = true) : CallR X (.builtin "max") (fun vs H Q => ∃ (a : Addr) (ns : List Int), vs = [V.ref a] ∧ SqT X.K H a (ns.map V.int) ∧ 0 < ns.length ∧ ∀ m, m ∈ ns → (∀ y, y ∈ ns → y ≤ m) → Q (.int m) H) := by
  intro pins s σ H vs us Q I r h
  obtain ⟨a, ns, rfl, hs, hne, q⟩ := h
  obtain ⟨its, rv, hl, _⟩ := I.tuple hs
  rw [Vals.ref1 r]
  exact max_tupR (I.ok.hd hc) hl rv.ints hne fun h' tk m t' hk h1 h2 => ⟨.int _, H, I.kept hk, ⟨_, rfl⟩, q m h1 h2⟩
theorem crT_min (hc : X.calm = true) : CallR X (.builtin "min") (fun vs H Q => ∃ (a : Addr) (ns : List Int), vs = [V.ref a] ∧ SqT X.K H a (ns.map V.int) ∧ 0 < ns.length ∧ ∀ m, m ∈ ns → (∀ y, y ∈ ns → m ≤ y) → Q (.int m) H) := by
  intro pins s σ H vs us Q I r h
  obtain ⟨a, ns, rfl, hs, hne, q⟩ := h
  obtain ⟨its, rv, hl, _⟩ := I.tuple hs
  rw [Vals.ref1 r]
  exact min_tupR (I.ok.hd hc) hl rv.ints hne fun h' tk m t' hk h1 h2 => ⟨.int _, H, I.kept hk, ⟨_, rfl⟩, q m h1 h2⟩
theorem crT_any (hc : X.calm = true) : CallR X (.builtin "any") (fun vs H Q => ∃ (a : Addr) (bs : List Bool), vs = [V.ref a] ∧ SqT X.K H a (bs.map V.bl) ∧ Q (.bl (bs.any id)) H) := by
  intro pins s σ H vs us Q I r h
  obtain ⟨a, bs, rfl, hs, q⟩ := h
  obtain ⟨its, rv, hl, _⟩ := I.tuple hs
  rw [Vals.ref1 r]
  have hb := rv.bls
  refine call_any_walk (iter_tup hl fun s₂ e2 st _ hne => ?_)
  subst e2
  refine ⟨_, _, _, _, _, _, _, rfl, Walks.tuple (A := X.A.in1) (I.ok.hd hc) _ a hne its.toArray, st, truth_bools hb, fun h' tk hk => ?_⟩
  refine ⟨.bl _, H, I.kept fun b o eo => hk b o (fun hmem => ?_) (Heap.get?_push_of_some _ eo), ?_, q⟩
  · rcases List.mem_cons.mp hmem with e1 | hmem
    · exact absurd (e1 ▸ Heap.lt_size eo) (Nat.lt_irrefl _)
    · cases hmem
  · show Value.bool _ = Value.bool _
    rw [← L2.any_range, hb, List.size_toArray, List.length_map]
theorem crT_all (hc : X.calm = true) : CallR X (.builtin "all") (fun vs H Q => ∃ (a : Addr) (bs : List Bool), vs = [V.ref a] ∧ SqT X.K H a (bs.map V.bl) ∧ Q (.bl (bs.all id)) H) := by
  intro pins s σ H vs us Q I r h
  obtain ⟨a, bs, rfl, hs, q⟩ := h
  obtain ⟨its, rv, hl, _⟩ := I.tuple hs
  rw [Vals.ref1 r]
  have hb := rv.bls
  refine call_all_walk (iter_tup hl fun s₂ e2 st _ hne => ?_)
  subst e2
  refine ⟨_, _, _, _, _, _, _, rfl, Walks.tuple (A := X.A.in1) (I.ok.hd hc) _ a hne its.toArray, st, truth_bools hb, fun h' tk hk => ?_⟩
  refine ⟨.bl _, H, I.kept fun b o eo => hk b o (fun hmem => ?_) (Heap.get?_push_of_some _ eo), ?_, q⟩
  · rcases List.mem_cons.mp hmem with e1 | hmem
    · exact absurd (e1 ▸ Heap.lt_size eo) (Nat.lt_irrefl _)
    · cases hmem
  · show Value.bool _ = Value.bool _
    rw [← L2.all_range, hb, List.size_toArray, List.length_map]
end
end Rk

namespace Rk
open PySem PySem.Spec L2
section
variable {X : Cx} {pos : Pos} {a b c e : Expr} {es : List Expr} {ta tb tc : AT}
/-! ### subscripts -/
def nth : List D → Nat → Option D
  | [], _ => none
  | d :: _, 0 => some d
  | _ :: r, n + 1 => nth r n
theorem nth_eq : ∀ (ds : List D) (n : Nat), nth ds n = ds[n]?
  | [], _ => by simp [nth]
  | _ :: _, 0 => by simp [nth]
  | _ :: r, n + 1 => by simp [nth, nth_eq r n]
/-- the item at i, from the end where i is below 0 -/
def ixD (ds : List D) : Int → Option D
  | .ofNat n => nth ds n
  | .negSucc n => if n < ds.length then nth ds (ds.length - 1 - n) else none
theorem ixD_at {K : PySem.W.Frag} {A : AH} {H : Hp} {ds : List D} {vs : List V} (r : Reps K A H ds vs) {i : Int} {d : D} (h : ixD ds i = some d) : ∃ v, atI vs i = some v ∧ Rep K A H d v := by
  have hl := r.length
  cases i with
  | ofNat n =>
    have h : nth ds n = some d := h
    rw [nth_eq] at h
    obtain ⟨v, h1, h2⟩ := r.get h
    exact ⟨v, atI_nat h1, h2⟩
  | negSucc n =>
    have h : (if n < ds.length then nth ds (ds.length - 1 - n) else none) = some d := h
    by_cases hn : n < ds.length
    · rw [if_pos hn, nth_eq] at h
      obtain ⟨v, h1, h2⟩ := r.get h
      refine ⟨v, ?_, h2⟩
      unfold atI ixN
      rw [if_neg (by omega), if_pos (by omega)]
      have e : (Int.negSucc n + (vs.length : Int)).toNat = ds.length - 1 - n := by omega
      rw [e]
      exact h1
    · rw [if_neg hn] at h
      cases h
theorem ixD_nat {ds : List D} {k : Nat} {d : D} (h : ds[k]? = some d) : ixD ds (k : Int) = some d := by
  show nth ds k = some d
  rw [nth_eq]; exact h
def optK (o : Option D) (k : D → Prop) : Prop := match o with
  | some d => k d
  | none => False
theorem optK_mono {o : Option D} {k k' : D → Prop} (h : optK o k) (g : ∀ d, k d → k' d) : optK o k' := by
  cases o with
  | none => exact h
  | some d => exact g _ h
theorem optK_get {o : Option D} {k : D → Prop} (h : optK o k) : ∃ d, o = some d ∧ k d := by
  cases o with
  | none => exact h.elim
  | some d => exact ⟨d, rfl, h⟩
theorem optK_of {o : Option D} {k : D → Prop} {d : D} (e : o = some d) (h : k d) : optK o k := by rw [e]; exact h
def aIx : D → D → AH → DK → Prop
  | .tup ds, .int i, A, Q => optK (ixD ds i) fun d => Q d A
  | .lst ds, .int i, A, Q => optK (ixD ds i) fun d => Q d A
  | .ref p, .int i, A, Q => ∃ ds, A p = some (.lst ds) ∧ optK (ixD ds i) fun d => Q d A
  | _, _, _, _ => False
theorem mon_ix : Mon2 aIx := fun d e A Q Q' k h => by
  cases d <;> cases e <;> first | exact h.elim | exact optK_mono h fun d => k d _ | (obtain ⟨ds, e, h⟩ := h; exact ⟨ds, e, optK_mono h fun d => k d _⟩)
theorem ae_ix (ha : AE X a ta) (hb : AE X b tb) (hs : PlainIx b := by exact fun _ _ => rfl) : AE X (.Subscript a b pos) (aOp aIx ta tb) := by
  refine ⟨mon_op mon_ix ha.mono hb.mono, pe_weak (pe_ix ix_seq ha.pe hb.pe hs) fun vs H Q h => bin_lift mon_ix ha.mono hb.mono h fun x y H2 q => ?_⟩
  obtain ⟨d, e, A, hr, rd, re, q⟩ := q
  cases d <;> cases e <;> first | exact (show False from q).elim | skip
  · obtain ⟨p, xs, rfl, t, r⟩ := rd
    cases (show y = V.int _ from re)
    obtain ⟨d, e1, q⟩ := optK_get q
    obtain ⟨v, h1, h2⟩ := ixD_at r e1
    exact .inr (.inl ⟨p, xs, _, v, rfl, rfl, t.sq, h1, post.fin q hr h2⟩)
  · obtain ⟨p, xs, rfl, t, r⟩ := rd
    cases (show y = V.int _ from re)
    obtain ⟨d, e1, q⟩ := optK_get q
    obtain ⟨v, h1, h2⟩ := ixD_at r e1
    exact .inl ⟨p, xs, _, v, rfl, rfl, t.sq, h1, post.fin q hr h2⟩
  · cases (show x = V.ref _ from rd)
    cases (show y = V.int _ from re)
    obtain ⟨ds, e0, q⟩ := q
    obtain ⟨xs, e2, r⟩ := hr _ _ e0
    obtain ⟨d, e1, q⟩ := optK_get q
    obtain ⟨v, h1, h2⟩ := ixD_at r e1
    exact .inl ⟨_, xs, _, v, rfl, rfl, SqL.of e2, h1, post.fin q hr h2⟩
/-! ### slices -/
def cutD (ds : List D) (lo hi : Option Int) : List D := (ds.drop (HT.sIx ds.length 0 lo)).take (HT.sIx ds.length ds.length hi - HT.sIx ds.length 0 lo)
theorem Reps.cut {K : PySem.W.Frag} {A : AH} {H : Hp} {ds : List D} {vs : List V} (r : Reps K A H ds vs) (lo hi : Option Int) : Reps K A H (cutD ds lo hi) (cutV vs lo hi) := by
  unfold cutD cutV
  rw [r.length]
  exact (r.drop _).take _
abbrev AOt := ASt → AH → (Option Int → AH → Prop) → Prop
structure AO' (X : Cx) (e : Option Expr) (t : AOt) : Prop where
  mono : ∀ σ A (Q Q' : Option Int → AH → Prop), (∀ d A', Q d A' → Q' d A') → t σ A Q → t σ A Q'
  ex : ∃ tc : TO, PO X e tc ∧ ∀ (vs : L2.St) (H : Hp) (σ : ASt) (A : AH) (R : Option Int → Hp → Prop), HRep X.K A H → SRep X.K A H σ vs → t σ A (fun o A' => ∀ H', Adv A H A' H' → HRep X.K A' H' → R o H') → tc vs H R
def aNoPart : AOt := fun _ A Q => Q none A
def aPart (t : AT) : AOt := fun σ A Q => t σ A fun d A' => match d with | .int i => Q (some i) A' | _ => False
theorem ao_none : AO' X none aNoPart := ⟨fun _ _ _ _ k q => k _ _ q, _, po_none, fun vs H σ A R hr sr q => q _ Adv.refl hr⟩
theorem ao_some (h : AE X e ta) : AO' X (some e) (aPart ta) := by
  refine ⟨fun σ A Q Q' k q => h.mono _ _ _ _ (fun d A' q => by cases d <;> first | exact q.elim | exact k _ _ q) q, _, po_some h.pe, fun vs H σ A R hr sr q => ?_⟩
  refine ⟨σ, A, hr, sr, h.mono _ _ _ _ (fun d A1 q v1 H1 a1 r1 e1 => ?_) q⟩
  cases d <;> first | exact (show False from q).elim | exact ⟨_, e1, q _ a1 r1⟩
def aSl (te : AT) (tl th : AOt) : AT := fun σ A Q => te σ A fun d A1 => tl σ A1 fun lo A2 => th σ A2 fun hi A3 => match d with
  | .tup l => Q (.tup (cutD l lo hi)) A3
  | .lst l => Q (.lst (cutD l lo hi)) A3
  | .ref p => ∃ l, A3 p = some (.lst l) ∧ Q (.lst (cutD l lo hi)) A3
  | _ => False
theorem cut_whole {ds : List D} {lo hi : Option Int} (h : HT.sIx ds.length 0 lo = 0 ∧ HT.sIx ds.length ds.length hi = ds.length) : cutD ds lo hi = ds := by
  unfold cutD
  rw [h.1, h.2, List.drop_zero, Nat.sub_zero, List.take_length]
theorem ae_slice {lo hi : Option Expr} {tl th : AOt} {p2 : Pos} (he : AE X e ta) (hl : AO' X lo tl) (hh : AO' X hi th) : AE X (.Subscript e (.Slice lo hi none p2) pos) (aSl ta tl th) := by
  obtain ⟨ml, tlc, pl, kl⟩ := hl
  obtain ⟨mh, thc, ph, kh⟩ := hh
  refine ⟨fun σ A Q Q' k q => he.mono _ _ _ _ (fun d A1 q => ml _ _ _ _ (fun lo A2 q => mh _ _ _ _ (fun hi A3 q => by
    cases d <;> first | exact q.elim | exact k _ _ q | exact ⟨q.choose, q.choose_spec.1, k _ _ q.choose_spec.2⟩) q) q) q, pe_weak (pe_slice (sl_tupA.or sl_list) he.pe pl ph) fun vs H Q q => ?_⟩
  obtain ⟨σ, A, hr, sr, q⟩ := q
  refine ⟨σ, A, hr, sr, he.mono _ _ _ _ (fun d A1 q v1 H1 a1 r1 e1 => ?_) q⟩
  refine kl vs H1 σ A1 _ r1 (sr.adv a1) (ml _ _ _ _ (fun lo A2 q H2 a2 r2 => ?_) q)
  refine kh vs H2 σ A2 _ r2 (sr.adv (a1.trans a2)) (mh _ _ _ _ (fun hi A3 q H3 a3 r3 => ?_) q)
  have a03 := (a1.trans a2).trans a3
  have e3 := e1.adv (a2.trans a3)
  cases d with
  | tup dl =>
    obtain ⟨p, xs, rfl, t, r⟩ := e3
    refine .inl ⟨p, xs, rfl, t.sq, fun w => ?_, fun w q' hq => ?_⟩
    · rw [r.length] at w
      have q : post X.K A H Q (.tup (cutD dl lo hi)) A3 := q
      rw [cut_whole w] at q
      exact q _ _ a03 r3 ⟨p, xs, rfl, t, r⟩
    · exact q _ _ (a03.trans (adv_new r3 hq).1) (adv_new r3 hq).2 (rep_tup r3 hq (r.cut lo hi))
  | lst dl =>
    obtain ⟨p, xs, rfl, t, r⟩ := e3
    refine .inr ⟨p, xs, rfl, t.sq, fun q' hq => ?_⟩
    exact q _ _ (a03.trans (adv_new r3 hq).1) (adv_new r3 hq).2 (rep_lst r3 hq (r.cut lo hi))
  | ref pp =>
    cases (show v1 = V.ref _ from e3)
    obtain ⟨dl, e0, q⟩ := q
    obtain ⟨xs, e2, r⟩ := r3 _ _ e0
    refine .inr ⟨_, xs, rfl, SqL.of e2, fun q' hq => ?_⟩
    exact q _ _ (a03.trans (adv_new r3 hq).1) (adv_new r3 hq).2 (rep_lst r3 hq (r.cut lo hi))
  | _ => exact (show False from q).elim

/-! ### calls of built-ins -/
def liftL (K : PySem.W.Frag) (f : List D → AH → DK → Prop) : List V → Hp → VK → Prop := fun vs H Q => ∃ ds A, HRep K A H ∧ Reps K A H ds vs ∧ f ds A (post K A H Q)
abbrev MonL (f : List D → AH → DK → Prop) : Prop := ∀ ds A (Q Q' : DK), (∀ d A', Q d A' → Q' d A') → f ds A Q → f ds A Q'
structure ACall (X : Cx) (g : Value) (f : List D → AH → DK → Prop) : Prop where
  mono : MonL f
  call : CallR X g (liftL X.K f)
def aCall (f : List D → AH → DK → Prop) (t : AAt) : AT := fun σ A Q => t σ A fun ds A1 => f ds A1 Q
theorem mon_call {f : List D → AH → DK → Prop} {t : AAt} (mf : MonL f) (m : MonA t) : MonE (aCall f t) := fun σ A Q Q' k q => m _ _ _ _ (fun ds A1 q => mf _ _ _ _ k q) q
theorem call_lift {K : PySem.W.Frag} {f : List D → AH → DK → Prop} {t : AAt} (mf : MonL f) (m : MonA t) {vs : L2.St} {H : Hp} {Q : VK} (h : liftE K (aCall f t) vs H Q) : liftA K t vs H fun us H1 => liftL K f us H1 Q := by
  obtain ⟨σ, A, hr, sr, q⟩ := h
  refine ⟨σ, A, hr, sr, m _ _ _ _ (fun ds A1 q us H1 a1 r1 e1 => ?_) q⟩
  exact ⟨ds, A1, r1, e1, mf _ _ _ _ (fun d B q => post.adv a1 q) q⟩
variable {tr : AAt}
theorem ae_bi {x : Str} {id : String} {f : List D → AH → DK → Prop} {p : Pos} (hf : ACall X (.builtin id) f) (hm : X.mg x = none) (hv : bootBuiltins x = some (.builtin id)) (ha : AA X (e :: es) tr) (hg : Gl X x := by rfl) (hn : x ≠ "__name__" := by decide) (hdb : (x == ("__debug__" : Str)) = false := by decide) (he : starEach (e :: es) X.env = (false, eval e X.env) :: starEach es X.env := by rfl) (hpl : (backTo pos (starEach es X.env)).any (·.1) = false := by rfl) :
    AE X (.Call (.Name x p) (e :: es) [] pos) (aCall f tr) :=
  ⟨mon_call hf.mono ha.mono, pe_weak (pe_callB hf.call hg hm hv ha.pa hn hdb he hpl) fun vs H Q h => call_lift hf.mono ha.mono h⟩
theorem ae_ty {x : Str} {T : String} {f : List D → AH → DK → Prop} {p : Pos} (hf : ACall X (.type T) f) (hm : X.mg x = none) (hv : bootBuiltins x = some (.type T)) (ha : AA X (e :: es) tr) (hg : Gl X x := by rfl) (hn : x ≠ "__name__" := by decide) (hdb : (x == ("__debug__" : Str)) = false := by decide) (he : starEach (e :: es) X.env = (false, eval e X.env) :: starEach es X.env := by rfl) (hpl : (backTo pos (starEach es X.env)).any (·.1) = false := by rfl) :
    AE X (.Call (.Name x p) (e :: es) [] pos) (aCall f tr) :=
  ⟨mon_call hf.mono ha.mono, pe_weak (pe_callTy hf.call hg hm hv ha.pa hn hdb he hpl) fun vs H Q h => call_lift hf.mono ha.mono h⟩
/-! abs, int -/
def cAbs : List D → AH → DK → Prop
  | [.int i], A, Q => Q (.int (i.natAbs : Int)) A
  | _, _, _ => False
def cInt : List D → AH → DK → Prop
  | [.int i], A, Q => Q (.int i) A
  | [.bl b], A, Q => Q (.int (if b then 1 else 0)) A
  | _, _, _ => False
theorem reps1 {K : PySem.W.Frag} {A : AH} {H : Hp} {d : D} {vs : List V} (r : Reps K A H [d] vs) : ∃ v, vs = [v] ∧ Rep K A H d v := by
  obtain ⟨v, q, e, x, y⟩ := r
  cases (show q = [] from y)
  exact ⟨v, e, x⟩
theorem reps2 {K : PySem.W.Frag} {A : AH} {H : Hp} {d e : D} {vs : List V} (r : Reps K A H [d, e] vs) : ∃ v u, vs = [v, u] ∧ Rep K A H d v ∧ Rep K A H e u := by
  obtain ⟨v, q, z, x, y⟩ := r
  obtain ⟨u, e2, x2⟩ := reps1 y
  subst e2
  exact ⟨v, u, z, x, x2⟩
theorem call_abs : ACall X (.builtin "abs") cAbs := by
  refine ⟨fun ds A Q Q' k h => ?_, fun pins s σ H xs us Q I r h => ?_⟩
  · unfold cAbs at h ⊢
    split at h <;> first | exact k _ _ h | exact h.elim
  · obtain ⟨ds, A, hr, rs, h⟩ := h
    unfold cAbs at h
    split at h <;> first | exact h.elim | skip
    obtain ⟨v, rfl, r1⟩ := reps1 rs
    cases (show v = V.int _ from r1)
    refine L2.call_abs pins s σ H _ us Q I r ⟨_, rfl, ?_⟩
    have q := post.fin h hr rfl
    rename_i i
    have e : ((i.natAbs : Nat) : Int) = if i < 0 then -i else i := by split <;> omega
    rw [← e]
    exact q
theorem call_int : ACall X (.type "int") cInt := by
  refine ⟨fun ds A Q Q' k h => ?_, fun pins s σ H xs us Q I r h => ?_⟩
  · unfold cInt at h ⊢
    split at h <;> first | exact k _ _ h | exact h.elim
  · obtain ⟨ds, A, hr, rs, h⟩ := h
    unfold cInt at h
    split at h <;> first | exact h.elim | skip
    · obtain ⟨v, rfl, r1⟩ := reps1 rs
      cases (show v = V.int _ from r1)
      exact L2.call_int1 pins s σ H _ us Q I r (.inl ⟨_, rfl, post.fin h hr rfl⟩)
    · obtain ⟨v, rfl, r1⟩ := reps1 rs
      cases (show v = V.bl _ from r1)
      exact L2.call_int1 pins s σ H _ us Q I r (.inr ⟨_, rfl, post.fin h hr rfl⟩)
/-! len -/
def cLen : List D → AH → DK → Prop
  | [.tup ds], A, Q => Q (.int (ds.length : Int)) A
  | [.lst ds], A, Q => Q (.int (ds.length : Int)) A
  | [.ref p], A, Q => ∃ ds, A p = some (.lst ds) ∧ Q (.int (ds.length : Int)) A
  | [.str x], A, Q => x.length ≤ 100000 ∧ Q (.int (x.length : Int)) A
  | _, _, _ => False
theorem call_len : ACall X (.builtin "len") cLen := by
  refine ⟨fun ds A Q Q' k h => ?_, fun pins s σ H xs us Q I r h => ?_⟩
  · unfold cLen at h ⊢
    split at h <;> first | exact k _ _ h | exact h.elim | exact ⟨h.1, k _ _ h.2⟩ | exact ⟨h.choose, h.choose_spec.1, k _ _ h.choose_spec.2⟩
  · obtain ⟨ds, A, hr, rs, h⟩ := h
    unfold cLen at h
    split at h <;> first | exact h.elim | skip
    · obtain ⟨v, rfl, p, ws, rfl, t, q⟩ := reps1 rs
      have := post.fin h hr rfl
      exact L2.call_len_seq pins s σ H _ us Q I r ⟨p, ws, rfl, .inr t.sq, by rw [q.length]; exact this⟩
    · obtain ⟨v, rfl, p, ws, rfl, t, q⟩ := reps1 rs
      have := post.fin h hr rfl
      exact L2.call_len_seq pins s σ H _ us Q I r ⟨p, ws, rfl, .inl t.sq, by rw [q.length]; exact this⟩
    · obtain ⟨v, rfl, r1⟩ := reps1 rs
      cases (show v = V.ref _ from r1)
      obtain ⟨ds, e0, h⟩ := h
      obtain ⟨ws, e2, q⟩ := hr _ _ e0
      have := post.fin h hr rfl
      exact L2.call_len_seq pins s σ H _ us Q I r ⟨_, ws, rfl, .inl (SqL.of e2), by rw [q.length]; exact this⟩
    · obtain ⟨v, rfl, r1⟩ := reps1 rs
      cases (show v = V.str _ from r1)
      exact L2.call_len_str pins s σ H _ us Q I r ⟨_, rfl, big_ok h.1, post.fin h.2 hr rfl⟩
/-! tuple, list -/
def cTup : List D → AH → DK → Prop
  | [.tup ds], A, Q => Q (.tup ds) A
  | [.lst ds], A, Q => Q (.tup ds) A
  | [.ref p], A, Q => ∃ ds, A p = some (.lst ds) ∧ Q (.tup ds) A
  | _, _, _ => False
def cLst : List D → AH → DK → Prop
  | [.tup ds], A, Q => Q (.lst ds) A
  | [.lst ds], A, Q => Q (.lst ds) A
  | [.ref p], A, Q => ∃ ds, A p = some (.lst ds) ∧ Q (.lst ds) A
  | [.scr ns], A, Q => Q (.lst (ns.map D.int)) A
  | _, _, _ => False
def cLstM : List D → AH → DK → Prop
  | [.tup ds], A, Q => ∀ p, A p = none → Q (.ref p) (aupd A p (.lst ds))
  | [.lst ds], A, Q => ∀ p, A p = none → Q (.ref p) (aupd A p (.lst ds))
  | [.ref q], A, Q => ∃ ds, A q = some (.lst ds) ∧ ∀ p, A p = none → Q (.ref p) (aupd A p (.lst ds))
  | [.scr ns], A, Q => ∀ p, A p = none → Q (.ref p) (aupd A p (.lst (ns.map D.int)))
  | _, _, _ => False
theorem call_tup : ACall X (.type "tuple") cTup := by
  refine ⟨fun ds A Q Q' k h => ?_, fun pins s σ H xs us Q I r h => ?_⟩
  · unfold cTup at h ⊢
    split at h <;> first | exact k _ _ h | exact h.elim | exact ⟨h.choose, h.choose_spec.1, k _ _ h.choose_spec.2⟩
  · obtain ⟨ds, A, hr, rs, h⟩ := h
    unfold cTup at h
    split at h <;> first | exact h.elim | skip
    · obtain ⟨v, rfl, p, ws, rfl, t, q⟩ := reps1 rs
      exact L2.call_tuple_of pins s σ H _ us Q I r ⟨p, ws, rfl, .inr ⟨t.sq, post.fin h hr ⟨p, ws, rfl, t, q⟩⟩⟩
    · obtain ⟨v, rfl, p, ws, rfl, t, q⟩ := reps1 rs
      exact L2.call_tuple_of pins s σ H _ us Q I r ⟨p, ws, rfl, .inl ⟨t.sq, fun l hl => h _ _ (adv_new hr hl).1 (adv_new hr hl).2 (rep_tup hr hl q)⟩⟩
    · obtain ⟨v, rfl, r1⟩ := reps1 rs
      cases (show v = V.ref _ from r1)
      obtain ⟨ds, e0, h⟩ := h
      obtain ⟨ws, e2, q⟩ := hr _ _ e0
      exact L2.call_tuple_of pins s σ H _ us Q I r ⟨_, ws, rfl, .inl ⟨SqL.of e2, fun l hl => h _ _ (adv_new hr hl).1 (adv_new hr hl).2 (rep_tup hr hl q)⟩⟩
theorem call_lst : ACall X (.type "list") cLst := by
  refine ⟨fun ds A Q Q' k h => ?_, fun pins s σ H xs us Q I r h => ?_⟩
  · unfold cLst at h ⊢
    split at h <;> first | exact k _ _ h | exact h.elim | exact ⟨h.choose, h.choose_spec.1, k _ _ h.choose_spec.2⟩
  · obtain ⟨ds, A, hr, rs, h⟩ := h
    unfold cLst at h
    split at h <;> first | exact h.elim | skip
    · obtain ⟨v, rfl, p, ws, rfl, t, q⟩ := reps1 rs
      exact L2.call_list_of pins s σ H _ us Q I r ⟨p, ws, rfl, .inr t.sq, fun l hl => h _ _ (adv_new hr hl).1 (adv_new hr hl).2 (rep_lst hr hl q)⟩
    · obtain ⟨v, rfl, p, ws, rfl, t, q⟩ := reps1 rs
      exact L2.call_list_of pins s σ H _ us Q I r ⟨p, ws, rfl, .inl t.sq, fun l hl => h _ _ (adv_new hr hl).1 (adv_new hr hl).2 (rep_lst hr hl q)⟩
    · obtain ⟨v, rfl, r1⟩ := reps1 rs
      cases (show v = V.ref _ from r1)
      obtain ⟨ds, e0, h⟩ := h
      obtain ⟨ws, e2, q⟩ := hr _ _ e0
      exact L2.call_list_of pins s σ H _ us Q I r ⟨_, ws, rfl, .inl (SqL.of e2), fun l hl => h _ _ (adv_new hr hl).1 (adv_new hr hl).2 (rep_lst hr hl q)⟩
    · obtain ⟨v, rfl, p, rfl, t⟩ := reps1 rs
      exact L2.call_list_of pins s σ H _ us Q I r ⟨p, _, rfl, .inl t.sq, fun l hl => h _ _ (adv_new hr hl).1 (adv_new hr hl).2 (rep_lst hr hl (Reps.of_ints _))⟩
theorem call_lstM : ACall X (.type "list") cLstM := by
  refine ⟨fun ds A Q Q' k h => ?_, fun pins s σ H xs us Q I r h => ?_⟩
  · unfold cLstM at h ⊢
    split at h <;> first | exact fun p hp => k _ _ (h p hp) | exact h.elim | exact ⟨h.choose, h.choose_spec.1, fun p hp => k _ _ (h.choose_spec.2 p hp)⟩
  · obtain ⟨ds, A, hr, rs, h⟩ := h
    unfold cLstM at h
    split at h <;> first | exact h.elim | skip
    · obtain ⟨v, rfl, p, ws, rfl, t, q⟩ := reps1 rs
      exact L2.call_list_of pins s σ H _ us Q I r ⟨p, ws, rfl, .inr t.sq, fun l hl => h l (hr.none hl) _ _ (adv_newT hr hl q).1 (adv_newT hr hl q).2 rfl⟩
    · obtain ⟨v, rfl, p, ws, rfl, t, q⟩ := reps1 rs
      exact L2.call_list_of pins s σ H _ us Q I r ⟨p, ws, rfl, .inl t.sq, fun l hl => h l (hr.none hl) _ _ (adv_newT hr hl q).1 (adv_newT hr hl q).2 rfl⟩
    · obtain ⟨v, rfl, r1⟩ := reps1 rs
      cases (show v = V.ref _ from r1)
      obtain ⟨ds, e0, h⟩ := h
      obtain ⟨ws, e2, q⟩ := hr _ _ e0
      exact L2.call_list_of pins s σ H _ us Q I r ⟨_, ws, rfl, .inl (SqL.of e2), fun l hl => h l (hr.none hl) _ _ (adv_newT hr hl q).1 (adv_newT hr hl q).2 rfl⟩
    · obtain ⟨v, rfl, p, rfl, t⟩ := reps1 rs
      exact L2.call_list_of pins s σ H _ us Q I r ⟨p, _, rfl, .inl t.sq, fun l hl => h l (hr.none hl) _ _ (adv_newT hr hl (Reps.of_ints _)).1 (adv_newT hr hl (Reps.of_ints _)).2 rfl⟩

/-! sum, all, any, min, max, sorted -/
def ints? : List D → Option (List Int)
  | [] => some []
  | .int i :: ds => match ints? ds with
    | some ns => some (i :: ns)
    | none => none
  | _ => none
def bools? : List D → Option (List Bool)
  | [] => some []
  | .bl i :: ds => match bools? ds with
    | some ns => some (i :: ns)
    | none => none
  | _ => none
theorem ints?_map {α : Type} (f : α → Int) : ∀ l : List α, ints? (l.map fun x => D.int (f x)) = some (l.map f)
  | [] => rfl
  | x :: l => by
    show (match ints? (l.map fun x => D.int (f x)) with | some ns => some (f x :: ns) | none => none) = _
    rw [ints?_map f l]
    rfl
theorem ints?_int (l : List Int) : ints? (l.map D.int) = some l := by
  have := ints?_map (fun x : Int => x) l
  rw [List.map_id'] at this
  exact this
theorem bools?_map {α : Type} (f : α → Bool) : ∀ l : List α, bools? (l.map fun x => D.bl (f x)) = some (l.map f)
  | [] => rfl
  | x :: l => by
    show (match bools? (l.map fun x => D.bl (f x)) with | some ns => some (f x :: ns) | none => none) = _
    rw [bools?_map f l]
    rfl
theorem ints?_eq : ∀ {ds : List D} {ns : List Int}, ints? ds = some ns → ds = ns.map D.int
  | [], ns, h => by cases h; rfl
  | .int i :: ds, ns, h => by
    unfold ints? at h
    cases e : ints? ds with
    | none => rw [e] at h; cases h
    | some ms =>
      rw [e] at h
      cases h
      rw [ints?_eq e]
      rfl
  | .non :: _, _, h => by cases h
  | .bl _ :: _, _, h => by cases h
  | .str _ :: _, _, h => by cases h
  | .tup _ :: _, _, h => by cases h
  | .lst _ :: _, _, h => by cases h
  | .ref _ :: _, _, h => by cases h
  | .scr _ :: _, _, h => by cases h
theorem bools?_eq : ∀ {ds : List D} {ns : List Bool}, bools? ds = some ns → ds = ns.map D.bl
  | [], ns, h => by cases h; rfl
  | .bl i :: ds, ns, h => by
    unfold bools? at h
    cases e : bools? ds with
    | none => rw [e] at h; cases h
    | some ms =>
      rw [e] at h
      cases h
      rw [bools?_eq e]
      rfl
  | .non :: _, _, h => by cases h
  | .int _ :: _, _, h => by cases h
  | .str _ :: _, _, h => by cases h
  | .tup _ :: _, _, h => by cases h
  | .lst _ :: _, _, h => by cases h
  | .ref _ :: _, _, h => by cases h
  | .scr _ :: _, _, h => by cases h
theorem Reps.bools {K : PySem.W.Frag} {A : AH} {H : Hp} : ∀ {ns : List Bool} {vs : List V}, Reps K A H (ns.map D.bl) vs → vs = ns.map V.bl
  | [], _, r => r
  | n :: ns, _, ⟨v, r, e, x, y⟩ => by
    subst e
    cases (show v = V.bl n from x)
    rw [Reps.bools y]
    rfl
def onK {α : Type} (o : Option α) (k : α → Prop) : Prop := match o with
  | some d => k d
  | none => False
theorem onK_mono {α : Type} {o : Option α} {k k' : α → Prop} (h : onK o k) (g : ∀ d, k d → k' d) : onK o k' := by
  cases o with
  | none => exact h
  | some d => exact g _ h
theorem onK_get {α : Type} {o : Option α} {k : α → Prop} (h : onK o k) : ∃ d, o = some d ∧ k d := by
  cases o with
  | none => exact h.elim
  | some d => exact ⟨d, rfl, h⟩
theorem onK_of {α : Type} {o : Option α} {k : α → Prop} {d : α} (e : o = some d) (h : k d) : onK o k := by rw [e]; exact h
/-- what a list holds: a list as it stands, or one that may change -/
def onL (d : D) (A : AH) (k : List D → Prop) : Prop := match d with
  | .lst ds => k ds
  | .ref p => ∃ ds, A p = some (.lst ds) ∧ k ds
  | _ => False
theorem onL_mono {d : D} {A : AH} {k k' : List D → Prop} (h : onL d A k) (g : ∀ ds, k ds → k' ds) : onL d A k' := by
  cases d <;> first | exact (show False from h).elim | exact g _ h | exact ⟨h.choose, h.choose_spec.1, g _ h.choose_spec.2⟩
theorem onL_get {K : PySem.W.Frag} {A : AH} {H : Hp} (hr : HRep K A H) {d : D} {v : V} (r : Rep K A H d v) {k : List D → Prop} (h : onL d A k) : ∃ ds a vs, v = .ref a ∧ H a = some (.lst vs) ∧ Reps K A H ds vs ∧ k ds := by
  cases d <;> first | exact (show False from h).elim | skip
  · obtain ⟨p, ws, e, t, q⟩ := r
    exact ⟨_, p, ws, e, t.2, q, h⟩
  · obtain ⟨ds, e0, h⟩ := h
    obtain ⟨ws, e2, q⟩ := hr _ _ e0
    exact ⟨ds, _, ws, r, e2, q, h⟩
/-- what a list or a tuple holds -/
def onQ (d : D) (A : AH) (k : List D → Prop) : Prop := match d with
  | .tup ds => k ds
  | .lst ds => k ds
  | .ref p => ∃ ds, A p = some (.lst ds) ∧ k ds
  | _ => False
theorem onQ_mono {d : D} {A : AH} {k k' : List D → Prop} (h : onQ d A k) (g : ∀ ds, k ds → k' ds) : onQ d A k' := by
  cases d <;> first | exact (show False from h).elim | exact g _ h | exact ⟨h.choose, h.choose_spec.1, g _ h.choose_spec.2⟩
theorem onQ_get {K : PySem.W.Frag} {A : AH} {H : Hp} (hr : HRep K A H) {d : D} {v : V} (r : Rep K A H d v) {k : List D → Prop} (h : onQ d A k) : ∃ ds a vs, v = .ref a ∧ (SqL K H a vs ∨ SqT K H a vs) ∧ Reps K A H ds vs ∧ k ds := by
  cases d <;> first | exact (show False from h).elim | skip
  · obtain ⟨p, ws, e, t, q⟩ := r
    exact ⟨_, p, ws, e, .inr t.sq, q, h⟩
  · obtain ⟨p, ws, e, t, q⟩ := r
    exact ⟨_, p, ws, e, .inl t.sq, q, h⟩
  · obtain ⟨ds, e0, h⟩ := h
    obtain ⟨ws, e2, q⟩ := hr _ _ e0
    exact ⟨ds, _, ws, r, .inl (SqL.of e2), q, h⟩
def cSum : List D → AH → DK → Prop
  | [d], A, Q => onQ d A fun ds => onK (ints? ds) fun ns => Q (.int ns.sum) A
  | _, _, _ => False
def cAll : List D → AH → DK → Prop
  | [d], A, Q => onQ d A fun ds => onK (bools? ds) fun ns => Q (.bl (ns.all id)) A
  | _, _, _ => False
def cAny : List D → AH → DK → Prop
  | [d], A, Q => onQ d A fun ds => onK (bools? ds) fun ns => Q (.bl (ns.any id)) A
  | _, _, _ => False
def cMax : List D → AH → DK → Prop
  | [d], A, Q => onQ d A fun ds => onK (ints? ds) fun ns => 0 < ns.length ∧ ∀ m, m ∈ ns → (∀ y, y ∈ ns → y ≤ m) → Q (.int m) A
  | [.int i, .int j], A, Q => Q (.int (max i j)) A
  | _, _, _ => False
def cMin : List D → AH → DK → Prop
  | [d], A, Q => onQ d A fun ds => onK (ints? ds) fun ns => 0 < ns.length ∧ ∀ m, m ∈ ns → (∀ y, y ∈ ns → m ≤ y) → Q (.int m) A
  | [.int i, .int j], A, Q => Q (.int (min i j)) A
  | _, _, _ => False
def cSorted : List D → AH → DK → Prop
  | [d], A, Q => onL d A fun ds => onK (ints? ds) fun ns => ∀ ns' : List Int, ns'.Perm ns → ns'.Pairwise (· ≤ ·) → Q (.lst (ns'.map D.int)) A
  | _, _, _ => False
theorem call_sum (hc : X.calm = true) : ACall X (.builtin "sum") cSum := by
  refine ⟨fun ds A Q Q' k h => ?_, fun pins s σ H xs us Q I r h => ?_⟩
  · unfold cSum at h ⊢
    split at h <;> first | exact h.elim | exact onQ_mono h fun ds h => onK_mono h fun ns => k _ _
  · obtain ⟨ds, A, hr, rs, h⟩ := h
    unfold cSum at h
    split at h <;> first | exact h.elim | skip
    obtain ⟨v, rfl, r1⟩ := reps1 rs
    obtain ⟨ds, p, vs, e1, e2, q, h⟩ := onQ_get hr r1 h
    obtain ⟨ns, e3, h⟩ := onK_get h
    rw [ints?_eq e3] at q
    rw [q.ints] at e2
    subst e1
    rcases e2 with e2 | e2
    · exact L2.cr_sum hc pins s σ H _ us Q I r ⟨p, ns, rfl, e2, h.fin hr rfl⟩
    · exact crT_sum hc pins s σ H _ us Q I r ⟨p, ns, rfl, e2, h.fin hr rfl⟩
theorem call_all (hc : X.calm = true) : ACall X (.builtin "all") cAll := by
  refine ⟨fun ds A Q Q' k h => ?_, fun pins s σ H xs us Q I r h => ?_⟩
  · unfold cAll at h ⊢
    split at h <;> first | exact h.elim | exact onQ_mono h fun ds h => onK_mono h fun ns => k _ _
  · obtain ⟨ds, A, hr, rs, h⟩ := h
    unfold cAll at h
    split at h <;> first | exact h.elim | skip
    obtain ⟨v, rfl, r1⟩ := reps1 rs
    obtain ⟨ds, p, vs, e1, e2, q, h⟩ := onQ_get hr r1 h
    obtain ⟨ns, e3, h⟩ := onK_get h
    rw [bools?_eq e3] at q
    rw [q.bools] at e2
    subst e1
    rcases e2 with e2 | e2
    · exact L2.cr_all hc pins s σ H _ us Q I r ⟨p, ns, rfl, e2, h.fin hr rfl⟩
    · exact crT_all hc pins s σ H _ us Q I r ⟨p, ns, rfl, e2, h.fin hr rfl⟩
theorem call_any (hc : X.calm = true) : ACall X (.builtin "any") cAny := by
  refine ⟨fun ds A Q Q' k h => ?_, fun pins s σ H xs us Q I r h => ?_⟩
  · unfold cAny at h ⊢
    split at h <;> first | exact h.elim | exact onQ_mono h fun ds h => onK_mono h fun ns => k _ _
  · obtain ⟨ds, A, hr, rs, h⟩ := h
    unfold cAny at h
    split at h <;> first | exact h.elim | skip
    obtain ⟨v, rfl, r1⟩ := reps1 rs
    obtain ⟨ds, p, vs, e1, e2, q, h⟩ := onQ_get hr r1 h
    obtain ⟨ns, e3, h⟩ := onK_get h
    rw [bools?_eq e3] at q
    rw [q.bools] at e2
    subst e1
    rcases e2 with e2 | e2
    · exact L2.cr_any hc pins s σ H _ us Q I r ⟨p, ns, rfl, e2, h.fin hr rfl⟩
    · exact crT_any hc pins s σ H _ us Q I r ⟨p, ns, rfl, e2, h.fin hr rfl⟩
theorem call_max (hc : X.calm = true) : ACall X (.builtin "max") cMax := by
  refine ⟨fun ds A Q Q' k h => ?_, fun pins s σ H xs us Q I r h => ?_⟩
  · unfold cMax at h ⊢
    split at h <;> first | exact h.elim | exact k _ _ h | exact onQ_mono h fun ds h => onK_mono h fun ns h => ⟨h.1, fun m h1 h2 => k _ _ (h.2 m h1 h2)⟩
  · obtain ⟨ds, A, hr, rs, h⟩ := h
    unfold cMax at h
    split at h <;> first | exact h.elim | skip
    · obtain ⟨v, rfl, r1⟩ := reps1 rs
      obtain ⟨ds, p, vs, e1, e2, q, h⟩ := onQ_get hr r1 h
      obtain ⟨ns, e3, h⟩ := onK_get h
      rw [ints?_eq e3] at q
      rw [q.ints] at e2
      subst e1
      rcases e2 with e2 | e2
      · exact L2.cr_max hc pins s σ H _ us Q I r ⟨p, ns, rfl, e2, h.1, fun m h1 h2 => (h.2 m h1 h2).fin hr rfl⟩
      · exact crT_max hc pins s σ H _ us Q I r ⟨p, ns, rfl, e2, h.1, fun m h1 h2 => (h.2 m h1 h2).fin hr rfl⟩
    · obtain ⟨v, u, rfl, r1, r2⟩ := reps2 rs
      cases (show v = V.int _ from r1)
      cases (show u = V.int _ from r2)
      rename_i i j
      refine L2.call_max2 hc pins s σ H _ us Q I r ⟨i, j, rfl, ?_⟩
      have e : (if j > i then j else i) = max i j := by split <;> omega
      rw [e]
      exact post.fin h hr rfl
theorem call_min (hc : X.calm = true) : ACall X (.builtin "min") cMin := by
  refine ⟨fun ds A Q Q' k h => ?_, fun pins s σ H xs us Q I r h => ?_⟩
  · unfold cMin at h ⊢
    split at h <;> first | exact h.elim | exact k _ _ h | exact onQ_mono h fun ds h => onK_mono h fun ns h => ⟨h.1, fun m h1 h2 => k _ _ (h.2 m h1 h2)⟩
  · obtain ⟨ds, A, hr, rs, h⟩ := h
    unfold cMin at h
    split at h <;> first | exact h.elim | skip
    · obtain ⟨v, rfl, r1⟩ := reps1 rs
      obtain ⟨ds, p, vs, e1, e2, q, h⟩ := onQ_get hr r1 h
      obtain ⟨ns, e3, h⟩ := onK_get h
      rw [ints?_eq e3] at q
      rw [q.ints] at e2
      subst e1
      rcases e2 with e2 | e2
      · exact L2.cr_min hc pins s σ H _ us Q I r ⟨p, ns, rfl, e2, h.1, fun m h1 h2 => (h.2 m h1 h2).fin hr rfl⟩
      · exact crT_min hc pins s σ H _ us Q I r ⟨p, ns, rfl, e2, h.1, fun m h1 h2 => (h.2 m h1 h2).fin hr rfl⟩
    · obtain ⟨v, u, rfl, r1, r2⟩ := reps2 rs
      cases (show v = V.int _ from r1)
      cases (show u = V.int _ from r2)
      rename_i i j
      refine L2.call_min2 hc pins s σ H _ us Q I r ⟨i, j, rfl, ?_⟩
      have e : (if j < i then j else i) = min i j := by split <;> omega
      rw [e]
      exact post.fin h hr rfl
theorem call_sorted : ACall X (.builtin "sorted") cSorted := by
  refine ⟨fun ds A Q Q' k h => ?_, fun pins s σ H xs us Q I r h => ?_⟩
  · unfold cSorted at h ⊢
    split at h <;> first | exact h.elim | exact onL_mono h fun ds h => onK_mono h fun ns h ns' h1 h2 => k _ _ (h ns' h1 h2)
  · obtain ⟨ds, A, hr, rs, h⟩ := h
    unfold cSorted at h
    split at h <;> first | exact h.elim | skip
    obtain ⟨v, rfl, r1⟩ := reps1 rs
    obtain ⟨ds, p, vs, e1, e2, q, h⟩ := onL_get hr r1 h
    obtain ⟨ns, e3, h⟩ := onK_get h
    rw [ints?_eq e3] at q
    rw [q.ints] at e2
    subst e1
    exact L2.cr_sortedI pins s σ H _ us Q I r ⟨p, ns, rfl, SqL.of e2, fun ns' l h1 h2 hl => h ns' h1 h2 _ _ (adv_new hr hl).1 (adv_new hr hl).2 (rep_lst hr hl (Reps.of_ints _))⟩

/-! ### isinstance -/
def tyN : D → String
  | .non => "NoneType"
  | .bl _ => "bool"
  | .int _ => "int"
  | .str _ => "str"
  | .tup _ => "tuple"
  | .lst _ => "list"
  | .ref _ => "list"
  | .scr _ => "list"
theorem tyx_of {K : PySem.W.Frag} {A : AH} {H : Hp} (hr : HRep K A H) {d : D} {v : V} (r : Rep K A H d v) (hl : ∀ a, d = .ref a → ∃ ds, A a = some (.lst ds)) : TyX K H v (.type (tyN d)) := by
  cases d with
  | non => cases (show v = V.non from r); exact .base .non
  | bl b => cases (show v = V.bl b from r); exact .base (.bl _)
  | int b => cases (show v = V.int b from r); exact .base (.int _)
  | str b => cases (show v = V.str b from r); exact .base (.str _)
  | tup ds =>
    obtain ⟨a, xs, e, t, _⟩ := r
    subst e
    rcases t with ⟨_, t | ⟨o, t⟩⟩ | ⟨o, its, n, t1, t2, _⟩
    · exact .base (.tup t)
    · exact .fTuple t
    · exact .kTuple t1 t2
  | lst ds =>
    obtain ⟨a, xs, e, t, _⟩ := r
    subst e
    exact .base (.lst t.2)
  | ref a =>
    cases (show v = V.ref a from r)
    obtain ⟨ds, e0⟩ := hl a rfl
    obtain ⟨ws, e2, q⟩ := hr _ _ e0
    exact .base (.lst e2)
  | scr ds =>
    obtain ⟨a, e, t⟩ := r
    subst e
    rcases t with ⟨_, t | ⟨o, t⟩⟩ | ⟨o, its, n, t1, t2, _⟩
    · exact .base (.lst t)
    · exact .base (.frz t)
    · exact .kList t1 t2
/-- is a value of the type T (a name among these) -/
def isTy (T : String) (d : D) : Bool := match d with
  | .bl _ => T == "bool" || T == "int"
  | .int _ => T == "int"
  | .str _ => T == "str"
  | .tup _ => T == "tuple"
  | .lst _ => T == "list"
  | .ref _ => T == "list"
  | .scr _ => T == "list"
  | .non => false
def isiK (T : String) (d : D) (A : AH) (Q : DK) : Prop := match d with
  | .ref p => (∃ ds, A p = some (.lst ds)) ∧ Q (.bl (isTy T (.ref p))) A
  | d => Q (.bl (isTy T d)) A
def aIsI (T : String) (t : AT) : AT := fun σ A Q => t σ A fun d A' => isiK T d A' Q
theorem isiK_get {T : String} {d : D} {A : AH} {Q : DK} (h : isiK T d A Q) : (∀ a, d = .ref a → ∃ ds, A a = some (.lst ds)) ∧ Q (.bl (isTy T d)) A := by
  cases d <;> first
    | exact ⟨fun a e => (by cases e), h⟩
    | (refine ⟨fun a e => ?_, h.2⟩
       cases e
       exact h.1)
theorem isiK_put {T : String} {d : D} {A : AH} {Q : DK} (h1 : ∀ a, d = .ref a → ∃ ds, A a = some (.lst ds)) (h : Q (.bl (isTy T d)) A) : isiK T d A Q := by
  cases d <;> first | exact h | exact ⟨h1 _ rfl, h⟩
theorem ae_isi {T x : Str} {n : String} {p p2 : Pos} (ha : AE X e ta) (hm : X.mg "isinstance" = none) (hT : X.mg T = none) (hv : bootBuiltins T = some (.type n)) (hk : ∀ d : D, kitB (tyN d) n = some (isTy n d)) (hx : x = "isinstance" := by rfl) (hg : Gl X "isinstance" := by rfl) (hgT : Gl X T := by rfl) (hnT : T ≠ "__name__" := by decide) (hdT : (T == ("__debug__" : Str)) = false := by decide)
    (he : starEach (e :: [Expr.Name T p2]) X.env = (false, eval e X.env) :: starEach [Expr.Name T p2] X.env := by rfl) : AE X (.Call (.Name x p) [e, .Name T p2] [] pos) (aIsI n ta) := by
  subst hx
  have pT : PE X (.Name T p2) (tC (.ty n)) := pe_bltn hgT hT hv rfl hnT hdT
  have hc := pe_callB (p := p) (pos := pos) L2.call_isi hg hm (by decide +kernel) (pa_cons ha.pe (pa_cons pT pa_nil) he) (he := he)
  refine ⟨fun σ A Q Q' k q => ha.mono _ _ _ _ (fun d A1 q => ?_) q, pe_weak hc fun vs H Q q => ?_⟩
  · have g := isiK_get q
    exact isiK_put g.1 (k _ _ g.2)
  · obtain ⟨σ, A, hr, sr, q⟩ := q
    refine ⟨σ, A, hr, sr, ha.mono _ _ _ _ (fun d A1 q v1 H1 a1 r1 e1 => ?_) q⟩
    have g := isiK_get q
    exact ⟨v1, .ty n, _, _, _, rfl, .ty n, tyx_of r1 e1 g.1, kit_ty (hk d), g.2 _ _ a1 r1 rfl⟩
theorem kit_int (d : D) : kitB (tyN d) "int" = some (isTy "int" d) := by cases d <;> (first | decide +kernel | rfl)
theorem kit_bool (d : D) : kitB (tyN d) "bool" = some (isTy "bool" d) := by cases d <;> (first | decide +kernel | rfl)
theorem kit_tuple (d : D) : kitB (tyN d) "tuple" = some (isTy "tuple" d) := by cases d <;> (first | decide +kernel | rfl)
theorem kit_list (d : D) : kitB (tyN d) "list" = some (isTy "list" d) := by cases d <;> (first | decide +kernel | rfl)
theorem kit_str (d : D) : kitB (tyN d) "str" = some (isTy "str" d) := by cases d <;> (first | decide +kernel | rfl)
end
/-! ### in, of ints -/
def aIn : D → D → AH → DK → Prop
  | .int i, .tup es, A, Q => ∃ js, ints? es = some js ∧ Q (.bl (decide (i ∈ js))) A
  | .int i, .lst es, A, Q => ∃ js, ints? es = some js ∧ Q (.bl (decide (i ∈ js))) A
  | _, _, _, _ => False
def aNotIn : D → D → AH → DK → Prop
  | .int i, .tup es, A, Q => ∃ js, ints? es = some js ∧ Q (.bl (!decide (i ∈ js))) A
  | .int i, .lst es, A, Q => ∃ js, ints? es = some js ∧ Q (.bl (!decide (i ∈ js))) A
  | _, _, _, _ => False
theorem inV_ints (i : Int) (js : List Int) : inV (.int i) (js.map V.int) = decide (i ∈ js) := by
  unfold inV
  rw [List.any_map, Bool.eq_iff_iff, List.any_eq_true, decide_eq_true_eq]
  constructor
  · rintro ⟨x, hx, e⟩
    have : x = i := eq_of_beq e
    rw [← this]; exact hx
  · intro h
    exact ⟨i, h, (beq_self_eq_true i : (i == i) = true)⟩
theorem flat_ints (js : List Int) : (js.map V.int).all flatV = true := by
  rw [List.all_map, List.all_eq_true]
  intro x _
  rfl
section
variable {X : Cx}
theorem op_in (_hu : X.A.units + 64 < cLine) : AOp X (compareOp .In) aIn := by
  refine ⟨fun d e A Q Q' k h => ?_, ?_⟩
  · cases d <;> cases e <;> first | exact h.elim | exact ⟨h.choose, h.choose_spec.1, k _ _ h.choose_spec.2⟩
  · intro pins s σ H x y v u Q I rx ry ⟨d, e, A, hr, rd, re, h⟩
    cases d <;> cases e <;> first | exact (show False from h).elim | skip
    all_goals
      cases (show x = V.int _ from rd)
      obtain ⟨p, vs, rfl, t, q⟩ := re
      obtain ⟨js, e1, h⟩ := h
      cases ints?_eq e1
      cases Reps.ints q
      have sq := t.sq (K := X.K)
      refine L2.op_in_seq pins s σ H _ _ v u Q I rx ry ⟨p, _, rfl, ?_, rfl, flat_ints js, ?_⟩
      · first | exact .inl sq | exact .inr sq
      · show Q (.bl (inV (.int _) (js.map V.int))) H
        rw [inV_ints]
        exact h.fin hr rfl
theorem op_notIn (_hu : X.A.units + 64 < cLine) : AOp X (compareOp .NotIn) aNotIn := by
  refine ⟨fun d e A Q Q' k h => ?_, ?_⟩
  · cases d <;> cases e <;> first | exact h.elim | exact ⟨h.choose, h.choose_spec.1, k _ _ h.choose_spec.2⟩
  · intro pins s σ H x y v u Q I rx ry ⟨d, e, A, hr, rd, re, h⟩
    cases d <;> cases e <;> first | exact (show False from h).elim | skip
    all_goals
      cases (show x = V.int _ from rd)
      obtain ⟨p, vs, rfl, t, q⟩ := re
      obtain ⟨js, e1, h⟩ := h
      cases ints?_eq e1
      cases Reps.ints q
      have sq := t.sq (K := X.K)
      refine L2.op_notIn_seq pins s σ H _ _ v u Q I rx ry ⟨p, _, rfl, ?_, rfl, flat_ints js, ?_⟩
      · first | exact .inl sq | exact .inr sq
      · show Q (.bl (!inV (.int _) (js.map V.int))) H
        rw [inV_ints]
        exact h.fin hr rfl
end
end Rk

namespace Rk
open PySem PySem.Spec L2
/-! ### own defs -/
structure AFn (P : Program) (w : World) (K : PySem.W.Frag) (mg : Str → Option Value) (base : Heap) (k : Nat) (x : Str) (sp : List D → AH → DK → Prop) : Prop where
  mono : MonL sp
  ex : ∃ (f : Addr) (fd : FuncData) (ps : List Str), mg x = some (.ref f) ∧ PySem.W.keepIn K (.ref f) = true ∧ Binds K fd ps [] ∧ FnOk P w K mg base CX0 k f fd ps (fun vs H Q _ => liftL K sp vs H Q)
theorem AFn.le {P : Program} {w : World} {K : PySem.W.Frag} {mg : Str → Option Value} {base : Heap} {j k : Nat} {x : Str} {sp : List D → AH → DK → Prop} (F : AFn P w K mg base j x sp) (h : j ≤ k) : AFn P w K mg base k x sp := by
  obtain ⟨m, f, fd, ps, h1, h2, h3, h4⟩ := F
  exact ⟨m, f, fd, ps, h1, h2, h3, h4.mono h⟩
/-- a weaker promise -/
theorem AFn.imp {P : Program} {w : World} {K : PySem.W.Frag} {mg : Str → Option Value} {base : Heap} {k : Nat} {x : Str} {sp sp' : List D → AH → DK → Prop} (F : AFn P w K mg base k x sp) (m : MonL sp') (h : ∀ ds A Q, sp' ds A Q → sp ds A Q) : AFn P w K mg base k x sp' := by
  obtain ⟨_, f, fd, ps, h1, h2, h3, h4⟩ := F
  refine ⟨m, f, fd, ps, h1, h2, h3, h4.imp fun vs H Q E q => ?_⟩
  obtain ⟨ds, A, hr, rs, q⟩ := q
  exact ⟨ds, A, hr, rs, h _ _ _ q⟩
section
variable {X : Cx} {pos : Pos} {a b c e : Expr} {es : List Expr} {ta tb tc : AT} {tr : AAt}
theorem ae_call {k : Nat} {x : Str} {sp : List D → AH → DK → Prop} {p : Pos} (F : AFn X.prog X.w X.K X.mg X.base k x sp) (hr : Room k X.A) (ha : AA X (e :: es) tr) (hg : Gl X x := by rfl) (hdb : (x == ("__debug__" : Str)) = false := by decide) (he : starEach (e :: es) X.env = (false, eval e X.env) :: starEach es X.env := by rfl)
    (hpl : (backTo pos (starEach es X.env)).any (·.1) = false := by rfl) : AE X (.Call (.Name x p) (e :: es) [] pos) (aCall sp tr) := by
  obtain ⟨m, f, fd, ps, h1, h2, h3, h4⟩ := F
  refine ⟨mon_call m ha.mono, pe_weak (pe_call h4 hr hg h1 h2 h3 .nil pass0 ha.pa hdb he hpl) fun vs H Q h => ?_⟩
  have q := call_lift m ha.mono h
  obtain ⟨σ, A, hr', sr, q⟩ := q
  refine ⟨σ, A, hr', sr, ha.mono _ _ _ _ (fun ds A1 q us H1 a1 r1 e1 => ?_) q⟩
  have z := q us H1 a1 r1 e1
  rw [← List.append_nil us] at z
  exact z
theorem ae_call0 {k : Nat} {x : Str} {sp : List D → AH → DK → Prop} {p : Pos} (F : AFn X.prog X.w X.K X.mg X.base k x sp) (hr : Room k X.A) (hg : Gl X x := by rfl) (hdb : (x == ("__debug__" : Str)) = false := by decide) : AE X (.Call (.Name x p) [] [] pos) (aCall sp aNil) := by
  obtain ⟨m, f, fd, ps, h1, h2, h3, h4⟩ := F
  refine ⟨mon_call m (fun _ _ _ _ k q => k _ _ q), pe_weak (pe_call0 h4 hr hg h1 h2 h3 .nil pass0 hdb) fun vs H Q h => ?_⟩
  obtain ⟨σ, A, hr', sr, q⟩ := h
  exact ⟨[], A, hr', rfl, q⟩

/-! ### targets -/
abbrev AGf := D → ASt → AH → (ASt → AH → Prop) → Prop
abbrev AGfs := List D → ASt → AH → (ASt → AH → Prop) → Prop
def Out (sl : List Nat) (vs vs' : L2.St) : Prop := vs'.length = vs.length ∧ ∀ j, j ∉ sl → vs'[j]? = vs[j]?
theorem Out.refl {sl : List Nat} {vs : L2.St} : Out sl vs vs := ⟨rfl, fun _ _ => rfl⟩
theorem Out.trans {s1 s2 : List Nat} {v1 v2 v3 : L2.St} (h : Out s1 v1 v2) (g : Out s2 v2 v3) : Out (s1 ++ s2) v1 v3 :=
  ⟨g.1.trans h.1, fun j hj => by rw [List.mem_append, not_or] at hj; rw [g.2 j hj.2, h.2 j hj.1]⟩
def liftG (K : PySem.W.Frag) (sl : List Nat) (g : AGf) : TG := fun v vs H R => ∃ d σ A, HRep K A H ∧ SRep K A H σ vs ∧ Rep K A H d v ∧
  g d σ A (fun σ' A' => ∀ vs' H', Adv A H A' H' → HRep K A' H' → SRep K A' H' σ' vs' → Out sl vs vs' → R vs' H')
def liftGs (K : PySem.W.Frag) (sl : List Nat) (g : AGfs) : TGs := fun us vs H R => ∃ ds σ A, HRep K A H ∧ SRep K A H σ vs ∧ Reps K A H ds us ∧
  g ds σ A (fun σ' A' => ∀ vs' H', Adv A H A' H' → HRep K A' H' → SRep K A' H' σ' vs' → Out sl vs vs' → R vs' H')
structure AG (X : Cx) (tg : Expr) (sl : List Nat) (g : AGf) : Prop where
  mono : ∀ d σ A (Q Q' : ASt → AH → Prop), (∀ σ' A', Q σ' A' → Q' σ' A') → g d σ A Q → g d σ A Q'
  pg : PG X tg (liftG X.K sl g)
structure AGs (X : Cx) (tgs : List Expr) (sl : List Nat) (g : AGfs) : Prop where
  mono : ∀ d σ A (Q Q' : ASt → AH → Prop), (∀ σ' A', Q σ' A' → Q' σ' A') → g d σ A Q → g d σ A Q'
  pgs : PGs X tgs (liftGs X.K sl g)
theorem pg_weak {tg : Expr} {g g' : TG} (h : PG X tg g) (k : ∀ v σ H Q, g' v σ H Q → g v σ H Q) : PG X tg g' := ⟨fun pins s σ H v u Q I r q => h.run pins s σ H v u Q I r (k _ _ _ _ q)⟩
theorem pgs_weak {tg : List Expr} {g g' : TGs} (h : PGs X tg g) (k : ∀ v σ H Q, g' v σ H Q → g v σ H Q) : PGs X tg g' := ⟨fun pins s σ H v u Q I r q => h.run pins s σ H v u Q I r (k _ _ _ _ q)⟩
def agN (i : Nat) : AGf := fun d σ A Q => Q (sset σ i d) A
theorem out_set {vs : L2.St} {i : Nat} {o : Option V} : Out [i] vs (vs.set i o) := ⟨List.length_set .., fun j hj => by
  rw [List.mem_singleton] at hj
  rw [List.getElem?_set_ne (Ne.symm hj)]⟩
theorem ag_name (i : Nat) {x : Str} (hN : X.N.Nodup) (hi : X.N[i]? = some x := by rfl) (hx : Loc X.env.scope x := by first | exact .inl rfl | exact .inr rfl) (hf : X.fn x = true ∨ X.env.scope.names.lookup x = some .local := by first | exact .inl rfl | exact .inr rfl | assumption) : AG X (.Name x pos) [i] (agN i) := by
  refine ⟨fun d σ A Q Q' k q => k _ _ q, pg_weak (pg_name hN hi hx hf) fun v vs H R q => ?_⟩
  obtain ⟨d, σ, A, hr, sr, rd, q⟩ := q
  exact q _ _ Adv.refl hr (sr.set rd i) out_set
def agNil : AGfs := fun ds σ A Q => match ds with
  | [] => Q σ A
  | _ => False
def agCons (g : AGf) (gs : AGfs) : AGfs := fun ds σ A Q => match ds with
  | d :: r => g d σ A fun σ1 A1 => gs r σ1 A1 Q
  | [] => False
theorem ags_nil : AGs X [] [] agNil := by
  refine ⟨fun d σ A Q Q' k q => ?_, pgs_weak pgs_nil fun v vs H R q => ?_⟩
  · cases d with
    | nil => exact k _ _ q
    | cons _ _ => exact q.elim
  · obtain ⟨ds, σ, A, hr, sr, rd, q⟩ := q
    cases ds with
    | nil => exact ⟨rd, q _ _ Adv.refl hr sr Out.refl⟩
    | cons _ _ => exact (show False from q).elim
theorem ags_cons {s1 s2 : List Nat} {g : AGf} {gs : AGfs} (h : AG X e s1 g) (hs : AGs X es s2 gs) (hst : (assignEach (e :: es) X.env).map (·.2) = assign e X.env :: (assignEach es X.env).map (·.2) := by rfl) : AGs X (e :: es) (s1 ++ s2) (agCons g gs) := by
  refine ⟨fun d σ A Q Q' k q => ?_, pgs_weak (pgs_cons h.pg hs.pgs hst) fun v vs H R q => ?_⟩
  · cases d with
    | nil => exact q.elim
    | cons d r => exact h.mono _ _ _ _ _ (fun σ1 A1 q => hs.mono _ _ _ _ _ k q) q
  · obtain ⟨ds, σ, A, hr, sr, rd, q⟩ := q
    cases ds with
    | nil => exact (show False from q).elim
    | cons d r =>
      obtain ⟨v1, vr, rfl, x, y⟩ := rd
      refine ⟨v1, vr, rfl, d, σ, A, hr, sr, x, h.mono _ _ _ _ _ (fun σ1 A1 q vs1 H1 a1 r1 sr1 o1 => ?_) q⟩
      refine ⟨r, σ1, A1, r1, sr1, y.adv a1, hs.mono _ _ _ _ _ (fun σ2 A2 q vs2 H2 a2 r2 sr2 o2 => ?_) q⟩
      exact q vs2 H2 (a1.trans a2) r2 sr2 (o1.trans o2)
def agT (n : Nat) (gs : AGfs) : AGf := fun d σ A Q => match d with
  | .tup ds => ds.length = n ∧ gs ds σ A Q
  | .lst ds => ds.length = n ∧ gs ds σ A Q
  | .ref p => ∃ ds, A p = some (.lst ds) ∧ ds.length = n ∧ gs ds σ A Q
  | _ => False
theorem pg_tl {X : Cx} {pos : Pos} {es : List Expr} {k : Nat} {t : TGs} {n : Nat} (hc : X.calm = true) (h : PGs X es t)
    (hn : (assignEach es X.env).length = n := by rfl) (hst : (assignEach es X.env).findIdx? (·.1) = none := by rfl) : PG X (.Tuple es k pos) (fun v σ H Q => gTup X.K n t v σ H Q ∨ gUnl X.K n t v σ H Q) :=
  ⟨fun pins s σ H v u Q I r hw => hw.elim (fun q => (pg_tup hc h hn hst).run pins s σ H v u Q I r q) fun q => (pg_unl hc h hn hst).run pins s σ H v u Q I r q⟩
theorem ag_tup {sl : List Nat} {gs : AGfs} {kk : Nat} {n : Nat} (hc : X.calm = true) (h : AGs X es sl gs) (hn : (assignEach es X.env).length = n := by rfl) (hst : (assignEach es X.env).findIdx? (·.1) = none := by rfl) : AG X (.Tuple es kk pos) sl (agT n gs) := by
  refine ⟨fun d σ A Q Q' k q => ?_, pg_weak (pg_tl hc h.pgs hn hst) fun v vs H R q => ?_⟩
  · cases d <;> first | exact (show False from q).elim | exact ⟨q.1, h.mono _ _ _ _ _ k q.2⟩ | exact ⟨q.choose, q.choose_spec.1, q.choose_spec.2.1, h.mono _ _ _ _ _ k q.choose_spec.2.2⟩
  · obtain ⟨d, σ, A, hr, sr, rd, q⟩ := q
    cases d <;> first | exact (show False from q).elim | skip
    · obtain ⟨p, xs, e1, t, r⟩ := rd
      exact .inl ⟨p, xs, e1, t.sq, by rw [r.length]; exact q.1, _, σ, A, hr, sr, r, q.2⟩
    · obtain ⟨p, xs, e1, t, r⟩ := rd
      exact .inr ⟨p, xs, e1, t.sq, by rw [r.length]; exact q.1, _, σ, A, hr, sr, r, q.2⟩
    · obtain ⟨ds, e0, q⟩ := q
      obtain ⟨ws, e2, r⟩ := hr _ _ e0
      exact .inr ⟨_, ws, rd, SqL.of e2, by rw [r.length]; exact q.1, _, σ, A, hr, sr, r, q.2⟩
/-- a list with the item at i put -/
def putD (ds : List D) (i : Int) (d : D) : Option (List D) := match i with
  | .ofNat n => if n < ds.length then some (ds.set n d) else none
  | .negSucc n => if n < ds.length then some (ds.set (ds.length - 1 - n) d) else none
def agS (to ti : AT) : AGf := fun d σ A Q => to σ A fun o A1 => ti σ A1 fun i A2 => match o, i with
  | .ref p, .int k => ∃ ds, A2 p = some (.lst ds) ∧ onK (putD ds k d) fun ds' => Q σ (aupd A2 p (.lst ds'))
  | _, _ => False
theorem putD_set {K : PySem.W.Frag} {A : AH} {H : Hp} {ds ds' : List D} {vs : List V} {d : D} {v : V} {k : Int} (r : Reps K A H ds vs) (rd : Rep K A H d v) (h : putD ds k d = some ds') : ∃ j, ixN vs.length k = some j ∧ Reps K A H ds' (vs.set j v) := by
  have hl := r.length
  cases k with
  | ofNat n =>
    have h : (if n < ds.length then some (ds.set n d) else none) = some ds' := h
    by_cases hn : n < ds.length
    · rw [if_pos hn] at h
      cases h
      refine ⟨n, ?_, r.set rd n⟩
      unfold ixN
      have en : (Int.ofNat n) = (n : Int) := rfl
      rw [en, if_pos (by omega), if_pos (by omega)]
      rfl
    · rw [if_neg hn] at h
      cases h
  | negSucc n =>
    have h : (if n < ds.length then some (ds.set (ds.length - 1 - n) d) else none) = some ds' := h
    by_cases hn : n < ds.length
    · rw [if_pos hn] at h
      cases h
      refine ⟨ds.length - 1 - n, ?_, r.set rd _⟩
      unfold ixN
      rw [if_neg (by omega), if_pos (by omega)]
      exact congrArg some (by omega)
    · rw [if_neg hn] at h
      cases h
theorem ag_sub {o i : Expr} {to ti : AT} (ho : AE X o to) (hi : AE X i ti) (ha : ∀ v, assign (.Subscript o i pos) X.env v = (do
      let ov ← holding [v] (eval o X.env)
      let iv ← holding [v, ov] (eval i X.env)
      standAt pos
      holding [v, ov, iv] (setItem ov iv v)
      release [v, ov, iv] []) := by intro _; rfl) : AG X (.Subscript o i pos) [] (agS to ti) := by
  refine ⟨fun d σ A Q Q' k q => ?_, pg_weak (pg_sub ho.pe hi.pe set_list ha) fun v vs H R q => ?_⟩
  · refine ho.mono _ _ _ _ (fun o A1 q => hi.mono _ _ _ _ (fun i A2 q => ?_) q) q
    cases o <;> cases i <;> first | exact (show False from q).elim | exact ⟨q.choose, q.choose_spec.1, onK_mono q.choose_spec.2 fun ds' => k _ _⟩
  · obtain ⟨d, σ, A, hr, sr, rd, q⟩ := q
    refine ⟨σ, A, hr, sr, ho.mono _ _ _ _ (fun o A1 q v1 H1 a1 r1 e1 => ?_) q⟩
    refine ⟨σ, A1, r1, sr.adv a1, hi.mono _ _ _ _ (fun i A2 q v2 H2 a2 r2 e2 => ?_) q⟩
    cases o <;> cases i <;> first | exact (show False from q).elim | skip
    cases (show v1 = V.ref _ from e1)
    cases (show v2 = V.int _ from e2)
    obtain ⟨ds, e0, q⟩ := q
    obtain ⟨ws, e3, r⟩ := r2 _ _ e0
    obtain ⟨ds', e4, q⟩ := onK_get q
    have rd2 := rd.adv (a1.trans a2)
    obtain ⟨j, e5, r5⟩ := putD_set r rd2 e4
    have ad := adv_set r2 e0 r5
    exact ⟨_, ws, _, j, rfl, rfl, e3, e5, q _ _ ((a1.trans a2).trans ad.1) ad.2 (sr.adv ((a1.trans a2).trans ad.1)) Out.refl⟩

/-! ### statements -/
def sNext : ASt' := fun D σ A => D.nx σ A
def sSeq (t u : ASt') : ASt' := fun D σ A => t { D with nx := u D } σ A
variable {st : Stmt} {sts : List Stmt} {t u : ASt'}
theorem ss_nil : ASs X [] sNext := ⟨fun D D' σ A k q => k.nx _ _ q, pss_weak pss_nil fun D vs H ⟨σ, A, hr, sr, q⟩ => q _ _ Adv.refl hr sr⟩
theorem mon_seq {t u : ASt'} (mt : MonS t) (mu : MonS u) : MonS (sSeq t u) := fun D D' σ A k q => mt { D with nx := u D } { D' with nx := u D' } σ A ⟨fun σ1 A1 q => mu _ _ _ _ k q, k.rt, k.bk, k.ct⟩ q
theorem ss_cons (h : AS X st t) (hs : ASs X sts u) : ASs X (st :: sts) (sSeq t u) := by
  refine ⟨mon_seq h.mono hs.mono, pss_weak (pss_cons h.ps hs.pss) fun D vs H q => ?_⟩
  obtain ⟨σ, A, hr, sr, q⟩ := q
  refine ⟨σ, A, hr, sr, h.mono { liftD X.K A H D with nx := u (liftD X.K A H D) } _ _ _ ⟨fun σ1 A1 q vs1 H1 a1 r1 s1 => ?_, fun _ _ q => q, fun _ _ q => q, fun _ _ q => q⟩ q⟩
  exact ⟨σ1, A1, r1, s1, hs.mono (liftD X.K A H D) _ _ _ (liftD.adv a1) q⟩
theorem ss_one (h : AS X st t) : ASs X [st] t := ⟨h.mono, pss_one h.ps⟩
theorem as_pass : AS X (.Pass pos) sNext := ⟨fun D D' σ A k q => k.nx _ _ q, ps_weak ps_pass fun D vs H ⟨σ, A, hr, sr, q⟩ => q _ _ Adv.refl hr sr⟩
def sBreak : ASt' := fun D σ A => D.bk σ A
def sCont : ASt' := fun D σ A => D.ct σ A
theorem as_break : AS X (.Break pos) sBreak := ⟨fun D D' σ A k q => k.bk _ _ q, ps_weak ps_break fun D vs H ⟨σ, A, hr, sr, q⟩ => q _ _ Adv.refl hr sr⟩
theorem as_cont : AS X (.Continue pos) sCont := ⟨fun D D' σ A k q => k.ct _ _ q, ps_weak ps_continue fun D vs H ⟨σ, A, hr, sr, q⟩ => q _ _ Adv.refl hr sr⟩
def sNever : ASt' := fun _ _ _ => False
theorem as_never : AS X st sNever := ⟨fun D D' σ A k q => q, ps_weak ps_never fun D vs H ⟨σ, A, hr, sr, q⟩ => q⟩
def sDrop (t : AT) : ASt' := fun D σ A => t σ A fun _ A1 => D.nx σ A1
theorem as_expr (h : AE X e ta) (hs : swapsWith e none pos.line X.env = pure false := by rfl) : AS X (.Expr e pos) (sDrop ta) := by
  refine ⟨fun D D' σ A k q => h.mono _ _ _ _ (fun _ _ q => k.nx _ _ q) q, ps_weak (ps_expr h.pe hs) fun D vs H q => ?_⟩
  obtain ⟨σ, A, hr, sr, q⟩ := q
  exact ⟨σ, A, hr, sr, h.mono _ _ _ _ (fun d A1 q v1 H1 a1 r1 e1 => q _ _ a1 r1 (sr.adv a1)) q⟩
def sRet (t : AT) : ASt' := fun D σ A => t σ A D.rt
theorem as_ret (h : AE X e ta) : AS X (.Return (some e) pos) (sRet ta) := by
  refine ⟨fun D D' σ A k q => h.mono _ _ _ _ (fun _ _ q => k.rt _ _ q) q, ps_weak (ps_ret h.pe) fun D vs H q => ?_⟩
  obtain ⟨σ, A, hr, sr, q⟩ := q
  exact ⟨σ, A, hr, sr, q⟩
def sRetN : ASt' := fun D _ A => D.rt .non A
theorem as_retN : AS X (.Return none pos) sRetN := ⟨fun D D' σ A k q => k.rt _ _ q, ps_weak ps_retN fun D vs H ⟨σ, A, hr, sr, q⟩ => q _ _ Adv.refl hr rfl⟩
def sIf (c : ABt) (t u : ASt') : ASt' := fun D σ A => c σ A fun k A1 => br k (t D σ A1) (u D σ A1)
theorem as_if {p q : List Stmt} {tc : ABt} (hc : AB X c tc) (hp : ASs X p t) (hq : ASs X q u) : AS X (.If c p q pos) (sIf tc t u) := by
  refine ⟨fun D D' σ A k q => hc.mono _ _ _ _ (fun b A1 q => br_mono q (hp.mono _ _ _ _ k) (hq.mono _ _ _ _ k)) q, ps_weak (ps_if hc.pt hp.pss hq.pss) fun D vs H q => ?_⟩
  obtain ⟨σ, A, hr, sr, q⟩ := q
  refine ⟨σ, A, hr, sr, hc.mono _ _ _ _ (fun b A1 q H1 a1 r1 => br_ite (br_mono q (fun q => ?_) fun q => ?_)) q⟩
  · exact ⟨σ, A1, r1, sr.adv a1, hp.mono _ _ _ _ (liftD.adv a1) q⟩
  · exact ⟨σ, A1, r1, sr.adv a1, hq.mono _ _ _ _ (liftD.adv a1) q⟩
def sAsg (t : AT) (g : AGf) : ASt' := fun D σ A => t σ A fun d A1 => g d σ A1 D.nx
theorem asg_lift {K : PySem.W.Frag} {sl : List Nat} {g : AGf} (mt : MonE ta) (mg : ∀ d σ A (Q Q' : ASt → AH → Prop), (∀ σ' A', Q σ' A' → Q' σ' A') → g d σ A Q → g d σ A Q') {D : Ends} {vs : L2.St} {H : Hp} (h : liftS K (sAsg ta g) D vs H) : tAsg (liftE K ta) (liftG K sl g) D vs H := by
  obtain ⟨σ, A, hr, sr, q⟩ := h
  refine ⟨σ, A, hr, sr, mt _ _ _ _ (fun d A1 q v1 H1 a1 r1 e1 => ?_) q⟩
  exact ⟨d, σ, A1, r1, sr.adv a1, e1, mg _ _ _ _ _ (fun σ2 A2 q vs2 H2 a2 r2 s2 _ => q _ _ (a1.trans a2) r2 s2) q⟩
theorem mon_asg {g : AGf} (mt : MonE ta) (mg : ∀ d σ A (Q Q' : ASt → AH → Prop), (∀ σ' A', Q σ' A' → Q' σ' A') → g d σ A Q → g d σ A Q') : MonS (sAsg ta g) := fun D D' σ A k q => mt _ _ _ _ (fun d A1 q => mg _ _ _ _ _ k.nx q) q
/-- a target of any form -/
theorem as_asg {tg : Expr} {sl : List Nat} {g : AGf} (he : AE X e ta) (hg : AG X tg sl g) (hs : swapsWithSole [tg] e pos.line X.env = pure false := by rfl) (hw : swappedStores [tg] e X.env = pure none := by rfl)
    (h1 : (assignEach [tg] X.env).map (·.2) = [assign tg X.env] := by rfl) : AS X (.Assign [tg] e pos) (sAsg ta g) :=
  ⟨mon_asg he.mono hg.mono, ps_weak (ps_asg he.pe hg.pg hs hw h1) fun D vs H q => asg_lift he.mono hg.mono q⟩
/-- a name -/
theorem as_set (i : Nat) {x : Str} {p : Pos} (he : AE X e ta) (hN : X.N.Nodup) (hi : X.N[i]? = some x := by rfl) (hx : Loc X.env.scope x := by first | exact .inl rfl | exact .inr rfl) (hs : swapsWith e (some (.Name x p)) pos.line X.env = pure false := by rfl) (hf : X.fn x = true ∨ X.env.scope.names.lookup x = some .local := by first | exact .inl rfl | exact .inr rfl | assumption) :
    AS X (.Assign [.Name x p] e pos) (sAsg ta (agN i)) := by
  have hg : AG X (.Name x p) [i] (agN i) := ag_name i hN hi hx hf
  refine ⟨mon_asg he.mono hg.mono, ps_weak (ps_set hN hi hx he.pe hs hf) fun D vs H q => ?_⟩
  obtain ⟨σ, A, hr, sr, q⟩ := q
  refine ⟨σ, A, hr, sr, he.mono _ _ _ _ (fun d A1 q v1 H1 a1 r1 e1 => ?_) q⟩
  exact q _ _ a1 r1 ((sr.adv a1).set e1 i)
/-- a, b = x, y with plain names -/
def sPar (i j : Nat) (ta : AAt) : ASt' := fun D σ A => ta σ A fun ds A1 => match ds with
  | [d, e] => D.nx (sset (sset σ i d) j e) A1
  | _ => False
theorem as_par (i j : Nat) {x y : Str} {px py pt : Pos} {kt k2 pt2} (ha : AA X [a, b] tr) (hc : X.calm = true) (hN : X.N.Nodup) (hi : X.N[i]? = some x := by rfl) (hj : X.N[j]? = some y := by rfl) (hij : i ≠ j := by decide)
    (hx : X.env.scope.names.lookup x = some .local := by rfl) (hy : X.env.scope.names.lookup y = some .local := by rfl)
    (hw : swappedStores [.Tuple [.Name x px, .Name y py] kt pt] (.Tuple [a, b] k2 pt2) X.env = pure (some [x, y]) := by rfl)
    (hs : swapsWithSole [.Tuple [.Name x px, .Name y py] kt pt] (.Tuple [a, b] k2 pt2) pos.line X.env = pure false := by rfl) :
    AS X (.Assign [.Tuple [.Name x px, .Name y py] kt pt] (.Tuple [a, b] k2 pt2) pos) (sPar i j tr) := by
  refine ⟨fun D D' σ A k q => ha.mono _ _ _ _ (fun ds A1 q => ?_) q, ps_weak (ps_par hc hN hi hj hij hx hy ha.pa hw hs) fun D vs H q => ?_⟩
  · split at q <;> first | exact q.elim | exact k.nx _ _ q
  · obtain ⟨σ, A, hr, sr, q⟩ := q
    refine ⟨σ, A, hr, sr, ha.mono _ _ _ _ (fun ds A1 q us H1 a1 r1 e1 => ?_) q⟩
    split at q <;> first | exact q.elim | skip
    obtain ⟨v, w, rfl, x1, x2⟩ := reps2 e1
    exact ⟨v, w, rfl, q _ _ a1 r1 (((sr.adv a1).set x1 i).set x2 j)⟩
def sPar3 (i j l : Nat) (ta : AAt) : ASt' := fun D σ A => ta σ A fun ds A1 => match ds with
  | [d, e, f] => D.nx (sset (sset (sset σ i d) j e) l f) A1
  | _ => False
theorem as_par3 (i j l : Nat) {x y z : Str} {px py pz pt : Pos} {kt k2 pt2} (ha : AA X [a, b, c] tr) (hc : X.calm = true) (hN : X.N.Nodup) (hi : X.N[i]? = some x := by rfl) (hj : X.N[j]? = some y := by rfl) (hl : X.N[l]? = some z := by rfl) (hij : i ≠ j := by decide) (hil : i ≠ l := by decide) (hjl : j ≠ l := by decide)
    (hx : X.env.scope.names.lookup x = some .local := by rfl) (hy : X.env.scope.names.lookup y = some .local := by rfl) (hz : X.env.scope.names.lookup z = some .local := by rfl)
    (hw : swappedStores [.Tuple [.Name x px, .Name y py, .Name z pz] kt pt] (.Tuple [a, b, c] k2 pt2) X.env = pure (some [x, y, z]) := by rfl)
    (hs : swapsWithSole [.Tuple [.Name x px, .Name y py, .Name z pz] kt pt] (.Tuple [a, b, c] k2 pt2) pos.line X.env = pure false := by rfl) :
    AS X (.Assign [.Tuple [.Name x px, .Name y py, .Name z pz] kt pt] (.Tuple [a, b, c] k2 pt2) pos) (sPar3 i j l tr) := by
  refine ⟨fun D D' σ A k q => ha.mono _ _ _ _ (fun ds A1 q => ?_) q, ps_weak (ps_par3 hc hN hi hj hl hij hil hjl hx hy hz ha.pa hw hs) fun D vs H q => ?_⟩
  · split at q <;> first | exact q.elim | exact k.nx _ _ q
  · obtain ⟨σ, A, hr, sr, q⟩ := q
    refine ⟨σ, A, hr, sr, ha.mono _ _ _ _ (fun ds A1 q us H1 a1 r1 e1 => ?_) q⟩
    split at q <;> first | exact q.elim | skip
    obtain ⟨v, q1, rfl, x1, y1⟩ := e1
    obtain ⟨w, w2, rfl, x2, x3⟩ := reps2 y1
    exact ⟨v, w, w2, rfl, q _ _ a1 r1 ((((sr.adv a1).set x1 i).set x2 j).set x3 l)⟩
/-! ### op= -/
def aAddI : D → D → AH → DK → Prop
  | .int i, .int j, A, Q => Q (.int (i + j)) A
  | .ref p, .lst ys, A, Q => ∃ ds, A p = some (.lst ds) ∧ ds.length + ys.length ≤ 1000000 ∧ Q (.ref p) (aupd A p (.lst (ds ++ ys)))
  | _, _, _, _ => False
theorem iop_add : AOp X (inplaceOp .Add) aAddI := by
  refine ⟨fun d e A Q Q' k h => ?_, ?_⟩
  · cases d <;> cases e <;> first | exact h.elim | exact k _ _ h | exact ⟨h.choose, h.choose_spec.1, h.choose_spec.2.1, k _ _ h.choose_spec.2.2⟩
  · intro pins s σ H x y v u Q I rx ry ⟨d, e, A, hr, rd, re, h⟩
    cases d <;> cases e <;> first | exact (show False from h).elim | skip
    · cases (show x = V.int _ from rd)
      cases (show y = V.int _ from re)
      exact op_ints0 (A := A) L2.iop_add I rx ry (post.fin h hr rfl)
    · cases (show x = V.ref _ from rd)
      obtain ⟨q, us, rfl, t2, q2⟩ := re
      obtain ⟨ds, e0, hl, h⟩ := h
      obtain ⟨ws, e1, r1⟩ := hr _ _ e0
      have st := adv_set hr e0 (r1.append q2)
      exact L2.iop_ext pins s σ H _ _ v u Q I rx ry ⟨_, _, ws, us, rfl, rfl, e1, t2.2, le_ok (by rw [r1.length, q2.length]; exact hl), h _ _ st.1 st.2 rfl⟩
theorem iop_sub : AOp X (inplaceOp .Sub) aSub := by
  refine ⟨fun d e A Q Q' k h => ?_, ?_⟩
  · cases d <;> cases e <;> first | exact h.elim | exact k _ _ h
  · intro pins s σ H x y v u Q I rx ry ⟨d, e, A, hr, rd, re, h⟩
    cases d <;> cases e <;> first | exact (show False from h).elim | skip
    cases (show x = V.int _ from rd)
    cases (show y = V.int _ from re)
    exact op_ints0 (A := A) L2.iop_sub I rx ry (post.fin h hr rfl)
def sAug (i : Nat) (f : D → D → AH → DK → Prop) (te : AT) : ASt' := fun D σ A => match slot σ i with
  | some d => te σ A fun e A1 => f d e A1 fun z A2 => D.nx (sset σ i z) A2
  | none => False
theorem as_aug (i : Nat) {x : Str} {p : Pos} {op : Operator} {f : D → D → AH → DK → Prop} (ho : AOp X (inplaceOp op) f) (he : AE X e ta) (hN : X.N.Nodup) (hi : X.N[i]? = some x := by rfl) (hx : Loc X.env.scope x := by first | exact .inl rfl | exact .inr rfl)
    (hf : X.fn x = true ∨ X.env.scope.names.lookup x = some .local := by first | exact .inl rfl | exact .inr rfl | assumption) : AS X (.AugAssign (.Name x p) op e pos) (sAug i f ta) := by
  have hp : PIp X op (lift2 X.K f) := fun pins s σ H x y v u Q I rx ry q => ho.op pins s σ H x y v u Q I rx ry q
  refine ⟨fun D D' σ A k q => ?_, ps_weak (ps_aug hN hi hx he.pe hp hf) fun D vs H q => ?_⟩
  · unfold sAug at q ⊢
    cases e1 : slot σ i with
    | none => rw [e1] at q; exact q
    | some d =>
      rw [e1] at q
      exact he.mono _ _ _ _ (fun e A1 q => ho.mono _ _ _ _ _ (fun z A2 q => k.nx _ _ q) q) q
  · obtain ⟨σ, A, hr, sr, q⟩ := q
    unfold sAug at q
    cases e1 : slot σ i with
    | none => rw [e1] at q; exact q.elim
    | some d =>
      rw [e1] at q
      obtain ⟨v, e2, r⟩ := sr.get e1
      refine ⟨v, e2, σ, A, hr, sr, he.mono _ _ _ _ (fun e A1 q v1 H1 a1 r1 x1 => ?_) q⟩
      refine ⟨d, e, A1, r1, r.adv a1, x1, ho.mono _ _ _ _ _ (fun z A2 q v2 H2 a2 r2 x2 => ?_) q⟩
      exact q _ _ (a1.trans a2) r2 ((sr.adv (a1.trans a2)).set x2 i)

/-! ### while -/
@[irreducible] def sWhileI (c : ABt) (tb : ASt') (D : AEnds) (σ : ASt) (A : AH) : Prop := ∃ W : Nat → ASt → AH → Prop, (∃ m, W m σ A) ∧ ∀ m σ A, W m σ A →
  c σ A fun b A1 => br b (tb { D with nx := fun σ' A' => ∃ m', m' < m ∧ W m' σ' A', ct := fun σ' A' => ∃ m', m' < m ∧ W m' σ' A', bk := D.nx } σ A1) (D.nx σ A1)
def sWhile (c : ABt) (tb : ASt') : ASt' := fun D σ A => sWhileI c tb D σ A
/-- while, by what holds of a state told by letters, and a number that falls -/
theorem while_st {α : Type} {c : ABt} {tb : ASt'} {D : AEnds} {σ : ASt} {A : AH} (f : α → ASt) (B : α → AH) (W : α → Prop) (μ : α → Nat) (x0 : α) (h0 : σ = f x0) (hA : A = B x0) (w0 : W x0)
    (hs : ∀ x, W x → c (f x) (B x) fun b A1 => br b (tb { D with nx := fun σ' A' => ∃ m', m' < μ x ∧ ∃ y, m' = μ y ∧ σ' = f y ∧ A' = B y ∧ W y, ct := fun σ' A' => ∃ m', m' < μ x ∧ ∃ y, m' = μ y ∧ σ' = f y ∧ A' = B y ∧ W y, bk := D.nx } (f x) A1) (D.nx (f x) A1)) : sWhileI c tb D σ A := by
  unfold sWhileI
  refine ⟨fun m σ A => ∃ x, m = μ x ∧ σ = f x ∧ A = B x ∧ W x, ⟨_, x0, rfl, h0, hA, w0⟩, ?_⟩
  rintro m σ A ⟨x, rfl, rfl, rfl, w⟩
  exact hs x w
theorem wl {α : Type} {f : α → ASt} {B : α → AH} {W : α → Prop} {μ : α → Nat} {n : Nat} {σ' : ASt} {A' : AH} (y : α) (h : μ y < n) (w : W y) (e : σ' = f y := by rfl) (e2 : A' = B y := by rfl) : ∃ m', m' < n ∧ ∃ y, m' = μ y ∧ σ' = f y ∧ A' = B y ∧ W y := ⟨_, h, y, rfl, e, e2, w⟩
theorem as_while {body : List Stmt} {tc : ABt} (hp : PassesOwn (model X.prog X.w) X.A X.env X.xe) (hc : AB X c tc) (hb : ASs X body t) : AS X (.While c body [] pos) (sWhile tc t) := by
  refine ⟨fun D D' σ A k q => ?_, ps_weak (ps_while hp hc.pt hb.pss) fun D vs H q => ?_⟩
  · unfold sWhile sWhileI at q ⊢
    obtain ⟨W, w0, turn⟩ := q
    exact ⟨W, w0, fun m σ A w => hc.mono _ _ _ _ (fun b A1 q => br_mono q (hb.mono { D with nx := fun σ' A' => ∃ m', m' < m ∧ W m' σ' A', ct := fun σ' A' => ∃ m', m' < m ∧ W m' σ' A', bk := D.nx } _ _ _ ⟨fun _ _ q => q, k.rt, k.nx, fun _ _ q => q⟩) (k.nx _ _)) (turn m σ A w)⟩
  · obtain ⟨σ, A, hr, sr, q⟩ := q
    unfold sWhile sWhileI at q
    obtain ⟨W, ⟨m0, w0⟩, turn⟩ := q
    refine ⟨fun m vs' H' => ∃ σ' A', Adv A H A' H' ∧ HRep X.K A' H' ∧ SRep X.K A' H' σ' vs' ∧ W m σ' A', ⟨m0, σ, A, Adv.refl, hr, sr, w0⟩, ?_⟩
    rintro m vs1 H1 ⟨σ1, A1, a1, r1, s1, w1⟩
    refine ⟨σ1, A1, r1, s1, hc.mono _ _ _ _ (fun b A2 q H2 a2 r2 => br_ite (br_mono q (fun q => ?_) fun q => ?_)) (turn m σ1 A1 w1)⟩
    · refine ⟨_, fun _ _ n => n, σ1, A2, r2, s1.adv a2, hb.mono { liftD X.K A H D with nx := fun σ' A' => ∃ m', m' < m ∧ W m' σ' A', ct := fun σ' A' => ∃ m', m' < m ∧ W m' σ' A', bk := (liftD X.K A H D).nx } _ _ _ ⟨fun σ3 A3 q vs3 H3 a3 r3 s3 => ?_, fun d A3 q => post.adv (a1.trans a2) q, fun σ3 A3 q => postS.adv (a1.trans a2) q, fun σ3 A3 q vs3 H3 a3 r3 s3 => ?_⟩ q⟩
      · obtain ⟨m', hm, w3⟩ := q
        exact ⟨m', hm, σ3, A3, (a1.trans a2).trans a3, r3, s3, w3⟩
      · obtain ⟨m', hm, w3⟩ := q
        exact ⟨m', hm, σ3, A3, (a1.trans a2).trans a3, r3, s3, w3⟩
    · exact q _ _ (a1.trans a2) r2 (s1.adv a2)
end
end Rk

namespace Rk
open PySem PySem.Spec L2
/-! ### what a for walks -/
abbrev Gd := Option (Addr × List D)
abbrev AIt := ASt → AH → (List D → Gd → AH → Prop) → Prop
/-- the list that is walked is as it was -/
def gdOk (g : Gd) (A : AH) : Prop := match g with
  | none => True
  | some (p, ds) => A p = some (.lst ds)
def guard (g : Gd) (A : AH) (q : Prop) : Prop := match g with
  | none => q
  | some (p, ds) => A p = some (.lst ds) ∧ q
theorem guard_mono {g : Gd} {A : AH} {q q' : Prop} (h : guard g A q) (k : q → q') : guard g A q' := by
  cases g with
  | none => exact k h
  | some x => exact ⟨h.1, k h.2⟩
theorem guard_get {g : Gd} {A : AH} {q : Prop} (h : guard g A q) : gdOk g A ∧ q := by
  cases g with
  | none => exact ⟨trivial, h⟩
  | some x => exact h
def ItOk (K : PySem.W.Frag) (A : AH) (H : Hp) (J : It) (its : List D) (g : Gd) : Prop := ∀ A' H', Adv A H A' H' → HRep K A' H' → gdOk g A' → ∀ i, (its.length ≤ i → J.stop i H') ∧ (i < its.length → J.go i H') ∧
  ∀ d, its[i]? = some d → ∀ x H'', J.yld i H' x H'' → Adv A' H' A' H'' ∧ HRep K A' H'' ∧ Rep K A' H'' d x
def postI (K : PySem.W.Frag) (A : AH) (H : Hp) (R : It → Hp → Prop) : List D → Gd → AH → Prop := fun its g A' => ∀ J H', Adv A H A' H' → HRep K A' H' → ItOk K A' H' J its g → R J H'
def liftI (K : PySem.W.Frag) (ti : AIt) : TI := fun vs H R => ∃ σ A, HRep K A H ∧ SRep K A H σ vs ∧ ti σ A (postI K A H R)
structure AI (X : Cx) (tg iter : Expr) (ti : AIt) : Prop where
  mono : ∀ σ A (Q Q' : List D → Gd → AH → Prop), (∀ l g A', Q l g A' → Q' l g A') → ti σ A Q → ti σ A Q'
  pi : PI X tg iter (liftI X.K ti)
theorem pi_weak {X : Cx} {tg iter : Expr} {t t' : TI} (h : PI X tg iter t) (k : ∀ σ H Q, t' σ H Q → t σ H Q) : PI X tg iter t' := ⟨fun pins s σ H R I q => h.run pins s σ H R I (k _ _ _ q)⟩
section
variable {X : Cx} {pos p : Pos} {a b c e e2 tg : Expr} {es : List Expr} {ta tb tc : AT} {tr : AAt}
def iSeqC (K : PySem.W.Frag) (tl : TE) : TI := fun σ H R => tl σ H fun x H1 => ∃ a, x = .ref a ∧ (((∃ xs, SqL K H1 a xs) ∧ R (Itl K a) H1) ∨ ((∃ xs, SqT K H1 a xs) ∧ R (Itt K a) H1))
theorem pi_seqC {l : Expr} {tl : TE} (hl : PE X l tl) : PI X tg l (iSeqC X.K tl) := by
  refine ⟨fun pins s σ H R I h => ?_⟩
  refine thn (hl.run pins s σ H _ I h) fun v s1 ⟨x, H1, I1, r1, q1⟩ => ?_
  obtain ⟨a, e, q1⟩ := q1
  subst e
  cases r1
  have fin : ∀ b, b ∈ [s1.heap.objs.size] → FpOk X pins H1 b := fun b hb => by
    have e : b = s1.heap.objs.size := by simpa using hb
    subst e
    exact I1.fpOk (Nat.le_refl _) (I1.hok.fresh (Nat.le_refl _))
  rcases q1 with ⟨⟨xs, hq⟩, q⟩ | ⟨⟨xs, hq⟩, q⟩
  · obtain ⟨its, rv, p, hz⟩ := I1.list hq
    refine wpAny_pyIter_list p.isList ?_
    exact ⟨s1.heap.objs.size, [s1.heap.objs.size], _, _, H1, rfl, I1.kept (t' := s1.toks) fun b o e => Heap.get?_push_of_some _ e, turn_list a _, ⟨_, Heap.get?_push_size _ rfl, rfl, rfl⟩, fin, q⟩
  · obtain ⟨its, rv, p, hz⟩ := I1.tuple hq
    refine wpAny_pyIter_tuple (show s1.heap.IsTuple a its.toArray from p) ?_
    exact ⟨s1.heap.objs.size, [s1.heap.objs.size], _, _, H1, rfl, I1.kept (t' := s1.toks) fun b o e => Heap.get?_push_of_some _ e, turn_tuple a _, ⟨_, Heap.get?_push_size _ rfl, rfl, rfl⟩, fin, q⟩
theorem sqL_inj {K : PySem.W.Frag} {H : Hp} {a : Addr} {xs ys : List V} (h : H a = some (.lst xs)) (e : xs = ys) : H a = some (.lst ys) := e ▸ h
/-- an iterable's items, with the guard -/
def itsOf (d : D) (A : AH) (k : List D → Gd → Prop) : Prop := match d with
  | .tup ds => k ds none
  | .lst ds => k ds none
  | .ref p => ∃ ds, A p = some (.lst ds) ∧ k ds (some (p, ds))
  | _ => False
theorem itsOf_mono {d : D} {A : AH} {k k' : List D → Gd → Prop} (h : itsOf d A k) (g : ∀ l g, k l g → k' l g) : itsOf d A k' := by
  cases d <;> first | exact (show False from h).elim | exact g _ _ h | exact ⟨h.choose, h.choose_spec.1, g _ _ h.choose_spec.2⟩
def iSeq (t : AT) : AIt := fun σ A Q => t σ A fun d A1 => itsOf d A1 fun l g => Q l g A1
theorem itl_ok {K : PySem.W.Frag} {A : AH} {H : Hp} {p : Addr} {ds : List D} {g : Gd} (h : ∀ A' H', Adv A H A' H' → HRep K A' H' → gdOk g A' → ∃ vs, SqL K H' p vs ∧ Reps K A' H' ds vs) : ItOk K A H (Itl K p) ds g := by
  intro A' H' a r gg i
  obtain ⟨vs, e, q⟩ := h A' H' a r gg
  refine ⟨fun hi => ⟨vs, e, by rw [q.length]; exact hi⟩, fun hi => ?_, fun d hd x H'' y => ?_⟩
  · obtain ⟨v, h1, _⟩ := q.get (List.getElem?_eq_getElem hi)
    exact ⟨vs, v, e, h1⟩
  · obtain ⟨e1, y⟩ := y
    subst e1
    obtain ⟨v, h1, h2⟩ := q.get hd
    have := y vs e
    rw [h1] at this
    cases this
    exact ⟨Adv.refl, r, h2⟩
theorem itt_ok {K : PySem.W.Frag} {A : AH} {H : Hp} {p : Addr} {ds : List D} {g : Gd} (h : ∀ A' H', Adv A H A' H' → HRep K A' H' → gdOk g A' → ∃ vs, SqT K H' p vs ∧ Reps K A' H' ds vs) : ItOk K A H (Itt K p) ds g := by
  intro A' H' a r gg i
  obtain ⟨vs, e, q⟩ := h A' H' a r gg
  refine ⟨fun hi => ⟨vs, e, by rw [q.length]; exact hi⟩, fun hi => ?_, fun d hd x H'' y => ?_⟩
  · obtain ⟨v, h1, _⟩ := q.get (List.getElem?_eq_getElem hi)
    exact ⟨vs, v, e, h1⟩
  · obtain ⟨e1, y⟩ := y
    subst e1
    obtain ⟨v, h1, h2⟩ := q.get hd
    have := y vs e
    rw [h1] at this
    cases this
    exact ⟨Adv.refl, r, h2⟩
theorem ai_seq (h : AE X e ta) : AI X tg e (iSeq ta) := by
  refine ⟨fun σ A Q Q' k q => h.mono _ _ _ _ (fun d A1 q => itsOf_mono q fun l g => k l g A1) q, pi_weak (pi_seqC h.pe) fun vs H R q => ?_⟩
  obtain ⟨σ, A, hr, sr, q⟩ := q
  refine ⟨σ, A, hr, sr, h.mono _ _ _ _ (fun d A1 q v1 H1 a1 r1 e1 => ?_) q⟩
  cases d <;> first | exact (show False from q).elim | skip
  · obtain ⟨p, xs, rfl, t, r⟩ := e1
    refine ⟨p, rfl, .inr ⟨⟨xs, t.sq⟩, q _ _ a1 r1 (itt_ok fun A' H' a' r' _ => ⟨xs, (t.adv a').sq, r.adv a'⟩)⟩⟩
  · obtain ⟨p, xs, rfl, t, r⟩ := e1
    refine ⟨p, rfl, .inl ⟨⟨xs, t.sq⟩, q _ _ a1 r1 (itl_ok fun A' H' a' r' _ => ⟨xs, (t.adv a').sq, r.adv a'⟩)⟩⟩
  · cases (show v1 = V.ref _ from e1)
    obtain ⟨ds, e0, q⟩ := q
    obtain ⟨ws, e2, r⟩ := r1 _ _ e0
    refine ⟨_, rfl, .inl ⟨⟨ws, SqL.of e2⟩, q _ _ a1 r1 (itl_ok fun A' H' a' r' g' => ?_)⟩⟩
    obtain ⟨ws', e3, r3⟩ := r' _ _ g'
    exact ⟨ws', SqL.of e3, r3⟩
/-- range -/
def rgD (lo : Int) (n : Nat) : List D := (List.range n).map fun (i : Nat) => D.int (lo + (i : Int))
theorem rgD_get {lo : Int} {n i : Nat} (h : i < n) : (rgD lo n)[i]? = some (.int (lo + (i : Int))) := by
  unfold rgD
  rw [List.getElem?_map, List.getElem?_range h]
  rfl
theorem rgD_len {lo : Int} {n : Nat} : (rgD lo n).length = n := by unfold rgD; simp
theorem itr_ok {K : PySem.W.Frag} {A : AH} {H : Hp} {lo : Int} {n : Nat} {g : Gd} : ItOk K A H (Itr lo n) (rgD lo n) g := by
  intro A' H' a r gg i
  refine ⟨fun hi => by rw [rgD_len] at hi; exact hi, fun hi => by rw [rgD_len] at hi; exact hi, fun d hd x H'' y => ?_⟩
  obtain ⟨e1, e2⟩ := y
  subst e1 e2
  have hi : i < n := by
    have := (List.getElem?_eq_some_iff.mp hd).1
    rwa [rgD_len] at this
  rw [rgD_get hi] at hd
  cases hd
  exact ⟨Adv.refl, r, rfl⟩
def iRange1 (t : AAt) : AIt := fun σ A Q => t σ A fun ds A1 => match ds with
  | [.int j] => (-4611686018427387904 ≤ j ∧ j < 4611686018427387904) ∧ Q (rgD 0 j.toNat) none A1
  | _ => False
def iRange2 (t : AAt) : AIt := fun σ A Q => t σ A fun ds A1 => match ds with
  | [.int i, .int j] => (-4611686018427387904 ≤ i ∧ i < 4611686018427387904 ∧ -4611686018427387904 ≤ j ∧ j < 4611686018427387904) ∧ Q (rgD i (j - i).toNat) none A1
  | _ => False
theorem ai_range1 (hm : X.mg "range" = none) (ha : AA X [a] tr) (hg : Gl X "range" := by rfl) (hs : starEach [a] X.env = [(false, eval a X.env)] := by rfl) : AI X tg (.Call (.Name "range" p) [a] [] pos) (iRange1 tr) := by
  refine ⟨fun σ A Q Q' k q => ha.mono _ _ _ _ (fun ds A1 q => ?_) q, pi_weak (pi_range1 hg hm ha.pa hs) fun vs H R q => ?_⟩
  · split at q <;> first | exact q.elim | exact ⟨q.1, k _ _ _ q.2⟩
  · obtain ⟨σ, A, hr, sr, q⟩ := q
    refine ⟨σ, A, hr, sr, ha.mono _ _ _ _ (fun ds A1 q us H1 a1 r1 e1 => ?_) q⟩
    split at q <;> first | exact q.elim | skip
    obtain ⟨v, rfl, x⟩ := reps1 e1
    exact ⟨_, congrArg (fun z => [z]) x, by have := q.1; omega, by have := q.1; omega, q.2 _ _ a1 r1 itr_ok⟩
theorem ai_range2 (hm : X.mg "range" = none) (ha : AA X [a, b] tr) (hg : Gl X "range" := by rfl) (hs : starEach [a, b] X.env = [(false, eval a X.env), (false, eval b X.env)] := by rfl) (hs2 : starEach [b] X.env = [(false, eval b X.env)] := by rfl) : AI X tg (.Call (.Name "range" p) [a, b] [] pos) (iRange2 tr) := by
  refine ⟨fun σ A Q Q' k q => ha.mono _ _ _ _ (fun ds A1 q => ?_) q, pi_weak (pi_range2 hg hm ha.pa hs hs2) fun vs H R q => ?_⟩
  · split at q <;> first | exact q.elim | exact ⟨q.1, k _ _ _ q.2⟩
  · obtain ⟨σ, A, hr, sr, q⟩ := q
    refine ⟨σ, A, hr, sr, ha.mono _ _ _ _ (fun ds A1 q us H1 a1 r1 e1 => ?_) q⟩
    split at q <;> first | exact q.elim | skip
    obtain ⟨v, u, rfl, x, y⟩ := reps2 e1
    cases (show v = V.int _ from x)
    cases (show u = V.int _ from y)
    exact ⟨_, _, rfl, by have := q.1; omega, q.2 _ _ a1 r1 itr_ok⟩
/-- enumerate of a list; zip of two lists or of two tuples -/
def enumD (ds : List D) : Nat → List D
  | n => ds.zipIdx n |>.map fun p => .tup [.int (p.2 : Int), p.1]
def zipD : List D → List D → List D
  | x :: xs, y :: ys => .tup [x, y] :: zipD xs ys
  | _, _ => []
theorem zipD_len : ∀ (xs ys : List D), (zipD xs ys).length = min xs.length ys.length
  | [], _ => by simp [zipD]
  | _ :: _, [] => by simp [zipD]
  | x :: xs, y :: ys => by simp only [zipD, List.length_cons, zipD_len xs ys]; omega
theorem zipD_get : ∀ {xs ys : List D} {i : Nat} {d : D}, (zipD xs ys)[i]? = some d → ∃ x y, xs[i]? = some x ∧ ys[i]? = some y ∧ d = .tup [x, y]
  | [], _, _, _, h => by simp [zipD] at h
  | _ :: _, [], _, _, h => by simp [zipD] at h
  | x :: xs, y :: ys, 0, d, h => by
    simp [zipD] at h
    exact ⟨x, y, rfl, rfl, h.symm⟩
  | x :: xs, y :: ys, i + 1, d, h => by
    simp [zipD] at h
    obtain ⟨a, b, h1, h2, h3⟩ := zipD_get h
    exact ⟨a, b, by simpa using h1, by simpa using h2, h3⟩
def iEnumD (t : AT) : AIt := fun σ A Q => t σ A fun d A1 => match d with
  | .tup ds => Q (enumD ds 0) none A1
  | .lst ds => Q (enumD ds 0) none A1
  | .ref p => ∃ ds, A1 p = some (.lst ds) ∧ Q (enumD ds 0) (some (p, ds)) A1
  | _ => False
theorem enumD_len (ds : List D) (n : Nat) : (enumD ds n).length = ds.length := by unfold enumD; simp
theorem enumD_get {ds : List D} {i : Nat} {d : D} (h : (enumD ds 0)[i]? = some d) : ∃ x, ds[i]? = some x ∧ d = .tup [.int (i : Int), x] := by
  unfold enumD at h
  rw [List.getElem?_map, List.getElem?_zipIdx] at h
  cases e : ds[i]? with
  | none => rw [e] at h; cases h
  | some x =>
    rw [e] at h
    simp at h
    exact ⟨x, rfl, by rw [← h]⟩
theorem ite_ok {K : PySem.W.Frag} {A : AH} {H : Hp} {p : Addr} {ds : List D} {g : Gd} (h : ∀ A' H', Adv A H A' H' → HRep K A' H' → gdOk g A' → ∃ vs, SqL K H' p vs ∧ Reps K A' H' ds vs) : ItOk K A H (Ite K p) (enumD ds 0) g := by
  intro A' H' a r gg i
  obtain ⟨vs, e, q⟩ := h A' H' a r gg
  refine ⟨fun hi => ⟨vs, e, by rw [q.length]; rwa [enumD_len] at hi⟩, fun hi => ?_, fun d hd x H'' y => ?_⟩
  · rw [enumD_len] at hi
    obtain ⟨v, h1, _⟩ := q.get (List.getElem?_eq_getElem hi)
    exact ⟨vs, v, e, h1⟩
  · obtain ⟨T, y, rfl, hT, rfl, hy⟩ := y
    obtain ⟨z, hz, rfl⟩ := enumD_get hd
    obtain ⟨v, h1, h2⟩ := q.get hz
    have := hy vs e
    rw [h1] at this
    cases this
    exact ⟨(adv_new r hT).1, (adv_new r hT).2, rep_tup r hT ⟨_, _, rfl, rfl, Reps.one h2⟩⟩
theorem iteT_ok {K : PySem.W.Frag} {A : AH} {H : Hp} {p : Addr} {ds : List D} {g : Gd} (h : ∀ A' H', Adv A H A' H' → HRep K A' H' → gdOk g A' → ∃ vs, SqT K H' p vs ∧ Reps K A' H' ds vs) : ItOk K A H (IteT K p) (enumD ds 0) g := by
  intro A' H' a r gg i
  obtain ⟨vs, e, q⟩ := h A' H' a r gg
  refine ⟨fun hi => ⟨vs, e, by rw [q.length]; rwa [enumD_len] at hi⟩, fun hi => ?_, fun d hd x H'' y => ?_⟩
  · rw [enumD_len] at hi
    obtain ⟨v, h1, _⟩ := q.get (List.getElem?_eq_getElem hi)
    exact ⟨vs, v, e, h1⟩
  · obtain ⟨T, y, rfl, hT, rfl, hy⟩ := y
    obtain ⟨z, hz, rfl⟩ := enumD_get hd
    obtain ⟨v, h1, h2⟩ := q.get hz
    have := hy vs e
    rw [h1] at this
    cases this
    exact ⟨(adv_new r hT).1, (adv_new r hT).2, rep_tup r hT ⟨_, _, rfl, rfl, Reps.one h2⟩⟩
theorem ai_enum {elts : List Expr} {kk : Nat} {tpos : Pos} (hm : X.mg "enumerate" = none) (h : AE X e ta) (hg : Gl X "enumerate" := by rfl) (hs : starEach [e] X.env = [(false, eval e X.env)] := by rfl) : AI X (.Tuple elts kk tpos) (.Call (.Name "enumerate" p) [e] [] pos) (iEnumD ta) := by
  have ha : PA X [e] (tCons (liftE X.K ta) tNil) := pa_cons h.pe pa_nil hs
  refine ⟨fun σ A Q Q' k q => h.mono _ _ _ _ (fun d A1 q => ?_) q, pi_weak (pi_enumA hg hm ha hs) fun vs H R q => ?_⟩
  · cases d <;> first | exact (show False from q).elim | exact k _ _ _ q | exact ⟨q.choose, q.choose_spec.1, k _ _ _ q.choose_spec.2⟩
  · obtain ⟨σ, A, hr, sr, q⟩ := q
    refine ⟨σ, A, hr, sr, h.mono _ _ _ _ (fun d A1 q v1 H1 a1 r1 e1 => ?_) q⟩
    cases d <;> first | exact (show False from q).elim | skip
    · obtain ⟨p, xs, rfl, t, r⟩ := e1
      exact ⟨p, xs, rfl, .inr ⟨t.sq, q _ _ a1 r1 (iteT_ok fun A' H' a' r' _ => ⟨xs, (t.adv a').sq, r.adv a'⟩)⟩⟩
    · obtain ⟨p, xs, rfl, t, r⟩ := e1
      exact ⟨p, xs, rfl, .inl ⟨t.sq, q _ _ a1 r1 (ite_ok fun A' H' a' r' _ => ⟨xs, (t.adv a').sq, r.adv a'⟩)⟩⟩
    · cases (show v1 = V.ref _ from e1)
      obtain ⟨ds, e0, q⟩ := q
      obtain ⟨ws, e2, r⟩ := r1 _ _ e0
      refine ⟨_, ws, rfl, .inl ⟨SqL.of e2, q _ _ a1 r1 (ite_ok fun A' H' a' r' g' => ?_)⟩⟩
      obtain ⟨ws', e3, r3⟩ := r' _ _ g'
      exact ⟨ws', SqL.of e3, r3⟩
def iZipD (ta tb : AT) : AIt := fun σ A Q => ta σ A fun d A1 => tb σ A1 fun e A2 => match d, e with
  | .tup xs, .tup ys => Q (zipD xs ys) none A2
  | .lst xs, .lst ys => Q (zipD xs ys) none A2
  | _, _ => False
theorem zip_ok {K : PySem.W.Frag} {A : AH} {H : Hp} {p q : Addr} {xs ys : List D} {us vs : List V} {g : Gd} (t1 : LAt A H p us) (t2 : LAt A H q vs) (r1 : Reps K A H xs us) (r2 : Reps K A H ys vs) : ItOk K A H (Itz K p q) (zipD xs ys) g := by
  intro A' H' a r gg i
  have s1 : SqL K H' p us := (t1.adv a).sq
  have s2 : SqL K H' q vs := (t2.adv a).sq
  have q1 := r1.adv a
  have q2 := r2.adv a
  refine ⟨fun hi => ⟨us, vs, s1, s2, by rw [q1.length, q2.length]; rw [zipD_len] at hi; omega⟩, fun hi => ?_, fun d hd x H'' y => ?_⟩
  · rw [zipD_len] at hi
    obtain ⟨v, h1, _⟩ := q1.get (List.getElem?_eq_getElem (show i < xs.length by omega))
    obtain ⟨v2, h2, _⟩ := q2.get (List.getElem?_eq_getElem (show i < ys.length by omega))
    exact ⟨us, vs, v, v2, s1, s2, h1, h2⟩
  · obtain ⟨T, y, z, rfl, hT, rfl, hy, hz⟩ := y
    obtain ⟨d1, d2, h1, h2, rfl⟩ := zipD_get hd
    obtain ⟨v, e1, x1⟩ := q1.get h1
    obtain ⟨v2, e2, x2⟩ := q2.get h2
    have z1 := hy us s1
    rw [e1] at z1
    cases z1
    have z2 := hz vs s2
    rw [e2] at z2
    cases z2
    exact ⟨(adv_new r hT).1, (adv_new r hT).2, rep_tup r hT ⟨_, _, rfl, x1, Reps.one x2⟩⟩
theorem zipT_ok {K : PySem.W.Frag} {A : AH} {H : Hp} {p q : Addr} {xs ys : List D} {us vs : List V} {g : Gd} (t1 : TAt K A H p us) (t2 : TAt K A H q vs) (r1 : Reps K A H xs us) (r2 : Reps K A H ys vs) : ItOk K A H (RZ.ItzT K p q) (zipD xs ys) g := by
  intro A' H' a r gg i
  have s1 : SqT K H' p us := (t1.adv a).sq
  have s2 : SqT K H' q vs := (t2.adv a).sq
  have q1 := r1.adv a
  have q2 := r2.adv a
  refine ⟨fun hi => ⟨us, vs, s1, s2, by rw [q1.length, q2.length]; rw [zipD_len] at hi; omega⟩, fun hi => ?_, fun d hd x H'' y => ?_⟩
  · rw [zipD_len] at hi
    obtain ⟨v, h1, _⟩ := q1.get (List.getElem?_eq_getElem (show i < xs.length by omega))
    obtain ⟨v2, h2, _⟩ := q2.get (List.getElem?_eq_getElem (show i < ys.length by omega))
    exact ⟨us, vs, v, v2, s1, s2, h1, h2⟩
  · obtain ⟨T, y, z, rfl, hT, rfl, hy, hz⟩ := y
    obtain ⟨d1, d2, h1, h2, rfl⟩ := zipD_get hd
    obtain ⟨v, e1, x1⟩ := q1.get h1
    obtain ⟨v2, e2, x2⟩ := q2.get h2
    have z1 := hy us s1
    rw [e1] at z1
    cases z1
    have z2 := hz vs s2
    rw [e2] at z2
    cases z2
    exact ⟨(adv_new r hT).1, (adv_new r hT).2, rep_tup r hT ⟨_, _, rfl, x1, Reps.one x2⟩⟩
theorem ai_zip {elts : List Expr} {kk : Nat} {tpos : Pos} (hm : X.mg "zip" = none) (ha : AE X a ta) (hb : AE X b tb) (hg : Gl X "zip" := by rfl) (hs : starEach [a, b] X.env = (false, eval a X.env) :: starEach [b] X.env := by rfl) (hpl : (backTo pos (starEach [b] X.env)).any (·.1) = false := by rfl)
    (hs2 : starEach [b] X.env = (false, eval b X.env) :: starEach [] X.env := by rfl) : AI X (.Tuple elts kk tpos) (.Call (.Name "zip" p) [a, b] [] pos) (iZipD ta tb) := by
  have hp : PA X [a, b] (tCons (liftE X.K ta) (tCons (liftE X.K tb) tNil)) := pa_cons ha.pe (pa_cons hb.pe pa_nil hs2) hs
  refine ⟨fun σ A Q Q' k q => ha.mono _ _ _ _ (fun d A1 q => hb.mono _ _ _ _ (fun e A2 q => ?_) q) q, pi_weak (RZ.pi_zipA hg hm hp hs hpl) fun vs H R q => ?_⟩
  · cases d <;> cases e <;> first | exact (show False from q).elim | exact k _ _ _ q
  · obtain ⟨σ, A, hr, sr, q⟩ := q
    refine ⟨σ, A, hr, sr, ha.mono _ _ _ _ (fun d A1 q v1 H1 a1 r1 e1 => ?_) q⟩
    refine ⟨σ, A1, r1, sr.adv a1, hb.mono _ _ _ _ (fun e A2 q v2 H2 a2 r2 e2 => ?_) q⟩
    have e1 := e1.adv a2
    cases d <;> cases e <;> first | exact (show False from q).elim | skip
    · obtain ⟨p, xs, rfl, t, r⟩ := e1
      obtain ⟨p2, xs2, rfl, t2, r'⟩ := e2
      exact ⟨p, p2, xs, xs2, rfl, .inr ⟨t.sq, t2.sq, q _ _ (a1.trans a2) r2 (zipT_ok t t2 r r')⟩⟩
    · obtain ⟨p, xs, rfl, t, r⟩ := e1
      obtain ⟨p2, xs2, rfl, t2, r'⟩ := e2
      exact ⟨p, p2, xs, xs2, rfl, .inl ⟨t.sq, t2.sq, q _ _ (a1.trans a2) r2 (zip_ok t t2 r r')⟩⟩

/-! ### for -/
@[irreducible] def forI (g : AGf) (tb : ASt') (D : AEnds) (gd : Gd) (its : List Rk.D) (σ : ASt) (A : AH) : Prop := ∃ I : Nat → ASt → AH → Prop, I 0 σ A ∧ (∀ i σ A, I i σ A → gdOk gd A) ∧
  (∀ i d σ A, its[i]? = some d → I i σ A → g d σ A fun σ2 A2 => tb { nx := I (i + 1), ct := I (i + 1), bk := D.nx, rt := D.rt } σ2 A2) ∧ (∀ σ A, I its.length σ A → D.nx σ A)
def sFor (ti : AIt) (g : AGf) (tb : ASt') : ASt' := fun D σ A => ti σ A fun its gd A1 => forI g tb D gd its σ A1
variable {t : ASt'}
theorem as_for {iter : Expr} {body : List Stmt} {ti : AIt} {sl : List Nat} {g : AGf} (hp : PassesOwn (model X.prog X.w) X.A X.env X.xe) (hc : X.calm = true) (hi : AI X tg iter ti) (hg : AG X tg sl g) (hb : ASs X body t)
    (hs : ∀ x, foldedSetIterable iter X.env x = pure x := by intro _; rfl) : AS X (.For tg iter body [] pos) (sFor ti g t) := by
  refine ⟨fun D D' σ A k q => hi.mono _ _ _ _ (fun l gd A1 q => ?_) q, ps_weak (ps_for hp hc hi.pi hg.pg hb.pss hs) fun D vs H q => ?_⟩
  · unfold forI at q ⊢
    obtain ⟨I, h0, hgd, hstep, hd⟩ := q
    exact ⟨I, h0, hgd, fun i d σ A e w => hg.mono _ _ _ _ _ (fun σ2 A2 q => hb.mono { nx := I (i + 1), ct := I (i + 1), bk := D.nx, rt := D.rt } _ _ _ ⟨fun _ _ q => q, k.rt, k.nx, fun _ _ q => q⟩ q) (hstep i d σ A e w), fun σ A w => k.nx _ _ (hd σ A w)⟩
  obtain ⟨σ, A, hr, sr, q⟩ := q
  refine ⟨σ, A, hr, sr, hi.mono _ _ _ _ (fun its gd A1 q J H1 a1 r1 ok => ?_) q⟩
  unfold forI at q
  obtain ⟨I, h0, hgd, hstep, hd⟩ := q
  refine ⟨fun i m vs' H' => m = its.length - i ∧ i ≤ its.length ∧ ∃ σ' A', Adv A1 H1 A' H' ∧ HRep X.K A' H' ∧ SRep X.K A' H' σ' vs' ∧ I i σ' A', ⟨its.length, rfl, Nat.zero_le _, σ, A1, Adv.refl, r1, sr.adv a1, h0⟩, ?_⟩
  rintro i m vs2 H2 ⟨rfl, hi', σ2, A2, a2, r2, s2, q2⟩
  have g2 := hgd i σ2 A2 q2
  by_cases hlt : i < its.length
  · obtain ⟨_, go, yld⟩ := ok A2 H2 a2 r2 g2 i
    refine .inr ⟨go hlt, fun vs' H' => ∃ σ' A', Adv A1 H1 A' H' ∧ HRep X.K A' H' ∧ SRep X.K A' H' σ' vs' ∧ I (i + 1) σ' A', fun vs' H' n => ⟨its.length - (i + 1), by omega, rfl, hlt, n⟩, fun x H3 y => ?_⟩
    obtain ⟨a3, r3, x3⟩ := yld its[i] (List.getElem?_eq_getElem hlt) x H3 y
    refine ⟨its[i], σ2, A2, r3, s2.adv a3, x3, hg.mono _ _ _ _ _ (fun σ4 A4 q4 vs4 H4 a4 r4 s4 _ => ?_) (hstep i its[i] σ2 A2 (List.getElem?_eq_getElem hlt) q2)⟩
    refine ⟨σ4, A4, r4, s4, hb.mono { nx := I (i + 1), ct := I (i + 1), bk := (liftD X.K A H D).nx, rt := (liftD X.K A H D).rt } _ _ _ ?_ q4⟩
    have a14 := (a2.trans a3).trans a4
    exact ⟨fun σ5 A5 q vs5 H5 a5 r5 s5 => ⟨σ5, A5, a14.trans a5, r5, s5, q⟩, fun d A5 q => post.adv (a1.trans a14) q, fun σ5 A5 q => postS.adv (a1.trans a14) q, fun σ5 A5 q vs5 H5 a5 r5 s5 => ⟨σ5, A5, a14.trans a5, r5, s5, q⟩⟩
  · have e : i = its.length := by omega
    subst e
    obtain ⟨st, _, _⟩ := ok A2 H2 a2 r2 g2 its.length
    exact .inl ⟨st (Nat.le_refl _), hd _ _ q2 _ _ (a1.trans a2) r2 s2⟩

/-! ### comprehensions -/
structure ATs (X : Cx) (ifs : List Expr) (t : ABt) : Prop where
  mono : MonB t
  pts : PTs X ifs (liftB X.K t)
def aYes : ABt := fun _ A Q => Q true A
theorem ats_nil : ATs X [] aYes := ⟨fun _ _ _ _ k q => k _ _ q, ⟨fun pins s σ H Q I ⟨σ', A, hr, sr, q⟩ => pts_nil.run pins s σ H Q I (q H Adv.refl hr)⟩⟩
theorem ats_one {c : Expr} {t : ABt} (h : AB X c t) : ATs X [c] t := ⟨h.mono, pts_one h.pt⟩
/-- the items made so far stand at p; I: what holds of the turn, the items so far and the heap without these -/
@[irreducible] def lcI (g : AGf) (tt : ABt) (te : AT) (σ : ASt) (gd : Gd) (fin : Addr → List Rk.D → AH → Prop) (its : List Rk.D) (A : AH) : Prop := ∀ p, A p = none → ∃ I : Nat → List Rk.D → AH → Prop, I 0 [] A ∧ (∀ i acc A, I i acc A → A p = none ∧ gdOk gd A) ∧
  (∀ i d acc A, its[i]? = some d → I i acc A → g d σ (aupd A p (.lst acc)) fun σ2 A2 => tt σ2 A2 fun b A3 => br b
      (te σ2 A3 fun y A4 => acc.length ≤ 1000000 ∧ ∃ A5, A4 = aupd A5 p (.lst acc) ∧ I (i + 1) (acc ++ [y]) A5)
      (∃ A5, A3 = aupd A5 p (.lst acc) ∧ I (i + 1) acc A5)) ∧ ∀ acc A, I its.length acc A → fin p acc A
def aLc (ti : AIt) (g : AGf) (tt : ABt) (te : AT) (vs : List Nat) : AT := fun σ A Q => ti σ A fun its gd A1 => lcI g tt te (swipe σ vs) gd (fun _ acc A2 => Q (.lst acc) A2) its A1
/-- a list that will change -/
def aLcM (ti : AIt) (g : AGf) (tt : ABt) (te : AT) (vs : List Nat) : AT := fun σ A Q => ti σ A fun its gd A1 => lcI g tt te (swipe σ vs) gd (fun p acc A2 => Q (.ref p) (aupd A2 p (.lst acc))) its A1
theorem lcI_mono {g : AGf} {tt : ABt} {te : AT} {σ : ASt} {gd : Gd} {f f' : Addr → List Rk.D → AH → Prop} {its : List Rk.D} {A : AH} (h : lcI g tt te σ gd f its A) (k : ∀ p l A, f p l A → f' p l A) : lcI g tt te σ gd f' its A := by
  unfold lcI at h ⊢
  intro p hp
  obtain ⟨I, h0, h1, h2, h3⟩ := h p hp
  exact ⟨I, h0, h1, h2, fun acc A w => k _ _ _ (h3 acc A w)⟩
/-- a loop by what holds behind each turn -/
theorem for_by {g : AGf} {tb : ASt'} {D : AEnds} {gd : Gd} (I : Nat → ASt → AH → Prop) {its : List Rk.D} {σ : ASt} {A : AH} (h0 : I 0 σ A) (hg : ∀ i σ A, I i σ A → gdOk gd A)
    (hs : ∀ i d σ A, its[i]? = some d → I i σ A → g d σ A fun σ2 A2 => tb { nx := I (i + 1), ct := I (i + 1), bk := D.nx, rt := D.rt } σ2 A2) (hd : ∀ σ A, I its.length σ A → D.nx σ A) : forI g tb D gd its σ A := by
  unfold forI
  exact ⟨I, h0, hg, hs, hd⟩
/-- a loop, told by letters -/
theorem for_st {α : Type} {g : AGf} {tb : ASt'} {D : AEnds} {its : List Rk.D} (f : α → ASt) (B : α → AH) (W : Nat → α → Prop) {σ : ASt} {A : AH} (x0 : α) (h0 : σ = f x0) (hA : A = B x0) (w0 : W 0 x0)
    (hs : ∀ i d x, its[i]? = some d → W i x → g d (f x) (B x) fun σ2 A2 => tb { nx := fun σ' A' => ∃ y, σ' = f y ∧ A' = B y ∧ W (i + 1) y, ct := fun σ' A' => ∃ y, σ' = f y ∧ A' = B y ∧ W (i + 1) y, bk := D.nx, rt := D.rt } σ2 A2)
    (hd : ∀ x, W its.length x → D.nx (f x) (B x)) : forI g tb D none its σ A := by
  refine for_by (fun i σ A => ∃ x, σ = f x ∧ A = B x ∧ W i x) ⟨x0, h0, hA, w0⟩ (fun _ _ _ _ => trivial) ?_ ?_
  · rintro i d σ A hd ⟨x, rfl, rfl, w⟩
    exact hs i d x hd w
  · rintro σ A ⟨x, rfl, rfl, w⟩
    exact hd x w
/-- a loop over range, told by letters -/
theorem for_rg {α : Type} {g : AGf} {tb : ASt'} {D : AEnds} {lo : Int} {n : Nat} (f : α → ASt) (B : α → AH) (W : Nat → α → Prop) {σ : ASt} {A : AH} (x0 : α) (h0 : σ = f x0) (hA : A = B x0) (w0 : W 0 x0)
    (hs : ∀ i x, i < n → W i x → g (.int (lo + (i : Int))) (f x) (B x) fun σ2 A2 => tb { nx := fun σ' A' => ∃ y, σ' = f y ∧ A' = B y ∧ W (i + 1) y, ct := fun σ' A' => ∃ y, σ' = f y ∧ A' = B y ∧ W (i + 1) y, bk := D.nx, rt := D.rt } σ2 A2)
    (hd : ∀ x, W n x → D.nx (f x) (B x)) : forI g tb D none (rgD lo n) σ A := by
  refine for_st f B W x0 h0 hA w0 (fun i d x e w => ?_) (fun x w => hd x (by rwa [rgD_len] at w))
  have hi : i < n := by
    have := (List.getElem?_eq_some_iff.mp e).1
    rwa [rgD_len] at this
  rw [rgD_get hi] at e
  cases e
  exact hs i x hi w
/-- a comprehension that leaves the heap as it is: per item, kept or not, and the value -/
theorem lc_pure {g : AGf} {tt : ABt} {te : AT} {σ : ASt} {fin : Addr → List Rk.D → AH → Prop} {its : List Rk.D} {A : AH} (f : Rk.D → Option Rk.D) (hl : its.length ≤ 1000000)
    (hs : ∀ d ∈ its, ∀ A (Qy : Rk.D → AH → Prop) (Qn : AH → Prop), (∀ y, f d = some y → Qy y A) → (f d = none → Qn A) → g d σ A fun σ2 A2 => tt σ2 A2 fun b A3 => br b (te σ2 A3 Qy) (Qn A3))
    (h : ∀ p, A p = none → fin p (its.filterMap f) A) : lcI g tt te σ none fin its A := by
  unfold lcI
  intro p hp
  refine ⟨fun i acc A' => A' = A ∧ acc = (its.take i).filterMap f, ⟨rfl, by simp⟩, fun i acc A' w => ⟨by rw [w.1]; exact hp, trivial⟩, ?_, fun acc A' w => ?_⟩
  · rintro i d acc A' e ⟨rfl, rfl⟩
    have hi := (List.getElem?_eq_some_iff.mp e).1
    have et : its.take (i + 1) = its.take i ++ [d] := by rw [List.take_add_one, e]; rfl
    refine hs d (List.mem_of_getElem? e) _ _ _ (fun y hy => ?_) (fun hn => ?_)
    · refine ⟨?_, _, rfl, rfl, ?_⟩
      · have := List.length_filterMap_le f (its.take i)
        rw [List.length_take] at this
        omega
      · rw [et, List.filterMap_append, List.filterMap_cons, hy, List.filterMap_nil]
    · refine ⟨_, rfl, rfl, ?_⟩
      rw [et, List.filterMap_append, List.filterMap_cons, hn, List.filterMap_nil, List.append_nil]
  · obtain ⟨rfl, rfl⟩ := w
    rw [List.take_length]
    exact h p hp
theorem lc_map {g : AGf} {te : AT} {σ : ASt} {fin : Addr → List Rk.D → AH → Prop} {its : List Rk.D} {A : AH} (f : Rk.D → Rk.D) (hl : its.length ≤ 1000000)
    (hs : ∀ d ∈ its, ∀ A (Q : Rk.D → AH → Prop), Q (f d) A → g d σ A fun σ2 A2 => te σ2 A2 Q)
    (h : ∀ p, A p = none → fin p (its.map f) A) : lcI g aYes te σ none fin its A := by
  refine lc_pure (fun d => some (f d)) hl (fun d hd A Qy Qn hy _ => ?_) (fun p hp => by rw [List.filterMap_eq_map']; exact h p hp)
  have := hs d hd A (fun y A => Qy y A) (hy _ rfl)
  show g d σ A fun σ2 A2 => br true (te σ2 A2 Qy) (Qn A2)
  simp only [br_te]
  exact this
end
end Rk

namespace Rk
open PySem PySem.Spec L2
theorem wipe_get (vs : L2.St) : ∀ (is : List Nat) (j : Nat), (L2.wipe vs is)[j]? = if j ∈ is then (if j < vs.length then some none else none) else vs[j]?
  | [], j => by simp [L2.wipe]
  | i :: is, j => by
    unfold L2.wipe
    rw [List.getElem?_set, wipe_length]
    by_cases h : i = j
    · subst h
      simp
    · rw [if_neg h, wipe_get vs is j]
      have : (j ∈ i :: is) ↔ j ∈ is := by simp [Ne.symm h]
      simp only [this]
theorem out_wipe {sl is : List Nat} {vs vs' : L2.St} (h : Out sl (L2.wipe vs is) vs') (hs : ∀ i ∈ sl, i ∈ is) : L2.wipe vs' is = L2.wipe vs is := by
  apply List.ext_getElem?
  intro j
  have hl : vs'.length = vs.length := by rw [h.1, wipe_length]
  rw [wipe_get, wipe_get, hl]
  by_cases hj : j ∈ is
  · rw [if_pos hj, if_pos hj]
  · rw [if_neg hj, if_neg hj, h.2 j (fun z => hj (hs j z)), wipe_get, if_neg hj]
section
variable {K : PySem.W.Frag} {A A' : AH} {H H' : Hp} {p : Addr}
theorem adv_drop {o : AO} : Adv (aupd A p o) H A H := fun a u e1 e2 => by
  by_cases h : a = p
  · subst h; rw [aupd_same] at e1; cases e1
  · rw [aupd_ne h] at e1; exact ⟨e1, e2⟩
theorem hrep_drop {o : AO} (h : HRep K (aupd A p o) H) (e : A p = none) : HRep K A H := fun a u e1 => by
  have hn : a ≠ p := fun z => by rw [z, e] at e1; cases e1
  have q := h a u (by rw [aupd_ne hn]; exact e1)
  cases u with
  | lst ds =>
    obtain ⟨vs, h1, h2⟩ := q
    exact ⟨vs, h1, h2.adv adv_drop⟩
theorem rep_frozen {ds : List D} (h : HRep K (aupd A p (.lst ds)) H) (e : A p = none) : Rep K A H (.lst ds) (.ref p) := by
  obtain ⟨vs, h1, h2⟩ := h p _ aupd_same
  exact ⟨p, vs, rfl, ⟨e, h1⟩, h2.adv adv_drop⟩
theorem gdOk_upd {g : Gd} {o : AO} (h : gdOk g A) (e : A p = none) : gdOk g (aupd A p o) := by
  cases g with
  | none => trivial
  | some x =>
    have h : A x.1 = some (.lst x.2) := h
    have hn : x.1 ≠ p := fun z => by rw [z, e] at h; cases h
    show aupd A p o x.1 = _
    rw [aupd_ne hn]
    exact h
end
section
variable {X : Cx} {pos : Pos} {e tg iter elt : Expr} {ifs : List Expr} {scope : Scope} {own : List (Str × Nat)} {ti : AIt} {g : AGf} {tt : ABt} {te : AT} {sl : List Nat}
theorem lc_lift {K : PySem.W.Frag} (mi : ∀ σ A (Q Q' : List D → Gd → AH → Prop), (∀ l g A', Q l g A' → Q' l g A') → ti σ A Q → ti σ A Q') (mg : ∀ d σ A (Q Q' : ASt → AH → Prop), (∀ σ' A', Q σ' A' → Q' σ' A') → g d σ A Q → g d σ A Q') (mt : MonB tt) (me : MonE te) {vs : List Nat} (hsl : ∀ i ∈ sl, i ∈ vs)
    {σ : ASt} {sv : L2.St} {A : AH} {H : Hp} {F : Addr → List D → AH → Prop} {Q : VK} (hr : HRep K A H) (sr : SRep K A H σ sv)
    (hF : ∀ p acc A' H', A' p = none → Adv A H (aupd A' p (.lst acc)) H' → HRep K (aupd A' p (.lst acc)) H' → F p acc A' → Q (.ref p) H')
    (q : ti σ A fun its gd A1 => lcI g tt te (swipe σ vs) gd F its A1) :
    tLc (liftI K ti) (liftG K sl g) (liftB K tt) (liftE K te) vs sv H Q := by
  refine ⟨σ, A, hr, sr, mi _ _ _ _ (fun its gd A1 q J H1 a1 r1 ok D hD => ?_) q⟩
  unfold lcI at q
  obtain ⟨I, h0, h1, h2, h3⟩ := q D (r1.none hD)
  have new := adv_newT r1 hD (ds := []) (vs := []) rfl
  refine ⟨fun i m H' => m = its.length - i ∧ i ≤ its.length ∧ ∃ acc A', Adv A1 H1 (aupd A' D (.lst acc)) H' ∧ HRep K (aupd A' D (.lst acc)) H' ∧ I i acc A',
    ⟨its.length, rfl, Nat.zero_le _, [], A1, new.1, new.2, h0⟩, ?_⟩
  rintro i m H2 ⟨rfl, hi, acc, A2, a2, r2, q2⟩
  obtain ⟨n2, g2⟩ := h1 _ _ _ q2
  by_cases hlt : i < its.length
  · obtain ⟨_, go, yld⟩ := ok _ H2 a2 r2 (gdOk_upd g2 n2) i
    refine .inr ⟨go hlt, fun H' => ∃ acc A', Adv A1 H1 (aupd A' D (.lst acc)) H' ∧ HRep K (aupd A' D (.lst acc)) H' ∧ I (i + 1) acc A', fun H' n => ⟨its.length - (i + 1), by omega, rfl, hlt, n⟩, fun x H3 y => ?_⟩
    obtain ⟨a3, r3, x3⟩ := yld its[i] (List.getElem?_eq_getElem hlt) x H3 y
    have s3 := (sr.adv ((a1.trans a2).trans a3)).wipe vs
    refine ⟨its[i], swipe σ vs, _, r3, s3, x3, mg _ _ _ _ _ (fun σ4 A4 q4 v4 H4 a4 r4 s4 o4 => ⟨out_wipe o4 hsl, ?_⟩) (h2 i its[i] acc A2 (List.getElem?_eq_getElem hlt) q2)⟩
    refine ⟨σ4, A4, r4, s4, mt _ _ _ _ (fun b A5 q5 H5 a5 r5 => br_ite (br_mono q5 (fun q6 => ?_) fun q6 => ?_)) q4⟩
    · refine ⟨σ4, A5, r5, s4.adv a5, me _ _ _ _ (fun y A6 q7 v6 H6 a6 r6 x6 => ?_) q6⟩
      obtain ⟨hl, A7, e7, q7⟩ := q7
      subst e7
      obtain ⟨ws, h1, h2⟩ := r6 D _ aupd_same
      have st := adv_set r6 aupd_same (h2.append (Reps.one x6))
      rw [aupd_aupd] at st
      refine ⟨ws, h1, by rw [h2.length]; exact lt_ok hl, acc ++ [y], A7, ?_, st.2, q7⟩
      exact ((((a2.trans a3).trans a4).trans a5).trans a6).trans st.1
    · obtain ⟨A7, e7, q7⟩ := q6
      subst e7
      exact ⟨acc, A7, ((a2.trans a3).trans a4).trans a5, r5, q7⟩
  · have e : i = its.length := by omega
    subst e
    obtain ⟨st, _, _⟩ := ok _ H2 a2 r2 (gdOk_upd g2 n2) its.length
    exact .inl ⟨st (Nat.le_refl _), hF D acc A2 H2 n2 (a1.trans a2) r2 (h3 _ _ q2)⟩
theorem ae_lc (hc : X.calm = true) (hN : X.N.Nodup) (hi : AI X tg iter ti) (ok : BlkOk X.N X.env.scope scope own) (hsl : ∀ i ∈ sl, i ∈ own.map (·.2))
    (hg : ∀ (s : Shared) (H : Hp) (C : Addr) (cl : List (Str × Addr)) (fp : List Addr), AG (X.blk s H scope (compEnvC scope cl C X.env) fp) tg sl g)
    (ht : ∀ (s : Shared) (H : Hp) (C : Addr) (cl : List (Str × Addr)) (fp : List Addr), ATs (X.blk s H scope (compEnvC scope cl C X.env) fp) ifs tt)
    (he : ∀ (s : Shared) (H : Hp) (C : Addr) (cl : List (Str × Addr)) (fp : List Addr), AE (X.blk s H scope (compEnvC scope cl C X.env) fp) elt te) (hs : ∀ x, foldedSetIterable iter X.env x = pure x := by intro _; rfl) :
    AE X (.ListComp elt [⟨tg, iter, ifs, 0⟩] scope pos) (aLc ti g tt te (own.map (·.2))) := by
  have mg := (hg X.s_0 X.H_0 0 [] []).mono
  have mt := (ht X.s_0 X.H_0 0 [] []).mono
  have me := (he X.s_0 X.H_0 0 [] []).mono
  refine ⟨fun σ A Q Q' k q => hi.mono _ _ _ _ (fun its gd A1 q => lcI_mono q fun p l A => k _ _) q, ?_⟩
  refine pe_weak (pe_lc (g := liftG X.K sl g) (tt := liftB X.K tt) (te := liftE X.K te) hc hN hi.pi ok (fun s H C cl fp => (hg s H C cl fp).pg) (fun s H C cl fp => (ht s H C cl fp).pts) (fun s H C cl fp => (he s H C cl fp).pe) hs) fun sv H Q q => ?_
  obtain ⟨σ, A, hr, sr, q⟩ := q
  refine lc_lift (F := fun p acc A2 => post X.K A H Q (.lst acc) A2) hi.mono mg mt me hsl hr sr (fun p acc A' H' n a r q => ?_) q
  exact q _ _ (a.trans adv_drop) (hrep_drop r n) (rep_frozen r n)
theorem ae_lcM (hc : X.calm = true) (hN : X.N.Nodup) (hi : AI X tg iter ti) (ok : BlkOk X.N X.env.scope scope own) (hsl : ∀ i ∈ sl, i ∈ own.map (·.2))
    (hg : ∀ (s : Shared) (H : Hp) (C : Addr) (cl : List (Str × Addr)) (fp : List Addr), AG (X.blk s H scope (compEnvC scope cl C X.env) fp) tg sl g)
    (ht : ∀ (s : Shared) (H : Hp) (C : Addr) (cl : List (Str × Addr)) (fp : List Addr), ATs (X.blk s H scope (compEnvC scope cl C X.env) fp) ifs tt)
    (he : ∀ (s : Shared) (H : Hp) (C : Addr) (cl : List (Str × Addr)) (fp : List Addr), AE (X.blk s H scope (compEnvC scope cl C X.env) fp) elt te) (hs : ∀ x, foldedSetIterable iter X.env x = pure x := by intro _; rfl) :
    AE X (.ListComp elt [⟨tg, iter, ifs, 0⟩] scope pos) (aLcM ti g tt te (own.map (·.2))) := by
  have mg := (hg X.s_0 X.H_0 0 [] []).mono
  have mt := (ht X.s_0 X.H_0 0 [] []).mono
  have me := (he X.s_0 X.H_0 0 [] []).mono
  refine ⟨fun σ A Q Q' k q => hi.mono _ _ _ _ (fun its gd A1 q => lcI_mono q fun p l A => k _ _) q, ?_⟩
  refine pe_weak (pe_lc (g := liftG X.K sl g) (tt := liftB X.K tt) (te := liftE X.K te) hc hN hi.pi ok (fun s H C cl fp => (hg s H C cl fp).pg) (fun s H C cl fp => (ht s H C cl fp).pts) (fun s H C cl fp => (he s H C cl fp).pe) hs) fun sv H Q q => ?_
  obtain ⟨σ, A, hr, sr, q⟩ := q
  refine lc_lift (F := fun p acc A2 => post X.K A H Q (.ref p) (aupd A2 p (.lst acc))) hi.mono mg mt me hsl hr sr (fun p acc A' H' n a r q => ?_) q
  exact q _ _ a r rfl
/-- name = [..] -/
theorem as_setLc (i : Nat) {y : Str} {py spos : Pos} (hc : X.calm = true) (hN : X.N.Nodup) (hi : AI X tg iter ti) (ok : BlkOk X.N X.env.scope scope own) (hsl : ∀ i ∈ sl, i ∈ own.map (·.2))
    (hg : ∀ (s : Shared) (H : Hp) (C : Addr) (cl : List (Str × Addr)) (fp : List Addr), AG (X.blk s H scope (compEnvC scope cl C X.env) fp) tg sl g)
    (ht : ∀ (s : Shared) (H : Hp) (C : Addr) (cl : List (Str × Addr)) (fp : List Addr), ATs (X.blk s H scope (compEnvC scope cl C X.env) fp) ifs tt)
    (he : ∀ (s : Shared) (H : Hp) (C : Addr) (cl : List (Str × Addr)) (fp : List Addr), AE (X.blk s H scope (compEnvC scope cl C X.env) fp) elt te)
    (hsw : swapsWith (.ListComp elt [⟨tg, iter, ifs, 0⟩] scope pos) (some (.Name y py)) spos.line X.env = pure true) (hy : X.N[i]? = some y := by rfl) (hyl : X.env.scope.names.lookup y = some .local := by rfl) (hs : ∀ x, foldedSetIterable iter X.env x = pure x := by intro _; rfl) :
    AS X (.Assign [.Name y py] (.ListComp elt [⟨tg, iter, ifs, 0⟩] scope pos) spos) (sAsg (aLc ti g tt te (own.map (·.2))) (agN i)) := by
  have mg := (hg X.s_0 X.H_0 0 [] []).mono
  have mt := (ht X.s_0 X.H_0 0 [] []).mono
  have me := (he X.s_0 X.H_0 0 [] []).mono
  refine ⟨mon_asg (fun σ A Q Q' k q => hi.mono _ _ _ _ (fun its gd A1 q => lcI_mono q fun p l A => k _ _) q) (fun d σ A Q Q' k q => k _ _ q), ?_⟩
  refine ps_weak (ps_setLc (g := liftG X.K sl g) (tt := liftB X.K tt) (te := liftE X.K te) hc hN hy hyl hsw hi.pi ok (fun s H C cl fp => (hg s H C cl fp).pg) (fun s H C cl fp => (ht s H C cl fp).pts) (fun s H C cl fp => (he s H C cl fp).pe) hs) fun D sv H q => ?_
  obtain ⟨σ, A, hr, sr, q⟩ := q
  refine lc_lift (F := fun p acc A2 => (liftD X.K A H D).nx (sset σ i (.lst acc)) A2) hi.mono mg mt me hsl hr sr (fun p acc A' H' n a r q => ?_) q
  have a' := a.trans adv_drop
  exact q _ _ a' (hrep_drop r n) ((sr.adv a').set (rep_frozen r n) i)
theorem as_setLcM (i : Nat) {y : Str} {py spos : Pos} (hc : X.calm = true) (hN : X.N.Nodup) (hi : AI X tg iter ti) (ok : BlkOk X.N X.env.scope scope own) (hsl : ∀ i ∈ sl, i ∈ own.map (·.2))
    (hg : ∀ (s : Shared) (H : Hp) (C : Addr) (cl : List (Str × Addr)) (fp : List Addr), AG (X.blk s H scope (compEnvC scope cl C X.env) fp) tg sl g)
    (ht : ∀ (s : Shared) (H : Hp) (C : Addr) (cl : List (Str × Addr)) (fp : List Addr), ATs (X.blk s H scope (compEnvC scope cl C X.env) fp) ifs tt)
    (he : ∀ (s : Shared) (H : Hp) (C : Addr) (cl : List (Str × Addr)) (fp : List Addr), AE (X.blk s H scope (compEnvC scope cl C X.env) fp) elt te)
    (hsw : swapsWith (.ListComp elt [⟨tg, iter, ifs, 0⟩] scope pos) (some (.Name y py)) spos.line X.env = pure true) (hy : X.N[i]? = some y := by rfl) (hyl : X.env.scope.names.lookup y = some .local := by rfl) (hs : ∀ x, foldedSetIterable iter X.env x = pure x := by intro _; rfl) :
    AS X (.Assign [.Name y py] (.ListComp elt [⟨tg, iter, ifs, 0⟩] scope pos) spos) (sAsg (aLcM ti g tt te (own.map (·.2))) (agN i)) := by
  have mg := (hg X.s_0 X.H_0 0 [] []).mono
  have mt := (ht X.s_0 X.H_0 0 [] []).mono
  have me := (he X.s_0 X.H_0 0 [] []).mono
  refine ⟨mon_asg (fun σ A Q Q' k q => hi.mono _ _ _ _ (fun its gd A1 q => lcI_mono q fun p l A => k _ _) q) (fun d σ A Q Q' k q => k _ _ q), ?_⟩
  refine ps_weak (ps_setLc (g := liftG X.K sl g) (tt := liftB X.K tt) (te := liftE X.K te) hc hN hy hyl hsw hi.pi ok (fun s H C cl fp => (hg s H C cl fp).pg) (fun s H C cl fp => (ht s H C cl fp).pts) (fun s H C cl fp => (he s H C cl fp).pe) hs) fun D sv H q => ?_
  obtain ⟨σ, A, hr, sr, q⟩ := q
  refine lc_lift (F := fun p acc A2 => (liftD X.K A H D).nx (sset σ i (.ref p)) (aupd A2 p (.lst acc))) hi.mono mg mt me hsl hr sr (fun p acc A' H' n a r q => ?_) q
  exact q _ _ a r ((sr.adv a).set (d := .ref p) (v := .ref p) rfl i)
end

/-! ### methods of lists -/
section
variable {X : Cx} {pos apos cpos : Pos} {o e : Expr} {es : List Expr} {ta : AT} {tr : AAt}
/-- x.append(y) -/
def mAppend : D → List D → AH → DK → Prop
  | .ref p, [y], A, Q => ∃ ds, A p = some (.lst ds) ∧ ds.length ≤ 1000000 ∧ Q .non (aupd A p (.lst (ds ++ [y])))
  | _, _, _, _ => False
def aMeth (f : D → List D → AH → DK → Prop) (to : AT) (t : AAt) : AT := fun σ A Q => to σ A fun x A1 => (∃ p ds, x = .ref p ∧ A1 p = some (.lst ds)) ∧ t σ A1 fun ys A2 => f x ys A2 Q
structure AMeth (X : Cx) (id : String) (f : D → List D → AH → DK → Prop) : Prop where
  mono : ∀ x ys A (Q Q' : DK), (∀ d A', Q d A' → Q' d A') → f x ys A Q → f x ys A Q'
  m : MtR X id (fun x vs H Q => ∃ d ds A, HRep X.K A H ∧ Rep X.K A H d x ∧ Reps X.K A H ds vs ∧ f d ds A (post X.K A H Q))
theorem ae_meth {name : Str} {id : String} {f : D → List D → AH → DK → Prop} (hm : AMeth X id f) (ho : AE X o ta) (ha : AA X (e :: es) tr)
    (h : PE X (.Call (.Attribute o name apos) (e :: es) [] cpos) (tBM X.K "list" (fun x vs H Q => ∃ d ds A, HRep X.K A H ∧ Rep X.K A H d x ∧ Reps X.K A H ds vs ∧ f d ds A (post X.K A H Q)) (liftE X.K ta) (liftA X.K tr))) :
    AE X (.Call (.Attribute o name apos) (e :: es) [] cpos) (aMeth f ta tr) := by
  refine ⟨fun σ A Q Q' k q => ho.mono _ _ _ _ (fun x A1 q => ⟨q.1, ha.mono _ _ _ _ (fun ys A2 q => hm.mono _ _ _ _ _ k q) q.2⟩) q, pe_weak h fun vs H Q q => ?_⟩
  obtain ⟨σ, A, hr, sr, q⟩ := q
  refine ⟨σ, A, hr, sr, ho.mono _ _ _ _ (fun d A1 q v1 H1 a1 r1 e1 => ⟨?_, ?_⟩) q⟩
  · obtain ⟨⟨p, ds, e2, e3⟩, _⟩ := q
    subst e2
    cases (show v1 = V.ref p from e1)
    obtain ⟨ws, e4, _⟩ := r1 _ _ e3
    exact .inl ⟨rfl, _, SqL.of e4⟩
  · refine ⟨σ, A1, r1, sr.adv a1, ha.mono _ _ _ _ (fun ys A2 q us H2 a2 r2 e2 => ?_) q.2⟩
    exact ⟨d, ys, A2, r2, e1.adv a2, e2, hm.mono _ _ _ _ _ (fun d B q => post.adv (a1.trans a2) q) q⟩
theorem me_append : AMeth X "list.append" mAppend := by
  refine ⟨fun x ys A Q Q' k q => ?_, fun pins s σ H x vs v us Q I rx rs q => ?_⟩
  · unfold mAppend at q ⊢
    split at q <;> first | exact q.elim | exact ⟨q.choose, q.choose_spec.1, q.choose_spec.2.1, k _ _ q.choose_spec.2.2⟩
  · obtain ⟨d, ds, A, hr, rd, rr, q⟩ := q
    unfold mAppend at q
    split at q <;> first | exact q.elim | skip
    cases (show x = V.ref _ from rd)
    obtain ⟨y, rfl, ry⟩ := reps1 rr
    obtain ⟨l, e0, hl, q⟩ := q
    obtain ⟨ws, e1, r1⟩ := hr _ _ e0
    have st := adv_set hr e0 (r1.append (Reps.one ry))
    exact mt_append pins s σ H _ _ v us Q I rx rs ⟨_, ws, y, rfl, rfl, e1, by rw [r1.length]; exact lt_ok hl, q _ _ st.1 st.2 rfl⟩
theorem ae_append (ho : AE X o ta) (ha : AA X [e] tr)
    (hbase : attributeBase o "append" X.env (eval o X.env) = eval o X.env := by rfl)
    (hfew : ((backTo cpos (starEach (e :: []) X.env)).all (fun x => !x.1) && (backToKw cpos (keywordEach [] X.env)).all (fun x => x.1.isSome)
      && decide ((e :: []).length + ([] : List Keyword).length + (if ([] : List Keyword).isEmpty then 0 else 1) < 30)) = true := by rfl)
    (hline : (apos.endLine == cpos.line) = true := by rfl) (hs : starEach (e :: []) X.env = (false, eval e X.env) :: starEach [] X.env := by rfl) (hplain : (backTo cpos (starEach [] X.env)).any (·.1) = false := by rfl) :
    AE X (.Call (.Attribute o "append" apos) [e] [] cpos) (aMeth mAppend ta tr) :=
  ae_meth (apos := apos) (cpos := cpos) me_append ho ha (pe_bm PySem.F.plainAttrs_list PySem.F.slot_list_append PySem.F.type_list_append me_append.m ho.pe ha.pa hbase hfew hline hs hplain)
end

/-! ### a list that will change no more -/
theorem SRep.put {K : PySem.W.Frag} {A : AH} {H : Hp} {d : D} {v : V} (h : Rep K A H d v) : ∀ {σ : ASt} {vs : L2.St} (i : Nat), SRep K A H σ vs → vs[i]? = some (some v) → SRep K A H (sset σ i d) vs
  | [], _, _, r, _ => by subst r; rfl
  | _ :: _, _, 0, r, e => by
    obtain ⟨u, q, rfl, x, y⟩ := r
    simp at e
    subst e
    exact ⟨some v, q, rfl, h, y⟩
  | _ :: _, _, i + 1, r, e => by
    obtain ⟨u, q, rfl, x, y⟩ := r
    exact ⟨u, q, rfl, x, SRep.put h i y (by simpa using e)⟩
def sFrz (i : Nat) (t : ASt') : ASt' := fun D σ A => ∃ p ds A', slot σ i = some (.ref p) ∧ A = aupd A' p (.lst ds) ∧ A' p = none ∧ t D (sset σ i (.lst ds)) A'
theorem ss_frz {X : Cx} {sts : List Stmt} {t : ASt'} (i : Nat) (h : ASs X sts t) : ASs X sts (sFrz i t) := by
  refine ⟨fun D D' σ A k q => ?_, pss_weak h.pss fun D vs H q => ?_⟩
  · obtain ⟨p, ds, A', e1, e2, e3, q⟩ := q
    exact ⟨p, ds, A', e1, e2, e3, h.mono _ _ _ _ k q⟩
  · obtain ⟨σ, A, hr, sr, p, ds, A', e1, e2, e3, q⟩ := q
    subst e2
    obtain ⟨v, e4, r⟩ := sr.get e1
    cases (show v = V.ref p from r)
    exact ⟨sset σ i (.lst ds), A', hrep_drop hr e3, SRep.put (rep_frozen hr e3) i (sr.adv adv_drop) e4, h.mono _ _ _ _ (liftD.adv adv_drop) q⟩

/-! ### a def by its body -/
/-- what a def hands back: its lists that may change are left behind; a list that it hands back stands as it is -/
@[irreducible] def ret (Q : DK) : DK := fun d A' => ∃ d' A2, (∀ a o, A2 a = some o → A' a = some o) ∧ (d' = d ∨ ∃ p ds, d = .ref p ∧ d' = .lst ds ∧ A' p = some (.lst ds) ∧ A2 p = none) ∧ Q d' A2
theorem ret_same {A : AH} {Q : DK} {d : D} (h : Q d A) : ret Q d A := by unfold ret; exact ⟨d, A, fun _ _ e => e, .inl rfl, h⟩
theorem ret_frz {A : AH} {Q : DK} {p : Addr} {ds : List D} (n : A p = none) (h : Q (.lst ds) A) : ret Q (.ref p) (aupd A p (.lst ds)) := by
  unfold ret
  exact ⟨.lst ds, A, fun a o e => by rw [aupd_ne (fun z => by rw [z, n] at e; cases e)]; exact e, .inr ⟨p, ds, rfl, rfl, aupd_same, n⟩, h⟩
theorem ret_drop {A : AH} {Q : DK} {p : Addr} {o : AO} {d : D} (n : A p = none) (h : Q d A) : ret Q d (aupd A p o) := by
  unfold ret
  exact ⟨d, A, fun a u e => by rw [aupd_ne (fun z => by rw [z, n] at e; cases e)]; exact e, .inl rfl, h⟩
theorem ret_sub {A A2 : AH} {Q : DK} {d : D} (n : ∀ a o, A2 a = some o → A a = some o) (h : Q d A2) : ret Q d A := by unfold ret; exact ⟨d, A2, n, .inl rfl, h⟩
theorem ret_go {K : PySem.W.Frag} {A : AH} {H : Hp} {Q : VK} {d : D} {A' : AH} (h : ret (post K A H Q) d A') : post K A H Q d A' := fun v H' a r e => by
  unfold ret at h
  obtain ⟨d', A2, hs, hd, q⟩ := h
  have ad : Adv A' H' A2 H' := fun b o e1 e2 => by
    refine ⟨?_, e2⟩
    cases z : A2 b with
    | none => rfl
    | some u =>
      have z' := hs b u z
      rw [e1] at z'
      cases z'
  have r2 : HRep K A2 H' := fun b u e1 => by
    have := r b u (hs b u e1)
    cases u with
    | lst ds =>
      obtain ⟨ws, h1, h2⟩ := this
      exact ⟨ws, h1, h2.adv ad⟩
  refine q v H' (a.trans ad) r2 ?_
  rcases hd with rfl | ⟨p, ds, rfl, rfl, e1, e2⟩
  · exact e.adv ad
  · cases (show v = V.ref p from e)
    obtain ⟨ws, h1, h2⟩ := r p _ e1
    exact ⟨p, ws, rfl, ⟨e2, h1⟩, h2.adv ad⟩
section
variable {P : Program} {w : World} {K : PySem.W.Frag} {mg : Str → Option Value} {base : Heap}
/-- where a def stands -/
structure Def (K : PySem.W.Frag) (mg : Str → Option Value) (x : Str) (st : Stmt) (ps : List Str) : Prop where
  ex : ∃ (f : Addr) (fd : FuncData), mg x = some (.ref f) ∧ Binds K fd ps [] ∧ Fun K x x st f fd
theorem Def.ok {x : Str} {st : Stmt} {N ps : List Str} {k : Nat} {sp : List D → AH → DK → Prop} (F : Def K mg x st ps) (S : FnScope N ps (defScope st)) (mono : MonL sp) (len : ∀ ds A Q, sp ds A Q → ds.length = ps.length)
    (hbody : ∀ (f : Addr) (cdv : Value) (A : Around) (outer : List Env) (s : Shared) (H : Hp) (E : XK), Room k (A.deeper (PyProof.Rows.envOfC x (defScope st) s.heap.objs.size f cdv)) →
      ∃ t, ASs (cxOf CX0 P w K mg base N x (defScope st) f cdv A outer s H E).nox (defBody st) t ∧ ∀ ds B (Q : DK), sp ds B Q → t { nx := fun _ A' => ret Q .non A', rt := ret Q } (startD N.length ds) B) : AFn P w K mg base (k + 1) x sp := by
  obtain ⟨f, fd, h1, h2, h3⟩ := F.ex
  refine ⟨mono, f, fd, ps, h1, h3.kp, h2, h3.ok S (fun vs H Q E h => ?_) fun cdv A outer s H vs Q E hr h => ?_⟩
  · obtain ⟨ds, B, _, rs, h⟩ := h
    rw [rs.length]
    exact len _ _ _ h
  · obtain ⟨t, ht, hq⟩ := hbody f cdv A outer s H E hr
    refine ⟨_, ht.pss, ?_⟩
    obtain ⟨ds, B, hr', rs, h⟩ := h
    have e : startD N.length ds = startD N.length ds := rfl
    refine ⟨startD N.length ds, B, hr', ?_, ht.mono { nx := fun _ A' => ret (post K B H Q) .non A', rt := ret (post K B H Q) } _ _ _ ⟨fun σ A' q => ?_, fun d A' q => ?_, fun _ _ q => (show False from q).elim, fun _ _ q => (show False from q).elim⟩ (hq ds B _ h)⟩
    · unfold startD L2.start
      rw [rs.length]
      exact srep_start rs
    · exact fun vs2 H2 a2 r2 s2 => (ret_go q) _ _ a2 r2 rfl
    · exact ret_go q
end
end Rk

/-! x[::-1] of a tuple or a list -/
namespace Rk
open PySem PySem.Spec PyProof.Rows L2
theorem fm_congr {α β : Type} {f g : α → Option β} : ∀ {l : List α}, (∀ x ∈ l, f x = g x) → l.filterMap f = l.filterMap g
  | [], _ => rfl
  | x :: l, h => by
    rw [List.filterMap_cons, List.filterMap_cons, h x (List.mem_cons_self ..), fm_congr fun y hy => h y (List.mem_cons_of_mem _ hy)]
theorem rev_pick (xs : Array Value) : ((List.range xs.size).filterMap fun (m : Nat) => xs[(((xs.size : Int) - 1) + (m : Int) * (-1)).toNat]?).toArray = xs.toList.reverse.toArray := by
  congr 1
  refine List.ext_getElem? fun i => ?_
  have e : (List.range xs.size).filterMap (fun (m : Nat) => xs[(((xs.size : Int) - 1) + (m : Int) * (-1)).toNat]?) = (List.range xs.size).map fun m => xs.toList.getD (xs.size - 1 - m) .none := by
    rw [← List.filterMap_eq_map]
    refine fm_congr fun m hm => ?_
    have := List.mem_range.mp hm
    have e1 : (((xs.size : Int) - 1) + (m : Int) * (-1)).toNat = xs.size - 1 - m := by omega
    rw [e1]
    show _ = some (xs.toList.getD (xs.size - 1 - m) .none)
    rw [List.getD_eq_getElem?_getD, Array.getElem?_toList, Array.getElem?_eq_getElem (show xs.size - 1 - m < xs.size by omega)]
    rfl
  rw [e, List.getElem?_map]
  by_cases h : i < xs.size
  · rw [List.getElem?_range h, List.getElem?_reverse (by rw [Array.length_toList]; exact h)]
    show some (xs.toList.getD (xs.size - 1 - i) .none) = _
    rw [List.getD_eq_getElem?_getD, Array.length_toList, Array.getElem?_toList, Array.getElem?_eq_getElem (show xs.size - 1 - i < xs.size by omega)]
    rfl
  · rw [List.getElem?_eq_none (by rw [List.length_range]; omega), List.getElem?_eq_none (by rw [List.length_reverse, Array.length_toList]; omega)]
    rfl
theorem rev_adjust (n : Nat) : Builtin.Slice.sliceAdjust none none (-1) (n : Int) = ((n : Int) - 1, -1) := by
  unfold Builtin.Slice.sliceAdjust
  simp
theorem rev_places (n : Nat) : Builtin.Slice.slicePlaces ((n : Int) - 1) (-1) (-1) = n := by
  unfold Builtin.Slice.slicePlaces
  simp
  omega
section
variable {prog : Program} {w : World} {A : Around} {E : Value → Shared → Prop} {s : Shared}
theorem applied_rev {sl : Addr} {n : Nat} {vl vu vs : Value} {R : Int × Int × Nat → Shared → Prop} (hs : s.heap.IsSliceOf sl vl vu vs) (pl : IsPart vl none) (pu : IsPart vu none) (ps : IsPart vs (some (-1)))
    (hR : R ((n : Int) - 1, -1, n) s) : wpAny (model prog w) A (Builtin.Slice.sliceApplied (.ref sl) (pure (n : Int))) R E s := by
  obtain ⟨ob, h1, h2, h3⟩ := id hs
  unfold Builtin.Slice.sliceApplied Builtin.Slice.sliceFields
  refine wpAny_bind (wpAny_bind (wpAny_field h1 h3 (x := vl) rfl (wpAny_bind (wpAny_field h1 h3 (x := vu) rfl (wpAny_bind (wpAny_field h1 h3 (x := vs) rfl (wpAny_pure ?_)))))))
  refine wpAny_bind (HT.slicePart_ ps ?_)
  show wpAny _ _ (if ((-1 : Int) == 0) = true then _ else _) _ _ s
  rw [if_neg (by decide)]
  refine wpAny_bind (HT.slicePart_ pl (wpAny_bind (HT.slicePart_ pu (wpAny_bind (wpAny_pure ?_)))))
  show wpAny _ _ (match Builtin.Slice.sliceAdjust none none (-1) (n : Int) with | (lo, hi) => pure (lo, (-1 : Int), Builtin.Slice.slicePlaces lo hi (-1))) _ _ s
  rw [rev_adjust]
  show wpAny _ _ (pure ((n : Int) - 1, (-1 : Int), Builtin.Slice.slicePlaces ((n : Int) - 1) (-1) (-1))) _ _ s
  rw [rev_places]
  exact wpAny_pure hR
theorem cell_tuple_rev {t sl : Addr} {items : Array Value} {vl vu vs : Value} {Q : Value → Shared → Prop} (ht : IsTup s.heap t items) (hs : s.heap.IsSliceOf sl vl vu vs) (pl : IsPart vl none) (pu : IsPart vu none) (ps : IsPart vs (some (-1)))
    (h : Q (.ref s.heap.objs.size) { s with heap := s.heap.push { cls := .type "tuple", data := .seq items.toList.reverse.toArray } }) (hz : items.size ≤ sizeLine) : wpAny (model prog w) A (getItem (.ref t) (.ref sl)) Q E s := by
  have fits : sizeOk (.seq items.toList.reverse.toArray) := by
    show items.toList.reverse.toArray.size ≤ sizeLine
    rw [List.size_toArray, List.length_reverse, Array.length_toList]
    exact hz
  obtain ⟨ob, h1, h2, h3⟩ := id hs
  have isSlice : s.TypeIs (.ref sl) "slice" := ⟨ob, h1, h2⟩
  unfold getItem
  try with_reducible refine wpAny_holding ?_
  first | refine wpAny_bind (wpAny_pure ?_) | skip
  refine wpAny_bind (wpAny_sequenceKey ht.typeIs (by decide) ?_)
  refine wpAny_bind (wpAny_callSpecial?_slot (name := Str.ofString "__getitem__") ht.typeIs PyProof.Rows.slot_tuple_getitem (wpAny_call_entry PyProof.Rows.slot_tuple_getitem ht.typeIs entry_tuple_getitem ?_ (args_tuple_getitem _ _)))
  show wpAny _ _ (Builtin.Tuple.tupleItemsOf (.ref t) >>= _) _ _ s
  refine wpAny_bind (tupleItemsOf_ ht ?_)
  refine wpAny_bind (wpAny_typeOf isSlice ?_)
  rw [if_pos (by decide)]
  refine wpAny_bind (applied_rev hs pl pu ps ?_)
  have notWhole : ¬ (((items.size : Int) - 1 == 0 && (-1 : Int) == 1 && items.size == items.size) = true) := by
    rw [show ((-1 : Int) == 1) = false by decide, Bool.and_false, Bool.false_and]
    exact Bool.false_ne_true
  show wpAny _ _ (if ((items.size : Int) - 1 == 0 && (-1 : Int) == 1 && items.size == items.size) = true then _ else _) _ _ s
  rw [if_neg notWhole, rev_pick]
  first
    | exact wpAny_bind (m := Builtin.Tuple.tupleExact _) (wpAny_newObj_type (wpAny_pure ⟨_, rfl, wpAny_pure h⟩) fits)
    | exact wpAny_bind (m := Builtin.Tuple.tupleExact _) (wpAny_newObj_type (wpAny_bind (wpAny_pure (wpAny_pure ⟨_, rfl, wpAny_pure h⟩))) fits)
    | exact wpAny_bind (wpAny_bind (m := Builtin.Tuple.tupleExact _) (wpAny_newObj_type (wpAny_pure (wpAny_pure ⟨_, rfl, wpAny_pure h⟩)) fits))
    | exact wpAny_bind (wpAny_bind (m := Builtin.Tuple.tupleExact _) (wpAny_newObj_type (wpAny_pure ⟨_, rfl, wpAny_pure h⟩) fits))
end
/-- x[::-1], x a list or a tuple -/
def tRevA (K : PySem.W.Frag) (te : TE) : TE := fun σ H Q => te σ H fun x H1 => ∃ a xs, x = .ref a ∧ ((SqL K H1 a xs ∧ ∀ p, H1 p = none → Q (.ref p) (upd H1 p (.lst xs.reverse))) ∨ (SqT K H1 a xs ∧ ∀ p, H1 p = none → Q (.ref p) (upd H1 p (.tup xs.reverse))))
theorem pe_revA {X : Cx} {e : Expr} {te : TE} {k : Nat} {p1 p2 p3 pos : Pos} (he : PE X e te) : PE X (.Subscript e (.Slice none none (some (.UnaryOp .USub (.Constant (.int 1) k p1) p2)) p3) pos) (tRevA X.K te) := by
  refine ⟨fun pins s σ H Q I h => ?_⟩
  refine Subscript_ (thn (he.run pins s σ H _ I h) fun v s1 ⟨x, H1, I1, r1, q1⟩ => ?_)
  obtain ⟨a, xs, ex, q⟩ := q1
  subst ex
  cases r1
  have neg1 : PO X (some (.UnaryOp .USub (.Constant (.int 1) k p1) p2)) (tPart (tUn (rU fun i => .int (-i)) (tC (.int 1)))) := po_some (pe_un un_neg pe_int)
  refine wpAny_Slice (thn (po_none.run pins s1 σ H1 (fun o H2 => o = none ∧ H2 = H1) I1 ⟨rfl, rfl⟩) fun vl s2 ⟨l, H2, I2, pl, el, e2⟩ => ?_)
  subst el e2
  refine thn (po_none.run pins s2 σ H2 (fun o H3 => o = none ∧ H3 = H2) I2 ⟨rfl, rfl⟩) fun vu s3 ⟨u, H3, I3, pu, eu, e3⟩ => ?_
  subst eu e3
  refine thn (neg1.run pins s3 σ H3 (fun o H4 => o = some (-1) ∧ H4 = H3) I3 ⟨1, rfl, -1, rfl, rfl, rfl⟩) fun vs s4 ⟨o, H4, I4, ps, eo, e4⟩ => ?_
  subst eo e4
  have I5 : Inv X pins σ H4 { s4 with heap := s4.heap.push { cls := .type "slice", data := .fields #[vl, vu, vs] } } := I4.kept (t' := s4.toks) fun b ob q => Heap.get?_push_of_some _ q
  show wpAny (model X.prog X.w) X.A (subscriptTail e (.Slice none none (some (.UnaryOp .USub (.Constant (.int 1) k p1) p2)) p3) (.ref a) (.ref s4.heap.objs.size)) (EP X pins σ Q) X.xe { s4 with heap := s4.heap.push { cls := .type "slice", data := .fields #[vl, vu, vs] } }
  rcases q with ⟨hx, q⟩ | ⟨hx, q⟩
  · obtain ⟨its, r, ht, hz⟩ := I5.list hx
    have hlen := r.length
    refine tail_any (ops := [.ref a, .ref s4.heap.objs.size]) ht.isList.typeIs (PySem.slot_list_getitem.lookup) ?_ (by with_unfolding_all rfl)
    refine wpAny_getItem_list_slice ht.isList (Heap.IsSliceOf.new _ vl vu vs) pl pu ps (by decide) ?_ (by rw [List.size_toArray]; omega)
    rw [PySem.W.krv_pick]
    refine ⟨.ref _, _, I5.laid (t' := s4.toks) (o := .lst xs.reverse) (fun b ob q => Heap.get?_push_of_some _ q) (Nat.le_refl _) ?_, rfl, q _ (I5.hok.fresh (Nat.le_refl _))⟩
    exact ⟨by rw [List.length_reverse]; exact hz, _, 0, r.reverse, Heap.get?_push_size _ rfl⟩
  · obtain ⟨its, r, ht, hz⟩ := I5.tuple hx
    have hlen := r.length
    refine tail_any (ops := [.ref a, .ref s4.heap.objs.size]) ht.typeIs (PyProof.Rows.slot_tuple_getitem.lookup) ?_ (by with_unfolding_all rfl)
    refine cell_tuple_rev ht (Heap.IsSliceOf.new _ vl vu vs) pl pu ps ?_ (by rw [List.size_toArray]; omega)
    refine ⟨.ref _, _, I5.laid (t' := s4.toks) (o := .tup xs.reverse) (fun b ob q => Heap.get?_push_of_some _ q) (Nat.le_refl _) ?_, rfl, q _ (I5.hok.fresh (Nat.le_refl _))⟩
    exact ⟨by rw [List.length_reverse]; exact hz, _, r.reverse, IsTup.new _ _⟩
def aRev (te : AT) : AT := fun σ A Q => te σ A fun d A1 => match d with
  | .tup l => Q (.tup l.reverse) A1
  | .lst l => Q (.lst l.reverse) A1
  | _ => False
theorem ae_rev {X : Cx} {e : Expr} {ta : AT} {k : Nat} {p1 p2 p3 pos : Pos} (he : AE X e ta) : AE X (.Subscript e (.Slice none none (some (.UnaryOp .USub (.Constant (.int 1) k p1) p2)) p3) pos) (aRev ta) := by
  refine ⟨fun σ A Q Q' k q => he.mono _ _ _ _ (fun d A1 q => by cases d <;> first | exact q.elim | exact k _ _ q) q, pe_weak (pe_revA he.pe) fun vs H Q q => ?_⟩
  obtain ⟨σ, A, hr, sr, q⟩ := q
  refine ⟨σ, A, hr, sr, he.mono _ _ _ _ (fun d A1 q v1 H1 a1 r1 e1 => ?_) q⟩
  cases d with
  | tup dl =>
    obtain ⟨p, xs, rfl, t, r⟩ := e1
    exact ⟨p, xs, rfl, .inr ⟨t.sq, fun p' hp => q _ _ (a1.trans (adv_new r1 hp).1) (adv_new r1 hp).2 (rep_tup r1 hp r.rev)⟩⟩
  | lst dl =>
    obtain ⟨p, xs, rfl, t, r⟩ := e1
    exact ⟨p, xs, rfl, .inl ⟨t.sq, fun p' hp => q _ _ (a1.trans (adv_new r1 hp).1) (adv_new r1 hp).2 (rep_lst r1 hp r.rev)⟩⟩
  | _ => exact (show False from q).elim
end Rk

namespace Rk
open PySem PySem.Spec L2
/-! ### the end -/
structure DefIn (K : PySem.W.Frag) (x : Str) (st : Stmt) : Prop where
  ex : ∃ (f : Addr) (od an : Option Addr) (sl : Array (Option Value)) (oc kV dc pm cd ct : Value), PySem.W.nsIn K mainGlobals x = some (some (.ref f)) ∧
    K.lookup f = some ⟨oc, od, .func (PySem.W.fnOf x x (defArgs st) (defBody st) (defScope st) .none kV dc pm an cd ct), sl⟩ ∧ PySem.W.codeIn K cd x = true ∧ PySem.W.keepIn K (.ref f) = true
theorem defIn {K : PySem.W.Frag} {x : Str} {st : Stmt} {f : Addr} {od an : Option Addr} {sl : Array (Option Value)} {oc kV dc pm cd ct : Value} (a : PySem.W.nsIn K mainGlobals x = some (some (.ref f)))
    (l : K.lookup f = some ⟨oc, od, .func (PySem.W.fnOf x x (defArgs st) (defBody st) (defScope st) .none kV dc pm an cd ct), sl⟩) (c : PySem.W.codeIn K cd x = true) (k : PySem.W.keepIn K (.ref f) = true) : DefIn K x st :=
  ⟨f, od, an, sl, oc, kV, dc, pm, cd, ct, a, l, c, k⟩
theorem DefIn.def {K : PySem.W.Frag} {x : Str} {st : Stmt} {h : Heap} {mg : Str → Option Value} {ps : List Str} (D : DefIn K x st) (X : K.In h) (G : h.Ns mainGlobals mg)
    (b : ∀ (kV doc pm : Value) (an : Option Addr) (cdv ct : Value) (us : List Value), us.length = ps.length → bindArgs (PySem.W.fnOf x x (defArgs st) (defBody st) (defScope st) .none kV doc pm an cdv ct) ⟨us, []⟩ = pure (ps.zip us)) : Def K mg x st ps := by
  obtain ⟨f, od, an, sl, oc, kV, dc, pm, cd, ct, a, l, c, k⟩ := D.ex
  exact ⟨f, _, PySem.W.mg_of X G a, (fun_mk l c k).binds b, fun_mk l c k⟩
theorem globD_int {K : PySem.W.Frag} {x : Str} {h : Heap} {mg : Str → Option Value} {i : Int} {t : Tok} (X : K.In h) (G : h.Ns mainGlobals mg) (a : PySem.W.nsIn K mainGlobals x = some (some (.int i t))) : GlobD K mg x (.int i) :=
  ⟨_, .int i, PySem.W.mg_of X G a, ⟨t, rfl⟩, fun _ _ => rfl⟩
def spLaw : List D → AH → DK → Prop := fun ds A Q => ∃ ns : List Int, ds = [.scr ns] ∧ ns.length ≤ 63 ∧ ∀ A', Q (.bl true) A'
theorem spLaw_mono : MonL spLaw := fun ds A Q Q' k ⟨ns, e, h, q⟩ => ⟨ns, e, h, fun A' => k _ _ (q A')⟩
/-- the promise of law, from its body; its def known -/
theorem law_fn {P : Program} {w : World} {K : PySem.W.Frag} {mg : Str → Option Value} {base : Heap} {st : Stmt} {N : List Str} {k : Nat} {f : Addr} {fd : FuncData} (F : Fun K "law" "law" st f fd) (S : FnScope N ["script"] (defScope st))
    (hbody : ∀ (f : Addr) (cdv : Value) (A : Around) (outer : List Env) (s : Shared) (H : Hp) (E : XK), Room k (A.deeper (PyProof.Rows.envOfC "law" (defScope st) s.heap.objs.size f cdv)) →
      ∃ t, ASs (cxOf CX0 P w K mg base N "law" (defScope st) f cdv A outer s H E).nox (defBody st) t ∧ ∀ ds B (Q : DK), spLaw ds B Q → t { nx := fun _ A' => ret Q .non A', rt := ret Q } (startD N.length ds) B) :
    FnOk P w K mg base CX0 (k + 1) f fd ["script"] (fun vs H Q _ => liftL K spLaw vs H Q) := by
  refine F.ok S (fun vs H Q E h => ?_) fun cdv A outer s H vs Q E hr h => ?_
  · obtain ⟨ds, B, _, rs, ns, rfl, _⟩ := h
    rw [rs.length]
    rfl
  · obtain ⟨t, ht, hq⟩ := hbody f cdv A outer s H E hr
    refine ⟨_, ht.pss, ?_⟩
    obtain ⟨ds, B, hr', rs, h⟩ := h
    refine ⟨startD N.length ds, B, hr', ?_, ht.mono { nx := fun _ A' => ret (post K B H Q) .non A', rt := ret (post K B H Q) } _ _ _ ⟨fun σ A' q => ?_, fun d A' q => ?_, fun _ _ q => (show False from q).elim, fun _ _ q => (show False from q).elim⟩ (hq ds B _ h)⟩
    · unfold startD L2.start
      rw [rs.length]
      exact srep_start rs
    · exact fun vs2 H2 a2 r2 s2 => (ret_go q) _ _ a2 r2 rfl
    · exact ret_go q
theorem law_walk {l : PySem.W.OpenLaw} {q : Program} {loose : List Str} {XP : (Str → Option Value) → Heap → Prop} {YP : World → Heap → Prop} {d : DefRec} {K : Params → PySem.W.Frag} {st : Stmt} {k : Nat} (hn : l.most = some 63) (hdf : d.params.defaults = []) (hr : Room k callerA) (hd : d.name = "law")
    (hY : ∀ (w : World) (h : Heap), YP w h → (K w.params).In h)
    (hb : ∀ (kV doc pm : Value) (an : Option Addr) (cdv ct : Value) (u : Value), bindArgs (PySem.W.fnOf "law" "law" (defArgs st) (defBody st) (defScope st) .none kV doc pm an cdv ct) ⟨[u], []⟩ = pure [(("script" : Str), u)])
    (D : ∀ (w : World), DefIn (K w.params) "law" st)
    (F : ∀ (w : World) (mg : Str → Option Value) (h base : Heap), (K w.params).In h → h.Ns mainGlobals mg → ∀ (f : Addr) (fd : FuncData), Fun (K w.params) "law" "law" st f fd → FnOk l.prog w (K w.params) mg base CX0 k f fd ["script"] (fun vs H Q _ => liftL (K w.params) spLaw vs H Q)) :
    PySem.W.WalkO q loose XP YP l.row.toRowW d [] (fun f vs => PySem.call f vs) := by
  refine L2.walk_of (n := 63) (k := k) (x := "script") (CX := fun _ => CX0) (sp := fun w => fun vs H Q _ => liftL (K w.params) spLaw vs H Q) hn (by decide) hdf hr hY (fun w mg fa h KX G hmg => ?_) (fun w H a ns hl hO hS => ?_) fun _ _ _ _ _ z => z
  · obtain ⟨f, od, an, sl, oc, kV, dc, pm, cd, ct, a, l', c, k'⟩ := (D w).ex
    rw [hd] at hmg
    have e := hmg.symm.trans (PySem.W.mg_of KX G a)
    cases e
    refine ⟨_, fun s u => .of_eq (hb _ _ _ _ _ _ u), fun base _ _ => F w mg h base KX G _ _ (fun_mk l' c k')⟩
  · refine ⟨[.scr ns], fun _ => none, fun a o e => (nomatch e), ⟨.ref a, [], rfl, ⟨a, rfl, ?_⟩, rfl⟩, ns, rfl, hl, fun A' v H' _ _ r => r⟩
    rcases hS with hS | hS
    · exact .inl ⟨rfl, hS⟩
    · exact .inr hS
end Rk

namespace Rk
open PySem PySem.Spec L2
local macro_rules | `(tactic| walk_at "wh") => `(tactic| conv => whnf)
local macro_rules | `(tactic| walk_at "side") => `(tactic| first | omega | exact rfl | (unfold Dvs; omega) | (unfold Fac; omega) | exact Nat.le_of_ble_eq_true rfl | assumption | decide | (simp; done) | (simp; omega))
local macro_rules | `(tactic| walk_at "run") => `(tactic| ((conv => whnf); repeat ((first | refine br_yes (by rfl) ?_ | refine br_no (by rfl) ?_ | refine And.intro (by walk_at "side") ?_); conv => whnf)))
abbrev rets (Q : DK) : AEnds := { nx := fun _ A' => ret Q .non A', rt := ret Q }
/-! ### the cup -/
def Cup (A : AH) (p : Addr) : Prop := ∃ a b : Int, A p = some (.lst [.int a, .int b]) ∧ 0 ≤ a ∧ 0 ≤ b ∧ b < 4294967296
def Oth (A A' : AH) (p : Addr) : Prop := ∀ q, q ≠ p → A' q = A q
theorem Oth.upd {A : AH} {p : Addr} {o : AO} : Oth A (aupd A p o) p := fun q h => aupd_ne h
theorem Oth.trans {A A1 A2 : AH} {p : Addr} (h : Oth A A1 p) (g : Oth A1 A2 p) : Oth A A2 p := fun q n => (g q n).trans (h q n)
def spCup : List D → AH → DK → Prop := fun ds A Q => ∃ ns : List Int, ds = [.scr ns] ∧ ns.length ≤ 63 ∧ ∀ p A', A p = none → Cup A' p → Oth A A' p → Q (.ref p) A'
theorem spCup_mono : MonL spCup := fun ds A Q Q' k ⟨ns, e, l, h⟩ => ⟨ns, e, l, fun p A' h1 h2 h3 => k _ _ (h p A' h1 h2 h3)⟩
def spRoll : List D → AH → DK → Prop
  | [.ref p, .int m], A, Q => (Cup A p ∧ 0 < m ∧ m < 1000000000000000000000000000000) ∧ ∀ r A', 0 ≤ r → r < m → Cup A' p → Oth A A' p → Q (.int r) A'
  | _, _, _ => False
theorem spRoll_mono : MonL spRoll := fun ds A Q Q' k h => by
  unfold spRoll at h ⊢
  split at h <;> first | exact ⟨h.1, fun r A' h1 h2 h3 h4 => k _ _ (h.2 r A' h1 h2 h3 h4)⟩ | exact h.elim
def spSome : List D → AH → DK → Prop
  | [.ref p, .lst l], A, Q => (Cup A p ∧ 0 < l.length ∧ l.length ≤ 1000000) ∧ ∀ d A', d ∈ l → Cup A' p → Oth A A' p → Q d A'
  | [.ref p, .tup l], A, Q => (Cup A p ∧ 0 < l.length ∧ l.length ≤ 1000000) ∧ ∀ d A', d ∈ l → Cup A' p → Oth A A' p → Q d A'
  | _, _, _ => False
theorem spSome_mono : MonL spSome := fun ds A Q Q' k h => by
  unfold spSome at h ⊢
  split at h <;> first | exact ⟨h.1, fun r A' h1 h2 h3 => k _ _ (h.2 r A' h1 h2 h3)⟩ | exact h.elim
theorem spRoll_len {ds : List D} {A : AH} {Q : DK} (h : spRoll ds A Q) : ds.length = 2 := by
  unfold spRoll at h
  split at h <;> first | rfl | exact h.elim
theorem spSome_len {ds : List D} {A : AH} {Q : DK} (h : spSome ds A Q) : ds.length = 2 := by
  unfold spSome at h
  split at h <;> first | rfl | exact h.elim
def tCup (c1 c2 c3 c4 c5 : Int) : ASt' :=
  (sSeq (sAsg (aCall cAbs (aCons (aOp aIx (aOp aAdd (aCall cLst (aCons (aVar 0) aNil)) (aLst (aCons (aC (.int 0)) aNil))) (aC (.int 0))) aNil)) (agN 1))
    (sRet (aLstM (aCons (aIf (aTest (aOp aGe (aVar 1) (aOp aPow (aC (.int 10)) (aC (.int 18))))) (aOp aFDiv (aVar 1) (aC (.int c1))) (aC (.int 0))) (aCons (aOp aAdd (aOp aMod (aCall cInt (aCons (aOp aAdd (aOp aMul (aVar 1) (aC (.int c2))) (aC (.int c3))) aNil)) (aC (.int c4))) (aC (.int c5))) aNil)))))
theorem r_cup {c1 c2 c3 c4 c5 : Int} (h1 : 0 < c1 ∧ c1 < 10000) (h2 : 0 < c2 ∧ c2 < 1000000) (h3 : 0 < c3) (h4 : 0 < c4 ∧ c4 < 3000000000) (h5 : 0 ≤ c5 ∧ c5 < 100000) : ∀ ds B (Q : DK), spCup ds B Q → tCup c1 c2 c3 c4 c5 (rets Q) (startD 2 ds) B := by
  rintro _ B Q ⟨ns, rfl, hl, h⟩
  unfold tCup
  walk_at "wh"
  refine ⟨by decide, ?_⟩
  walk_at "wh"
  refine ⟨by simp; omega, ?_⟩
  walk_at "wh"
  obtain ⟨c, hc⟩ : ∃ c, ixD (ns.map D.int ++ [D.int 0]) 0 = some (.int c) := by
    cases ns with
    | nil => exact ⟨0, rfl⟩
    | cons n ns => exact ⟨n, rfl⟩
  refine optK_of hc ?_
  walk_at "wh"
  refine ⟨by decide, ?_⟩
  generalize hn : ((c.natAbs : Nat) : Int) = n
  have h0 : 0 ≤ n := by omega
  have last : ∀ x : Int, 0 ≤ x → ∀ p, B p = none → ret Q (.ref p) (aupd B p (.lst [.int x, .int ((n * c2 + c3) % c4 + c5)])) := fun x hx p hp => by
    have e1 := Int.emod_nonneg (n * c2 + c3) (show c4 ≠ 0 by omega)
    have e2 := Int.emod_lt_of_pos (n * c2 + c3) h4.1
    exact ret_same (h p _ hp ⟨_, _, aupd_same, hx, by omega, by omega⟩ Oth.upd)
  refine br_dec (fun _ => ?_) (fun _ => ?_)
  · walk_at "wh"
    refine ⟨⟨h1.1, by omega⟩, ?_⟩
    walk_at "wh"
    refine ⟨.inr (.inl (by omega)), ?_⟩
    walk_at "wh"
    refine ⟨h4.1, ?_⟩
    walk_at "wh"
    refine ⟨by simp, ?_⟩
    exact last _ (Int.ediv_nonneg h0 (by omega))
  · walk_at "wh"
    refine ⟨.inr (.inl (by omega)), ?_⟩
    walk_at "wh"
    refine ⟨h4.1, ?_⟩
    walk_at "wh"
    refine ⟨by simp, ?_⟩
    exact last _ (by decide)
def tRoll (c1 c2 c3 c4 c5 c6 : Int) : ASt' :=
  (sSeq (sIf (aTest (aOp aGt (aOp aIx (aVar 0) (aC (.int 0))) (aC (.int 0)))) (sSeq (sAsg (aOp aMod (aCall cInt (aCons (aOp aIx (aVar 0) (aC (.int 0))) aNil)) (aVar 1)) (agN 2))
    (sSeq (sAsg (aOp aFDiv (aOp aIx (aVar 0) (aC (.int 0))) (aVar 1)) (agS (aVar 0) (aC (.int 0))))
    (sRet (aVar 2)))) sNext)
    (sSeq (sAsg (aOp aMod (aCall cInt (aCons (aOp aAdd (aOp aMul (aOp aIx (aVar 0) (aC (.int 1))) (aC (.int c1))) (aC (.int c2))) aNil)) (aC (.int c3))) (agS (aVar 0) (aC (.int 1))))
    (sSeq (sAsg (aOp aMod (aCall cInt (aCons (aOp aMul (aOp aIx (aVar 0) (aC (.int 1))) (aOp aAdd (aOp aIx (aVar 0) (aC (.int 1))) (aC (.int c4)))) aNil)) (aC (.int c5))) (agN 3))
    (sRet (aOp aMod (aCall cInt (aCons (aOp aFDiv (aVar 3) (aC (.int c6))) aNil)) (aVar 1))))))
theorem r_roll {c1 c2 c3 c4 c5 c6 : Int} (h1 : 0 < c1 ∧ c1 < 1000000) (h2 : 0 < c2) (h3 : 0 < c3 ∧ c3 < 4294967296) (h5 : 0 < c5 ∧ c5 < 4294967296) (h6 : 0 < c6 ∧ c6 < 100000) : ∀ ds B (Q : DK), spRoll ds B Q → tRoll c1 c2 c3 c4 c5 c6 (rets Q) (startD 4 ds) B := by
  intro ds B Q h0
  unfold spRoll at h0
  split at h0 <;> first | exact h0.elim | skip
  rename_i p m
  obtain ⟨⟨⟨a, b, hA, ha, hb, hb2⟩, hm⟩, h⟩ := h0
  unfold tRoll
  walk_at "wh"
  refine ⟨_, hA, ?_⟩
  walk_at "wh"
  refine br_dec (fun g => ?_) (fun g => ?_)
  · walk_at "wh"
    refine ⟨_, hA, ?_⟩
    walk_at "wh"
    refine ⟨hm.1, ?_⟩
    walk_at "wh"
    refine ⟨_, hA, ?_⟩
    walk_at "wh"
    refine ⟨⟨hm.1, by omega⟩, ?_⟩
    walk_at "wh"
    refine ⟨_, hA, ?_⟩
    walk_at "wh"
    refine ret_same (h _ _ (Int.emod_nonneg _ (by omega)) (Int.emod_lt_of_pos _ hm.1) ⟨_, _, aupd_same, Int.ediv_nonneg ha (by omega), hb, hb2⟩ Oth.upd)
  · walk_at "wh"
    refine ⟨_, hA, ?_⟩
    walk_at "wh"
    refine ⟨.inr (.inl (by omega)), ?_⟩
    walk_at "wh"
    refine ⟨h3.1, ?_⟩
    walk_at "wh"
    refine ⟨_, hA, ?_⟩
    have e1 := Int.emod_nonneg (b * c1 + c2) (show c3 ≠ 0 by omega)
    have e2 := Int.emod_lt_of_pos (b * c1 + c2) h3.1
    walk_at "wh"
    refine ⟨_, aupd_same, ?_⟩
    walk_at "wh"
    refine ⟨_, aupd_same, ?_⟩
    walk_at "wh"
    refine ⟨.inl (by omega), ?_⟩
    walk_at "wh"
    refine ⟨h5.1, ?_⟩
    walk_at "wh"
    refine ⟨⟨h6.1, by omega⟩, ?_⟩
    walk_at "wh"
    refine ⟨hm.1, ?_⟩
    walk_at "wh"
    refine ret_same (h _ _ (Int.emod_nonneg _ (by omega)) (Int.emod_lt_of_pos _ hm.1) ⟨_, _, aupd_same, ha, e1, by omega⟩ Oth.upd)
def tSome (sp : List D → AH → DK → Prop) : ASt' := (sRet (aOp aIx (aVar 1) (aCall sp (aCons (aVar 0) (aCons (aCall cLen (aCons (aVar 1) aNil)) aNil)))))
theorem r_some : ∀ ds B (Q : DK), spSome ds B Q → tSome spRoll (rets Q) (startD 2 ds) B := by
  intro ds B Q h0
  have main : ∀ (p : Addr) (l : List D), ((Cup B p ∧ 0 < l.length ∧ l.length ≤ 1000000) ∧ ∀ d A', d ∈ l → Cup A' p → Oth B A' p → Q d A') → (Cup B p ∧ 0 < (l.length : Int) ∧ (l.length : Int) < 1000000000000000000000000000000) ∧ ∀ r A', 0 ≤ r → r < (l.length : Int) → Cup A' p → Oth B A' p → optK (ixD l r) fun d => ret Q d A' := fun p l ⟨⟨c, hl⟩, h⟩ => by
    refine ⟨⟨c, by omega⟩, fun r A' h0 h1 c' o' => ?_⟩
    obtain ⟨k, rfl⟩ := Int.eq_ofNat_of_zero_le h0
    have hk : k < l.length := by omega
    refine optK_of (ixD_nat (List.getElem?_eq_getElem hk)) ?_
    exact ret_same (h _ _ (List.getElem_mem hk) c' o')
  unfold spSome at h0
  split at h0 <;> first | exact h0.elim | skip
  · unfold tSome
    walk_at "wh"
    exact main _ _ h0
  · unfold tSome
    walk_at "wh"
    exact main _ _ h0
/-! ### whether two values are alike -/
mutual
def plD : Nat → D → Bool
  | _, .non => true
  | _, .bl _ => true
  | _, .int _ => true
  | n + 1, .tup ds => decide (ds.length ≤ 1000000) && plDs n ds
  | n + 1, .lst ds => decide (ds.length ≤ 1000000) && plDs n ds
  | _, _ => false
def plDs : Nat → List D → Bool
  | _, [] => true
  | n, d :: ds => plD n d && plDs n ds
end
theorem plD_tup {n : Nat} {ds : List D} (h : plD n (.tup ds) = true) : ∃ m, n = m + 1 ∧ ds.length ≤ 1000000 ∧ plDs m ds = true := by
  cases n with
  | zero => simp [plD] at h
  | succ m => exact ⟨m, rfl, by simpa [plD] using h⟩
theorem plD_lst {n : Nat} {ds : List D} (h : plD n (.lst ds) = true) : ∃ m, n = m + 1 ∧ ds.length ≤ 1000000 ∧ plDs m ds = true := by
  cases n with
  | zero => simp [plD] at h
  | succ m => exact ⟨m, rfl, by simpa [plD] using h⟩
theorem plDs_get : ∀ {n : Nat} {ds : List D} {i : Nat} {d : D}, plDs n ds = true → ds[i]? = some d → plD n d = true
  | _, [], _, _, _, h => by simp at h
  | n, x :: ds, 0, d, h, e => by
    simp [plDs] at h e
    rw [← e]; exact h.1
  | n, x :: ds, i + 1, d, h, e => by
    simp [plDs] at h e
    exact plDs_get h.2 e
def spSame (n : Nat) : List D → AH → DK → Prop
  | [d, e], A, Q => (d = e ∧ plD n e = true) ∧ Q (.bl true) A
  | _, _, _ => False
theorem spSame_mono {n : Nat} : MonL (spSame n) := fun ds A Q Q' k h => by
  unfold spSame at h ⊢
  split at h <;> first | exact ⟨h.1, k _ _ h.2⟩ | exact h.elim
theorem spSame_get {n : Nat} {ds : List D} {A : AH} {Q : DK} (h : spSame n ds A Q) : ∃ d e, ds = [d, e] ∧ d = e ∧ plD n e = true ∧ Q (.bl true) A := by
  unfold spSame at h
  split at h <;> first | exact ⟨_, _, rfl, h.1.1, h.1.2, h.2⟩ | exact h.elim
def tSame (sp : List D → AH → DK → Prop) : ASt' :=
  (sSeq (sIf (aOr (aTruE (aIsI "tuple" (aVar 1))) (aTruE (aIsI "list" (aVar 1)))) (sSeq (sIf (aOr (aTest (aOp aNe (aIsI "tuple" (aVar 0)) (aIsI "tuple" (aVar 1)))) (aOr (aTest (aOp aNe (aIsI "list" (aVar 0)) (aIsI "list" (aVar 1)))) (aTest (aOp aNe (aCall cLen (aCons (aVar 0) aNil)) (aCall cLen (aCons (aVar 1) aNil)))))) (sRet (aC (.bl false))) sNext)
    (sRet (aOp aEq (aLc (iRange1 (aCons (aCall cLen (aCons (aVar 1) aNil)) aNil)) (agN 2) (aNot (aTruE (aCall sp (aCons (aOp aIx (aVar 0) (aVar 2)) (aCons (aOp aIx (aVar 1) (aVar 2)) aNil))))) (aC (.int 1)) [2]) (aLst aNil)))) sNext)
    (sSeq (sIf (aTest (aOp aIs (aVar 1) (aC .non))) (sRet (aOp aIs (aVar 0) (aC .non))) sNext)
    (sSeq (sIf (aTruE (aIsI "bool" (aVar 1))) (sRet (aIf (aTruE (aVar 1)) (aOp aIs (aVar 0) (aC (.bl true))) (aOp aIs (aVar 0) (aC (.bl false))))) sNext)
    (sSeq (sIf (aTruE (aIsI "int" (aVar 1))) (sRet (aAndV (aIsI "int" (aVar 0)) (aAndV (aNotV (aIsI "bool" (aVar 0))) (aOp aEq (aCall cInt (aCons (aVar 0) aNil)) (aVar 1))))) sNext)
    sNever))))
theorem same_its {sp : List D → AH → DK → Prop} {ds es : List D} {x : D} {y : D} (hx : x = .tup ds ∨ x = .lst ds) (B : AH) {F : Addr → List D → AH → Prop} (n : Nat) (hl : ds.length ≤ 1000000) (hp : plDs n ds = true) (hsp : sp = spSame n) (q : ∀ p, F p [] B) :
    lcI (agN 2) (aNot (aTruE (aCall sp (aCons (aOp aIx (aVar 0) (aVar 2)) (aCons (aOp aIx (aVar 1) (aVar 2)) aNil))))) (aC (.int 1)) [some x, some x, none] none F (rgD 0 ds.length) B := by
  subst hsp
  refine lc_pure (fun _ => none) (by rw [rgD_len]; exact hl) (fun d hd A Qy Qn _ hn => ?_) (fun p hp => by
    have : (rgD 0 ds.length).filterMap (fun _ => (none : Option D)) = [] := by
      rw [List.filterMap_eq_nil_iff]
      intro _ _
      rfl
    rw [this]
    exact q p)
  obtain ⟨i, hi⟩ := List.getElem?_of_mem hd
  have hi' : i < ds.length := by
    have := (List.getElem?_eq_some_iff.mp hi).1
    rwa [rgD_len] at this
  rw [rgD_get hi'] at hi
  cases hi
  have e0 : (0 : Int) + (i : Int) = (i : Int) := Int.zero_add _
  rw [e0]
  have hix : ixD ds (i : Int) = some ds[i] := ixD_nat (List.getElem?_eq_getElem hi')
  rcases hx with rfl | rfl
  · walk_at "run"
    refine optK_of hix ?_
    walk_at "run"
    refine optK_of hix ?_
    walk_at "run"
    refine ⟨⟨rfl, plDs_get hp (List.getElem?_eq_getElem hi')⟩, ?_⟩
    walk_at "run"
    exact hn rfl
  · walk_at "run"
    refine optK_of hix ?_
    walk_at "run"
    refine optK_of hix ?_
    walk_at "run"
    refine ⟨⟨rfl, plDs_get hp (List.getElem?_eq_getElem hi')⟩, ?_⟩
    walk_at "run"
    exact hn rfl
theorem r_same (n : Nat) {sp : List D → AH → DK → Prop} (hsp : ∀ m, n = m + 1 → sp = spSame m) : ∀ ds B (Q : DK), spSame n ds B Q → tSame sp (rets Q) (startD 3 ds) B := by
  intro ds B Q h0
  obtain ⟨d, e, rfl, rfl, hp, h⟩ := spSame_get h0
  unfold tSame
  cases d with
  | non =>
    walk_at "run"
    exact ret_same h
  | bl b =>
    walk_at "run"
    cases b with
    | true => walk_at "run"; exact ret_same h
    | false => walk_at "run"; exact ret_same h
  | int i =>
    walk_at "run"
    rw [decide_eq_true rfl]
    exact ret_same h
  | str x => cases n <;> simp [plD] at hp
  | ref x => cases n <;> simp [plD] at hp
  | scr x => cases n <;> simp [plD] at hp
  | tup ds =>
    obtain ⟨m, rfl, hl, hp⟩ := plD_tup hp
    walk_at "run"
    rw [decide_eq_true (rfl : ((ds.length : Int) = ds.length))]
    walk_at "run"
    rw [Int.toNat_natCast]
    refine same_its (es := ds) (y := .non) (.inl rfl) B m hl hp (hsp m rfl) fun p => ?_
    walk_at "run"
    exact ret_same h
  | lst ds =>
    obtain ⟨m, rfl, hl, hp⟩ := plD_lst hp
    walk_at "run"
    rw [decide_eq_true (rfl : ((ds.length : Int) = ds.length))]
    walk_at "run"
    rw [Int.toNat_natCast]
    refine same_its (es := ds) (y := .non) (.inr rfl) B m hl hp (hsp m rfl) fun p => ?_
    walk_at "run"
    exact ret_same h
section
variable {P : Program} {w : World} {K : PySem.W.Frag} {mg : Str → Option Value} {base : Heap}
theorem AFn.none {x : Str} {st : Stmt} {ps : List Str} {k : Nat} (F : Def K mg x st ps) : AFn P w K mg base k x (fun _ _ _ => False) := by
  obtain ⟨f, fd, h1, h2, h3⟩ := F.ex
  have no : ∀ vs H Q, ¬ liftL K (fun _ _ _ => False) vs H Q := fun vs H Q ⟨_, _, _, _, h⟩ => h
  exact ⟨fun _ _ _ _ _ h => h.elim, f, fd, ps, h1, h3.kp, h2, ⟨fun vs H Q E h => absurd h (no vs H Q), fun A outer s H args us vs Q E _ _ _ _ h => absurd h (no vs H Q)⟩⟩
theorem same_fn {st : Stmt} {N : List Str} (F : Def K mg "_law_same" st ["told", "due"]) (hN : N.length = 3) (S : FnScope N ["told", "due"] (defScope st))
    (hb : ∀ (k : Nat) (sp : List D → AH → DK → Prop), AFn P w K mg base k "_law_same" sp → ∀ (f : Addr) (cdv : Value) (A : Around) (outer : List Env) (s : Shared) (H : Hp) (E : XK), Room k (A.deeper (PyProof.Rows.envOfC "_law_same" (defScope st) s.heap.objs.size f cdv)) →
      ASs (cxOf CX0 P w K mg base N "_law_same" (defScope st) f cdv A outer s H E).nox (defBody st) (tSame sp)) : ∀ n, AFn P w K mg base (n + 1) "_law_same" (spSame n)
  | 0 => F.ok S spSame_mono (fun ds A Q h => by obtain ⟨d, e, h, _⟩ := spSame_get h; rw [h]; rfl) fun f cdv A outer s H E hr => ⟨_, hb 0 _ (AFn.none F) f cdv A outer s H E hr, fun ds B Q h => by rw [hN]; exact r_same 0 (fun m e => by cases e) ds B Q h⟩
  | n + 1 => F.ok S spSame_mono (fun ds A Q h => by obtain ⟨d, e, h, _⟩ := spSame_get h; rw [h]; rfl) fun f cdv A outer s H E hr => ⟨_, hb (n + 1) _ (same_fn F hN S hb n) f cdv A outer s H E hr, fun ds B Q h => by rw [hN]; exact r_same (n + 1) (fun m e => by cases e; rfl) ds B Q h⟩
end
/-! ### whether a number fits -/
def spFits : List D → AH → DK → Prop
  | [.int v, .int lo, .int hi], A, Q => Q (.bl (decide (lo ≤ v) && decide (v ≤ hi))) A
  | [.bl _, .int _, .int _], A, Q => Q (.bl false) A
  | [.non, .int _, .int _], A, Q => Q (.bl false) A
  | [.tup _, .int _, .int _], A, Q => Q (.bl false) A
  | [.lst _, .int _, .int _], A, Q => Q (.bl false) A
  | [.str _, .int _, .int _], A, Q => Q (.bl false) A
  | _, _, _ => False
theorem spFits_mono : MonL spFits := fun ds A Q Q' k h => by
  unfold spFits at h ⊢
  split at h <;> first | exact k _ _ h | exact h.elim
theorem spFits_len {ds : List D} {A : AH} {Q : DK} (h : spFits ds A Q) : ds.length = 3 := by
  unfold spFits at h
  split at h <;> first | rfl | exact h.elim
def tFits : ASt' := (sRet (aAndV (aIsI "int" (aVar 0)) (aAndV (aNotV (aIsI "bool" (aVar 0))) (aChain aLe aLe (aVar 1) (aVar 0) (aVar 2)))))
theorem r_fits : ∀ ds B (Q : DK), spFits ds B Q → tFits (rets Q) (startD 3 ds) B := by
  intro ds B Q h
  unfold spFits at h
  split at h <;> first | exact h.elim | skip
  · unfold tFits
    walk_at "run"
    refine br_dec (fun g => ?_) (fun g => ?_)
    · walk_at "run"
      rw [decide_eq_true g, Bool.true_and] at h
      exact ret_same h
    · walk_at "run"
      rw [decide_eq_false g, Bool.false_and] at h
      exact ret_same h
  all_goals
    unfold tFits
    walk_at "run"
    exact ret_same h
def spNeedW : List D → AH → DK → Prop
  | [.int v, .int lo, .int hi], A, Q => (lo ≤ v ∧ v ≤ hi) ∧ Q .non A
  | _, _, _ => False
theorem spNeedW_mono : MonL spNeedW := fun ds A Q Q' k h => by
  unfold spNeedW at h ⊢
  split at h <;> first | exact ⟨h.1, k _ _ h.2⟩ | exact h.elim
theorem spNeedW_len {ds : List D} {A : AH} {Q : DK} (h : spNeedW ds A Q) : ds.length = 3 := by
  unfold spNeedW at h
  split at h <;> first | rfl | exact h.elim
def tNeedW (sp : List D → AH → DK → Prop) : ASt' := (sIf (aNot (aTruE (aCall sp (aCons (aVar 0) (aCons (aVar 1) (aCons (aVar 2) aNil)))))) sNever sNext)
theorem r_needW : ∀ ds B (Q : DK), spNeedW ds B Q → tNeedW spFits (rets Q) (startD 3 ds) B := by
  intro ds B Q h
  unfold spNeedW at h
  split at h <;> first | exact h.elim | skip
  unfold tNeedW
  walk_at "run"
  rw [decide_eq_true h.1.1, decide_eq_true h.1.2]
  walk_at "run"
  exact ret_same h.2
def spTupOf : List D → AH → DK → Prop
  | [.tup l, .int lo, .int hi], A, Q => Q (.bl (decide (lo ≤ (l.length : Int)) && decide ((l.length : Int) ≤ hi))) A
  | [.bl _, .int _, .int _], A, Q => Q (.bl false) A
  | [.non, .int _, .int _], A, Q => Q (.bl false) A
  | [.int _, .int _, .int _], A, Q => Q (.bl false) A
  | [.lst _, .int _, .int _], A, Q => Q (.bl false) A
  | [.str _, .int _, .int _], A, Q => Q (.bl false) A
  | _, _, _ => False
theorem spTupOf_mono : MonL spTupOf := fun ds A Q Q' k h => by
  unfold spTupOf at h ⊢
  split at h <;> first | exact k _ _ h | exact h.elim
theorem spTupOf_len {ds : List D} {A : AH} {Q : DK} (h : spTupOf ds A Q) : ds.length = 3 := by
  unfold spTupOf at h
  split at h <;> first | rfl | exact h.elim
def tTupOf : ASt' := (sRet (aAndV (aIsI "tuple" (aVar 0)) (aChain aLe aLe (aVar 1) (aCall cLen (aCons (aVar 0) aNil)) (aVar 2))))
theorem r_tupOf : ∀ ds B (Q : DK), spTupOf ds B Q → tTupOf (rets Q) (startD 3 ds) B := by
  intro ds B Q h
  unfold spTupOf at h
  split at h <;> first | exact h.elim | skip
  · unfold tTupOf
    walk_at "run"
    refine br_dec (fun g => ?_) (fun g => ?_)
    · walk_at "run"
      rw [decide_eq_true g, Bool.true_and] at h
      exact ret_same h
    · walk_at "run"
      rw [decide_eq_false g, Bool.false_and] at h
      exact ret_same h
  all_goals
    unfold tTupOf
    walk_at "run"
    exact ret_same h
end Rk

/-! rows of natural numbers, of integers; loops over range from 0 -/
namespace Rk
open PySem PySem.Spec L2
def pI (l : List Nat) : List D := l.map fun (d : Nat) => D.int (d : Int)
def pZ (l : List Int) : List D := l.map D.int
theorem pI_pZ (l : List Nat) : pI l = pZ (l.map fun (d : Nat) => (d : Int)) := by unfold pI pZ; rw [List.map_map]; rfl
theorem len_pZ (l : List Int) : (pZ l).length = l.length := by unfold pZ; rw [List.length_map]
theorem len_pI (l : List Nat) : (pI l).length = l.length := by unfold pI; rw [List.length_map]
theorem get_pZ (l : List Int) (i : Nat) : (pZ l)[i]? = l[i]?.map D.int := by unfold pZ; rw [List.getElem?_map]
theorem get_pI (l : List Nat) (i : Nat) : (pI l)[i]? = l[i]?.map fun (d : Nat) => D.int (d : Int) := by unfold pI; rw [List.getElem?_map]
theorem pI_get {p : List Nat} {i : Nat} {d : D} (h : (pI p)[i]? = some d) : ∃ x, p[i]? = some x ∧ d = .int (x : Int) := by
  rw [get_pI] at h
  cases e : p[i]? with
  | none => rw [e] at h; cases h
  | some x => rw [e] at h; exact ⟨x, rfl, (Option.some.inj h).symm⟩
theorem pZ_get {p : List Int} {i : Nat} {d : D} (h : (pZ p)[i]? = some d) : ∃ x, p[i]? = some x ∧ d = .int x := by
  rw [get_pZ] at h
  cases e : p[i]? with
  | none => rw [e] at h; cases h
  | some x => rw [e] at h; exact ⟨x, rfl, (Option.some.inj h).symm⟩
theorem okDs_pZ (n : Nat) (l : List Int) : okDs n (pZ l) = true := by
  unfold pZ
  induction l with
  | nil => rfl
  | cons d l ih => rw [List.map_cons]; show (okD n (.int d) && okDs n (l.map D.int)) = true; rw [ih]; cases n <;> rfl
theorem okD_pZ (n : Nat) (l : List Int) : okD (n + 1) (.lst (pZ l)) = true := okDs_pZ n l
theorem okD_pZT (n : Nat) (l : List Int) : okD (n + 1) (.tup (pZ l)) = true := okDs_pZ n l
theorem okD_pI (n : Nat) (l : List Nat) : okD (n + 1) (.lst (pI l)) = true := by rw [pI_pZ]; exact okDs_pZ n _
theorem okD_pIT (n : Nat) (l : List Nat) : okD (n + 1) (.tup (pI l)) = true := by rw [pI_pZ]; exact okDs_pZ n _
theorem eqDs_pZ : ∀ (a b : List Int), eqDs (pZ a) (pZ b) = decide (a = b)
  | [], [] => by simp [pZ, eqDs]
  | [], _ :: _ => by simp [pZ, eqDs]
  | _ :: _, [] => by simp [pZ, eqDs]
  | x :: a, y :: b => by
    have ih := eqDs_pZ a b
    unfold pZ at ih ⊢
    rw [List.map_cons, List.map_cons]
    show (decide (x = y) && eqDs (a.map D.int) (b.map D.int)) = _
    rw [ih, ← Bool.decide_and, decide_eq_decide, List.cons.injEq]
theorem eqDs_pI : ∀ (a b : List Nat), eqDs (pI a) (pI b) = decide (a = b)
  | [], [] => by simp [pI, eqDs]
  | [], _ :: _ => by simp [pI, eqDs]
  | _ :: _, [] => by simp [pI, eqDs]
  | x :: a, y :: b => by
    have ih := eqDs_pI a b
    unfold pI at ih ⊢
    rw [List.map_cons, List.map_cons]
    show (decide ((x : Int) = (y : Int)) && eqDs (a.map fun (d : Nat) => D.int (d : Int)) (b.map fun (d : Nat) => D.int (d : Int))) = _
    rw [ih, ← Bool.decide_and, decide_eq_decide, List.cons.injEq, Int.natCast_inj]
theorem eqD_pI (a b : List Nat) : eqD (.lst (pI a)) (.lst (pI b)) = decide (a = b) := eqDs_pI a b
theorem eqD_pIT (a b : List Nat) : eqD (.tup (pI a)) (.tup (pI b)) = decide (a = b) := eqDs_pI a b
theorem eqD_pZL (a b : List Int) : eqD (.lst (pZ a)) (.lst (pZ b)) = decide (a = b) := eqDs_pZ a b
theorem eqD_pZT (a b : List Int) : eqD (.tup (pZ a)) (.tup (pZ b)) = decide (a = b) := eqDs_pZ a b
theorem eqD_pInil (l : List Nat) : eqD (.lst (pI l)) (.lst []) = decide (l = []) := by cases l <;> simp [pI, eqD, eqDs]
theorem eqD_nil (l : List D) : eqD (.lst l) (.lst []) = l.isEmpty := by cases l <;> simp [eqD, eqDs]
theorem ints?_pZ (l : List Int) : ints? (pZ l) = some l := ints?_int l
theorem ints?_pI (l : List Nat) : ints? (pI l) = some (l.map fun (d : Nat) => (d : Int)) := ints?_map (fun (d : Nat) => (d : Int)) l
theorem sum_pI (l : List Nat) : (l.map fun (d : Nat) => (d : Int)).sum = (l.sum : Int) := by
  induction l with
  | nil => rfl
  | cons d l ih => rw [List.map_cons, List.sum_cons, List.sum_cons, ih]; omega
theorem pI_rev (l : List Nat) : (pI l).reverse = pI l.reverse := by unfold pI; rw [List.map_reverse]
theorem pZ_rev (l : List Int) : (pZ l).reverse = pZ l.reverse := by unfold pZ; rw [List.map_reverse]
theorem pI_cons (d : Nat) (l : List Nat) : D.int (d : Int) :: pI l = pI (d :: l) := rfl
theorem pI_snoc (l : List Nat) (d : Nat) : pI l ++ [D.int (d : Int)] = pI (l ++ [d]) := by unfold pI; rw [List.map_append]; rfl
theorem pZ_snoc (l : List Int) (d : Int) : pZ l ++ [D.int d] = pZ (l ++ [d]) := by unfold pZ; rw [List.map_append]; rfl
theorem pI_app (l m : List Nat) : pI l ++ pI m = pI (l ++ m) := by unfold pI; rw [List.map_append]
theorem pZ_app (l m : List Int) : pZ l ++ pZ m = pZ (l ++ m) := by unfold pZ; rw [List.map_append]
theorem pI_map (f : Nat → Nat) (n : Nat) : ((List.range n).map fun (i : Nat) => D.int (f i : Int)) = pI ((List.range n).map f) := by unfold pI; rw [List.map_map]; rfl
theorem pZ_map {α : Type} (f : α → Int) (l : List α) : (l.map fun i => D.int (f i)) = pZ (l.map f) := by unfold pZ; rw [List.map_map]; rfl
theorem pI_mapL {α : Type} (f : α → Nat) (l : List α) : (l.map fun i => D.int (f i : Int)) = pI (l.map f) := by unfold pI; rw [List.map_map]; rfl
theorem plDs_pZ (k : Nat) (l : List Int) : plDs k (pZ l) = true := by
  unfold pZ
  induction l with
  | nil => cases k <;> rfl
  | cons d l ih =>
    show (plD k (.int d) && plDs k (l.map D.int)) = true
    rw [ih]
    cases k <;> rfl
theorem plD_pZ (k : Nat) (l : List Int) (h : l.length ≤ 1000000) : plD (k + 1) (.tup (pZ l)) = true := by
  show (decide ((pZ l).length ≤ 1000000) && plDs k (pZ l)) = true
  rw [plDs_pZ, len_pZ, decide_eq_true h]
  rfl
theorem plD_pZL (k : Nat) (l : List Int) (h : l.length ≤ 1000000) : plD (k + 1) (.lst (pZ l)) = true := plD_pZ k l h
theorem plD_pI (k : Nat) (l : List Nat) (h : l.length ≤ 1000000) : plD (k + 1) (.tup (pI l)) = true := by rw [pI_pZ]; exact plD_pZ k _ (by rw [List.length_map]; exact h)
theorem plD_pIL (k : Nat) (l : List Nat) (h : l.length ≤ 1000000) : plD (k + 1) (.lst (pI l)) = true := plD_pI k l h
theorem plD_int (k : Nat) (i : Int) : plD k (.int i) = true := by cases k <;> rfl
theorem plD_bl (k : Nat) (i : Bool) : plD k (.bl i) = true := by cases k <;> rfl
/-- places -/
theorem ix_pI {l : List Nat} {i : Nat} (h : i < l.length) : ixD (pI l) (i : Int) = some (.int (l[i]?.getD 0 : Nat)) := by
  refine ixD_nat ?_
  rw [get_pI, List.getElem?_eq_getElem h]
  rfl
theorem ix_pZ {l : List Int} {i : Nat} (h : i < l.length) : ixD (pZ l) (i : Int) = some (.int (l[i]?.getD 0)) := by
  refine ixD_nat ?_
  rw [get_pZ, List.getElem?_eq_getElem h]
  rfl
theorem ix_at {l : List D} {i : Nat} {d : D} (h : l[i]? = some d) : ixD l (i : Int) = some d := ixD_nat h
theorem ix_last {l : List D} {d : D} : ixD (l ++ [d]) (-1) = some d := by
  show (if 0 < (l ++ [d]).length then nth (l ++ [d]) ((l ++ [d]).length - 1 - 0) else none) = some d
  rw [if_pos (by rw [List.length_append]; exact Nat.succ_pos _), nth_eq, List.length_append]
  show (l ++ [d])[l.length + 1 - 1 - 0]? = _
  rw [Nat.add_sub_cancel, Nat.sub_zero, List.getElem?_append_right (Nat.le_refl _), Nat.sub_self]
  rfl
theorem ix_lastI {l : List Nat} (h : l ≠ []) : ixD (pI l) (-1) = some (.int (l.getLast h : Nat)) := by
  have e : pI l = pI l.dropLast ++ [.int (l.getLast h : Nat)] := by rw [pI_snoc, List.dropLast_concat_getLast]
  rw [e]
  exact ix_last
theorem ix_lastZ {l : List Int} (h : l ≠ []) : ixD (pZ l) (-1) = some (.int (l.getLast h)) := by
  have e : pZ l = pZ l.dropLast ++ [.int (l.getLast h)] := by rw [pZ_snoc, List.dropLast_concat_getLast]
  rw [e]
  exact ix_last
theorem flat_rep {α : Type} (n : Nat) (d : α) : (List.replicate n [d]).flatten = List.replicate n d := by
  induction n with
  | zero => rfl
  | succ n ih => rw [List.replicate_succ, List.flatten_cons, ih]; rfl
theorem rep_pI (n : Nat) (d : Nat) : (List.replicate n [D.int (d : Int)]).flatten = pI (List.replicate n d) := by rw [flat_rep]; unfold pI; rw [List.map_replicate]
theorem rep_pZ (n : Nat) (d : Int) : (List.replicate n [D.int d]).flatten = pZ (List.replicate n d) := by rw [flat_rep]; unfold pZ; rw [List.map_replicate]
theorem put_pI {l : List Nat} {i x : Nat} (h : i < l.length) : putD (pI l) (i : Int) (.int (x : Int)) = some (pI (l.set i x)) := by
  show (if i < (pI l).length then some ((pI l).set i (.int (x : Int))) else none) = _
  rw [if_pos (by rw [len_pI]; exact h)]
  unfold pI
  rw [List.map_set]
theorem put_pZ {l : List Int} {i : Nat} {x : Int} (h : i < l.length) : putD (pZ l) (i : Int) (.int x) = some (pZ (l.set i x)) := by
  show (if i < (pZ l).length then some ((pZ l).set i (.int x)) else none) = _
  rw [if_pos (by rw [len_pZ]; exact h)]
  unfold pZ
  rw [List.map_set]
/-- cuts -/
theorem cut_end (ds : List D) (k : Nat) (hk : 0 < k) : cutD ds (some (-(k : Int))) none = ds.drop (ds.length - k) ∧ cutD ds none (some (-(k : Int))) = ds.take (ds.length - k) := by
  unfold cutD
  have e1 : HT.sIx ds.length 0 (some (-(k : Int))) = ds.length - k := by
    show (if -(k : Int) < 0 then (-(k : Int) + (ds.length : Int)).toNat else _) = _
    rw [if_pos (by omega)]
    omega
  have e2 : HT.sIx ds.length ds.length (some (-(k : Int))) = ds.length - k := by
    show (if -(k : Int) < 0 then (-(k : Int) + (ds.length : Int)).toNat else _) = _
    rw [if_pos (by omega)]
    omega
  rw [HT.sIx_none, HT.sIx_none, e1, e2]
  refine ⟨?_, ?_⟩
  · rw [List.take_of_length_le (by rw [List.length_drop]; omega)]
  · rw [List.drop_zero, Nat.sub_zero]
theorem cut_nat (ds : List D) (k : Nat) : cutD ds (some (k : Int)) none = ds.drop k ∧ cutD ds none (some (k : Int)) = ds.take k := by
  unfold cutD
  rw [HT.sIx_none, HT.sIx_none, HT.sIx_nat, HT.sIx_nat]
  refine ⟨?_, ?_⟩
  · by_cases h : k ≤ ds.length
    · rw [Nat.min_eq_left h, List.take_of_length_le (by rw [List.length_drop]; omega)]
    · rw [Nat.min_eq_right (by omega), List.drop_of_length_le (Nat.le_refl _), List.drop_of_length_le (by omega), List.take_nil]
  · rw [List.drop_zero, Nat.sub_zero]
    by_cases h : k ≤ ds.length
    · rw [Nat.min_eq_left h]
    · rw [Nat.min_eq_right (by omega), List.take_of_length_le (Nat.le_refl _), List.take_of_length_le (by omega)]
theorem cut_mid (ds : List D) (j k : Nat) : cutD ds (some (j : Int)) (some (k : Int)) = (ds.take k).drop j := by
  unfold cutD
  rw [HT.sIx_nat, HT.sIx_nat, List.drop_take]
  by_cases h : j ≤ ds.length
  · rw [Nat.min_eq_left h]
    by_cases g : k ≤ ds.length
    · rw [Nat.min_eq_left g]
    · rw [Nat.min_eq_right (by omega)]
      rw [List.take_of_length_le (by rw [List.length_drop]; omega), List.take_of_length_le (by rw [List.length_drop]; omega)]
  · rw [Nat.min_eq_right (show ds.length ≤ j by omega), List.drop_of_length_le (Nat.le_refl _), List.drop_of_length_le (show ds.length ≤ j by omega), List.take_nil, List.take_nil]
theorem cut_all (ds : List D) : cutD ds none none = ds := by
  unfold cutD
  rw [HT.sIx_none, HT.sIx_none, List.drop_zero, Nat.sub_zero, List.take_length]
/-- loops -/
theorem for_rg0 {α : Type} {g : AGf} {tb : ASt'} {D : AEnds} {n : Nat} (f : α → ASt) (B : α → AH) (W : Nat → α → Prop) {σ : ASt} {A : AH} (x0 : α) (h0 : σ = f x0) (hA : A = B x0) (w0 : W 0 x0)
    (hs : ∀ (i : Nat) x, i < n → W i x → g (.int (i : Int)) (f x) (B x) fun σ2 A2 => tb { nx := fun σ' A' => ∃ y, σ' = f y ∧ A' = B y ∧ W (i + 1) y, ct := fun σ' A' => ∃ y, σ' = f y ∧ A' = B y ∧ W (i + 1) y, bk := D.nx, rt := D.rt } σ2 A2)
    (hd : ∀ x, W n x → D.nx (f x) (B x)) : forI g tb D none (rgD 0 n) σ A := by
  refine for_rg f B W x0 h0 hA w0 (fun i x hi w => ?_) hd
  rw [Int.zero_add]
  exact hs i x hi w
theorem for_pI {α : Type} {g : AGf} {tb : ASt'} {D : AEnds} {l : List Nat} (f : α → ASt) (B : α → AH) (W : Nat → α → Prop) {σ : ASt} {A : AH} (x0 : α) (h0 : σ = f x0) (hA : A = B x0) (w0 : W 0 x0)
    (hs : ∀ (i : Nat) (z : Nat) x, l[i]? = some z → W i x → g (.int (z : Int)) (f x) (B x) fun σ2 A2 => tb { nx := fun σ' A' => ∃ y, σ' = f y ∧ A' = B y ∧ W (i + 1) y, ct := fun σ' A' => ∃ y, σ' = f y ∧ A' = B y ∧ W (i + 1) y, bk := D.nx, rt := D.rt } σ2 A2)
    (hd : ∀ x, W l.length x → D.nx (f x) (B x)) : forI g tb D none (pI l) σ A := by
  refine for_st f B W x0 h0 hA w0 (fun i d x hd w => ?_) fun x w => hd x (by rwa [len_pI] at w)
  obtain ⟨z, hz, rfl⟩ := pI_get hd
  exact hs i z x hz w
theorem for_enI {α : Type} {g : AGf} {tb : ASt'} {E : AEnds} {l : List Nat} (f : α → ASt) (B : α → AH) (W : Nat → α → Prop) {σ : ASt} {A : AH} (x0 : α) (h0 : σ = f x0) (hA : A = B x0) (w0 : W 0 x0)
    (hs : ∀ (i : Nat) (z : Nat) x, l[i]? = some z → W i x → g (.tup [.int (i : Int), .int (z : Int)]) (f x) (B x) fun σ2 A2 => tb { nx := fun σ' A' => ∃ y, σ' = f y ∧ A' = B y ∧ W (i + 1) y, ct := fun σ' A' => ∃ y, σ' = f y ∧ A' = B y ∧ W (i + 1) y, bk := E.nx, rt := E.rt } σ2 A2)
    (hd : ∀ x, W l.length x → E.nx (f x) (B x)) : forI g tb E none (enumD (pI l) 0) σ A := by
  refine for_st f B W x0 h0 hA w0 (fun i d x hd w => ?_) fun x w => hd x (by rwa [enumD_len, len_pI] at w)
  obtain ⟨y, hy, rfl⟩ := enumD_get hd
  obtain ⟨z, hz, rfl⟩ := pI_get hy
  exact hs i z x hz w
theorem for_enZ {α : Type} {g : AGf} {tb : ASt'} {E : AEnds} {l : List Int} (f : α → ASt) (B : α → AH) (W : Nat → α → Prop) {σ : ASt} {A : AH} (x0 : α) (h0 : σ = f x0) (hA : A = B x0) (w0 : W 0 x0)
    (hs : ∀ (i : Nat) (z : Int) x, l[i]? = some z → W i x → g (.tup [.int (i : Int), .int z]) (f x) (B x) fun σ2 A2 => tb { nx := fun σ' A' => ∃ y, σ' = f y ∧ A' = B y ∧ W (i + 1) y, ct := fun σ' A' => ∃ y, σ' = f y ∧ A' = B y ∧ W (i + 1) y, bk := E.nx, rt := E.rt } σ2 A2)
    (hd : ∀ x, W l.length x → E.nx (f x) (B x)) : forI g tb E none (enumD (pZ l) 0) σ A := by
  refine for_st f B W x0 h0 hA w0 (fun i d x hd w => ?_) fun x w => hd x (by rwa [enumD_len, len_pZ] at w)
  obtain ⟨y, hy, rfl⟩ := enumD_get hd
  obtain ⟨z, hz, rfl⟩ := pZ_get hy
  exact hs i z x hz w
theorem for_pZ {α : Type} {g : AGf} {tb : ASt'} {E : AEnds} {l : List Int} (f : α → ASt) (B : α → AH) (W : Nat → α → Prop) {σ : ASt} {A : AH} (x0 : α) (h0 : σ = f x0) (hA : A = B x0) (w0 : W 0 x0)
    (hs : ∀ (i : Nat) (z : Int) x, l[i]? = some z → W i x → g (.int z) (f x) (B x) fun σ2 A2 => tb { nx := fun σ' A' => ∃ y, σ' = f y ∧ A' = B y ∧ W (i + 1) y, ct := fun σ' A' => ∃ y, σ' = f y ∧ A' = B y ∧ W (i + 1) y, bk := E.nx, rt := E.rt } σ2 A2)
    (hd : ∀ x, W l.length x → E.nx (f x) (B x)) : forI g tb E none (pZ l) σ A := by
  refine for_st f B W x0 h0 hA w0 (fun i d x hd w => ?_) fun x w => hd x (by rwa [len_pZ] at w)
  obtain ⟨z, hz, rfl⟩ := pZ_get hd
  exact hs i z x hz w
/-- comprehensions over range, by numbers -/
theorem lc_rg {g : AGf} {te : AT} {σ : ASt} {fin : Addr → List Rk.D → AH → Prop} {A : AH} {n : Nat} (v : Nat → D) (hl : n ≤ 1000000)
    (hs : ∀ i, i < n → ∀ A (Q : Rk.D → AH → Prop), Q (v i) A → g (.int (i : Int)) σ A fun σ2 A2 => te σ2 A2 Q)
    (h : ∀ p, A p = none → fin p ((List.range n).map v) A) : lcI g aYes te σ none fin (rgD 0 n) A := by
  have e : (rgD 0 n).map (fun d => match d with | .int i => v i.toNat | _ => .non) = (List.range n).map v := by
    unfold rgD
    rw [List.map_map]
    refine List.map_congr_left fun i _ => ?_
    show v ((0 + (i : Int)).toNat) = v i
    rw [Int.zero_add, Int.toNat_natCast]
  refine lc_map (fun d => match d with | .int i => v i.toNat | _ => .non) (by rw [rgD_len]; exact hl) (fun d hd A Q q => ?_) fun p hp => by rw [e]; exact h p hp
  obtain ⟨i, hi⟩ := List.getElem?_of_mem hd
  have hi' : i < n := by
    have := (List.getElem?_eq_some_iff.mp hi).1
    rwa [rgD_len] at this
  rw [rgD_get hi', Int.zero_add] at hi
  cases hi
  exact hs i hi' A Q q
/-- .. of items kept where c holds -/
theorem lc_rgc {g : AGf} {tt : ABt} {te : AT} {σ : ASt} {fin : Addr → List Rk.D → AH → Prop} {A : AH} {n : Nat} (c : Nat → Bool) (v : Nat → D) (hl : n ≤ 1000000)
    (hs : ∀ i, i < n → ∀ A (Qy : Rk.D → AH → Prop) (Qn : AH → Prop), (c i = true → Qy (v i) A) → (c i = false → Qn A) → g (.int (i : Int)) σ A fun σ2 A2 => tt σ2 A2 fun b A3 => br b (te σ2 A3 Qy) (Qn A3))
    (h : ∀ p, A p = none → fin p (((List.range n).filter c).map v) A) : lcI g tt te σ none fin (rgD 0 n) A := by
  have e : (rgD 0 n).filterMap (fun d => match d with | .int i => if c i.toNat = true then some (v i.toNat) else none | _ => none) = ((List.range n).filter c).map v := by
    unfold rgD
    rw [List.filterMap_map, ← List.filterMap_eq_map, List.filterMap_filter]
    refine congrFun (congrArg _ (funext fun i => ?_)) _
    show (if c ((0 + (i : Int)).toNat) = true then some (v ((0 + (i : Int)).toNat)) else none) = _
    rw [Int.zero_add, Int.toNat_natCast]
    rfl
  refine lc_pure (fun d => match d with | .int i => if c i.toNat = true then some (v i.toNat) else none | _ => none) (by rw [rgD_len]; exact hl) (fun d hd A Qy Qn q1 q2 => ?_) fun p hp => by rw [e]; exact h p hp
  obtain ⟨i, hi⟩ := List.getElem?_of_mem hd
  have hi' : i < n := by
    have := (List.getElem?_eq_some_iff.mp hi).1
    rwa [rgD_len] at this
  rw [rgD_get hi', Int.zero_add] at hi
  cases hi
  refine hs i hi' A Qy Qn (fun z => q1 _ ?_) fun z => q2 ?_
  · dsimp only
    rw [Int.toNat_natCast, if_pos z]
  · dsimp only
    rw [Int.toNat_natCast, if_neg (by rw [z]; exact Bool.false_ne_true)]
/-- .. over enumerate of a row -/
theorem lc_en {g : AGf} {te : AT} {σ : ASt} {fin : Addr → List Rk.D → AH → Prop} {A : AH} {l : List D} (v : Nat → D → D) (hl : l.length ≤ 1000000)
    (hs : ∀ (i : Nat) d, l[i]? = some d → ∀ A (Q : Rk.D → AH → Prop), Q (v i d) A → g (.tup [.int (i : Int), d]) σ A fun σ2 A2 => te σ2 A2 Q)
    (h : ∀ p, A p = none → fin p (l.mapIdx v) A) : lcI g aYes te σ none fin (enumD l 0) A := by
  have e : (enumD l 0).map (fun d => match d with | .tup [.int i, x] => v i.toNat x | _ => .non) = l.mapIdx v := by
    refine List.ext_getElem? fun i => ?_
    rw [List.getElem?_map, List.getElem?_mapIdx]
    unfold enumD
    rw [List.getElem?_map, List.getElem?_zipIdx]
    cases l[i]? with
    | none => rfl
    | some d => simp
  refine lc_map (fun d => match d with | .tup [.int i, x] => v i.toNat x | _ => .non) (by rw [enumD_len]; exact hl) (fun d hd A Q q => ?_) fun p hp => by rw [e]; exact h p hp
  obtain ⟨i, hi⟩ := List.getElem?_of_mem hd
  obtain ⟨y, hy, rfl⟩ := enumD_get hi
  exact hs i y hy A Q (by simpa using q)
theorem mapIdx_map {α β γ : Type} (f : α → β) (g : Nat → β → γ) : ∀ (l : List α), (l.map f).mapIdx g = l.mapIdx fun i x => g i (f x) := fun l => by
  refine List.ext_getElem? fun i => ?_
  rw [List.getElem?_mapIdx, List.getElem?_map, List.getElem?_mapIdx]
  cases l[i]? <;> rfl
theorem map_mapIdx {α β γ : Type} (f : Nat → α → β) (g : β → γ) : ∀ (l : List α), (l.mapIdx f).map g = l.mapIdx fun i x => g (f i x) := fun l => by
  refine List.ext_getElem? fun i => ?_
  rw [List.getElem?_map, List.getElem?_mapIdx, List.getElem?_mapIdx]
  cases l[i]? <;> rfl
theorem lc_enI {g : AGf} {te : AT} {σ : ASt} {fin : Addr → List Rk.D → AH → Prop} {A : AH} {l : List Nat} (v : Nat → Nat → D) (hl : l.length ≤ 1000000)
    (hs : ∀ (i z : Nat), l[i]? = some z → ∀ A (Q : Rk.D → AH → Prop), Q (v i z) A → g (.tup [.int (i : Int), .int (z : Int)]) σ A fun σ2 A2 => te σ2 A2 Q)
    (h : ∀ p, A p = none → fin p (l.mapIdx v) A) : lcI g aYes te σ none fin (enumD (pI l) 0) A := by
  have e : (pI l).mapIdx (fun i d => match d with | .int x => v i x.toNat | _ => .non) = l.mapIdx v := by
    unfold pI
    rw [mapIdx_map]
    rfl
  refine lc_en (fun i d => match d with | .int x => v i x.toNat | _ => .non) (by rw [len_pI]; exact hl) (fun i d hd A Q q => ?_) fun p hp => by rw [e]; exact h p hp
  obtain ⟨z, hz, rfl⟩ := pI_get hd
  exact hs i z hz A Q q
theorem lc_enZ {g : AGf} {te : AT} {σ : ASt} {fin : Addr → List Rk.D → AH → Prop} {A : AH} {l : List Int} (v : Nat → Int → D) (hl : l.length ≤ 1000000)
    (hs : ∀ (i : Nat) (z : Int), l[i]? = some z → ∀ A (Q : Rk.D → AH → Prop), Q (v i z) A → g (.tup [.int (i : Int), .int z]) σ A fun σ2 A2 => te σ2 A2 Q)
    (h : ∀ p, A p = none → fin p (l.mapIdx v) A) : lcI g aYes te σ none fin (enumD (pZ l) 0) A := by
  have e : (pZ l).mapIdx (fun i d => match d with | .int x => v i x | _ => .non) = l.mapIdx v := by
    unfold pZ
    rw [mapIdx_map]
  refine lc_en (fun i d => match d with | .int x => v i x | _ => .non) (by rw [len_pZ]; exact hl) (fun i d hd A Q q => ?_) fun p hp => by rw [e]; exact h p hp
  obtain ⟨z, hz, rfl⟩ := pZ_get hd
  exact hs i z hz A Q q
theorem pZ_mapIdx {α : Type} (f : Nat → α → Int) (l : List α) : (l.mapIdx fun i z => D.int (f i z)) = pZ (l.mapIdx f) := by unfold pZ; rw [map_mapIdx]
theorem lc_pI {g : AGf} {te : AT} {σ : ASt} {fin : Addr → List Rk.D → AH → Prop} {A : AH} {l : List Nat} (v : Nat → D) (hl : l.length ≤ 1000000)
    (hs : ∀ (z : Nat), z ∈ l → ∀ A (Q : Rk.D → AH → Prop), Q (v z) A → g (.int (z : Int)) σ A fun σ2 A2 => te σ2 A2 Q)
    (h : ∀ p, A p = none → fin p (l.map v) A) : lcI g aYes te σ none fin (pI l) A := by
  have e : (pI l).map (fun d => match d with | .int x => v x.toNat | _ => .non) = l.map v := by
    unfold pI
    rw [List.map_map]
    rfl
  refine lc_map (fun d => match d with | .int x => v x.toNat | _ => .non) (by rw [len_pI]; exact hl) (fun d hd A Q q => ?_) fun p hp => by rw [e]; exact h p hp
  unfold pI at hd
  rw [List.mem_map] at hd
  obtain ⟨z, hz, rfl⟩ := hd
  exact hs z hz A Q q
theorem lc_pZ {g : AGf} {te : AT} {σ : ASt} {fin : Addr → List Rk.D → AH → Prop} {A : AH} {l : List Int} (v : Int → D) (hl : l.length ≤ 1000000)
    (hs : ∀ (z : Int), z ∈ l → ∀ A (Q : Rk.D → AH → Prop), Q (v z) A → g (.int z) σ A fun σ2 A2 => te σ2 A2 Q)
    (h : ∀ p, A p = none → fin p (l.map v) A) : lcI g aYes te σ none fin (pZ l) A := by
  have e : (pZ l).map (fun d => match d with | .int x => v x | _ => .non) = l.map v := by
    unfold pZ
    rw [List.map_map]
    rfl
  refine lc_map (fun d => match d with | .int x => v x | _ => .non) (by rw [len_pZ]; exact hl) (fun d hd A Q q => ?_) fun p hp => by rw [e]; exact h p hp
  unfold pZ at hd
  rw [List.mem_map] at hd
  obtain ⟨z, hz, rfl⟩ := hd
  exact hs z hz A Q q
structure Hold (p : Prop) : Prop where
  out : p
theorem cut_ {p q : Prop} (f : Hold p → q) (h : p) : q := f ⟨h⟩
theorem br_shr {k : Bool} {p q : Prop} (h : q) (hp : k = true → q → p) : br k p q := by
  cases k with
  | true => exact br_t (hp rfl h)
  | false => exact br_f h
end Rk

/-! digits -/
namespace MD
/-- digits, the last ahead; none of 0 -/
def dgf : Nat → Nat → Nat → List Nat
  | 0, _, _ => []
  | f + 1, b, n => if n = 0 then [] else n % b :: dgf f b (n / b)
def dg (b n : Nat) : List Nat := dgf n b n
/-- as the program has them: 0 has one -/
def ls (b n : Nat) : List Nat := if n = 0 then [0] else dg b n
def ln (b : Nat) : List Nat → Nat
  | [] => 0
  | d :: l => d + b * ln b l
theorem dgf_more (b : Nat) (hb : 2 ≤ b) : ∀ f g n, n ≤ f → n ≤ g → dgf f b n = dgf g b n
  | 0, 0, _, _, _ => rfl
  | 0, g + 1, n, h, _ => by
    have : n = 0 := by omega
    subst this
    rfl
  | f + 1, 0, n, _, h => by
    have : n = 0 := by omega
    subst this
    rfl
  | f + 1, g + 1, n, h1, h2 => by
    unfold dgf
    by_cases c : n = 0
    · rw [if_pos c, if_pos c]
    · rw [if_neg c, if_neg c]
      have : n / b < n := Nat.div_lt_self (by omega) hb
      rw [dgf_more b hb f g (n / b) (by omega) (by omega)]
theorem dg_zero (b : Nat) : dg b 0 = [] := rfl
theorem dg_pos {b n : Nat} (hb : 2 ≤ b) (h : 0 < n) : dg b n = n % b :: dg b (n / b) := by
  unfold dg
  obtain ⟨m, rfl⟩ : ∃ m, n = m + 1 := ⟨n - 1, by omega⟩
  have lt : (m + 1) / b < m + 1 := Nat.div_lt_self h hb
  conv => lhs; unfold dgf
  rw [if_neg (by omega), dgf_more b hb m ((m + 1) / b) _ (by omega) (Nat.le_refl _)]
theorem ls_step {b n : Nat} (hb : 2 ≤ b) (h : b ≤ n) : ls b n = n % b :: ls b (n / b) := by
  have : 0 < n / b := Nat.div_pos h (by omega)
  unfold ls
  rw [if_neg (by omega), if_neg (by omega), dg_pos hb (by omega)]
theorem ls_small {b n : Nat} (hb : 2 ≤ b) (h : n < b) : ls b n = [n] := by
  unfold ls
  split
  · next e => rw [e]
  · rw [dg_pos hb (by omega), Nat.div_eq_of_lt h, dg_zero, Nat.mod_eq_of_lt h]
theorem ln_dg {b : Nat} (hb : 2 ≤ b) : ∀ n, ln b (dg b n) = n := by
  intro n
  induction n using Nat.strongRecOn with
  | ind n ih =>
    by_cases h : n = 0
    · subst h; rfl
    · rw [dg_pos hb (by omega)]
      show n % b + b * ln b (dg b (n / b)) = n
      rw [ih _ (Nat.div_lt_self (by omega) hb)]
      exact Nat.mod_add_div n b
theorem ln_ls {b : Nat} (hb : 2 ≤ b) (n : Nat) : ln b (ls b n) = n := by
  unfold ls
  split
  · next e => rw [e]; rfl
  · exact ln_dg hb n
theorem dg_lt {b : Nat} (hb : 2 ≤ b) : ∀ n, ∀ d ∈ dg b n, d < b := by
  intro n
  induction n using Nat.strongRecOn with
  | ind n ih =>
    by_cases h : n = 0
    · subst h; intro d hd; cases hd
    · rw [dg_pos hb (by omega)]
      intro d hd
      rcases List.mem_cons.mp hd with rfl | hd
      · exact Nat.mod_lt _ (by omega)
      · exact ih _ (Nat.div_lt_self (by omega) hb) d hd
theorem ls_lt {b : Nat} (hb : 2 ≤ b) (n : Nat) : ∀ d ∈ ls b n, d < b := by
  unfold ls
  split
  · intro d hd
    have : d = 0 := by simpa using hd
    omega
  · exact dg_lt hb n
/-- a digit put at the end -/
theorem dg_push {b n d : Nat} (hb : 2 ≤ b) (hd : d < b) (h : 0 < n) : dg b (n * b + d) = d :: dg b n := by
  have : 0 < n * b := Nat.mul_pos h (by omega)
  rw [dg_pos hb (by omega), Nat.mul_comm n b, Nat.mul_add_mod, Nat.mod_eq_of_lt hd, Nat.mul_add_div (by omega), Nat.div_eq_of_lt hd, Nat.add_zero]
theorem dg_ne {b n : Nat} (hb : 2 ≤ b) (h : 0 < n) : dg b n ≠ [] := by
  rw [dg_pos hb h]
  exact fun c => by cases c
/-- the first digit is not 0 -/
theorem dg_last {b : Nat} (hb : 2 ≤ b) : ∀ n, 0 < n → ∀ d, (dg b n).getLast? = some d → 0 < d := by
  intro n
  induction n using Nat.strongRecOn with
  | ind n ih =>
    intro h d hd
    rw [dg_pos hb h] at hd
    by_cases c : n / b = 0
    · rw [c, dg_zero] at hd
      have : n % b = d := by simpa using hd
      have hn : n < b := by
        refine Classical.byContradiction fun g => ?_
        have := Nat.div_pos (show b ≤ n by omega) (by omega)
        omega
      rw [Nat.mod_eq_of_lt hn] at this
      omega
    · have np : 0 < n / b := Nat.pos_of_ne_zero c
      have ne := dg_ne hb np
      rw [List.getLast?_cons_of_ne_nil ne] at hd
      exact ih _ (Nat.div_lt_self h hb) np d hd
/-- the number of digits by hand, the first ahead -/
def nb (b : Nat) (l : List Nat) : Nat := l.foldl (fun a d => b * a + d) 0
theorem nb_append (b : Nat) (l : List Nat) (d : Nat) : nb b (l ++ [d]) = b * nb b l + d := by
  unfold nb
  rw [List.foldl_append]
  rfl
theorem nb_rev (b : Nat) : ∀ l, nb b l.reverse = ln b l
  | [] => rfl
  | d :: l => by
    rw [List.reverse_cons, nb_append, nb_rev b l]
    show b * ln b l + d = d + b * ln b l
    omega
def dsum (b n : Nat) : Nat := (ls b n).sum
/-! carries -/
def cy (b x y c : Nat) : Nat := if b ≤ x % b + y % b + c then 1 else 0
def carf : Nat → Nat → Nat → Nat → Nat → List Nat
  | 0, _, _, _, _ => []
  | f + 1, b, x, y, c => if x = 0 ∧ y = 0 ∧ c = 0 then [] else cy b x y c :: carf f b (x / b) (y / b) (cy b x y c)
def mc (x y c : Nat) : Nat := 2 * (x + y) + c
theorem cy_le (b x y c : Nat) : cy b x y c ≤ 1 := by
  unfold cy
  split <;> omega
theorem mc_lt {b x y c : Nat} (hb : 2 ≤ b) (hc : c ≤ 1) (h : ¬ (x = 0 ∧ y = 0 ∧ c = 0)) : mc (x / b) (y / b) (cy b x y c) < mc x y c := by
  have k1 : 2 * (x / b) ≤ x := Nat.le_trans (Nat.mul_le_mul_right _ hb) (Nat.mul_div_le x b)
  have k2 : 2 * (y / b) ≤ y := Nat.le_trans (Nat.mul_le_mul_right _ hb) (Nat.mul_div_le y b)
  have k3 := cy_le b x y c
  unfold mc
  by_cases g : 2 ≤ x + y
  · omega
  · have hx : x % b = x := Nat.mod_eq_of_lt (by omega)
    have hy : y % b = y := Nat.mod_eq_of_lt (by omega)
    have : cy b x y c = if b ≤ x + y + c then 1 else 0 := by unfold cy; rw [hx, hy]
    have hx0 : x / b = 0 := Nat.div_eq_of_lt (by omega)
    have hy0 : y / b = 0 := Nat.div_eq_of_lt (by omega)
    rw [this, hx0, hy0]
    split <;> omega
theorem carf_more {b : Nat} (hb : 2 ≤ b) : ∀ f g x y c, c ≤ 1 → mc x y c ≤ f → mc x y c ≤ g → carf f b x y c = carf g b x y c
  | 0, 0, _, _, _, _, _, _ => rfl
  | 0, g + 1, x, y, c, _, h, _ => by
    unfold mc at h
    unfold carf
    rw [if_pos (by omega)]
  | f + 1, 0, x, y, c, _, _, h => by
    unfold mc at h
    unfold carf
    rw [if_pos (by omega)]
  | f + 1, g + 1, x, y, c, hc, h1, h2 => by
    unfold carf
    by_cases e : x = 0 ∧ y = 0 ∧ c = 0
    · rw [if_pos e, if_pos e]
    · rw [if_neg e, if_neg e]
      have := mc_lt hb hc e
      rw [carf_more hb f g _ _ _ (cy_le ..) (by omega) (by omega)]
def car (b x y c : Nat) : List Nat := carf (mc x y c) b x y c
theorem car_step {b x y c : Nat} (hb : 2 ≤ b) (hc : c ≤ 1) (h : ¬ (x = 0 ∧ y = 0 ∧ c = 0)) : car b x y c = cy b x y c :: car b (x / b) (y / b) (cy b x y c) := by
  unfold car
  have lt := mc_lt hb hc h
  obtain ⟨m, hm⟩ : ∃ m, mc x y c = m + 1 := ⟨mc x y c - 1, by omega⟩
  rw [hm]
  conv => lhs; unfold carf
  rw [if_neg h, carf_more hb m _ _ _ _ (cy_le ..) (by omega) (Nat.le_refl _)]
theorem car_end (b : Nat) : car b 0 0 0 = [] := rfl
theorem cy_comm (b x y c : Nat) : cy b x y c = cy b y x c := by
  unfold cy
  rw [Nat.add_comm (x % b)]
theorem carf_comm (b : Nat) : ∀ f x y c, carf f b x y c = carf f b y x c
  | 0, _, _, _ => rfl
  | f + 1, x, y, c => by
    unfold carf
    rw [cy_comm, carf_comm b f]
    by_cases e : x = 0 ∧ y = 0 ∧ c = 0
    · rw [if_pos e, if_pos ⟨e.2.1, e.1, e.2.2⟩]
    · rw [if_neg e, if_neg fun g => e ⟨g.2.1, g.1, g.2.2⟩]
theorem car_comm (b x y c : Nat) : car b x y c = car b y x c := by
  unfold car mc
  rw [Nat.add_comm x y, carf_comm]
end MD

/-! digits by groups, digit roots, sums by carries -/
namespace MD
theorem sum_ls (b n : Nat) : (ls b n).sum = (dg b n).sum := by
  unfold ls
  split
  · next e => rw [e]; rfl
  · rfl
/-- places in groups -/
theorem dg_take {b : Nat} (hb : 2 ≤ b) : ∀ s n, ln b ((dg b n).take s) = n % b ^ s
  | 0, n => by rw [List.take_zero, Nat.pow_zero, Nat.mod_one]; rfl
  | s + 1, n => by
    by_cases h : n = 0
    · subst h; rw [dg_zero, List.take_nil, Nat.zero_mod]; rfl
    · rw [dg_pos hb (by omega), List.take_succ_cons]
      show n % b + b * ln b ((dg b (n / b)).take s) = _
      rw [dg_take hb s (n / b), Nat.pow_succ, Nat.mul_comm (b ^ s) b, Nat.mod_mul]
theorem dg_drop {b : Nat} (hb : 2 ≤ b) : ∀ s n, (dg b n).drop s = dg b (n / b ^ s)
  | 0, n => by rw [List.drop_zero, Nat.pow_zero, Nat.div_one]
  | s + 1, n => by
    by_cases h : n = 0
    · subst h; rw [dg_zero, List.drop_nil, Nat.zero_div, dg_zero]
    · rw [dg_pos hb (by omega), List.drop_succ_cons, dg_drop hb s (n / b), Nat.pow_succ, Nat.mul_comm (b ^ s) b, Nat.div_div_eq_div_mul]
/-- a row in groups of s -/
def grf : Nat → Nat → Nat → List Nat → List Nat
  | 0, _, _, _ => []
  | f + 1, s, b, l => if l = [] then [] else ln b (l.take s) :: grf f s b (l.drop s)
def gr (s b : Nat) (l : List Nat) : List Nat := grf l.length s b l
theorem grf_more {s b : Nat} (hs : 1 ≤ s) : ∀ f g l, l.length ≤ f → l.length ≤ g → grf f s b l = grf g s b l
  | 0, 0, _, _, _ => rfl
  | 0, g + 1, l, h, _ => by
    have : l = [] := List.eq_nil_of_length_eq_zero (by omega)
    subst this; rfl
  | f + 1, 0, l, _, h => by
    have : l = [] := List.eq_nil_of_length_eq_zero (by omega)
    subst this; rfl
  | f + 1, g + 1, l, h1, h2 => by
    unfold grf
    split
    · rfl
    · next c =>
      have : 0 < l.length := List.length_pos_iff.mpr c
      rw [grf_more hs f g (l.drop s) (by rw [List.length_drop]; omega) (by rw [List.length_drop]; omega)]
theorem gr_nil (s b : Nat) : gr s b [] = [] := rfl
theorem gr_step {s b : Nat} {l : List Nat} (hs : 1 ≤ s) (h : l ≠ []) : gr s b l = ln b (l.take s) :: gr s b (l.drop s) := by
  have hl : 0 < l.length := List.length_pos_iff.mpr h
  unfold gr
  obtain ⟨m, hm⟩ : ∃ m, l.length = m + 1 := ⟨l.length - 1, by omega⟩
  rw [hm]
  conv => lhs; unfold grf
  rw [if_neg h, grf_more hs m _ _ (by rw [List.length_drop]; omega) (Nat.le_refl _)]
theorem gr_dg {b s : Nat} (hb : 2 ≤ b) (hs : 1 ≤ s) : ∀ n, gr s b (dg b n) = dg (b ^ s) n := by
  intro n
  induction n using Nat.strongRecOn with
  | ind n ih =>
    by_cases h : n = 0
    · subst h; rfl
    · have hp : 2 ≤ b ^ s := Nat.le_trans hb (by
        have := Nat.pow_le_pow_right (show 0 < b by omega) hs
        rwa [Nat.pow_one] at this)
      rw [gr_step hs (dg_ne hb (by omega)), dg_pos hp (by omega), dg_take hb, dg_drop hb, ih _ (Nat.div_lt_self (by omega) hp)]
theorem gr_ls {b s : Nat} (hb : 2 ≤ b) (hs : 1 ≤ s) (n : Nat) : gr s b (ls b n) = ls (b ^ s) n := by
  unfold ls
  split
  · rw [gr_step hs (by simp)]
    have e : ∀ t, 1 ≤ t → ln b (List.take t [0]) = 0 ∧ List.drop t [0] = ([] : List Nat) := fun t ht => by
      obtain ⟨u, rfl⟩ : ∃ u, t = u + 1 := ⟨t - 1, by omega⟩
      simp [ln]
    rw [(e s hs).1, (e s hs).2, gr_nil]
  · exact gr_dg hb hs n
/-- the digit at i -/
theorem dg_at {b : Nat} (hb : 2 ≤ b) : ∀ i n, (dg b n)[i]?.getD 0 = n / b ^ i % b
  | 0, n => by
    by_cases h : n = 0
    · subst h; simp [dg_zero]
    · rw [dg_pos hb (by omega)]; simp
  | i + 1, n => by
    by_cases h : n = 0
    · subst h; simp [dg_zero]
    · rw [dg_pos hb (by omega), List.getElem?_cons_succ, dg_at hb i, Nat.div_div_eq_div_mul, Nat.pow_succ, Nat.mul_comm b]
theorem ls_at {b : Nat} (hb : 2 ≤ b) (i n : Nat) : (ls b n)[i]?.getD 0 = n / b ^ i % b := by
  unfold ls
  split
  · next e =>
    subst e
    cases i <;> simp
  · exact dg_at hb i n
/-- one place of a sum -/
theorem cy_div {b x y c : Nat} (hb : 2 ≤ b) (hc : c ≤ 1) : (x + y + c) / b = x / b + y / b + cy b x y c ∧ (x + y + c) % b + b * cy b x y c = x % b + y % b + c := by
  have e1 := Nat.div_add_mod x b
  have e2 := Nat.div_add_mod y b
  have l1 := Nat.mod_lt x (show 0 < b by omega)
  have l2 := Nat.mod_lt y (show 0 < b by omega)
  unfold cy
  split
  · next h =>
    have e : x + y + c = (x % b + y % b + c - b) + b * (x / b + y / b + 1) := by
      have : b * (x / b + y / b + 1) = b * (x / b) + b * (y / b) + b := by rw [Nat.mul_add, Nat.mul_add, Nat.mul_one]
      omega
    rw [e, Nat.add_mul_div_left _ _ (by omega), Nat.add_mul_mod_self_left, Nat.div_eq_of_lt (by omega), Nat.mod_eq_of_lt (by omega)]
    constructor <;> omega
  · next h =>
    have e : x + y + c = (x % b + y % b + c) + b * (x / b + y / b) := by
      have : b * (x / b + y / b) = b * (x / b) + b * (y / b) := by rw [Nat.mul_add]
      omega
    rw [e, Nat.add_mul_div_left _ _ (by omega), Nat.add_mul_mod_self_left, Nat.div_eq_of_lt (by omega), Nat.mod_eq_of_lt (by omega)]
    constructor <;> omega
theorem dg_sum_step {b : Nat} (hb : 2 ≤ b) (n : Nat) : (dg b n).sum = n % b + (dg b (n / b)).sum := by
  by_cases h : n = 0
  · subst h; simp [dg_zero]
  · rw [dg_pos hb (by omega), List.sum_cons]
theorem sum_car {b : Nat} (hb : 2 ≤ b) : ∀ m x y c, mc x y c = m → c ≤ 1 → (dg b x).sum + (dg b y).sum + c = (dg b (x + y + c)).sum + (b - 1) * (car b x y c).sum := by
  intro m
  induction m using Nat.strongRecOn with
  | ind m ih =>
    intro x y c hm hc
    by_cases h : x = 0 ∧ y = 0 ∧ c = 0
    · obtain ⟨rfl, rfl, rfl⟩ := h
      rw [car_end, dg_zero]; rfl
    · have lt := mc_lt hb hc h
      have := ih _ (by rw [← hm]; exact lt) (x / b) (y / b) (cy b x y c) rfl (cy_le ..)
      obtain ⟨d1, d2⟩ := cy_div (x := x) (y := y) hb hc
      rw [car_step hb hc h, List.sum_cons, dg_sum_step hb x, dg_sum_step hb y, dg_sum_step hb (x + y + c), d1, Nat.mul_add]
      have e : (b - 1) * cy b x y c + cy b x y c = b * cy b x y c := by
        rw [← Nat.succ_mul]
        congr 1
        omega
      omega
theorem sum_carries {b x y : Nat} (hb : 2 ≤ b) : (ls b x).sum + (ls b y).sum = (ls b (x + y)).sum + (b - 1) * (car b x y 0).sum := by
  have := sum_car hb _ x y 0 rfl (Nat.zero_le _)
  rw [sum_ls, sum_ls, sum_ls]
  simpa using this
/-- the carry into place i -/
theorem car_at {b : Nat} (hb : 2 ≤ b) : ∀ i x y c, c ≤ 1 → ∀ d, (car b x y c)[i]? = some d → d = cy b (x / b ^ i) (y / b ^ i) ((x + y + c) / b ^ i - x / b ^ i - y / b ^ i) ∧ ((x + y + c) / b ^ i - x / b ^ i - y / b ^ i) ≤ 1 ∧ (x + y + c) / b ^ i = x / b ^ i + y / b ^ i + ((x + y + c) / b ^ i - x / b ^ i - y / b ^ i) ∧
    (x + y + c) / b ^ (i + 1) - x / b ^ (i + 1) - y / b ^ (i + 1) = d
  | 0, x, y, c, hc, d, h => by
    by_cases z : x = 0 ∧ y = 0 ∧ c = 0
    · obtain ⟨rfl, rfl, rfl⟩ := z
      rw [car_end] at h
      cases h
    · rw [car_step hb hc z] at h
      have h : cy b x y c = d := by simpa using h
      have e : x + y + c - x - y = c := by omega
      have := (cy_div (x := x) (y := y) hb hc).1
      rw [Nat.pow_zero, Nat.div_one, Nat.div_one, Nat.div_one, e, Nat.zero_add, Nat.pow_one]
      refine ⟨h.symm, hc, rfl, ?_⟩
      omega
  | i + 1, x, y, c, hc, d, h => by
    by_cases z : x = 0 ∧ y = 0 ∧ c = 0
    · obtain ⟨rfl, rfl, rfl⟩ := z
      rw [car_end] at h
      cases h
    · rw [car_step hb hc z, List.getElem?_cons_succ] at h
      have := car_at hb i _ _ _ (cy_le b x y c) d h
      have d1 := (cy_div (x := x) (y := y) hb hc).1
      rw [← d1] at this
      simp only [Nat.div_div_eq_div_mul] at this
      have p1 : b * b ^ i = b ^ (i + 1) := by rw [Nat.pow_succ, Nat.mul_comm]
      have p2 : b * b ^ (i + 1) = b ^ (i + 1 + 1) := by rw [Nat.pow_succ _ (i + 1), Nat.mul_comm]
      rw [p1, p2] at this
      exact this
/-! digit roots -/
theorem dg_le {b : Nat} (hb : 2 ≤ b) : ∀ n, (dg b n).sum + (b - 1) * (n / b) ≤ n := by
  intro n
  induction n using Nat.strongRecOn with
  | ind n ih =>
    by_cases h : n = 0
    · subst h; rw [dg_zero, Nat.zero_div, Nat.mul_zero]; exact Nat.le_refl _
    · have := ih _ (Nat.div_lt_self (by omega : 0 < n) hb)
      rw [dg_sum_step hb n]
      have e := Nat.div_add_mod n b
      have e2 : b * (n / b) = (b - 1) * (n / b) + n / b := by
        rw [← Nat.succ_mul]
        congr 1
        omega
      have : (dg b (n / b)).sum ≤ n / b := Nat.le_trans (Nat.le_add_right ..) this
      omega
theorem ds_lt {b n : Nat} (hb : 2 ≤ b) (h : b ≤ n) : (ls b n).sum < n := by
  rw [sum_ls]
  have := dg_le hb n
  have p : 0 < n / b := Nat.div_pos h (by omega)
  have : 0 < (b - 1) * (n / b) := Nat.mul_pos (by omega) p
  omega
theorem ds_34 {b n : Nat} (hb : 2 ≤ b) (h : b ≤ n) : 4 * (ls b n).sum ≤ 3 * n := by
  rw [sum_ls]
  have l := dg_le hb n
  have p : 0 < n / b := Nat.div_pos h (by omega)
  have e := Nat.div_add_mod n b
  have m := Nat.mod_lt n (show 0 < b by omega)
  -- n < 2 b (n / b) and b ≤ 2 (b - 1)
  have k1 : b * 1 ≤ b * (n / b) := Nat.mul_le_mul_left _ p
  have k2 : b * (n / b) ≤ 2 * (b - 1) * (n / b) := Nat.mul_le_mul_right _ (by omega)
  rw [Nat.mul_assoc] at k2
  omega
theorem mem_le_sum : ∀ {l : List Nat} (d : Nat), d ∈ l → d ≤ l.sum
  | x :: l, d, h => by
    rw [List.sum_cons]
    rcases List.mem_cons.mp h with rfl | h
    · omega
    · have := mem_le_sum d h
      omega
theorem ds_pos {b n : Nat} (hb : 2 ≤ b) (h : 0 < n) : 0 < (ls b n).sum := by
  rw [sum_ls]
  refine Classical.byContradiction fun c => ?_
  have all0 : ∀ d ∈ dg b n, d = 0 := by
    intro d hd
    have := mem_le_sum (l := dg b n) d hd
    omega
  cases e : (dg b n).getLast? with
  | none => exact dg_ne hb h (List.getLast?_eq_none_iff.mp e)
  | some d =>
    have := dg_last hb n h d e
    have := all0 d (List.mem_of_getLast? e)
    omega
theorem ds_mod {b : Nat} (hb : 2 ≤ b) : ∀ n, ∃ k, n = (dg b n).sum + (b - 1) * k := by
  intro n
  induction n using Nat.strongRecOn with
  | ind n ih =>
    by_cases h : n = 0
    · subst h; exact ⟨0, by rw [dg_zero]; rfl⟩
    · obtain ⟨k, hk⟩ := ih _ (Nat.div_lt_self (by omega : 0 < n) hb)
      refine ⟨n / b + k, ?_⟩
      rw [dg_sum_step hb n, Nat.mul_add]
      have e := Nat.div_add_mod n b
      have e2 : b * (n / b) = (b - 1) * (n / b) + n / b := by
        rw [← Nat.succ_mul]
        congr 1
        omega
      omega
theorem ls_len {b : Nat} (hb : 2 ≤ b) : ∀ k n, n < 2 ^ k → (dg b n).length ≤ k
  | 0, n, h => by
    have : n = 0 := by rw [Nat.pow_zero] at h; omega
    subst this; rw [dg_zero]; exact Nat.le_refl _
  | k + 1, n, h => by
    by_cases z : n = 0
    · subst z; rw [dg_zero]; exact Nat.zero_le _
    · rw [dg_pos hb (by omega), List.length_cons]
      have : n / b < 2 ^ k := by
        rw [Nat.pow_succ] at h
        have k1 : 2 * (n / b) ≤ n := Nat.le_trans (Nat.mul_le_mul_right _ hb) (Nat.mul_div_le n b)
        omega
      have := ls_len hb k _ this
      omega
theorem sum_le {l : List Nat} {m : Nat} (h : ∀ d ∈ l, d ≤ m) : l.sum ≤ l.length * m := by
  induction l with
  | nil => simp
  | cons d l ih =>
    have := h d (List.mem_cons_self ..)
    have := ih fun x hx => h x (List.mem_cons_of_mem _ hx)
    rw [List.sum_cons, List.length_cons, Nat.succ_mul]
    omega
theorem ds_small {b n : Nat} (hb : 2 ≤ b) (hb2 : b ≤ 36) (h : n < 2 ^ 100) : (ls b n).sum ≤ 3500 := by
  rw [sum_ls]
  have l1 := ls_len hb 100 n h
  have := sum_le (l := dg b n) (m := 35) fun d hd => by have := dg_lt hb n d hd; omega
  have : (dg b n).length * 35 ≤ 100 * 35 := Nat.mul_le_mul_right _ l1
  omega
/-- one step, taken where it is asked -/
def st (b : Nat) (x : Nat × Nat) : Nat × Nat := if b ≤ x.1 then ((ls b x.1).sum, x.2 + 1) else x
def it (b : Nat) : Nat → Nat × Nat → Nat × Nat
  | 0, x => x
  | k + 1, x => st b (it b k x)
theorem it_add (b : Nat) (x : Nat × Nat) (j : Nat) : ∀ k, it b (j + k) x = it b k (it b j x)
  | 0 => rfl
  | k + 1 => by
    show st b (it b (j + k) x) = st b (it b k (it b j x))
    rw [it_add b x j k]
theorem it_still {b : Nat} {x : Nat × Nat} (h : x.1 < b) : ∀ k, it b k x = x
  | 0 => rfl
  | k + 1 => by
    show st b (it b k x) = x
    rw [it_still h k]
    unfold st
    rw [if_neg (by omega)]
theorem it_same {b j k : Nat} {x : Nat × Nat} (hj : (it b j x).1 < b) (hk : (it b k x).1 < b) : it b j x = it b k x := by
  rcases Nat.le_total j k with h | h
  · obtain ⟨d, rfl⟩ := Nat.exists_eq_add_of_le h
    rw [it_add, it_still hj]
  · obtain ⟨d, rfl⟩ := Nat.exists_eq_add_of_le h
    rw [it_add b x k, it_still hk]
def bd : Nat → Nat
  | 0 => 2
  | k + 1 => max (bd k + 1) (4 * bd k / 3)
theorem it_end {b : Nat} (hb : 2 ≤ b) : ∀ k n m, n < bd k → (it b k (n, m)).1 < b
  | 0, n, m, h => by
    have : n < 2 := h
    show n < b
    omega
  | k + 1, n, m, h => by
    rw [Nat.add_comm k 1, it_add]
    show (it b k (st b (n, m))).1 < b
    by_cases c : b ≤ n
    · have e : st b (n, m) = ((ls b n).sum, m + 1) := by unfold st; rw [if_pos c]
      rw [e]
      have l1 := ds_lt hb c
      have l2 := ds_34 hb c
      refine it_end hb k _ _ ?_
      have h : n < max (bd k + 1) (4 * bd k / 3) := h
      omega
    · have e : st b (n, m) = (n, m) := by unfold st; rw [if_neg c]
      rw [e, it_still (by omega)]
      show n < b
      omega
theorem it_60 {b n m : Nat} (hb : 2 ≤ b) (hb2 : b ≤ 36) (h : n < 2 ^ 100) : (it b 60 (n, m)).1 < b := by
  by_cases c : n < b
  · rw [it_still c]; exact c
  · rw [show (60 : Nat) = 1 + (27 + 32) from rfl, it_add]
    have e : it b 1 (n, m) = ((ls b n).sum, m + 1) := by
      show st b (n, m) = _
      unfold st; rw [if_pos (by dsimp only; omega)]
    have q := it_end hb 27 (ls b n).sum (m + 1) (Nat.lt_of_le_of_lt (ds_small hb hb2 h) (by decide))
    rw [e, it_add, it_still q]
    exact q
theorem it_mod {b : Nat} (hb : 2 ≤ b) (n m : Nat) : ∀ k, (∃ j, n = (it b k (n, m)).1 + (b - 1) * j) ∧ (0 < n → 0 < (it b k (n, m)).1) ∧ (it b k (n, m)).1 ≤ n
  | 0 => ⟨⟨0, rfl⟩, fun h => h, Nat.le_refl _⟩
  | k + 1 => by
    obtain ⟨⟨j, hj⟩, hp, hl⟩ := it_mod hb n m k
    show (∃ j, n = (st b (it b k (n, m))).1 + (b - 1) * j) ∧ (0 < n → 0 < (st b (it b k (n, m))).1) ∧ (st b (it b k (n, m))).1 ≤ n
    unfold st
    split
    · next c =>
      dsimp only
      obtain ⟨i, hi⟩ := ds_mod hb (it b k (n, m)).1
      have := ds_lt hb c
      refine ⟨⟨i + j, ?_⟩, fun h => ds_pos hb (hp h), by omega⟩
      rw [sum_ls, Nat.mul_add]
      omega
    · exact ⟨⟨j, hj⟩, hp, hl⟩
/-- the digit root -/
theorem root_eq {b n : Nat} (hb : 2 ≤ b) (hb2 : b ≤ 36) (h : n < 2 ^ 100) : (it b 60 (n, 0)).1 = if n = 0 then 0 else 1 + (n - 1) % (b - 1) := by
  have lt := it_60 (m := 0) hb hb2 h
  obtain ⟨⟨j, hj⟩, hp, hl⟩ := it_mod hb n 0 60
  generalize (it b 60 (n, 0)).1 = r at lt hj hp hl
  split
  · omega
  · have := hp (by omega)
    have e : n - 1 = (r - 1) + (b - 1) * j := by omega
    rw [e, Nat.add_mul_mod_self_left, Nat.mod_eq_of_lt (by omega)]
    omega
end MD

/-! primes and what a number is made of -/
namespace MF
def isP (p : Nat) : Bool := decide (2 ≤ p) && (List.range p).all fun d => decide (d < 2) || decide (p % d ≠ 0)
theorem isP_iff {p : Nat} : isP p = true ↔ 2 ≤ p ∧ ∀ d, 2 ≤ d → d < p → ¬ d ∣ p := by
  unfold isP
  rw [Bool.and_eq_true, decide_eq_true_eq, List.all_eq_true]
  refine and_congr_right fun _ => ⟨fun h d h2 hd hv => ?_, fun h d hd => ?_⟩
  · have := h d (List.mem_range.mpr hd)
    rw [Bool.or_eq_true, decide_eq_true_eq, decide_eq_true_eq] at this
    rcases this with h | h
    · omega
    · exact h (Nat.mod_eq_zero_of_dvd hv)
  · rw [Bool.or_eq_true, decide_eq_true_eq, decide_eq_true_eq]
    by_cases h2 : d < 2
    · exact .inl h2
    · exact .inr fun e => h d (by omega) (List.mem_range.mp hd) (Nat.dvd_of_mod_eq_zero e)
def vf : Nat → Nat → Nat → Nat
  | 0, _, _ => 0
  | f + 1, p, n => if 0 < n ∧ 2 ≤ p ∧ n % p = 0 then 1 + vf f p (n / p) else 0
def v (p n : Nat) : Nat := vf n p n
theorem vf_more : ∀ (f g p n : Nat), n ≤ f → n ≤ g → vf f p n = vf g p n
  | 0, 0, _, _, _, _ => rfl
  | 0, g + 1, p, n, h, _ => by
    have : n = 0 := by omega
    subst this
    unfold vf
    rw [if_neg (by omega)]
  | f + 1, 0, p, n, _, h => by
    have : n = 0 := by omega
    subst this
    unfold vf
    rw [if_neg (by omega)]
  | f + 1, g + 1, p, n, h1, h2 => by
    unfold vf
    by_cases c : 0 < n ∧ 2 ≤ p ∧ n % p = 0
    · rw [if_pos c, if_pos c]
      have : n / p < n := Nat.div_lt_self c.1 (by omega)
      rw [vf_more f g p (n / p) (by omega) (by omega)]
    · rw [if_neg c, if_neg c]
theorem v_step {p n : Nat} (h2 : 2 ≤ p) (h0 : 0 < n) (hd : p ∣ n) : v p n = 1 + v p (n / p) := by
  unfold v
  obtain ⟨m, rfl⟩ : ∃ m, n = m + 1 := ⟨n - 1, by omega⟩
  have lt : (m + 1) / p < m + 1 := Nat.div_lt_self h0 (by omega)
  conv => lhs; unfold vf
  rw [if_pos ⟨h0, h2, Nat.mod_eq_zero_of_dvd hd⟩, vf_more m ((m + 1) / p) p _ (by omega) (Nat.le_refl _)]
theorem v_no {p n : Nat} (hd : ¬ p ∣ n) : v p n = 0 := by
  unfold v
  cases n with
  | zero => rfl
  | succ m =>
    unfold vf
    rw [if_neg fun h => hd (Nat.dvd_of_mod_eq_zero h.2.2)]
theorem v_mul_self {p n : Nat} (h2 : 2 ≤ p) (h0 : 0 < n) : v p (p * n) = 1 + v p n := by
  rw [v_step h2 (Nat.mul_pos (by omega) h0) ⟨n, rfl⟩, Nat.mul_div_cancel_left _ (by omega)]
theorem v_pos {p n : Nat} (h2 : 2 ≤ p) (h0 : 0 < n) : 0 < v p n ↔ p ∣ n := by
  constructor
  · intro h
    refine Classical.byContradiction fun c => ?_
    rw [v_no c] at h
    omega
  · intro h
    rw [v_step h2 h0 h]
    omega
theorem v_big {p n : Nat} (h0 : 0 < n) (h : n < p) : v p n = 0 := v_no fun d => by
  have := Nat.le_of_dvd h0 d
  omega
theorem v_le (p : Nat) : ∀ (n : Nat), v p n ≤ n := by
  have : ∀ f n, vf f p n ≤ f := by
    intro f
    induction f with
    | zero => intro n; exact Nat.le_refl _
    | succ f ih =>
      intro n
      unfold vf
      split
      · have := ih (n / p)
        omega
      · omega
  exact fun n => this n n
theorem euclid {p m k : Nat} (hp : isP p = true) (h : p ∣ m * k) : p ∣ m ∨ p ∣ k := by
  obtain ⟨h2, hd⟩ := isP_iff.mp hp
  have g1 : Nat.gcd p m ∣ p := Nat.gcd_dvd_left ..
  have gle := Nat.le_of_dvd (by omega) g1
  have gpos : 0 < Nat.gcd p m := Nat.gcd_pos_of_pos_left _ (by omega)
  by_cases e : Nat.gcd p m = p
  · left
    rw [← e]
    exact Nat.gcd_dvd_right ..
  · right
    have : Nat.gcd p m = 1 := by
      by_cases c : 2 ≤ Nat.gcd p m
      · exact absurd g1 (hd _ c (by omega))
      · omega
    exact Nat.Coprime.dvd_of_dvd_mul_left this h
theorem v_mul {p : Nat} (hp : isP p = true) : ∀ (b m k : Nat), m + k ≤ b → 0 < m → 0 < k → v p (m * k) = v p m + v p k := by
  have h2 := (isP_iff.mp hp).1
  intro b
  induction b with
  | zero => intro m k h hm hk; omega
  | succ b ih =>
    intro m k h hm hk
    by_cases dm : p ∣ m
    · obtain ⟨m', rfl⟩ := dm
      have hm' : 0 < m' := Nat.pos_of_mul_pos_left hm
      have lt : m' < p * m' := by
        have : 2 * m' ≤ p * m' := Nat.mul_le_mul_right _ h2
        omega
      rw [Nat.mul_assoc, v_mul_self h2 (Nat.mul_pos hm' hk), v_mul_self h2 hm', ih m' k (by omega) hm' hk]
      omega
    · by_cases dk : p ∣ k
      · obtain ⟨k', rfl⟩ := dk
        have hk' : 0 < k' := Nat.pos_of_mul_pos_left hk
        have lt : k' < p * k' := by
          have : 2 * k' ≤ p * k' := Nat.mul_le_mul_right _ h2
          omega
        have e : m * (p * k') = p * (m * k') := by grind
        rw [e, v_mul_self h2 (Nat.mul_pos hm hk'), v_mul_self h2 hk', ih m k' (by omega) hm hk']
        omega
      · rw [v_no dm, v_no dk, v_no fun d => (euclid hp d).elim dm dk]
theorem v_mul' {p m k : Nat} (hp : isP p = true) (hm : 0 < m) (hk : 0 < k) : v p (m * k) = v p m + v p k := v_mul hp _ m k (Nat.le_refl _) hm hk
/-- the parts under q -/
def facsTo (q n : Nat) : List (Nat × Nat) := (List.range q).filterMap fun p => if isP p = true ∧ 0 < v p n then some (p, v p n) else none
def facs (n : Nat) : List (Nat × Nat) := facsTo (n + 1) n
theorem facsTo_succ (q n : Nat) : facsTo (q + 1) n = facsTo q n ++ (if isP q = true ∧ 0 < v q n then [(q, v q n)] else []) := by
  unfold facsTo
  rw [List.range_succ, List.filterMap_append]
  congr 1
  by_cases h : isP q = true ∧ 0 < v q n
  · rw [if_pos h, List.filterMap_cons, if_pos h]
    rfl
  · rw [if_neg h, List.filterMap_cons, if_neg h]
    rfl
theorem facsTo_no {q n : Nat} (h : isP q = true → v q n = 0) : facsTo (q + 1) n = facsTo q n := by
  rw [facsTo_succ, if_neg, List.append_nil]
  rintro ⟨a, b⟩
  rw [h a] at b
  omega
theorem facsTo_yes {q n : Nat} (h : isP q = true) (g : 0 < v q n) : facsTo (q + 1) n = facsTo q n ++ [(q, v q n)] := by
  rw [facsTo_succ, if_pos ⟨h, g⟩]
theorem facsTo_same {n lo : Nat} : ∀ (k : Nat), (∀ p, lo ≤ p → isP p = true → v p n = 0) → facsTo (lo + k) n = facsTo lo n
  | 0, _ => rfl
  | k + 1, h => by
    show facsTo (lo + k + 1) n = _
    rw [facsTo_no (h _ (by omega)), facsTo_same k h]
theorem facsTo_le {n lo hi : Nat} (hl : lo ≤ hi) (h : ∀ p, lo ≤ p → isP p = true → v p n = 0) : facsTo hi n = facsTo lo n := by
  have := facsTo_same (n := n) (lo := lo) (hi - lo) h
  rwa [show lo + (hi - lo) = hi by omega] at this
theorem facs_eq {n q : Nat} (h0 : 0 < n) (h : ∀ p, q ≤ p → isP p = true → v p n = 0) : facs n = facsTo q n := by
  unfold facs
  have hb : ∀ p, n + 1 ≤ p → isP p = true → v p n = 0 := fun p hp _ => v_big h0 (by omega)
  by_cases c : q ≤ n + 1
  · exact facsTo_le c h
  · exact (facsTo_le (by omega) hb).symm
theorem v_self {p : Nat} (h : 2 ≤ p) : v p p = 1 := by
  have := v_mul_self h (show 0 < 1 by decide)
  rw [Nat.mul_one, v_big (n := 1) (by decide) (by omega)] at this
  exact this
/-- what is left at the end is one prime -/
theorem left_prime {r q : Nat} (h1 : 1 < r) (hq : ∀ d, 2 ≤ d → d < q → ¬ d ∣ r) (hl : r < q * q) : isP r = true := by
  refine isP_iff.mpr ⟨by omega, fun d h2 hd hv => ?_⟩
  obtain ⟨e, rfl⟩ := hv
  have hdq : q ≤ d := Nat.le_of_not_lt fun c => hq d h2 c ⟨e, rfl⟩
  have he : 2 ≤ e := by
    refine Classical.byContradiction fun c => ?_
    have : e = 0 ∨ e = 1 := by omega
    rcases this with rfl | rfl <;> omega
  have heq : q ≤ e := Nat.le_of_not_lt fun c => hq e he c ⟨d, Nat.mul_comm ..⟩
  have := Nat.mul_le_mul hdq heq
  omega
theorem v_prime {p r : Nat} (hp : isP p = true) (hr : isP r = true) (h : p ≠ r) : v p r = 0 := v_no fun d => by
  obtain ⟨h2, _⟩ := isP_iff.mp hp
  obtain ⟨g2, g⟩ := isP_iff.mp hr
  have := Nat.le_of_dvd (by omega) d
  exact g p h2 (by omega) d
theorem facs_last {n q r : Nat} (h0 : 0 < n) (h1 : 1 < r) (hq : ∀ d, 2 ≤ d → d < q → ¬ d ∣ r) (hl : r < q * q) (hv : ∀ p, q ≤ p → isP p = true → v p n = v p r) : facs n = facsTo q n ++ [(r, 1)] := by
  have hp := left_prime h1 hq hl
  have hrq : q ≤ r := Nat.le_of_not_lt fun c => hq r (by omega) c (Nat.dvd_refl r)
  have e1 : facs n = facsTo (r + 1) n := facs_eq h0 fun p h g => by
    rw [hv p (by omega) g, v_prime g hp (by omega)]
  have e2 : v r n = 1 := by rw [hv r hrq hp, v_self (by omega)]
  rw [e1, facsTo_yes hp (by omega), e2]
  congr 1
  -- between q and r nothing
  have : ∀ k, q + k ≤ r → facsTo (q + k) n = facsTo q n := by
    intro k
    induction k with
    | zero => intro _; rfl
    | succ k ih =>
      intro h
      show facsTo (q + k + 1) n = _
      rw [facsTo_no fun g => by rw [hv _ (by omega) g, v_prime g hp (by omega)], ih (by omega)]
  have := this (r - q) (by omega)
  rwa [show q + (r - q) = r by omega] at this
/-- what the inner loop knows -/
theorem v_div_other {p q r : Nat} (hp : isP p = true) (h : q < p) (h2 : 2 ≤ q) (h0 : 0 < r) (hd : q ∣ r) : v p (r / q) = v p r := by
  obtain ⟨r', rfl⟩ := hd
  have hr' : 0 < r' := Nat.pos_of_mul_pos_left h0
  have hz : v p q = 0 := v_big (by omega) h
  rw [Nat.mul_div_cancel_left _ (by omega), v_mul' hp (by omega) hr', hz]
  omega
theorem first_prime {q r : Nat} (h2 : 2 ≤ q) (hq : ∀ d, 2 ≤ d → d < q → ¬ d ∣ r) (hd : q ∣ r) : isP q = true := isP_iff.mpr ⟨h2, fun d h g e => hq d h g (Nat.dvd_trans e hd)⟩
/-! sums -/
def S : Nat → (Nat → Nat) → Nat
  | 0, _ => 0
  | n + 1, f => S n f + f n
theorem S_add (f g : Nat → Nat) : ∀ n, S n (fun p => f p + g p) = S n f + S n g
  | 0 => rfl
  | n + 1 => by
    show S n (fun p => f p + g p) + (f n + g n) = S n f + f n + (S n g + g n)
    rw [S_add f g n]
    omega
theorem S_mul (c : Nat) (f : Nat → Nat) : ∀ n, S n (fun p => c * f p) = c * S n f
  | 0 => rfl
  | n + 1 => by
    show S n _ + _ = c * (S n f + f n)
    rw [S_mul c f n, Nat.mul_add]
theorem S_congr {f g : Nat → Nat} : ∀ n, (∀ p, p < n → f p = g p) → S n f = S n g
  | 0, _ => rfl
  | n + 1, h => by
    show S n f + f n = S n g + g n
    rw [S_congr n fun p hp => h p (by omega), h n (by omega)]
theorem S_more {f : Nat → Nat} {n : Nat} : ∀ k, (∀ p, n ≤ p → f p = 0) → S (n + k) f = S n f
  | 0, _ => rfl
  | k + 1, h => by
    show S (n + k) f + f (n + k) = _
    rw [S_more k h, h _ (by omega)]
    rfl
theorem S_le {f : Nat → Nat} {B : Nat} : ∀ n, (∀ p, f p ≤ B) → S n f ≤ n * B
  | 0, _ => by show 0 ≤ _; omega
  | n + 1, h => by
    show S n f + f n ≤ _
    have := S_le n h
    have := h n
    rw [Nat.add_mul]
    omega
theorem S_pos {f : Nat → Nat} {p : Nat} : ∀ n, p < n → f p ≤ S n f
  | 0, h => by omega
  | n + 1, h => by
    show _ ≤ S n f + f n
    by_cases e : p = n
    · subst e; omega
    · have := S_pos (f := f) n (show p < n by omega)
      omega
/-! the slope -/
def tm (n p : Nat) : Nat := if isP p = true then n / p * v p n else 0
def ar (n : Nat) : Nat := S (n + 1) (tm n)
theorem ar_eq {n N : Nat} (h0 : 0 < n) (h : n + 1 ≤ N) : S N (tm n) = ar n := by
  have := S_more (f := tm n) (n := n + 1) (N - (n + 1)) fun p hp => by
    unfold tm
    rw [v_big h0 (by omega), Nat.mul_zero]
    split <;> rfl
  rwa [show n + 1 + (N - (n + 1)) = N by omega] at this
theorem tm_mul {m k : Nat} (hm : 0 < m) (hk : 0 < k) (p : Nat) : tm (m * k) p = k * tm m p + m * tm k p := by
  unfold tm
  by_cases hp : isP p = true
  · rw [if_pos hp, if_pos hp, if_pos hp, v_mul' hp hm hk, Nat.mul_add]
    have h2 := (isP_iff.mp hp).1
    have e1 : m * k / p * v p m = k * (m / p * v p m) := by
      by_cases d : p ∣ m
      · obtain ⟨m', rfl⟩ := d
        rw [Nat.mul_assoc, Nat.mul_div_cancel_left _ (by omega), Nat.mul_div_cancel_left _ (by omega)]
        grind
      · rw [v_no d]; rfl
    have e2 : m * k / p * v p k = m * (k / p * v p k) := by
      by_cases d : p ∣ k
      · obtain ⟨k', rfl⟩ := d
        rw [show m * (p * k') = p * (m * k') by grind, Nat.mul_div_cancel_left _ (by omega), Nat.mul_div_cancel_left _ (by omega)]
        grind
      · rw [v_no d]; rfl
    rw [e1, e2]
  · rw [if_neg hp, if_neg hp, if_neg hp]; rfl
theorem ar_mul {m k : Nat} (hm : 0 < m) (hk : 0 < k) : ar (m * k) = k * ar m + m * ar k := by
  have hmk := Nat.mul_pos hm hk
  have l1 : m ≤ m * k := Nat.le_mul_of_pos_right _ hk
  have l2 : k ≤ m * k := Nat.le_mul_of_pos_left _ hm
  rw [← ar_eq (n := m) (N := m * k + 1) hm (by omega), ← ar_eq (n := k) (N := m * k + 1) hk (by omega), ← S_mul, ← S_mul, ← S_add]
  exact S_congr _ fun p _ => tm_mul hm hk p
theorem ar_one : ar 1 = 0 := by decide
theorem ar_prime {p : Nat} (hp : isP p = true) : ar p = 1 := by
  have h2 := (isP_iff.mp hp).1
  have : ∀ n, n ≤ p → S n (tm p) = 0 := by
    intro n
    induction n with
    | zero => intro _; rfl
    | succ n ih =>
      intro h
      show S n _ + tm p n = 0
      rw [ih (by omega)]
      unfold tm
      split
      · next g => rw [v_prime g hp (by omega)]; rfl
      · rfl
  show S p _ + tm p p = 1
  rw [this p (Nat.le_refl _)]
  unfold tm
  rw [if_pos hp, v_self h2, Nat.div_self (by omega)]
theorem ar_pow {p : Nat} (hp : isP p = true) : ∀ e, ar (p ^ (e + 1)) = (e + 1) * p ^ e
  | 0 => by rw [Nat.pow_one, ar_prime hp]; rfl
  | e + 1 => by
    have h2 := (isP_iff.mp hp).1
    rw [Nat.pow_succ, ar_mul (Nat.pow_pos (by omega)) (by omega), ar_pow hp e, ar_prime hp, Nat.mul_one, Nat.add_mul (e + 1) 1, Nat.pow_succ]
    grind
theorem ar_le (n : Nat) : ar n ≤ (n + 1) * (n * n) := S_le _ fun p => by
  unfold tm
  split
  · exact Nat.mul_le_mul (Nat.div_le_self ..) (v_le ..)
  · omega
theorem has_prime : ∀ (n : Nat), 1 < n → ∃ p, isP p = true ∧ p ∣ n := by
  intro n
  induction n using Nat.strongRecOn with
  | ind n ih =>
    intro h
    by_cases c : isP n = true
    · exact ⟨n, c, Nat.dvd_refl n⟩
    · rw [isP_iff] at c
      have : ∃ d, 2 ≤ d ∧ d < n ∧ d ∣ n := Classical.byContradiction fun g => c ⟨by omega, fun d a b e => g ⟨d, a, b, e⟩⟩
      obtain ⟨d, a, b, e⟩ := this
      obtain ⟨p, hp, hd⟩ := ih d b (by omega)
      exact ⟨p, hp, Nat.dvd_trans hd e⟩
theorem ar_pos {n : Nat} (h : 1 < n) : 0 < ar n := by
  obtain ⟨p, hp, k, rfl⟩ := has_prime n h
  have hp0 : 0 < p := Nat.pos_of_mul_pos_right (show 0 < p * k by omega)
  have hk0 : 0 < k := Nat.pos_of_mul_pos_left (show 0 < p * k by omega)
  rw [ar_mul hp0 hk0, ar_prime hp]
  omega
theorem split_power {p : Nat} (h2 : 2 ≤ p) : ∀ (n : Nat), 0 < n → ∃ e m, n = p ^ e * m ∧ ¬ p ∣ m ∧ 0 < m := by
  intro n
  induction n using Nat.strongRecOn with
  | ind n ih =>
    intro h
    by_cases d : p ∣ n
    · obtain ⟨k, rfl⟩ := d
      have hk0 : 0 < k := Nat.pos_of_mul_pos_left h
      have : 2 * k ≤ p * k := Nat.mul_le_mul_right _ h2
      obtain ⟨e, m, he, hm, hp⟩ := ih k (by omega) hk0
      refine ⟨e + 1, m, ?_, hm, hp⟩
      rw [Nat.pow_succ]
      conv => lhs; rw [he]
      grind
    · exact ⟨0, n, by rw [Nat.pow_zero, Nat.one_mul], d, h⟩
theorem stays_iff {n : Nat} (h0 : 0 < n) : ar n = n ↔ ∃ p, isP p = true ∧ n = p ^ p := by
  constructor
  · intro h
    have h1 : 1 < n := by
      refine Classical.byContradiction fun c => ?_
      have : n = 1 := by omega
      rw [this, ar_one] at h
      omega
    obtain ⟨p, hp, hd⟩ := has_prime n h1
    have h2 := (isP_iff.mp hp).1
    obtain ⟨e, m, rfl, hm, hm0⟩ := split_power h2 n h0
    cases e with
    | zero => rw [Nat.pow_zero, Nat.one_mul] at hd; exact absurd hd hm
    | succ e =>
      have hpp : 0 < p ^ e := Nat.pow_pos (by omega)
      rw [ar_mul (Nat.pow_pos (by omega)) hm0, ar_pow hp] at h
      have k1 : p ^ e * ((e + 1) * m + p * ar m) = p ^ e * (p * m) := by
        rw [Nat.pow_succ] at h
        grind
      have k2 := Nat.eq_of_mul_eq_mul_left hpp k1
      have hdv : p ∣ (e + 1) * m := by
        have : p ∣ (e + 1) * m + p * ar m := by rw [k2]; exact ⟨m, rfl⟩
        exact (Nat.dvd_add_left ⟨ar m, rfl⟩).mp this
      have hde : p ∣ e + 1 := (euclid hp hdv).resolve_right hm
      obtain ⟨k, hk⟩ := hde
      rw [hk] at k2
      have k3 : p * (k * m + ar m) = p * m := by grind
      have k4 := Nat.eq_of_mul_eq_mul_left (by omega) k3
      have kpos : 0 < k := by
        refine Classical.byContradiction fun c => ?_
        have : k = 0 := by omega
        rw [this] at hk
        omega
      have km : m ≤ k * m := Nat.le_mul_of_pos_left _ kpos
      have am : ar m = 0 := by omega
      have m1 : m = 1 := by
        refine Classical.byContradiction fun c => ?_
        have := ar_pos (n := m) (by omega)
        omega
      subst m1
      have : k = 1 := by omega
      subst this
      refine ⟨p, hp, ?_⟩
      rw [Nat.mul_one, hk, Nat.mul_one]
  · rintro ⟨p, hp, rfl⟩
    have h2 := (isP_iff.mp hp).1
    obtain ⟨e, rfl⟩ : ∃ e, p = e + 1 := ⟨p - 1, by omega⟩
    rw [ar_pow hp, Nat.pow_succ]
    grind
end MF

/-! slopes -/
namespace M68
open MF
def dr (x : Int) : Int := x.sign * (ar x.natAbs : Int)
theorem dr_zero : dr 0 = 0 := rfl
theorem dr_nat {n : Nat} (h : 0 < n) : dr (n : Int) = (ar n : Int) := by
  unfold dr
  rw [Int.sign_eq_one_of_pos (by omega), Int.one_mul]
  rfl
theorem dr_pos {x : Int} (h : 0 < x) : dr x = (ar x.natAbs : Int) := by
  unfold dr
  rw [Int.sign_eq_one_of_pos h, Int.one_mul]
theorem dr_neg (x : Int) : dr (-x) = -dr x := by
  unfold dr
  rw [Int.sign_neg, Int.natAbs_neg, Int.neg_mul]
theorem dr_mul (x y : Int) : dr (x * y) = x * dr y + y * dr x := by
  by_cases hx : x = 0
  · subst hx
    rw [Int.zero_mul, dr_zero, Int.zero_mul, Int.mul_zero]
    rfl
  by_cases hy : y = 0
  · subst hy
    rw [Int.mul_zero, dr_zero, Int.zero_mul, Int.mul_zero]
    rfl
  have ex : x = x.sign * (x.natAbs : Int) := (Int.sign_mul_natAbs x).symm
  have ey : y = y.sign * (y.natAbs : Int) := (Int.sign_mul_natAbs y).symm
  have hm : (ar (x * y).natAbs : Int) = (y.natAbs : Int) * (ar x.natAbs : Int) + (x.natAbs : Int) * (ar y.natAbs : Int) := by
    rw [Int.natAbs_mul, ar_mul (by omega) (by omega)]
    simp
  unfold dr
  rw [Int.sign_mul, hm]
  conv => rhs; rw [show x * (y.sign * (ar y.natAbs : Int)) = x.sign * (x.natAbs : Int) * (y.sign * (ar y.natAbs : Int)) by rw [← ex], show y * (x.sign * (ar x.natAbs : Int)) = y.sign * (y.natAbs : Int) * (x.sign * (ar x.natAbs : Int)) by rw [← ey]]
  grind
theorem dr_one : dr 1 = 0 := by decide
theorem dr_le {x : Int} {B : Nat} (h : x.natAbs ≤ B) : (dr x).natAbs ≤ (B + 1) * (B * B) := by
  unfold dr
  rw [Int.natAbs_mul]
  have h1 : x.sign.natAbs ≤ 1 := by
    rw [Int.natAbs_sign]
    split <;> omega
  have h2 := ar_le x.natAbs
  have h3 : (x.natAbs + 1) * (x.natAbs * x.natAbs) ≤ (B + 1) * (B * B) := Nat.mul_le_mul (by omega) (Nat.mul_le_mul h h)
  have h4 : x.sign.natAbs * (ar x.natAbs : Int).natAbs ≤ 1 * ar x.natAbs := Nat.mul_le_mul h1 (by omega)
  omega
/-! shares -/
def low (x y : Int) : Int × Int := (x / (Int.gcd x y : Int), y / (Int.gcd x y : Int))
theorem gpos {x y : Int} (h : 0 < y) : 0 < (Int.gcd x y : Int) := by
  have := Int.gcd_pos_of_ne_zero_right x (show y ≠ 0 by omega)
  omega
theorem low_mul {x y : Int} : (low x y).1 * (Int.gcd x y : Int) = x ∧ (low x y).2 * (Int.gcd x y : Int) = y := ⟨Int.ediv_mul_cancel (Int.gcd_dvd_left ..), Int.ediv_mul_cancel (Int.gcd_dvd_right ..)⟩
theorem low_pos {x y : Int} (h : 0 < y) : 0 < (low x y).2 := by
  have h1 := (low_mul (x := x) (y := y)).2
  have g := gpos (x := x) h
  refine Classical.byContradiction fun c => ?_
  have := Int.mul_nonneg (show 0 ≤ -(low x y).2 by omega) (Int.le_of_lt g)
  rw [Int.neg_mul] at this
  omega
theorem low_cross {x y : Int} : (low x y).1 * y = x * (low x y).2 := by
  have h := low_mul (x := x) (y := y)
  generalize low x y = p at *
  generalize (Int.gcd x y : Int) = g at *
  obtain ⟨h1, h2⟩ := h
  rw [← h1, ← h2]
  grind
theorem low_cop {x y : Int} (h : 0 < y) : Int.gcd (low x y).1 (low x y).2 = 1 := by
  have h1 := low_mul (x := x) (y := y)
  have g := gpos (x := x) h
  have : Int.gcd ((Int.gcd x y : Int) * (low x y).1) ((Int.gcd x y : Int) * (low x y).2) = Int.gcd x y * Int.gcd (low x y).1 (low x y).2 := by rw [Int.gcd_mul_left]; simp
  rw [Int.mul_comm, h1.1, Int.mul_comm, h1.2] at this
  have h2 : Int.gcd x y * Int.gcd (low x y).1 (low x y).2 = Int.gcd x y * 1 := by omega
  exact Nat.eq_of_mul_eq_mul_left (by omega) h2
theorem cop_dvd {a b k : Int} (h : Int.gcd a b = 1) (d : b ∣ k * a) : b ∣ k := by
  have d2 : b.natAbs ∣ k.natAbs * a.natAbs := by rw [← Int.natAbs_mul]; exact Int.natAbs_dvd_natAbs.mpr d
  have c2 : Nat.Coprime b.natAbs a.natAbs := by
    show Nat.gcd _ _ = 1
    rw [Nat.gcd_comm]
    exact h
  exact Int.natAbs_dvd_natAbs.mp (Nat.Coprime.dvd_of_dvd_mul_right c2 d2)
theorem cop_uniq {a b a' b' : Int} (h : Int.gcd a b = 1) (h' : Int.gcd a' b' = 1) (hb : 0 < b) (hb' : 0 < b') (e : a * b' = a' * b) : a = a' ∧ b = b' := by
  have d1 : b ∣ b' := cop_dvd h ⟨a', by rw [Int.mul_comm, e, Int.mul_comm]⟩
  have d2 : b' ∣ b := cop_dvd h' ⟨a, by rw [Int.mul_comm, ← e, Int.mul_comm]⟩
  have eb : b = b' := Int.dvd_antisymm (by omega) (by omega) d1 d2
  refine ⟨?_, eb⟩
  subst eb
  exact Int.eq_of_mul_eq_mul_right (by omega) e
theorem low_eq {x y x' y' : Int} (h : 0 < y) (h' : 0 < y') (e : x * y' = x' * y) : low x y = low x' y' := by
  have c := low_mul (x := x) (y := y)
  have c' := low_mul (x := x') (y := y')
  have g := gpos (x := x) h
  have g' := gpos (x := x') h'
  have key : (low x y).1 * (low x' y').2 = (low x' y').1 * (low x y).2 := by
    have : ((Int.gcd x y : Int) * (Int.gcd x' y' : Int)) * ((low x y).1 * (low x' y').2) = ((Int.gcd x y : Int) * (Int.gcd x' y' : Int)) * ((low x' y').1 * (low x y).2) := by
      have e2 : ((low x y).1 * (Int.gcd x y : Int)) * ((low x' y').2 * (Int.gcd x' y' : Int)) = ((low x' y').1 * (Int.gcd x' y' : Int)) * ((low x y).2 * (Int.gcd x y : Int)) := by rw [c.1, c.2, c'.1, c'.2, e]
      grind
    exact Int.eq_of_mul_eq_mul_left (Int.mul_ne_zero (by omega) (by omega)) this
  obtain ⟨a, b⟩ := cop_uniq (low_cop h) (low_cop h') (low_pos h) (low_pos h') key
  exact Prod.ext a b
theorem low_neg {x y : Int} : low (-x) y = (-(low x y).1, (low x y).2) := by
  unfold low
  rw [Int.neg_gcd, Int.neg_ediv_of_dvd (Int.gcd_dvd_left ..)]
theorem low_one {x : Int} : low x 1 = (x, 1) := by
  unfold low
  rw [Int.gcd_one]
  simp
theorem low_same {x y : Int} (h : Int.gcd x y = 1) : low x y = (x, y) := by
  unfold low
  rw [h]
  simp
theorem low_bd {x y : Int} (h : 0 < y) : (low x y).1.natAbs ≤ x.natAbs ∧ (low x y).2 ≤ y := by
  have c := low_mul (x := x) (y := y)
  have g := gpos (x := x) h
  have p := low_pos (x := x) h
  constructor
  · have : ((low x y).1 * (Int.gcd x y : Int)).natAbs = (low x y).1.natAbs * (Int.gcd x y : Int).natAbs := Int.natAbs_mul ..
    rw [c.1] at this
    rw [this]
    exact Nat.le_mul_of_pos_right _ (by omega)
  · have := Int.mul_le_mul_of_nonneg_left (show 1 ≤ (Int.gcd x y : Int) by omega) (Int.le_of_lt p)
    rw [c.2, Int.mul_one] at this
    exact this
/-! the sums over the parts -/
def trm (n : Nat) (pe : Nat × Nat) : Nat := n / pe.1 * pe.2
theorem sum_facsTo (n : Nat) : ∀ q, ((facsTo q n).map (trm n)).sum = S q (tm n)
  | 0 => rfl
  | q + 1 => by
    rw [facsTo_succ, List.map_append, List.sum_append, sum_facsTo n q]
    show _ = S q (tm n) + tm n q
    congr 1
    unfold tm
    by_cases h : isP q = true
    · rw [if_pos h]
      by_cases g : 0 < v q n
      · rw [if_pos ⟨h, g⟩]
        simp [trm]
      · rw [if_neg fun c => g c.2, show v q n = 0 by omega]
        simp
    · rw [if_neg h, if_neg fun c => h c.1]
      rfl
theorem sum_facs (n : Nat) : ((facs n).map (trm n)).sum = ar n := sum_facsTo n _
def prd : List (Nat × Nat) → Nat
  | [] => 1
  | pe :: l => pe.1 * prd l
theorem prd_append : ∀ (l m : List (Nat × Nat)), prd (l ++ m) = prd l * prd m
  | [], m => by simp [prd]
  | pe :: l, m => by
    show pe.1 * prd (l ++ m) = pe.1 * prd l * prd m
    rw [prd_append l m, Nat.mul_assoc]
theorem mem_facs {n p e : Nat} (h0 : 0 < n) (h : (p, e) ∈ facs n) : isP p = true ∧ e = v p n ∧ 0 < e ∧ p ∣ n := by
  unfold facs facsTo at h
  rw [List.mem_filterMap] at h
  obtain ⟨q, _, hq⟩ := h
  split at hq
  · next c =>
    cases hq
    exact ⟨c.1, rfl, c.2, (v_pos (isP_iff.mp c.1).1 h0).mp c.2⟩
  · cases hq
theorem prd_facsTo {n : Nat} (h0 : 0 < n) : ∀ q, prd (facsTo q n) ∣ n ∧ ∀ p, q ≤ p → isP p = true → ¬ p ∣ prd (facsTo q n)
  | 0 => ⟨⟨n, by simp [facsTo, prd]⟩, fun p _ hp d => by
    have e : prd (facsTo 0 n) = 1 := rfl
    rw [e] at d
    have := Nat.le_of_dvd (by decide) d
    have := (isP_iff.mp hp).1
    omega⟩
  | q + 1 => by
    obtain ⟨h1, h2⟩ := prd_facsTo h0 q
    rw [facsTo_succ]
    by_cases c : isP q = true ∧ 0 < v q n
    · rw [if_pos c, prd_append]
      have q2 := (isP_iff.mp c.1).1
      have hq : q ∣ n := (v_pos q2 h0).mp c.2
      have e : prd [(q, v q n)] = q := by simp [prd]
      rw [e]
      constructor
      · obtain ⟨k, hk⟩ := h1
        have : q ∣ prd (facsTo q n) * k := by rw [← hk]; exact hq
        have := (euclid c.1 this).resolve_left (h2 q (Nat.le_refl _) c.1)
        obtain ⟨k', rfl⟩ := this
        exact ⟨k', hk.trans (Nat.mul_assoc ..).symm⟩
      · intro p hp hpp d
        rcases euclid hpp d with d | d
        · exact h2 p (by omega) hpp d
        · have := Nat.le_of_dvd (by omega) d
          omega
    · rw [if_neg c, List.append_nil]
      exact ⟨h1, fun p hp => h2 p (by omega)⟩
theorem prd_pos {n : Nat} (h0 : 0 < n) : ∀ l : List (Nat × Nat), (∀ pe ∈ l, pe ∈ facs n) → 0 < prd l
  | [], _ => by decide
  | pe :: l, h => by
    have := (isP_iff.mp (mem_facs h0 (h pe (List.mem_cons_self ..))).1).1
    exact Nat.mul_pos (by omega) (prd_pos h0 l fun x hx => h x (List.mem_cons_of_mem _ hx))
theorem prd_take {n : Nat} (h0 : 0 < n) (i : Nat) : prd ((facs n).take i) ≤ n := by
  have h1 : prd (facs n) ≤ n := Nat.le_of_dvd h0 (prd_facsTo h0 (n + 1)).1
  have h2 : prd (facs n) = prd ((facs n).take i) * prd ((facs n).drop i) := by rw [← prd_append, List.take_append_drop]
  have h3 : 0 < prd ((facs n).drop i) := prd_pos h0 _ fun x hx => List.mem_of_mem_drop hx
  have := Nat.le_mul_of_pos_right (prd ((facs n).take i)) h3
  omega
/-- one step of a sum of shares -/
theorem sum_step {n p e : Nat} {A B u d : Int} {s : Nat} (hp : p ∣ n) (h : A * n = B * s) (hu : u * p = e * d) : (A * d + u * B) * n = B * d * ((s + trm n (p, e) : Nat) : Int) := by
  obtain ⟨k, rfl⟩ := hp
  unfold trm
  by_cases h0 : p = 0
  · subst h0
    have z : ((0 * k : Nat) : Int) = 0 := by simp
    rw [z] at h ⊢
    have e1 : (0 * k / 0 * e : Nat) = 0 := by simp
    dsimp only
    rw [e1, Nat.add_zero, Int.mul_zero, Int.mul_right_comm, ← h, Int.mul_zero, Int.zero_mul]
  · dsimp only
    rw [Nat.mul_div_cancel_left _ (by omega), Int.natCast_add, Int.natCast_mul, Int.natCast_mul]
    rw [Int.natCast_mul] at h
    grind
theorem low_stays {n : Nat} (h0 : 0 < n) (h : n ≤ 1000000) : ar n = n ↔ n = 4 ∨ n = 27 ∨ n = 3125 ∨ n = 823543 := by
  rw [stays_iff h0]
  constructor
  · rintro ⟨p, hp, rfl⟩
    have : p < 8 := by
      refine Classical.byContradiction fun c => ?_
      have h1 : 8 ^ 8 ≤ p ^ 8 := Nat.pow_le_pow_left (by omega) 8
      have h2 : p ^ 8 ≤ p ^ p := Nat.pow_le_pow_right (by omega) (by omega)
      have : (8 : Nat) ^ 8 = 16777216 := by decide
      omega
    have : p = 0 ∨ p = 1 ∨ p = 2 ∨ p = 3 ∨ p = 4 ∨ p = 5 ∨ p = 6 ∨ p = 7 := by omega
    rcases this with rfl | rfl | rfl | rfl | rfl | rfl | rfl | rfl <;> first | exact absurd hp (by decide) | decide
  · rintro (rfl | rfl | rfl | rfl)
    · exact ⟨2, by decide, by decide⟩
    · exact ⟨3, by decide, by decide⟩
    · exact ⟨5, by decide, by decide⟩
    · exact ⟨7, by decide, by decide⟩
end M68

/-! common divisors and multiples as a lattice -/
namespace M00
theorem d1 (d b c : Nat) (h : d ∣ Nat.lcm b c) : d ∣ Nat.lcm (Nat.gcd d b) (Nat.gcd d c) := by
  by_cases hd : d = 0
  · subst hd
    rw [Nat.gcd_zero_left, Nat.gcd_zero_left]
    exact h
  have hx : 0 < Nat.gcd d b := Nat.gcd_pos_of_pos_left _ (Nat.pos_of_ne_zero hd)
  have hz : 0 < Nat.gcd (Nat.gcd d b) (Nat.gcd d c) := Nat.gcd_pos_of_pos_left _ hx
  have e : Nat.gcd (Nat.gcd d b) (Nat.gcd d c) = Nat.gcd d (Nat.gcd b c) := by
    apply Nat.dvd_antisymm
    · refine Nat.dvd_gcd (Nat.dvd_trans (Nat.gcd_dvd_left ..) (Nat.gcd_dvd_left ..)) (Nat.dvd_gcd (Nat.dvd_trans (Nat.gcd_dvd_left ..) (Nat.gcd_dvd_right ..)) (Nat.dvd_trans (Nat.gcd_dvd_right ..) (Nat.gcd_dvd_right ..)))
    · exact Nat.dvd_gcd (Nat.dvd_gcd (Nat.gcd_dvd_left ..) (Nat.dvd_trans (Nat.gcd_dvd_right ..) (Nat.gcd_dvd_left ..))) (Nat.dvd_gcd (Nat.gcd_dvd_left ..) (Nat.dvd_trans (Nat.gcd_dvd_right ..) (Nat.gcd_dvd_right ..)))
  have key : d * Nat.gcd (Nat.gcd d b) (Nat.gcd d c) ∣ Nat.gcd d b * Nat.gcd d c := by
    rw [e]
    have hg : d * Nat.gcd d (Nat.gcd b c) ∣ b * c := by
      have h1 : d * Nat.gcd b c ∣ b * c := by
        rw [← Nat.gcd_mul_lcm b c, Nat.mul_comm (Nat.gcd b c)]
        exact Nat.mul_dvd_mul h (Nat.dvd_refl _)
      exact Nat.dvd_trans (Nat.mul_dvd_mul (Nat.dvd_refl _) (Nat.gcd_dvd_right ..)) h1
    have hb : Nat.gcd d (Nat.gcd b c) ∣ b := Nat.dvd_trans (Nat.gcd_dvd_right ..) (Nat.gcd_dvd_left ..)
    have hc : Nat.gcd d (Nat.gcd b c) ∣ c := Nat.dvd_trans (Nat.gcd_dvd_right ..) (Nat.gcd_dvd_right ..)
    have h1 : d * Nat.gcd d (Nat.gcd b c) ∣ d * Nat.gcd d c := by
      refine Nat.mul_dvd_mul (Nat.dvd_refl _) (Nat.dvd_gcd (Nat.gcd_dvd_left ..) hc)
    have h2 : d * Nat.gcd d (Nat.gcd b c) ∣ b * Nat.gcd d c := by
      have e3 : b * Nat.gcd d c = Nat.gcd (b * d) (b * c) := (Nat.gcd_mul_left ..).symm
      rw [e3]
      refine Nat.dvd_gcd ?_ hg
      rw [Nat.mul_comm b d]
      exact Nat.mul_dvd_mul (Nat.dvd_refl _) hb
    have e4 : Nat.gcd d b * Nat.gcd d c = Nat.gcd (d * Nat.gcd d c) (b * Nat.gcd d c) := (Nat.gcd_mul_right ..).symm
    rw [e4]
    exact Nat.dvd_gcd h1 h2
  rw [← Nat.gcd_mul_lcm (Nat.gcd d b) (Nat.gcd d c), Nat.mul_comm] at key
  exact Nat.dvd_of_mul_dvd_mul_left hz key
theorem gcd_lcm (a b c : Nat) : Nat.gcd a (Nat.lcm b c) = Nat.lcm (Nat.gcd a b) (Nat.gcd a c) := by
  apply Nat.dvd_antisymm
  · have h := d1 (Nat.gcd a (Nat.lcm b c)) b c (Nat.gcd_dvd_right ..)
    refine Nat.dvd_trans h (Nat.lcm_dvd ?_ ?_)
    · exact Nat.dvd_trans (Nat.dvd_gcd (Nat.dvd_trans (Nat.gcd_dvd_left ..) (Nat.gcd_dvd_left ..)) (Nat.gcd_dvd_right ..)) (Nat.dvd_lcm_left ..)
    · exact Nat.dvd_trans (Nat.dvd_gcd (Nat.dvd_trans (Nat.gcd_dvd_left ..) (Nat.gcd_dvd_left ..)) (Nat.gcd_dvd_right ..)) (Nat.dvd_lcm_right ..)
  · refine Nat.lcm_dvd (Nat.dvd_gcd (Nat.gcd_dvd_left ..) (Nat.dvd_trans (Nat.gcd_dvd_right ..) (Nat.dvd_lcm_left ..))) (Nat.dvd_gcd (Nat.gcd_dvd_left ..) (Nat.dvd_trans (Nat.gcd_dvd_right ..) (Nat.dvd_lcm_right ..)))
theorem gcd_abs (a b : Nat) : Nat.gcd a (Nat.lcm a b) = a := Nat.dvd_antisymm (Nat.gcd_dvd_left ..) (Nat.dvd_gcd (Nat.dvd_refl _) (Nat.dvd_lcm_left ..))
theorem lcm_abs (a b : Nat) : Nat.lcm a (Nat.gcd a b) = a := Nat.dvd_antisymm (Nat.lcm_dvd (Nat.dvd_refl _) (Nat.gcd_dvd_left ..)) (Nat.dvd_lcm_left ..)
theorem lcm_gcd (a b c : Nat) : Nat.lcm a (Nat.gcd b c) = Nat.gcd (Nat.lcm a b) (Nat.lcm a c) := by
  rw [gcd_lcm, Nat.gcd_comm (Nat.lcm a b) a, gcd_abs, Nat.gcd_comm (Nat.lcm a b) c, gcd_lcm, ← Nat.lcm_assoc, Nat.gcd_comm c a, lcm_abs, Nat.gcd_comm c b]
theorem dvd_cop {a b x y : Int} {g : Nat} (hg : g = Int.gcd a b) (hg0 : 0 < g) (h : x * a = y * b) : b / g ∣ x := by
  have ha : (g : Int) ∣ a := by rw [hg]; exact Int.gcd_dvd_left ..
  have hb : (g : Int) ∣ b := by rw [hg]; exact Int.gcd_dvd_right ..
  have hgz : (g : Int) ≠ 0 := by omega
  obtain ⟨a', ea⟩ := ha
  obtain ⟨b', eb⟩ := hb
  have e1 : b / g = b' := by rw [eb, Int.mul_ediv_cancel_left _ hgz]
  rw [e1]
  have e2 : x * a' = y * b' := by
    have : (g : Int) * (x * a') = g * (y * b') := by
      rw [ea, eb] at h
      grind
    exact Int.eq_of_mul_eq_mul_left hgz this
  have cop : Int.gcd a' b' = 1 := by
    have : Int.gcd ((g : Int) * a') (g * b') = g * Int.gcd a' b' := by rw [Int.gcd_mul_left]; simp
    rw [← ea, ← eb, ← hg] at this
    have h2 : g * Int.gcd a' b' = g * 1 := by omega
    exact Nat.eq_of_mul_eq_mul_left hg0 h2
  have d : b' ∣ x * a' := ⟨y, by rw [e2, Int.mul_comm]⟩
  have d2 : b'.natAbs ∣ x.natAbs * a'.natAbs := by rw [← Int.natAbs_mul]; exact Int.natAbs_dvd_natAbs.mpr d
  have c2 : Nat.Coprime b'.natAbs a'.natAbs := by
    show Nat.gcd _ _ = 1
    rw [Nat.gcd_comm]
    exact cop
  exact Int.natAbs_dvd_natAbs.mp (Nat.Coprime.dvd_of_dvd_mul_right c2 d2)
/-- what joined tells is the only such pair -/
theorem joined_uniq {a b x y x' y' : Int} (hb : b ≠ 0) (h : x * a + y * b = Int.gcd a b) (h' : x' * a + y' * b = Int.gcd a b) (h0 : 0 ≤ x) (h1 : x < (b.natAbs : Int) / Int.gcd a b) (h2 : 0 ≤ x') (h3 : x' < (b.natAbs : Int) / Int.gcd a b) : x = x' ∧ y = y' := by
  have hg0 : 0 < Int.gcd a b := Int.gcd_pos_of_ne_zero_right _ hb
  have e : (x - x') * a = (y' - y) * b := by grind
  have d := dvd_cop rfl hg0 e
  have hd : b / Int.gcd a b ∣ x - x' := d
  have hb' : (Int.gcd a b : Int) ∣ b := Int.gcd_dvd_right ..
  have na : ((b / Int.gcd a b).natAbs : Int) = (b.natAbs : Int) / Int.gcd a b := by
    rw [Int.natAbs_ediv_of_dvd hb']
    rfl
  have hx : x = x' := by
    by_cases hz : x - x' = 0
    · omega
    · have := Nat.le_of_dvd (by omega) (Int.natAbs_dvd_natAbs.mpr hd)
      omega
  refine ⟨hx, ?_⟩
  subst hx
  have : y * b = y' * b := by omega
  exact Int.eq_of_mul_eq_mul_right hb this
theorem lcm_div (a b : Int) (h : a ≠ 0 ∧ b ≠ 0) : ((a * b).natAbs : Int) / (Int.gcd a b : Int) = (Int.lcm a b : Int) := by
  have : Int.gcd a b * Int.lcm a b = a.natAbs * b.natAbs := Nat.gcd_mul_lcm ..
  rw [Int.natAbs_mul, ← this]
  have hg0 : 0 < Int.gcd a b := Int.gcd_pos_of_ne_zero_left _ h.1
  rw [Int.natCast_mul, Int.mul_ediv_cancel_left _ (by omega)]
theorem gcd_le (a b : Int) (B : Int) (h : a ≠ 0 ∨ b ≠ 0) (ha : (a.natAbs : Int) ≤ B) (hb : (b.natAbs : Int) ≤ B) : (Int.gcd a b : Int) ≤ B := by
  rcases h with h | h
  · have := Nat.le_of_dvd (by omega) (Nat.gcd_dvd_left a.natAbs b.natAbs)
    have e : Int.gcd a b = Nat.gcd a.natAbs b.natAbs := rfl
    omega
  · have := Nat.le_of_dvd (by omega) (Nat.gcd_dvd_right a.natAbs b.natAbs)
    have e : Int.gcd a b = Nat.gcd a.natAbs b.natAbs := rfl
    omega
theorem gcd_le0 (a b : Int) (B : Int) (h0 : 0 ≤ B) (ha : (a.natAbs : Int) ≤ B) (hb : (b.natAbs : Int) ≤ B) : (Int.gcd a b : Int) ≤ B := by
  by_cases h : a ≠ 0 ∨ b ≠ 0
  · exact gcd_le a b B h ha hb
  · have : a = 0 ∧ b = 0 := by omega
    rw [this.1, this.2]
    exact h0
theorem lcm_le (a b : Int) (A B : Nat) (ha : a.natAbs ≤ A) (hb : b.natAbs ≤ B) : Int.lcm a b ≤ A * B := by
  have h1 : Int.lcm a b ≤ a.natAbs * b.natAbs := by
    have : Int.lcm a b = Nat.lcm a.natAbs b.natAbs := rfl
    rw [this]
    unfold Nat.lcm
    exact Nat.div_le_self ..
  exact Nat.le_trans h1 (Nat.mul_le_mul ha hb)
end M00

/-! binomials, rows of named numbers -/
namespace MB
def ch : Nat → Nat → Nat
  | _, 0 => 1
  | 0, _ + 1 => 0
  | n + 1, k + 1 => ch n k + ch n (k + 1)
theorem ch_zero (n : Nat) : ch n 0 = 1 := by cases n <;> rfl
theorem ch_succ (n k : Nat) : ch (n + 1) (k + 1) = ch n k + ch n (k + 1) := rfl
theorem ch_big : ∀ (n k : Nat), n < k → ch n k = 0
  | _, 0, h => absurd h (Nat.not_lt_zero _)
  | 0, _ + 1, _ => rfl
  | n + 1, k + 1, h => by rw [ch_succ, ch_big n k (by omega), ch_big n (k + 1) (by omega)]
theorem ch_self : ∀ n, ch n n = 1
  | 0 => rfl
  | n + 1 => by rw [ch_succ, ch_self n, ch_big n (n + 1) (by omega)]
theorem ch_mul : ∀ (n k : Nat), ch n (k + 1) * (k + 1) = ch n k * (n - k)
  | 0, k => by
    show 0 * (k + 1) = ch 0 k * (0 - k)
    rw [Nat.zero_sub, Nat.mul_zero, Nat.zero_mul]
  | n + 1, 0 => by
    have h := ch_mul n 0
    rw [ch_succ, ch_zero, ch_zero]
    rw [ch_zero] at h
    omega
  | n + 1, k + 1 => by
    have h1 := ch_mul n k
    have h2 := ch_mul n (k + 1)
    rw [ch_succ n (k + 1), ch_succ n k]
    by_cases c : k + 1 ≤ n
    · obtain ⟨d, rfl⟩ := Nat.exists_eq_add_of_le c
      have e1 : k + 1 + d - k = d + 1 := by omega
      have e2 : k + 1 + d - (k + 1) = d := by omega
      have e3 : k + 1 + d + 1 - (k + 1) = d + 1 := by omega
      rw [e1] at h1
      rw [e2] at h2
      rw [e3]
      have a : (ch (k + 1 + d) (k + 1) + ch (k + 1 + d) (k + 1 + 1)) * (k + 1 + 1) = ch (k + 1 + d) (k + 1) * (k + 1) + ch (k + 1 + d) (k + 1) + ch (k + 1 + d) (k + 1 + 1) * (k + 1 + 1) := by
        rw [Nat.add_mul, Nat.mul_succ (ch (k + 1 + d) (k + 1))]
      have b : (ch (k + 1 + d) k + ch (k + 1 + d) (k + 1)) * (d + 1) = ch (k + 1 + d) k * (d + 1) + ch (k + 1 + d) (k + 1) * d + ch (k + 1 + d) (k + 1) := by
        rw [Nat.add_mul, Nat.mul_succ (ch (k + 1 + d) (k + 1))]
        exact (Nat.add_assoc ..).symm
      rw [a, b, h1, h2]
      omega
    · rw [ch_big n (k + 1) (by omega), ch_big n (k + 1 + 1) (by omega), Nat.add_zero, Nat.zero_mul]
      have : n + 1 - (k + 1) = 0 := by omega
      rw [this, Nat.mul_zero]
theorem ch_step {n k : Nat} (h : k ≤ n) : ((ch n k : Int) * ((n : Int) - (k : Int))) / ((k : Int) + 1) = (ch n (k + 1) : Int) := by
  have := ch_mul n k
  have e : (ch n k : Int) * ((n : Int) - (k : Int)) = (ch n (k + 1) : Int) * ((k : Int) + 1) := by
    have e1 : (n : Int) - (k : Int) = ((n - k : Nat) : Int) := by omega
    rw [e1, ← Int.natCast_mul, ← this, Int.natCast_mul]
    rfl
  rw [e]
  exact Int.mul_ediv_cancel _ (by omega)
theorem ch_stepI {n k : Nat} : ((ch n k : Int) * ((n : Int) - (k : Int))) / ((k : Int) + 1) = (ch n (k + 1) : Int) := by
  by_cases h : k ≤ n
  · exact ch_step h
  · rw [ch_big n k (by omega), ch_big n (k + 1) (by omega)]
    show (0 * _) / _ = (0 : Int)
    rw [Int.zero_mul, Int.zero_ediv]
theorem ch_symm : ∀ (n k : Nat), k ≤ n → ch n k = ch n (n - k)
  | 0, k, h => by
    have : k = 0 := by omega
    subst this; rfl
  | n + 1, 0, _ => by rw [ch_zero, Nat.sub_zero, ch_self]
  | n + 1, k + 1, h => by
    by_cases c : k + 1 ≤ n
    · have e1 : n + 1 - (k + 1) = (n - (k + 1)) + 1 := by omega
      have e2 : n - (k + 1) + 1 = n - k := by omega
      rw [e1, ch_succ, ch_succ, ch_symm n k (by omega), ch_symm n (k + 1) c, e2, Nat.add_comm]
    · have : k = n := by omega
      subst this
      rw [ch_self, Nat.sub_self, ch_zero]
/-- a row by sums of two -/
def nextRow (l : List Nat) : List Nat := 1 :: (List.zipWith (· + ·) l (l.drop 1 ++ [0]))
def rowP : Nat → List Nat
  | 0 => [1]
  | n + 1 => nextRow (rowP n)
theorem rowP_eq : ∀ n, rowP n = (List.range (n + 1)).map (ch n)
  | 0 => rfl
  | n + 1 => by
    have ih := rowP_eq n
    show nextRow (rowP n) = _
    rw [ih]
    refine List.ext_getElem? fun i => ?_
    unfold nextRow
    cases i with
    | zero => simp [ch_zero]
    | succ i =>
      rw [List.getElem?_cons_succ, List.getElem?_zipWith, List.getElem?_map, List.getElem?_map]
      by_cases hi : i < n + 1
      · rw [List.getElem?_range hi, List.getElem?_range (by omega)]
        by_cases h2 : i < n
        · rw [List.getElem?_append_left (by simp; omega), List.getElem?_drop, List.getElem?_map, List.getElem?_range (by omega)]
          simp [ch_succ, Nat.add_comm 1 i]
        · have : i = n := by omega
          subst this
          rw [List.getElem?_append_right (by simp)]
          simp [ch_succ, ch_big]
      · rw [List.getElem?_eq_none (l := List.range (n + 1)) (by rw [List.length_range]; omega), List.getElem?_eq_none (l := List.range (n + 1 + 1)) (by rw [List.length_range]; omega)]
        rfl
theorem rowP_at (n k : Nat) : (rowP n)[k]?.getD 0 = ch n k := by
  rw [rowP_eq, List.getElem?_map]
  by_cases h : k < n + 1
  · rw [List.getElem?_range h]; rfl
  · rw [List.getElem?_eq_none (by rw [List.length_range]; omega), ch_big n k (by omega)]
    rfl
theorem rowP_len (n : Nat) : (rowP n).length = n + 1 := by rw [rowP_eq]; simp
def fac : Nat → Nat
  | 0 => 1
  | n + 1 => fac n * (n + 1)
/-! rows -/
def gt (l : List Nat) (i : Nat) : Nat := l[i]?.getD 0
def srow : Nat → List Nat
  | 0 => [1]
  | t + 1 => (List.range (t + 2)).map fun s => gt (0 :: srow t) s + s * (if s < t + 1 then gt (srow t) s else 0)
def rrow : Nat → List Nat
  | 0 => [1]
  | t + 1 => (List.range (t + 2)).map fun s => gt (0 :: rrow t) s + t * (if s < t + 1 then gt (rrow t) s else 0)
/-- by rises: of k + 1 things -/
def erow : Nat → List Nat
  | 0 => [1]
  | k + 1 => (List.range (k + 2)).map fun r => (if r < k + 1 then (r + 1) * gt (erow k) r else 0) + (if 0 < r then (k + 2 - r) * gt (erow k) (r - 1) else 0)
def psum : Nat → List Nat → List Nat
  | a, [] => [a]
  | a, x :: l => a :: psum (a + x) l
def zig : Nat → List Nat × List Nat
  | 0 => ([1], [1])
  | k + 1 => let line := psum 0 (zig k).2.reverse; ((zig k).1 ++ [line.getLastD 0], line)
theorem srow_len : ∀ n, (srow n).length = n + 1
  | 0 => rfl
  | n + 1 => by simp [srow]
theorem rrow_len : ∀ n, (rrow n).length = n + 1
  | 0 => rfl
  | n + 1 => by simp [rrow]
theorem erow_len : ∀ n, (erow n).length = n + 1
  | 0 => rfl
  | n + 1 => by simp [erow]
theorem psum_len : ∀ a l, (psum a l).length = l.length + 1
  | _, [] => rfl
  | a, x :: l => by show (psum (a + x) l).length + 1 = _; rw [psum_len (a + x) l, List.length_cons]
theorem psum_ne (a : Nat) (l : List Nat) : psum a l ≠ [] := by cases l <;> simp [psum]
theorem psum_snoc : ∀ (l : List Nat) (a x : Nat), psum a (l ++ [x]) = psum a l ++ [(psum a l).getLastD 0 + x]
  | [], a, x => rfl
  | y :: l, a, x => by
    show a :: psum (a + y) (l ++ [x]) = a :: psum (a + y) l ++ [(a :: psum (a + y) l).getLastD 0 + x]
    rw [psum_snoc l (a + y) x]
    have : (a :: psum (a + y) l).getLastD 0 = (psum (a + y) l).getLastD 0 := by
      cases h : psum (a + y) l with
      | nil => exact absurd h (psum_ne _ _)
      | cons z m => simp [List.getLastD]
    rw [this]
    rfl
theorem zig_len : ∀ n, (zig n).1.length = n + 1 ∧ (zig n).2.length = n + 1
  | 0 => ⟨rfl, rfl⟩
  | n + 1 => by
    have ⟨h1, h2⟩ := zig_len n
    constructor
    · show ((zig n).1 ++ [_]).length = _
      rw [List.length_append, h1]; rfl
    · show (psum 0 (zig n).2.reverse).length = _
      rw [psum_len, List.length_reverse, h2]
end MB

namespace Rl
open PySem PySem.Spec L2 Rk
/-! power: number 0, times 1, found 2, turn 3 -/
def t_power : ASt' :=
  (sSeq (sAsg (aC (.int 1)) (agN 2))
    (sSeq (sFor (iRange1 (aCons (aVar 1) aNil)) (agN 3) (sAsg (aOp aMul (aVar 2) (aVar 0)) (agN 2)))
    (sRet (aVar 2))))
/-! gcd: one 0, other 1 -/
def t_gcd : ASt' :=
  (sSeq (sPar 0 1 (aCons (aCall cAbs (aCons (aVar 0) aNil)) (aCons (aCall cAbs (aCons (aVar 1) aNil)) aNil)))
    (sSeq (sWhile (aTest (aOp aGt (aVar 1) (aC (.int 0)))) (sPar 0 1 (aCons (aVar 1) (aCons (aOp aSub (aVar 0) (aOp aMul (aOp aFDiv (aVar 0) (aVar 1)) (aVar 1))) aNil))))
    (sRet (aVar 0))))
/-! lgcd: one 0, other 1 -/
def t_lgcd : ASt' :=
  (sSeq (sPar 0 1 (aCons (aCall cAbs (aCons (aVar 0) aNil)) (aCons (aCall cAbs (aCons (aVar 1) aNil)) aNil)))
    (sSeq (sWhile (aTest (aOp aGt (aVar 1) (aC (.int 0)))) (sPar 0 1 (aCons (aVar 1) (aCons (aOp aMod (aCall cInt (aCons (aVar 0) aNil)) (aVar 1)) aNil))))
    (sRet (aVar 0))))
/-! factors: number 0, found 1, prime 2, power 3 -/
def t_factors : ASt' :=
  (sSeq (sPar 1 2 (aCons (aLstM aNil) (aCons (aC (.int 2)) aNil)))
    (sSeq (sWhile (aTest (aOp aLe (aOp aMul (aVar 2) (aVar 2)) (aVar 0))) (sSeq (sAsg (aC (.int 0)) (agN 3))
    (sSeq (sWhile (aTest (aOp aEq (aOp aMul (aOp aFDiv (aVar 0) (aVar 2)) (aVar 2)) (aVar 0))) (sPar 0 3 (aCons (aOp aFDiv (aVar 0) (aVar 2)) (aCons (aOp aAdd (aVar 3) (aC (.int 1))) aNil))))
    (sSeq (sAug 1 aAddI (aIf (aTest (aOp aGt (aVar 3) (aC (.int 0)))) (aLst (aCons (aTup (aCons (aVar 2) (aCons (aVar 3) aNil))) aNil)) (aLst aNil)))
    (sAsg (aOp aAdd (aVar 2) (aC (.int 1))) (agN 2))))))
    (sFrz 1 (sRet (aOp aAdd (aVar 1) (aIf (aTest (aOp aGt (aVar 0) (aC (.int 1)))) (aLst (aCons (aTup (aCons (aVar 0) (aCons (aC (.int 1)) aNil))) aNil)) (aLst aNil)))))))
/-! root: number 0, low 1, high 2, middle 3 -/
def t_root : ASt' :=
  (sSeq (sIf (aTest (aOp aEq (aVar 0) (aC (.int 0)))) (sRet (aC (.int 0))) sNext)
    (sSeq (sAsg (aTup (aCons (aC (.int 1)) (aCons (aC (.int 1)) aNil))) (agT 2 (agCons (agN 1) (agCons (agN 2) agNil))))
    (sSeq (sWhile (aTest (aOp aLe (aOp aMul (aVar 2) (aVar 2)) (aVar 0))) (sAsg (aOp aMul (aC (.int 2)) (aVar 2)) (agN 2)))
    (sSeq (sWhile (aTest (aOp aGt (aOp aSub (aVar 2) (aVar 1)) (aC (.int 1)))) (sSeq (sAsg (aOp aFDiv (aOp aAdd (aVar 1) (aVar 2)) (aC (.int 2))) (agN 3))
    (sAsg (aIf (aTest (aOp aLe (aOp aMul (aVar 3) (aVar 3)) (aVar 0))) (aTup (aCons (aVar 3) (aCons (aVar 2) aNil))) (aTup (aCons (aVar 1) (aCons (aVar 3) aNil)))) (agT 2 (agCons (agN 1) (agCons (agN 2) agNil))))))
    (sRet (aVar 1))))))
/-! digits: number 0, base 1, found 2 -/
def t_digits : ASt' :=
  (sSeq (sAsg (aLstM aNil) (agN 2))
    (sSeq (sWhile (aOr (aTest (aOp aGt (aVar 0) (aC (.int 0)))) (aTest (aOp aEq (aVar 2) (aLst aNil)))) (sSeq (sDrop (aMeth mAppend (aVar 2) (aCons (aOp aSub (aVar 0) (aOp aMul (aOp aFDiv (aVar 0) (aVar 1)) (aVar 1))) aNil)))
    (sAsg (aOp aFDiv (aVar 0) (aVar 1)) (agN 0))))
    (sFrz 2 (sRet (aRev (aVar 2))))))
/-! numberin: digits 0, base 1, found 2, digit 3 -/
def t_numberin : ASt' :=
  (sSeq (sAsg (aC (.int 0)) (agN 2))
    (sSeq (sFor (iSeq (aVar 0)) (agN 3) (sAsg (aOp aAdd (aOp aMul (aVar 1) (aVar 2)) (aVar 3)) (agN 2)))
    (sRet (aVar 2))))
/-! dsum: number 0, base 1, found 2 -/
def t_dsum : ASt' :=
  (sSeq (sAsg (aC (.int 0)) (agN 2))
    (sSeq (sWhile (aTest (aOp aGt (aVar 0) (aC (.int 0)))) (sPar 2 0 (aCons (aOp aSub (aOp aAdd (aVar 2) (aVar 0)) (aOp aMul (aOp aFDiv (aVar 0) (aVar 1)) (aVar 1))) (aCons (aOp aFDiv (aVar 0) (aVar 1)) aNil))))
    (sRet (aVar 2))))
/-! great: cup 0, many 1, found 2, turn 3 -/
def t_great (sp_lw_roll : List D → AH → DK → Prop) : ASt' :=
  (sSeq (sAsg (aC (.int 0)) (agN 2))
    (sSeq (sFor (iRange1 (aCons (aOp aAdd (aCall sp_lw_roll (aCons (aVar 0) (aCons (aVar 1) aNil))) (aC (.int 1))) aNil)) (agN 3) (sAsg (aOp aAdd (aOp aMul (aC (.int 1000)) (aVar 2)) (aCall sp_lw_roll (aCons (aVar 0) (aCons (aC (.int 1000)) aNil)))) (agN 2)))
    (sRet (aVar 2))))
/-! binom: many 0, some 1, found 2, turn 3 -/
def t_binom : ASt' :=
  (sSeq (sAsg (aC (.int 1)) (agN 2))
    (sSeq (sFor (iRange1 (aCons (aCall cMin (aCons (aVar 1) (aCons (aOp aSub (aVar 0) (aVar 1)) aNil))) aNil)) (agN 3) (sAsg (aOp aFDiv (aOp aMul (aVar 2) (aOp aSub (aVar 0) (aVar 3))) (aOp aAdd (aVar 3) (aC (.int 1)))) (agN 2)))
    (sRet (aVar 2))))
/-! choose: many 0, some 1, found 2, turn 3 -/
def t_choose : ASt' :=
  (sSeq (sAsg (aC (.int 1)) (agN 2))
    (sSeq (sFor (iRange1 (aCons (aVar 1) aNil)) (agN 3) (sAsg (aOp aFDiv (aOp aMul (aVar 2) (aOp aSub (aVar 0) (aVar 3))) (aOp aAdd (aVar 3) (aC (.int 1)))) (agN 2)))
    (sRet (aVar 2))))
/-! orders: many 0, found 1, number 2 -/
def t_orders : ASt' :=
  (sSeq (sAsg (aC (.int 1)) (agN 1))
    (sSeq (sFor (iRange2 (aCons (aC (.int 2)) (aCons (aOp aAdd (aVar 0) (aC (.int 1))) aNil))) (agN 2) (sAsg (aOp aMul (aVar 1) (aVar 2)) (agN 1)))
    (sRet (aVar 1))))
/-! sets: many 0, found 1, things 2, line 3, size 4 -/
def t_sets : ASt' :=
  (sSeq (sAsg (aLst (aCons (aC (.int 1)) aNil)) (agN 1))
    (sSeq (sFor (iRange2 (aCons (aC (.int 1)) (aCons (aOp aAdd (aVar 0) (aC (.int 1))) aNil))) (agN 2) (sSeq (sAsg (aOp aAdd (aLst (aCons (aC (.int 0)) aNil)) (aVar 1)) (agN 3))
    (sAsg (aLc (iRange1 (aCons (aOp aAdd (aVar 2) (aC (.int 1))) aNil)) (agN 4) aYes (aOp aAdd (aOp aIx (aVar 3) (aVar 4)) (aOp aMul (aVar 4) (aIf (aTest (aOp aLt (aVar 4) (aVar 2))) (aOp aIx (aVar 1) (aVar 4)) (aC (.int 0))))) [4]) (agN 1))))
    (sRet (aVar 1))))
/-! rounds: many 0, found 1, people 2, line 3, own 4, size 5 -/
def t_rounds : ASt' :=
  (sSeq (sAsg (aLst (aCons (aC (.int 1)) aNil)) (agN 1))
    (sSeq (sFor (iRange2 (aCons (aC (.int 1)) (aCons (aOp aAdd (aVar 0) (aC (.int 1))) aNil))) (agN 2) (sSeq (sAsg (aTup (aCons (aOp aAdd (aLst (aCons (aC (.int 0)) aNil)) (aVar 1)) (aCons (aOp aSub (aVar 2) (aC (.int 1))) aNil))) (agT 2 (agCons (agN 3) (agCons (agN 4) agNil))))
    (sAsg (aLc (iRange1 (aCons (aOp aAdd (aVar 2) (aC (.int 1))) aNil)) (agN 5) aYes (aOp aAdd (aOp aIx (aVar 3) (aVar 5)) (aOp aMul (aVar 4) (aIf (aTest (aOp aLt (aVar 5) (aVar 2))) (aOp aIx (aVar 1) (aVar 5)) (aC (.int 0))))) [5]) (agN 1))))
    (sRet (aVar 1))))
/-! rises: many 0, found 1, things 2, longer 3, rises 4, stays 5 -/
def t_rises : ASt' :=
  (sSeq (sAsg (aLst (aCons (aC (.int 1)) aNil)) (agN 1))
    (sSeq (sFor (iRange2 (aCons (aC (.int 2)) (aCons (aOp aAdd (aVar 0) (aC (.int 1))) aNil))) (agN 2) (sSeq (sAsg (aLstM aNil) (agN 3))
    (sSeq (sFor (iRange1 (aCons (aVar 2) aNil)) (agN 4) (sSeq (sAsg (aIf (aTest (aOp aLt (aVar 4) (aOp aSub (aVar 2) (aC (.int 1))))) (aOp aMul (aOp aAdd (aVar 4) (aC (.int 1))) (aOp aIx (aVar 1) (aVar 4))) (aC (.int 0))) (agN 5))
    (sDrop (aMeth mAppend (aVar 3) (aCons (aOp aAdd (aVar 5) (aIf (aTest (aOp aGt (aVar 4) (aC (.int 0)))) (aOp aMul (aOp aSub (aVar 2) (aVar 4)) (aOp aIx (aVar 1) (aOp aSub (aVar 4) (aC (.int 1))))) (aC (.int 0)))) aNil)))))
    (sFrz 3 (sAsg (aVar 3) (agN 1))))))
    (sRet (aVar 1))))
/-! zigzag: many 0, found 1, line 2, things 3, longer 4, one 5 -/
def t_zigzag : ASt' :=
  (sSeq (sPar 1 2 (aCons (aLstM (aCons (aC (.int 1)) aNil)) (aCons (aLst (aCons (aC (.int 1)) aNil)) aNil)))
    (sSeq (sFor (iRange2 (aCons (aC (.int 1)) (aCons (aOp aAdd (aVar 0) (aC (.int 1))) aNil))) (agN 3) (sSeq (sAsg (aLstM (aCons (aC (.int 0)) aNil)) (agN 4))
    (sSeq (sFor (iSeq (aRev (aVar 2))) (agN 5) (sDrop (aMeth mAppend (aVar 4) (aCons (aOp aAdd (aOp aIx (aVar 4) (aNeg (aC (.int 1)))) (aVar 5)) aNil))))
    (sFrz 4 (sSeq (sAsg (aVar 4) (agN 2))
    (sDrop (aMeth mAppend (aVar 1) (aCons (aOp aIx (aVar 2) (aNeg (aC (.int 1)))) aNil))))))))
    (sFrz 1 (sRet (aVar 1)))))
/-! chrow: many 0, found 1, some 2 -/
def t_chrow : ASt' :=
  (sSeq (sAsg (aLstM (aCons (aC (.int 1)) aNil)) (agN 1))
    (sSeq (sFor (iRange1 (aCons (aVar 0) aNil)) (agN 2) (sDrop (aMeth mAppend (aVar 1) (aCons (aOp aFDiv (aOp aMul (aOp aIx (aVar 1) (aNeg (aC (.int 1)))) (aOp aSub (aVar 0) (aVar 2))) (aOp aAdd (aVar 2) (aC (.int 1)))) aNil))))
    (sFrz 1 (sRet (aVar 1)))))
end Rl

namespace Rl
open PySem PySem.Spec L2 Rk
def idB (b : Bool) : Bool := b
theorem dec_id {p : Prop} [Decidable p] : decide p = idB (decide p) := rfl
theorem eq2 {a b c d : Int} : eqD (.tup [.int a, .int b]) (.tup [.int c, .int d]) = decide (a = c ∧ b = d) := by simp [eqD, eqDs, Bool.decide_and]
local macro_rules | `(tactic| walk_at "wh") => `(tactic| conv => whnf)
local macro_rules | `(tactic| walk_at "side") => `(tactic| first | (with_reducible assumption) | omega | (refine ⟨?_, ?_, ?_⟩ <;> first | with_reducible assumption | omega) | exact rfl | (unfold Dvs; omega) | (unfold Fac; omega) | exact Nat.le_of_ble_eq_true rfl | (show okD _ _ = true ∧ okD _ _ = true; exact ⟨rfl, rfl⟩) | exact ⟨_, _, rfl, aupd_same⟩ | (refine ⟨?_, ?_⟩ <;> first | with_reducible assumption | with_reducible rfl | rfl | omega | decide | (simp; done)) | (refine ⟨?_, ?_, ?_⟩ <;> with_reducible assumption) | decide | (simp; done) | (simp; omega))
local macro_rules | `(tactic| walk_at "tt") => `(tactic| first | exact decide_eq_true (by omega) | ((fail_if_success rw [dec_id]); exact rfl) | (simp only [Bool.and_eq_true, Bool.or_eq_true, Bool.and_eq_false_iff, Bool.or_eq_false_iff, Bool.not_eq_true', Bool.not_eq_false', decide_eq_true_eq, decide_eq_false_iff_not] <;> omega) | (simp; done))
local macro_rules | `(tactic| walk_at "ff") => `(tactic| first | exact decide_eq_false (by omega) | ((fail_if_success rw [dec_id]); exact rfl) | (simp only [Bool.and_eq_true, Bool.or_eq_true, Bool.and_eq_false_iff, Bool.or_eq_false_iff, Bool.not_eq_true', Bool.not_eq_false', decide_eq_true_eq, decide_eq_false_iff_not] <;> omega) | (simp; done))
local macro_rules | `(tactic| walk_at "step") => `(tactic| (first | rw [eq2] | rw [ints?_pI] | rw [ints?_pZ] | refine br_yes (by walk_at "tt") ?_ | refine br_no (by walk_at "ff") ?_ | refine ⟨_, aupd_same, ?_⟩ | refine ⟨_, _, _, rfl, rfl, by assumption, ?_⟩ | refine ⟨_, _, _, rfl, aupd_aupd, by assumption, ?_⟩ | refine And.intro (by walk_at "side") ?_))
local macro_rules | `(tactic| walk_at "run") => `(tactic| ((conv => whnf); repeat (walk_at "step"; conv => whnf)))
/-! x ** n by hand -/
def sp_power : List D → AH → DK → Prop
  | [.int a, .int n], A, Q => ((-18446744073709551616 < a ∧ a < 18446744073709551616) ∧ -4000000000000000000 ≤ n ∧ n ≤ 4000000000000000000) ∧ Q (.int (a ^ n.toNat)) A
  | _, _, _ => False
theorem m_power : MonL sp_power := fun ds A Q Q' k h => by
  unfold sp_power at h ⊢
  split at h <;> first | exact h.elim | exact k _ _ h | exact ⟨h.1, k _ _ h.2⟩ | exact ⟨h.choose, h.choose_spec.1, k _ _ h.choose_spec.2⟩ | exact fun x0 => k _ _ (h x0) | exact ⟨h.1, fun x0 => k _ _ (h.2 x0)⟩ | exact fun x0 x1 => k _ _ (h x0 x1) | exact ⟨h.1, fun x0 x1 => k _ _ (h.2 x0 x1)⟩ | exact fun x0 x1 x2 => k _ _ (h x0 x1 x2) | exact ⟨h.1, fun x0 x1 x2 => k _ _ (h.2 x0 x1 x2)⟩ | exact fun x0 x1 x2 x3 => k _ _ (h x0 x1 x2 x3) | exact ⟨h.1, fun x0 x1 x2 x3 => k _ _ (h.2 x0 x1 x2 x3)⟩ | exact fun x0 x1 x2 x3 x4 => k _ _ (h x0 x1 x2 x3 x4) | exact ⟨h.1, fun x0 x1 x2 x3 x4 => k _ _ (h.2 x0 x1 x2 x3 x4)⟩ | exact fun x0 x1 x2 x3 x4 x5 => k _ _ (h x0 x1 x2 x3 x4 x5) | exact ⟨h.1, fun x0 x1 x2 x3 x4 x5 => k _ _ (h.2 x0 x1 x2 x3 x4 x5)⟩ | exact fun x0 x1 x2 x3 x4 x5 x6 => k _ _ (h x0 x1 x2 x3 x4 x5 x6) | exact ⟨h.1, fun x0 x1 x2 x3 x4 x5 x6 => k _ _ (h.2 x0 x1 x2 x3 x4 x5 x6)⟩ | exact fun x0 x1 x2 x3 x4 x5 x6 x7 => k _ _ (h x0 x1 x2 x3 x4 x5 x6 x7) | exact ⟨h.1, fun x0 x1 x2 x3 x4 x5 x6 x7 => k _ _ (h.2 x0 x1 x2 x3 x4 x5 x6 x7)⟩ | exact fun x0 x1 x2 x3 x4 x5 x6 x7 x8 => k _ _ (h x0 x1 x2 x3 x4 x5 x6 x7 x8) | exact ⟨h.1, fun x0 x1 x2 x3 x4 x5 x6 x7 x8 => k _ _ (h.2 x0 x1 x2 x3 x4 x5 x6 x7 x8)⟩
theorem l_power : ∀ ds A Q, sp_power ds A Q → ds.length = 2 := fun ds A Q h => by
  unfold sp_power at h
  split at h <;> first | rfl | exact h.elim
theorem r_power : ∀ ds B (Q : DK), sp_power ds B Q → t_power (rets Q) (startD 4 ds) B := by
  intro ds B Q h
  unfold sp_power at h
  split at h <;> first | exact h.elim | skip
  rename_i a n
  unfold t_power
  obtain ⟨⟨ha, hn⟩, h⟩ := h
  walk_at "run"
  refine for_rg0 (α := Int × Option D) (fun s => [some (.int a), some (.int n), some (.int s.1), s.2]) (fun _ => B) (fun i s => s.1 = a ^ i) (1, none) rfl rfl (by simp) ?_ ?_
  · rintro i ⟨x, o⟩ hi w
    dsimp only at w ⊢
    walk_at "run"
    refine ⟨(x * a, some _), rfl, rfl, ?_⟩
    dsimp only
    rw [w, Int.pow_succ]
  · rintro ⟨x, o⟩ w
    dsimp only at w ⊢
    subst w
    walk_at "run"
    exact ret_same h
/-! common divisors -/
def sp_gcd : List D → AH → DK → Prop
  | [.int a, .int b], A, Q => (-10000000000000000000000000000000000000000000000000000000000000 < a ∧ a < 10000000000000000000000000000000000000000000000000000000000000 ∧ -10000000000000000000000000000000000000000000000000000000000000 < b ∧ b < 10000000000000000000000000000000000000000000000000000000000000) ∧ Q (.int (Int.gcd a b : Int)) A
  | _, _, _ => False
theorem m_gcd : MonL sp_gcd := fun ds A Q Q' k h => by
  unfold sp_gcd at h ⊢
  split at h <;> first | exact h.elim | exact k _ _ h | exact ⟨h.1, k _ _ h.2⟩ | exact ⟨h.choose, h.choose_spec.1, k _ _ h.choose_spec.2⟩ | exact fun x0 => k _ _ (h x0) | exact ⟨h.1, fun x0 => k _ _ (h.2 x0)⟩ | exact fun x0 x1 => k _ _ (h x0 x1) | exact ⟨h.1, fun x0 x1 => k _ _ (h.2 x0 x1)⟩ | exact fun x0 x1 x2 => k _ _ (h x0 x1 x2) | exact ⟨h.1, fun x0 x1 x2 => k _ _ (h.2 x0 x1 x2)⟩ | exact fun x0 x1 x2 x3 => k _ _ (h x0 x1 x2 x3) | exact ⟨h.1, fun x0 x1 x2 x3 => k _ _ (h.2 x0 x1 x2 x3)⟩ | exact fun x0 x1 x2 x3 x4 => k _ _ (h x0 x1 x2 x3 x4) | exact ⟨h.1, fun x0 x1 x2 x3 x4 => k _ _ (h.2 x0 x1 x2 x3 x4)⟩ | exact fun x0 x1 x2 x3 x4 x5 => k _ _ (h x0 x1 x2 x3 x4 x5) | exact ⟨h.1, fun x0 x1 x2 x3 x4 x5 => k _ _ (h.2 x0 x1 x2 x3 x4 x5)⟩ | exact fun x0 x1 x2 x3 x4 x5 x6 => k _ _ (h x0 x1 x2 x3 x4 x5 x6) | exact ⟨h.1, fun x0 x1 x2 x3 x4 x5 x6 => k _ _ (h.2 x0 x1 x2 x3 x4 x5 x6)⟩ | exact fun x0 x1 x2 x3 x4 x5 x6 x7 => k _ _ (h x0 x1 x2 x3 x4 x5 x6 x7) | exact ⟨h.1, fun x0 x1 x2 x3 x4 x5 x6 x7 => k _ _ (h.2 x0 x1 x2 x3 x4 x5 x6 x7)⟩ | exact fun x0 x1 x2 x3 x4 x5 x6 x7 x8 => k _ _ (h x0 x1 x2 x3 x4 x5 x6 x7 x8) | exact ⟨h.1, fun x0 x1 x2 x3 x4 x5 x6 x7 x8 => k _ _ (h.2 x0 x1 x2 x3 x4 x5 x6 x7 x8)⟩
theorem l_gcd : ∀ ds A Q, sp_gcd ds A Q → ds.length = 2 := fun ds A Q h => by
  unfold sp_gcd at h
  split at h <;> first | rfl | exact h.elim
theorem sub_mod (x y : Nat) : (x : Int) - (x : Int) / y * y = ((x % y : Nat) : Int) := by
  have := Int.emod_def (x : Int) y
  rw [Int.mul_comm] at this
  rw [← this]
  rfl
theorem r_gcd : ∀ ds B (Q : DK), sp_gcd ds B Q → t_gcd (rets Q) (startD 2 ds) B := by
  intro ds B Q h
  unfold sp_gcd at h
  split at h <;> first | exact h.elim | skip
  rename_i a b
  unfold t_gcd
  walk_at "run"
  refine while_st (α := Nat × Nat) (fun x => [some (.int x.1), some (.int x.2)]) (fun _ => B) (fun x => Nat.gcd x.1 x.2 = Int.gcd a b ∧ (x.1 : Int) < 10000000000000000000000000000000000000000000000000000000000000 ∧ (x.2 : Int) < 10000000000000000000000000000000000000000000000000000000000000) (fun x => x.2) (a.natAbs, b.natAbs) rfl rfl ⟨rfl, by omega, by omega⟩ ?_
  rintro ⟨x, y⟩ ⟨w1, w2, w3⟩
  dsimp only at w1 w2 w3 ⊢
  walk_at "wh"
  refine br_dec (fun g => ?_) (fun g => ?_)
  · have hy : 0 < y := by omega
    have q1 : (x : Int) / y ≤ x := Int.ediv_le_self _ (by omega)
    have q0 : 0 ≤ (x : Int) / y := Int.ediv_nonneg (by omega) (by omega)
    walk_at "run"
    rw [sub_mod]
    have hm := Nat.mod_lt x hy
    refine wl (y, x % y) hm ⟨?_, w3, ?_⟩
    · show Nat.gcd y (x % y) = _
      rw [Nat.gcd_comm y (x % y), ← Nat.gcd_rec, Nat.gcd_comm, w1]
    · have : x % y < y := hm
      show ((x % y : Nat) : Int) < _
      omega
  · walk_at "run"
    have hy : y = 0 := by omega
    subst hy
    rw [Nat.gcd_zero_right] at w1
    rw [w1]
    exact ret_same h.2
abbrev sp_lgcd := sp_gcd
theorem m_lgcd : MonL sp_lgcd := m_gcd
theorem l_lgcd : ∀ ds A Q, sp_lgcd ds A Q → ds.length = 2 := l_gcd
theorem r_lgcd : ∀ ds B (Q : DK), sp_lgcd ds B Q → t_lgcd (rets Q) (startD 2 ds) B := by
  intro ds B Q h
  unfold sp_lgcd sp_gcd at h
  split at h <;> first | exact h.elim | skip
  rename_i a b
  unfold t_lgcd
  walk_at "run"
  refine while_st (α := Nat × Nat) (fun x => [some (.int x.1), some (.int x.2)]) (fun _ => B) (fun x => Nat.gcd x.1 x.2 = Int.gcd a b ∧ (x.1 : Int) < 10000000000000000000000000000000000000000000000000000000000000 ∧ (x.2 : Int) < 10000000000000000000000000000000000000000000000000000000000000) (fun x => x.2) (a.natAbs, b.natAbs) rfl rfl ⟨rfl, by omega, by omega⟩ ?_
  rintro ⟨x, y⟩ ⟨w1, w2, w3⟩
  dsimp only at w1 w2 w3 ⊢
  walk_at "wh"
  refine br_dec (fun g => ?_) (fun g => ?_)
  · have hy : 0 < y := by omega
    walk_at "run"
    have hm := Nat.mod_lt x hy
    refine wl (y, x % y) hm ⟨?_, w3, ?_⟩
    · show Nat.gcd y (x % y) = _
      rw [Nat.gcd_comm y (x % y), ← Nat.gcd_rec, Nat.gcd_comm, w1]
    · have : x % y < y := hm
      show ((x % y : Nat) : Int) < _
      omega
  · walk_at "run"
    have hy : y = 0 := by omega
    subst hy
    rw [Nat.gcd_zero_right] at w1
    rw [w1]
    exact ret_same h.2
/-! primes -/
def pD (pe : Nat × Nat) : D := .tup [.int (pe.1 : Int), .int (pe.2 : Int)]
def fD (n : Nat) : List D := (MF.facs n).map pD
theorem facsTo_len (n : Nat) : ∀ q, (MF.facsTo q n).length ≤ q := fun q => by
  unfold MF.facsTo
  have := List.length_filterMap_le (fun p => if MF.isP p = true ∧ 0 < MF.v p n then some (p, MF.v p n) else none) (List.range q)
  rwa [List.length_range] at this
theorem dvd_int {r q : Nat} : ((r : Int) / (q : Int) * (q : Int) = (r : Int)) ↔ q ∣ r := by
  rw [← Int.natCast_ediv, ← Int.natCast_mul]
  constructor
  · intro h
    exact ⟨r / q, by rw [Nat.mul_comm]; omega⟩
  · intro h
    rw [Nat.div_mul_cancel h]
def sp_factors : List D → AH → DK → Prop
  | [.int a], A, Q => (0 < a ∧ a ≤ 1000000) ∧ Q (.lst (fD a.toNat)) A
  | _, _, _ => False
theorem m_factors : MonL sp_factors := fun ds A Q Q' k h => by
  unfold sp_factors at h ⊢
  split at h <;> first | exact h.elim | exact k _ _ h | exact ⟨h.1, k _ _ h.2⟩ | exact ⟨h.choose, h.choose_spec.1, k _ _ h.choose_spec.2⟩ | exact fun x0 => k _ _ (h x0) | exact ⟨h.1, fun x0 => k _ _ (h.2 x0)⟩ | exact fun x0 x1 => k _ _ (h x0 x1) | exact ⟨h.1, fun x0 x1 => k _ _ (h.2 x0 x1)⟩ | exact fun x0 x1 x2 => k _ _ (h x0 x1 x2) | exact ⟨h.1, fun x0 x1 x2 => k _ _ (h.2 x0 x1 x2)⟩ | exact fun x0 x1 x2 x3 => k _ _ (h x0 x1 x2 x3) | exact ⟨h.1, fun x0 x1 x2 x3 => k _ _ (h.2 x0 x1 x2 x3)⟩ | exact fun x0 x1 x2 x3 x4 => k _ _ (h x0 x1 x2 x3 x4) | exact ⟨h.1, fun x0 x1 x2 x3 x4 => k _ _ (h.2 x0 x1 x2 x3 x4)⟩ | exact fun x0 x1 x2 x3 x4 x5 => k _ _ (h x0 x1 x2 x3 x4 x5) | exact ⟨h.1, fun x0 x1 x2 x3 x4 x5 => k _ _ (h.2 x0 x1 x2 x3 x4 x5)⟩ | exact fun x0 x1 x2 x3 x4 x5 x6 => k _ _ (h x0 x1 x2 x3 x4 x5 x6) | exact ⟨h.1, fun x0 x1 x2 x3 x4 x5 x6 => k _ _ (h.2 x0 x1 x2 x3 x4 x5 x6)⟩ | exact fun x0 x1 x2 x3 x4 x5 x6 x7 => k _ _ (h x0 x1 x2 x3 x4 x5 x6 x7) | exact ⟨h.1, fun x0 x1 x2 x3 x4 x5 x6 x7 => k _ _ (h.2 x0 x1 x2 x3 x4 x5 x6 x7)⟩ | exact fun x0 x1 x2 x3 x4 x5 x6 x7 x8 => k _ _ (h x0 x1 x2 x3 x4 x5 x6 x7 x8) | exact ⟨h.1, fun x0 x1 x2 x3 x4 x5 x6 x7 x8 => k _ _ (h.2 x0 x1 x2 x3 x4 x5 x6 x7 x8)⟩
theorem l_factors : ∀ ds A Q, sp_factors ds A Q → ds.length = 1 := fun ds A Q h => by
  unfold sp_factors at h
  split at h <;> first | rfl | exact h.elim
theorem r_factors : ∀ ds B (Q : DK), sp_factors ds B Q → t_factors (rets Q) (startD 4 ds) B := by
  intro ds B Q h
  unfold sp_factors at h
  split at h <;> first | exact h.elim | skip
  rename_i a
  unfold t_factors
  obtain ⟨⟨ha, hb⟩, h⟩ := h
  obtain ⟨n, rfl⟩ : ∃ n : Nat, a = (n : Int) := ⟨a.toNat, by omega⟩
  rw [Int.toNat_natCast] at h
  have hn : 0 < n := by omega
  walk_at "run"
  intro p hp
  walk_at "run"
  refine while_st (α := Nat × Nat × Option D) (fun s => [some (.int s.1), some (.ref p), some (.int s.2.1), s.2.2]) (fun s => aupd B p (.lst ((MF.facsTo s.2.1 n).map pD)))
    (fun s => 0 < s.1 ∧ s.1 ≤ n ∧ 2 ≤ s.2.1 ∧ s.2.1 ≤ 1001 ∧ (∀ d, 2 ≤ d → d < s.2.1 → ¬ d ∣ s.1) ∧ (∀ p, s.2.1 ≤ p → MF.isP p = true → MF.v p n = MF.v p s.1)) (fun s => n + 5 - s.2.1) (n, 2, none) rfl rfl ⟨hn, Nat.le_refl _, Nat.le_refl _, by dsimp only; omega, fun d h1 h2 => by dsimp only at h2; omega, fun _ _ _ => rfl⟩ ?_
  rintro ⟨r, q, o⟩ ⟨w1, w2, w3, w4, w5, w6⟩
  dsimp only at w1 w2 w3 w4 w5 w6 ⊢
  walk_at "run"
  refine br_dec (fun g => ?_) (fun g => ?_)
  · have g' : q * q ≤ r := by exact_mod_cast g
    have qn : q ≤ n := Nat.le_trans (Nat.le_mul_of_pos_left q (show 0 < q by omega)) (Nat.le_trans g' w2)
    have q3 : q ≤ 1000 := by
      refine Classical.byContradiction fun c => ?_
      have := Nat.mul_le_mul (show 1001 ≤ q by omega) (show 1001 ≤ q by omega)
      omega
    walk_at "run"
    refine while_st (α := Nat × Nat) (fun s => [some (.int s.1), some (.ref p), some (.int q), some (.int s.2)]) (fun _ => aupd B p (.lst ((MF.facsTo q n).map pD)))
      (fun s => 0 < s.1 ∧ s.1 ≤ r ∧ s.2 ≤ 1000000 ∧ s.2 + s.1 ≤ r ∧ (∀ d, 2 ≤ d → d < q → ¬ d ∣ s.1) ∧ (∀ p, q < p → MF.isP p = true → MF.v p n = MF.v p s.1) ∧ MF.v q r = s.2 + MF.v q s.1) (fun s => s.1) (r, 0) rfl rfl ⟨w1, Nat.le_refl _, by dsimp only; omega, by dsimp only; omega, w5, fun p h => w6 p (by omega), by dsimp only; omega⟩ ?_
    rintro ⟨r', e⟩ ⟨u1, u2, u3, u4, u5, u6, u7⟩
    dsimp only at u1 u2 u3 u4 u5 u6 u7 ⊢
    walk_at "run"
    refine br_dec (fun c => ?_) (fun c => ?_)
    · have d := dvd_int.mp c
      walk_at "run"
      have lt : r' / q < r' := Nat.div_lt_self u1 (by omega)
      have ge : 0 < r' / q := Nat.div_pos (Nat.le_of_dvd u1 d) (by omega)
      refine wl (r' / q, e + 1) lt ⟨ge, by dsimp only; omega, by dsimp only; omega, by dsimp only; omega, fun x h1 h2 h3 => u5 x h1 h2 (Nat.dvd_trans h3 (Nat.div_dvd_of_dvd d)), fun x h1 h2 => ?_, ?_⟩ rfl
      · rw [u6 x h1 h2, MF.v_div_other h2 h1 w3 u1 d]
      · dsimp only
        rw [u7, MF.v_step w3 u1 d]
        omega
    · have nd : ¬ q ∣ r' := fun d => c (dvd_int.mpr d)
      rw [MF.v_no nd] at u7
      have w5' : ∀ d, 2 ≤ d → d < q + 1 → ¬ d ∣ r' := fun d h1 h2 h3 => by
        by_cases e : d = q
        · subst e; exact nd h3
        · exact u5 d h1 (by omega) h3
      have fl := facsTo_len n q
      walk_at "run"
      refine br_dec (fun k => ?_) (fun k => ?_)
      · have hq : q ∣ r := (MF.v_pos w3 w1).mp (by omega)
        have hqp := MF.first_prime w3 w5 hq
        have hvn : MF.v q n = e := by rw [w6 q (Nat.le_refl _) hqp, u7]; omega
        walk_at "run"
        refine wl (r', q + 1, some _) (by dsimp only; omega) ⟨u1, by dsimp only; omega, by dsimp only; omega, by dsimp only; omega, w5', u6⟩ rfl ?_
        rw [aupd_aupd, MF.facsTo_yes hqp (by omega), hvn, List.map_append]
        rfl
      · have hvn : MF.isP q = true → MF.v q n = 0 := fun hqp => by rw [w6 q (Nat.le_refl _) hqp, u7]; omega
        walk_at "run"
        refine wl (r', q + 1, some _) (by dsimp only; omega) ⟨u1, by dsimp only; omega, by dsimp only; omega, by dsimp only; omega, w5', u6⟩ rfl ?_
        rw [MF.facsTo_no hvn]
        first
          | rfl
          | (rw [aupd_aupd]; simp)
  · have g' : r < q * q := by
      have : ¬ (q * q ≤ r) := fun c => g (by exact_mod_cast c)
      omega
    have fl := facsTo_len n q
    walk_at "run"
    refine br_dec (fun k => ?_) (fun k => ?_)
    · walk_at "run"
      refine ret_same ?_
      unfold fD at h
      rw [MF.facs_last hn (by omega) w5 g' w6, List.map_append] at h
      exact h
    · walk_at "run"
      refine ret_same ?_
      unfold fD at h
      rw [MF.facs_eq hn fun p hp hpp => by rw [w6 p hp hpp, MF.v_big w1 (by omega)]] at h
      rw [List.append_nil]
      exact h
theorem facs_len (n : Nat) : (MF.facs n).length ≤ n := by
  have : ∀ q, (MF.facsTo (q + 1) n).length ≤ q := by
    intro q
    induction q with
    | zero =>
      have : MF.facsTo 1 n = [] := by
        rw [MF.facsTo_succ, if_neg (fun c => absurd c.1 (by decide))]
        rfl
      rw [this]
      exact Nat.le_refl _
    | succ q ih =>
      rw [MF.facsTo_succ, List.length_append]
      split
      · show _ + 1 ≤ _
        omega
      · show _ + 0 ≤ _
        omega
  exact this n
theorem fD_mem {n : Nat} {d : D} (h0 : 0 < n) (h : d ∈ fD n) : ∃ p e : Nat, d = .tup [.int (p : Int), .int (e : Int)] ∧ MF.isP p = true ∧ e = MF.v p n ∧ 0 < e ∧ p ∣ n ∧ 2 ≤ p ∧ p ≤ n ∧ e ≤ n := by
  unfold fD at h
  rw [List.mem_map] at h
  obtain ⟨⟨p, e⟩, hm, rfl⟩ := h
  obtain ⟨h1, h2, h3, h4⟩ := M68.mem_facs h0 hm
  exact ⟨p, e, rfl, h1, h2, h3, h4, (MF.isP_iff.mp h1).1, Nat.le_of_dvd h0 h4, by rw [h2]; exact MF.v_le p n⟩
/-! square roots -/
def sp_root : List D → AH → DK → Prop
  | [.int n], A, Q => (0 ≤ n ∧ n ≤ 1000000000000000000000000000000000000000000000000000000000000) ∧ ∀ r : Int, 0 ≤ r → r * r ≤ n → n < (r + 1) * (r + 1) → Q (.int r) A
  | _, _, _ => False
theorem m_root : MonL sp_root := fun ds A Q Q' k h => by
  unfold sp_root at h ⊢
  split at h <;> first | exact h.elim | exact k _ _ h | exact ⟨h.1, k _ _ h.2⟩ | exact ⟨h.choose, h.choose_spec.1, k _ _ h.choose_spec.2⟩ | exact fun x0 => k _ _ (h x0) | exact ⟨h.1, fun x0 => k _ _ (h.2 x0)⟩ | exact fun x0 x1 => k _ _ (h x0 x1) | exact ⟨h.1, fun x0 x1 => k _ _ (h.2 x0 x1)⟩ | exact fun x0 x1 x2 => k _ _ (h x0 x1 x2) | exact ⟨h.1, fun x0 x1 x2 => k _ _ (h.2 x0 x1 x2)⟩ | exact fun x0 x1 x2 x3 => k _ _ (h x0 x1 x2 x3) | exact ⟨h.1, fun x0 x1 x2 x3 => k _ _ (h.2 x0 x1 x2 x3)⟩ | exact fun x0 x1 x2 x3 x4 => k _ _ (h x0 x1 x2 x3 x4) | exact ⟨h.1, fun x0 x1 x2 x3 x4 => k _ _ (h.2 x0 x1 x2 x3 x4)⟩ | exact fun x0 x1 x2 x3 x4 x5 => k _ _ (h x0 x1 x2 x3 x4 x5) | exact ⟨h.1, fun x0 x1 x2 x3 x4 x5 => k _ _ (h.2 x0 x1 x2 x3 x4 x5)⟩ | exact fun x0 x1 x2 x3 x4 x5 x6 => k _ _ (h x0 x1 x2 x3 x4 x5 x6) | exact ⟨h.1, fun x0 x1 x2 x3 x4 x5 x6 => k _ _ (h.2 x0 x1 x2 x3 x4 x5 x6)⟩ | exact fun x0 x1 x2 x3 x4 x5 x6 x7 => k _ _ (h x0 x1 x2 x3 x4 x5 x6 x7) | exact ⟨h.1, fun x0 x1 x2 x3 x4 x5 x6 x7 => k _ _ (h.2 x0 x1 x2 x3 x4 x5 x6 x7)⟩ | exact fun x0 x1 x2 x3 x4 x5 x6 x7 x8 => k _ _ (h x0 x1 x2 x3 x4 x5 x6 x7 x8) | exact ⟨h.1, fun x0 x1 x2 x3 x4 x5 x6 x7 x8 => k _ _ (h.2 x0 x1 x2 x3 x4 x5 x6 x7 x8)⟩
theorem l_root : ∀ ds A Q, sp_root ds A Q → ds.length = 1 := fun ds A Q h => by
  unfold sp_root at h
  split at h <;> first | rfl | exact h.elim
theorem r_root : ∀ ds B (Q : DK), sp_root ds B Q → t_root (rets Q) (startD 4 ds) B := by
  intro ds B Q h
  unfold sp_root at h
  split at h <;> first | exact h.elim | skip
  rename_i n
  unfold t_root
  obtain ⟨⟨h0, hn⟩, h⟩ := h
  by_cases z : n = 0
  · subst z
    walk_at "run"
    exact ret_same (h 0 (by decide) (by decide) (by decide))
  walk_at "run"
  refine while_st (α := Nat) (fun s => [some (.int n), some (.int 1), some (.int (s : Int)), none]) (fun _ => B) (fun s => 1 ≤ s ∧ (s : Int) ≤ 2 * n) (fun s => (2 * n).toNat - s) 1 rfl rfl ⟨Nat.le_refl _, by omega⟩ ?_
  rintro s ⟨w1, w2⟩
  walk_at "run"
  refine br_dec (fun g => ?_) (fun g => ?_)
  · have sn : (s : Int) * 1 ≤ (s : Int) * (s : Int) := Int.mul_le_mul_of_nonneg_left (by omega) (by omega)
    walk_at "run"
    refine wl (2 * s) ?_ ⟨by omega, by omega⟩ (by rw [Int.natCast_mul]; rfl)
    omega
  · walk_at "run"
    refine while_st (α := Int × Int × Option D) (fun s => [some (.int n), some (.int s.1), some (.int s.2.1), s.2.2]) (fun _ => B) (fun s => 1 ≤ s.1 ∧ s.1 < s.2.1 ∧ s.2.1 ≤ 2 * n ∧ s.1 * s.1 ≤ n ∧ n < s.2.1 * s.2.1) (fun s => (s.2.1 - s.1).toNat) (1, (s : Int), none) rfl rfl ?_ ?_
    · dsimp only
      have : s ≠ 1 := by
        rintro rfl
        omega
      omega
    · rintro ⟨l, u, o⟩ ⟨v1, v2, v3, v4, v5⟩
      dsimp only at v1 v2 v3 v4 v5 ⊢
      by_cases c : 1 < u - l
      · walk_at "run"
        refine br_dec (fun g => ?_) (fun g => ?_)
        · walk_at "run"
          refine wl ((l + u) / 2, u, some _) ?_ ⟨?_, ?_, v3, g, v5⟩
          all_goals (try dsimp only); omega
        · walk_at "run"
          refine wl (l, (l + u) / 2, some _) ?_ ⟨v1, ?_, ?_, v4, ?_⟩
          all_goals (try dsimp only); omega
      · walk_at "run"
        have e : u = l + 1 := by omega
        subst e
        exact ret_same (h l (by omega) v4 v5)

/-! digits -/
theorem mod_int {n b : Nat} : (n : Int) - (n : Int) / (b : Int) * (b : Int) = ((n % b : Nat) : Int) := by
  have := Int.emod_def (n : Int) (b : Int)
  rw [Int.mul_comm] at this
  rw [← this]
  rfl
theorem pow_lt {k n : Nat} (h : 2 ^ k ≤ n) (hn : n ≤ 1000000000000000000000000000000) : k ≤ 100 := by
  refine Classical.byContradiction fun c => ?_
  have : 2 ^ 101 ≤ 2 ^ k := Nat.pow_le_pow_right (by decide) (by omega)
  have e : (2 : Nat) ^ 101 = 2535301200456458802993406410752 := by decide
  omega
def sp_digits : List D → AH → DK → Prop
  | [.int n, .int b], A, Q => ((0 ≤ n ∧ n ≤ 1000000000000000000000000000000) ∧ 2 ≤ b ∧ b ≤ 100000) ∧ Q (.lst (pI (MD.ls b.toNat n.toNat).reverse)) A
  | _, _, _ => False
theorem m_digits : MonL sp_digits := fun ds A Q Q' k h => by
  unfold sp_digits at h ⊢
  split at h <;> first | exact h.elim | exact k _ _ h | exact ⟨h.1, k _ _ h.2⟩ | exact ⟨h.choose, h.choose_spec.1, k _ _ h.choose_spec.2⟩ | exact fun x0 => k _ _ (h x0) | exact ⟨h.1, fun x0 => k _ _ (h.2 x0)⟩ | exact fun x0 x1 => k _ _ (h x0 x1) | exact ⟨h.1, fun x0 x1 => k _ _ (h.2 x0 x1)⟩ | exact fun x0 x1 x2 => k _ _ (h x0 x1 x2) | exact ⟨h.1, fun x0 x1 x2 => k _ _ (h.2 x0 x1 x2)⟩ | exact fun x0 x1 x2 x3 => k _ _ (h x0 x1 x2 x3) | exact ⟨h.1, fun x0 x1 x2 x3 => k _ _ (h.2 x0 x1 x2 x3)⟩ | exact fun x0 x1 x2 x3 x4 => k _ _ (h x0 x1 x2 x3 x4) | exact ⟨h.1, fun x0 x1 x2 x3 x4 => k _ _ (h.2 x0 x1 x2 x3 x4)⟩ | exact fun x0 x1 x2 x3 x4 x5 => k _ _ (h x0 x1 x2 x3 x4 x5) | exact ⟨h.1, fun x0 x1 x2 x3 x4 x5 => k _ _ (h.2 x0 x1 x2 x3 x4 x5)⟩ | exact fun x0 x1 x2 x3 x4 x5 x6 => k _ _ (h x0 x1 x2 x3 x4 x5 x6) | exact ⟨h.1, fun x0 x1 x2 x3 x4 x5 x6 => k _ _ (h.2 x0 x1 x2 x3 x4 x5 x6)⟩ | exact fun x0 x1 x2 x3 x4 x5 x6 x7 => k _ _ (h x0 x1 x2 x3 x4 x5 x6 x7) | exact ⟨h.1, fun x0 x1 x2 x3 x4 x5 x6 x7 => k _ _ (h.2 x0 x1 x2 x3 x4 x5 x6 x7)⟩ | exact fun x0 x1 x2 x3 x4 x5 x6 x7 x8 => k _ _ (h x0 x1 x2 x3 x4 x5 x6 x7 x8) | exact ⟨h.1, fun x0 x1 x2 x3 x4 x5 x6 x7 x8 => k _ _ (h.2 x0 x1 x2 x3 x4 x5 x6 x7 x8)⟩
theorem l_digits : ∀ ds A Q, sp_digits ds A Q → ds.length = 2 := fun ds A Q h => by
  unfold sp_digits at h
  split at h <;> first | rfl | exact h.elim
theorem r_digits : ∀ ds B (Q : DK), sp_digits ds B Q → t_digits (rets Q) (startD 3 ds) B := by
  intro ds B Q h
  unfold sp_digits at h
  split at h <;> first | exact h.elim | skip
  rename_i n b
  unfold t_digits
  obtain ⟨⟨hn, hb⟩, h⟩ := h
  obtain ⟨n, rfl⟩ : ∃ k : Nat, n = (k : Int) := ⟨n.toNat, by omega⟩
  obtain ⟨b, rfl⟩ : ∃ k : Nat, b = (k : Int) := ⟨b.toNat, by omega⟩
  rw [Int.toNat_natCast, Int.toNat_natCast] at h
  have hb2 : 2 ≤ b := by omega
  walk_at "run"
  intro p hp
  walk_at "run"
  refine while_st (α := Nat × List Nat) (fun s => [some (.int s.1), some (.int b), some (.ref p)]) (fun s => aupd B p (.lst (pI s.2)))
    (fun s => s.2 ++ (if s.2 = [] then MD.ls b s.1 else MD.dg b s.1) = MD.ls b n ∧ (s.1 = 0 ∨ 2 ^ s.2.length * s.1 ≤ n) ∧ s.2.length ≤ 101) (fun s => if s.2 = [] then s.1 + 1 else s.1) (n, []) rfl rfl ⟨rfl, .inr (by simp), by simp⟩ ?_
  rintro ⟨m, l⟩ ⟨w1, w2, w3⟩
  dsimp only at w1 w2 w3 ⊢
  have go : (0 < m ∨ l = []) → ∃ m', m' < (if l = [] then m + 1 else m) ∧ ∃ y : Nat × List Nat, m' = (if y.2 = [] then y.1 + 1 else y.1) ∧ y = (m / b, l ++ [m % b]) ∧ (y.2 ++ (if y.2 = [] then MD.ls b y.1 else MD.dg b y.1) = MD.ls b n ∧ (y.1 = 0 ∨ 2 ^ y.2.length * y.1 ≤ n) ∧ y.2.length ≤ 101) := by
    intro g
    have ne : l ++ [m % b] ≠ [] := by simp
    refine ⟨m / b, ?_, (m / b, l ++ [m % b]), by rw [if_neg ne], rfl, ?_, ?_, ?_⟩
    · split
      · have := Nat.div_le_self m b
        omega
      · next c => exact Nat.div_lt_self (g.resolve_right c) hb2
    · dsimp only
      rw [if_neg ne, List.append_assoc, ← w1]
      congr 1
      split
      · by_cases c : m < b
        · rw [MD.ls_small hb2 c, Nat.mod_eq_of_lt c, Nat.div_eq_of_lt c, MD.dg_zero]
          rfl
        · rw [MD.ls_step hb2 (by omega)]
          have : 0 < m / b := Nat.div_pos (by omega) (by omega)
          unfold MD.ls
          rw [if_neg (by omega)]
          rfl
      · next c => rw [MD.dg_pos hb2 (g.resolve_right c)]; rfl
    · dsimp only
      rcases w2 with w2 | w2
      · left
        rw [w2, Nat.zero_div]
      · right
        rw [List.length_append]
        show 2 ^ (l.length + 1) * (m / b) ≤ n
        have k1 : 2 * (m / b) ≤ m := Nat.le_trans (Nat.mul_le_mul_right _ hb2) (Nat.mul_div_le m b)
        have k2 : 2 ^ l.length * (2 * (m / b)) ≤ 2 ^ l.length * m := Nat.mul_le_mul_left _ k1
        rw [Nat.pow_succ, Nat.mul_assoc]
        omega
    · dsimp only
      rw [List.length_append]
      show l.length + 1 ≤ 101
      by_cases c : l = []
      · subst c; decide
      · have m0 := g.resolve_right c
        have w2 : 2 ^ l.length * m ≤ n := w2.resolve_left (by omega)
        have : 2 ^ l.length * 1 ≤ 2 ^ l.length * m := Nat.mul_le_mul_left _ m0
        have := pow_lt (k := l.length) (n := n) (by omega) (by omega)
        omega
  have okl := okD_pI 19 l
  have len : (pI l).length ≤ 1000000 := by unfold pI; rw [List.length_map]; omega
  have turn : ∀ (x : Int), x = (m : Int) - (m : Int) / (b : Int) * (b : Int) → aupd (aupd B p (.lst (pI l))) p (.lst (pI l ++ [.int x])) = aupd B p (.lst (pI (l ++ [m % b]))) := by
    rintro x rfl
    rw [aupd_aupd, mod_int]
    unfold pI
    rw [List.map_append]
    rfl
  walk_at "run"
  refine br_dec (fun g => ?_) (fun g => ?_)
  · obtain ⟨m', h1, y, h2, rfl, h3⟩ := go (.inl (by omega))
    walk_at "run"
    exact ⟨m', h1, _, h2, rfl, turn _ rfl, h3⟩
  · have m0 : m = 0 := by omega
    walk_at "run"
    rw [eqD_pInil]
    by_cases c : l = []
    · obtain ⟨m', h1, y, h2, rfl, h3⟩ := go (.inr c)
      walk_at "run"
      exact ⟨m', h1, _, h2, rfl, turn _ rfl, h3⟩
    · rw [if_neg c, m0, MD.dg_zero, List.append_nil] at w1
      walk_at "run"
      have e : (pI l).reverse = pI (MD.ls b n).reverse := by
        rw [← w1]
        unfold pI
        rw [List.map_reverse]
      rw [e]
      exact ret_same h
def isI (ds : List D) : Prop := ∀ d ∈ ds, ∃ i : Int, d = .int i
def nbD (b : Int) (ds : List D) : Int := ds.foldl (fun a d => match d with | .int i => b * a + i | _ => a) 0
theorem isI_pI (l : List Nat) : isI (pI l) := by
  intro d hd
  unfold pI at hd
  rw [List.mem_map] at hd
  obtain ⟨x, _, rfl⟩ := hd
  exact ⟨_, rfl⟩
theorem nbD_pI (b : Nat) (l : List Nat) : nbD (b : Int) (pI l) = (MD.nb b l : Int) := by
  unfold nbD MD.nb pI
  rw [List.foldl_map]
  suffices ∀ (l : List Nat) (x : Nat), l.foldl (fun (a : Int) (d : Nat) => (b : Int) * a + (d : Int)) (x : Int) = ((l.foldl (fun a d => b * a + d) x : Nat) : Int) from this l 0
  intro l
  induction l with
  | nil => intro x; rfl
  | cons d l ih =>
    intro x
    rw [List.foldl_cons, List.foldl_cons, ← ih]
    congr 1
def sp_numberin : List D → AH → DK → Prop
  | [.lst ds, .int b], A, Q => (isI ds ∧ -100000 ≤ b ∧ b ≤ 100000) ∧ Q (.int (nbD b ds)) A
  | [.tup ds, .int b], A, Q => (isI ds ∧ -100000 ≤ b ∧ b ≤ 100000) ∧ Q (.int (nbD b ds)) A
  | _, _, _ => False
theorem m_numberin : MonL sp_numberin := fun ds A Q Q' k h => by
  unfold sp_numberin at h ⊢
  split at h <;> first | exact h.elim | exact k _ _ h | exact ⟨h.1, k _ _ h.2⟩ | exact ⟨h.choose, h.choose_spec.1, k _ _ h.choose_spec.2⟩ | exact fun x0 => k _ _ (h x0) | exact ⟨h.1, fun x0 => k _ _ (h.2 x0)⟩ | exact fun x0 x1 => k _ _ (h x0 x1) | exact ⟨h.1, fun x0 x1 => k _ _ (h.2 x0 x1)⟩ | exact fun x0 x1 x2 => k _ _ (h x0 x1 x2) | exact ⟨h.1, fun x0 x1 x2 => k _ _ (h.2 x0 x1 x2)⟩ | exact fun x0 x1 x2 x3 => k _ _ (h x0 x1 x2 x3) | exact ⟨h.1, fun x0 x1 x2 x3 => k _ _ (h.2 x0 x1 x2 x3)⟩ | exact fun x0 x1 x2 x3 x4 => k _ _ (h x0 x1 x2 x3 x4) | exact ⟨h.1, fun x0 x1 x2 x3 x4 => k _ _ (h.2 x0 x1 x2 x3 x4)⟩ | exact fun x0 x1 x2 x3 x4 x5 => k _ _ (h x0 x1 x2 x3 x4 x5) | exact ⟨h.1, fun x0 x1 x2 x3 x4 x5 => k _ _ (h.2 x0 x1 x2 x3 x4 x5)⟩ | exact fun x0 x1 x2 x3 x4 x5 x6 => k _ _ (h x0 x1 x2 x3 x4 x5 x6) | exact ⟨h.1, fun x0 x1 x2 x3 x4 x5 x6 => k _ _ (h.2 x0 x1 x2 x3 x4 x5 x6)⟩ | exact fun x0 x1 x2 x3 x4 x5 x6 x7 => k _ _ (h x0 x1 x2 x3 x4 x5 x6 x7) | exact ⟨h.1, fun x0 x1 x2 x3 x4 x5 x6 x7 => k _ _ (h.2 x0 x1 x2 x3 x4 x5 x6 x7)⟩ | exact fun x0 x1 x2 x3 x4 x5 x6 x7 x8 => k _ _ (h x0 x1 x2 x3 x4 x5 x6 x7 x8) | exact ⟨h.1, fun x0 x1 x2 x3 x4 x5 x6 x7 x8 => k _ _ (h.2 x0 x1 x2 x3 x4 x5 x6 x7 x8)⟩
theorem l_numberin : ∀ ds A Q, sp_numberin ds A Q → ds.length = 2 := fun ds A Q h => by
  unfold sp_numberin at h
  split at h <;> first | rfl | exact h.elim
theorem nb_take {b : Int} {ds : List D} {i : Nat} {x : Int} (h : ds[i]? = some (.int x)) : nbD b (ds.take (i + 1)) = b * nbD b (ds.take i) + x := by
  unfold nbD
  rw [List.take_succ, h, List.foldl_append]
  rfl
theorem r_numberin : ∀ ds B (Q : DK), sp_numberin ds B Q → t_numberin (rets Q) (startD 4 ds) B := by
  intro ds B Q h
  unfold sp_numberin at h
  split at h <;> first | exact h.elim | skip
  all_goals
    rename_i l b
    unfold t_numberin
    obtain ⟨⟨hi, hb⟩, h⟩ := h
    walk_at "run"
    refine for_st (α := Nat × Option D) (fun s => [some _, some (.int b), some (.int (nbD b (l.take s.1))), s.2]) (fun _ => B) (fun i s => s.1 = i) (0, none) rfl rfl rfl ?_ ?_
    · rintro i d ⟨j, o⟩ hd w
      dsimp only at w ⊢
      subst w
      obtain ⟨x, rfl⟩ := hi d (List.mem_of_getElem? hd)
      walk_at "run"
      refine ⟨(j + 1, some (.int x)), ?_, rfl, rfl⟩
      rw [nb_take hd]
      rfl
    · rintro ⟨j, o⟩ w
      dsimp only at w ⊢
      subst w
      rw [List.take_length]
      walk_at "run"
      exact ret_same h
def sp_great : List D → AH → DK → Prop
  | [.ref p, .int m], A, Q => (Cup A p ∧ 1 ≤ m ∧ m ≤ 10) ∧ ∀ r A', 0 ≤ r → r < 1000000000000000000000000000000 → Cup A' p → Oth A A' p → Q (.int r) A'
  | _, _, _ => False
theorem m_great : MonL sp_great := fun ds A Q Q' k h => by
  unfold sp_great at h ⊢
  split at h <;> first | exact h.elim | exact k _ _ h | exact ⟨h.1, k _ _ h.2⟩ | exact ⟨h.choose, h.choose_spec.1, k _ _ h.choose_spec.2⟩ | exact fun x0 => k _ _ (h x0) | exact ⟨h.1, fun x0 => k _ _ (h.2 x0)⟩ | exact fun x0 x1 => k _ _ (h x0 x1) | exact ⟨h.1, fun x0 x1 => k _ _ (h.2 x0 x1)⟩ | exact fun x0 x1 x2 => k _ _ (h x0 x1 x2) | exact ⟨h.1, fun x0 x1 x2 => k _ _ (h.2 x0 x1 x2)⟩ | exact fun x0 x1 x2 x3 => k _ _ (h x0 x1 x2 x3) | exact ⟨h.1, fun x0 x1 x2 x3 => k _ _ (h.2 x0 x1 x2 x3)⟩ | exact fun x0 x1 x2 x3 x4 => k _ _ (h x0 x1 x2 x3 x4) | exact ⟨h.1, fun x0 x1 x2 x3 x4 => k _ _ (h.2 x0 x1 x2 x3 x4)⟩ | exact fun x0 x1 x2 x3 x4 x5 => k _ _ (h x0 x1 x2 x3 x4 x5) | exact ⟨h.1, fun x0 x1 x2 x3 x4 x5 => k _ _ (h.2 x0 x1 x2 x3 x4 x5)⟩ | exact fun x0 x1 x2 x3 x4 x5 x6 => k _ _ (h x0 x1 x2 x3 x4 x5 x6) | exact ⟨h.1, fun x0 x1 x2 x3 x4 x5 x6 => k _ _ (h.2 x0 x1 x2 x3 x4 x5 x6)⟩ | exact fun x0 x1 x2 x3 x4 x5 x6 x7 => k _ _ (h x0 x1 x2 x3 x4 x5 x6 x7) | exact ⟨h.1, fun x0 x1 x2 x3 x4 x5 x6 x7 => k _ _ (h.2 x0 x1 x2 x3 x4 x5 x6 x7)⟩ | exact fun x0 x1 x2 x3 x4 x5 x6 x7 x8 => k _ _ (h x0 x1 x2 x3 x4 x5 x6 x7 x8) | exact ⟨h.1, fun x0 x1 x2 x3 x4 x5 x6 x7 x8 => k _ _ (h.2 x0 x1 x2 x3 x4 x5 x6 x7 x8)⟩
theorem l_great : ∀ ds A Q, sp_great ds A Q → ds.length = 2 := fun ds A Q h => by
  unfold sp_great at h
  split at h <;> first | rfl | exact h.elim
theorem pow1000 {i : Nat} (h : i ≤ 10) : (1000 : Int) ^ i ≤ 1000000000000000000000000000000 ∧ 0 < (1000 : Int) ^ i := by
  have e : i = 0 ∨ i = 1 ∨ i = 2 ∨ i = 3 ∨ i = 4 ∨ i = 5 ∨ i = 6 ∨ i = 7 ∨ i = 8 ∨ i = 9 ∨ i = 10 := by omega
  rcases e with rfl | rfl | rfl | rfl | rfl | rfl | rfl | rfl | rfl | rfl | rfl <;> decide
theorem r_great : ∀ ds B (Q : DK), sp_great ds B Q → t_great spRoll (rets Q) (startD 4 ds) B := by
  intro ds B Q h
  unfold sp_great at h
  split at h <;> first | exact h.elim | skip
  rename_i p m
  unfold t_great
  obtain ⟨⟨c0, hm⟩, h⟩ := h
  walk_at "run"
  intro r A1 r0 r1 c1 o1
  walk_at "run"
  refine for_rg (α := AH × Int × Option D) (fun s => [some (.ref p), some (.int m), some (.int s.2.1), s.2.2]) (fun s => s.1) (fun i s => Cup s.1 p ∧ Oth B s.1 p ∧ 0 ≤ s.2.1 ∧ s.2.1 < 1000 ^ i) (A1, 0, none) rfl rfl ⟨c1, o1, (by decide : (0 : Int) ≤ 0), (by decide : (0 : Int) < 1)⟩ ?_ ?_
  · rintro i ⟨A2, x, u⟩ hi ⟨c2, o2, x0, x1⟩
    dsimp only at c2 o2 x0 x1 ⊢
    walk_at "run"
    intro s A3 s0 s1 c3 o3
    walk_at "run"
    refine ⟨(A3, 1000 * x + s, some _), rfl, rfl, c3, o2.trans o3, by dsimp only; omega, ?_⟩
    dsimp only
    rw [Int.pow_succ]
    omega
  · rintro ⟨A2, x, u⟩ ⟨c2, o2, x0, x1⟩
    dsimp only at c2 o2 x0 x1 ⊢
    have := pow1000 (i := (r + 1).toNat) (by omega)
    walk_at "run"
    exact ret_same (h _ _ x0 (by omega) c2 o2)

def sp_dsum : List D → AH → DK → Prop
  | [.int n, .int b], A, Q => ((0 ≤ n ∧ n ≤ 1000000000000000000000000000000000000000000000000000000000000) ∧ 2 ≤ b ∧ b ≤ 1000000000) ∧ Q (.int ((MD.ls b.toNat n.toNat).sum : Int)) A
  | _, _, _ => False
theorem m_dsum : MonL sp_dsum := fun ds A Q Q' k h => by
  unfold sp_dsum at h ⊢
  split at h <;> first | exact h.elim | exact k _ _ h | exact ⟨h.1, k _ _ h.2⟩ | exact ⟨h.choose, h.choose_spec.1, k _ _ h.choose_spec.2⟩ | exact fun x0 => k _ _ (h x0) | exact ⟨h.1, fun x0 => k _ _ (h.2 x0)⟩ | exact fun x0 x1 => k _ _ (h x0 x1) | exact ⟨h.1, fun x0 x1 => k _ _ (h.2 x0 x1)⟩ | exact fun x0 x1 x2 => k _ _ (h x0 x1 x2) | exact ⟨h.1, fun x0 x1 x2 => k _ _ (h.2 x0 x1 x2)⟩ | exact fun x0 x1 x2 x3 => k _ _ (h x0 x1 x2 x3) | exact ⟨h.1, fun x0 x1 x2 x3 => k _ _ (h.2 x0 x1 x2 x3)⟩ | exact fun x0 x1 x2 x3 x4 => k _ _ (h x0 x1 x2 x3 x4) | exact ⟨h.1, fun x0 x1 x2 x3 x4 => k _ _ (h.2 x0 x1 x2 x3 x4)⟩ | exact fun x0 x1 x2 x3 x4 x5 => k _ _ (h x0 x1 x2 x3 x4 x5) | exact ⟨h.1, fun x0 x1 x2 x3 x4 x5 => k _ _ (h.2 x0 x1 x2 x3 x4 x5)⟩ | exact fun x0 x1 x2 x3 x4 x5 x6 => k _ _ (h x0 x1 x2 x3 x4 x5 x6) | exact ⟨h.1, fun x0 x1 x2 x3 x4 x5 x6 => k _ _ (h.2 x0 x1 x2 x3 x4 x5 x6)⟩ | exact fun x0 x1 x2 x3 x4 x5 x6 x7 => k _ _ (h x0 x1 x2 x3 x4 x5 x6 x7) | exact ⟨h.1, fun x0 x1 x2 x3 x4 x5 x6 x7 => k _ _ (h.2 x0 x1 x2 x3 x4 x5 x6 x7)⟩ | exact fun x0 x1 x2 x3 x4 x5 x6 x7 x8 => k _ _ (h x0 x1 x2 x3 x4 x5 x6 x7 x8) | exact ⟨h.1, fun x0 x1 x2 x3 x4 x5 x6 x7 x8 => k _ _ (h.2 x0 x1 x2 x3 x4 x5 x6 x7 x8)⟩
theorem l_dsum : ∀ ds A Q, sp_dsum ds A Q → ds.length = 2 := fun ds A Q h => by
  unfold sp_dsum at h
  split at h <;> first | rfl | exact h.elim
theorem r_dsum : ∀ ds B (Q : DK), sp_dsum ds B Q → t_dsum (rets Q) (startD 3 ds) B := by
  intro ds B Q h
  unfold sp_dsum at h
  split at h <;> first | exact h.elim | skip
  rename_i n b
  unfold t_dsum
  obtain ⟨⟨hn, hb⟩, h⟩ := h
  obtain ⟨n, rfl⟩ : ∃ k : Nat, n = (k : Int) := ⟨n.toNat, by omega⟩
  obtain ⟨b, rfl⟩ : ∃ k : Nat, b = (k : Int) := ⟨b.toNat, by omega⟩
  rw [Int.toNat_natCast, Int.toNat_natCast, MD.sum_ls] at h
  have hb2 : 2 ≤ b := by omega
  walk_at "run"
  refine while_st (α := Nat × Nat) (fun s => [some (.int (s.1 : Int)), some (.int (b : Int)), some (.int (s.2 : Int))]) (fun _ => B) (fun s => s.2 + (MD.dg b s.1).sum = (MD.dg b n).sum) (fun s => s.1) (n, 0) rfl rfl (Nat.zero_add _) ?_
  rintro ⟨m, f⟩ w
  dsimp only at w ⊢
  by_cases c : 0 < m
  · walk_at "run"
    have e := Int.mul_ediv_add_emod (m : Int) (b : Int)
    have e1 : (f : Int) + (m : Int) - (m : Int) / (b : Int) * (b : Int) = ((f + m % b : Nat) : Int) := by
      rw [Int.mul_comm] at e
      rw [Int.natCast_add, Int.natCast_emod]
      omega
    refine wl (m / b, f + m % b) (Nat.div_lt_self c hb2) ?_ (by rw [e1]; rfl)
    dsimp only
    rw [← w, MD.dg_sum_step hb2 m]
    omega
  · have m0 : m = 0 := by omega
    subst m0
    rw [MD.dg_zero] at w
    walk_at "run"
    have : f = (MD.dg b n).sum := w
    rw [this]
    exact ret_same h
/-! binomials -/
def sp_choose : List D → AH → DK → Prop
  | [.int n, .int k], A, Q => ((0 ≤ n ∧ n ≤ 1000000000000000000) ∧ 0 ≤ k ∧ k ≤ 1000000000000000000) ∧ Q (.int (MB.ch n.toNat k.toNat : Int)) A
  | _, _, _ => False
theorem m_choose : MonL sp_choose := fun ds A Q Q' k h => by
  unfold sp_choose at h ⊢
  split at h <;> first | exact h.elim | exact k _ _ h | exact ⟨h.1, k _ _ h.2⟩ | exact ⟨h.choose, h.choose_spec.1, k _ _ h.choose_spec.2⟩ | exact fun x0 => k _ _ (h x0) | exact ⟨h.1, fun x0 => k _ _ (h.2 x0)⟩ | exact fun x0 x1 => k _ _ (h x0 x1) | exact ⟨h.1, fun x0 x1 => k _ _ (h.2 x0 x1)⟩ | exact fun x0 x1 x2 => k _ _ (h x0 x1 x2) | exact ⟨h.1, fun x0 x1 x2 => k _ _ (h.2 x0 x1 x2)⟩ | exact fun x0 x1 x2 x3 => k _ _ (h x0 x1 x2 x3) | exact ⟨h.1, fun x0 x1 x2 x3 => k _ _ (h.2 x0 x1 x2 x3)⟩ | exact fun x0 x1 x2 x3 x4 => k _ _ (h x0 x1 x2 x3 x4) | exact ⟨h.1, fun x0 x1 x2 x3 x4 => k _ _ (h.2 x0 x1 x2 x3 x4)⟩ | exact fun x0 x1 x2 x3 x4 x5 => k _ _ (h x0 x1 x2 x3 x4 x5) | exact ⟨h.1, fun x0 x1 x2 x3 x4 x5 => k _ _ (h.2 x0 x1 x2 x3 x4 x5)⟩ | exact fun x0 x1 x2 x3 x4 x5 x6 => k _ _ (h x0 x1 x2 x3 x4 x5 x6) | exact ⟨h.1, fun x0 x1 x2 x3 x4 x5 x6 => k _ _ (h.2 x0 x1 x2 x3 x4 x5 x6)⟩ | exact fun x0 x1 x2 x3 x4 x5 x6 x7 => k _ _ (h x0 x1 x2 x3 x4 x5 x6 x7) | exact ⟨h.1, fun x0 x1 x2 x3 x4 x5 x6 x7 => k _ _ (h.2 x0 x1 x2 x3 x4 x5 x6 x7)⟩ | exact fun x0 x1 x2 x3 x4 x5 x6 x7 x8 => k _ _ (h x0 x1 x2 x3 x4 x5 x6 x7 x8) | exact ⟨h.1, fun x0 x1 x2 x3 x4 x5 x6 x7 x8 => k _ _ (h.2 x0 x1 x2 x3 x4 x5 x6 x7 x8)⟩
theorem l_choose : ∀ ds A Q, sp_choose ds A Q → ds.length = 2 := fun ds A Q h => by
  unfold sp_choose at h
  split at h <;> first | rfl | exact h.elim
theorem r_choose : ∀ ds B (Q : DK), sp_choose ds B Q → t_choose (rets Q) (startD 4 ds) B := by
  intro ds B Q h
  unfold sp_choose at h
  split at h <;> first | exact h.elim | skip
  rename_i n k
  unfold t_choose
  obtain ⟨⟨hn, hk⟩, h⟩ := h
  obtain ⟨n, rfl⟩ : ∃ k : Nat, n = (k : Int) := ⟨n.toNat, by omega⟩
  obtain ⟨k, rfl⟩ : ∃ m : Nat, k = (m : Int) := ⟨k.toNat, by omega⟩
  rw [Int.toNat_natCast, Int.toNat_natCast] at h
  walk_at "run"
  rw [Int.toNat_natCast]
  refine for_rg0 (α := Int × Option D) (fun s => [some (.int n), some (.int k), some (.int s.1), s.2]) (fun _ => B) (fun i s => s.1 = (MB.ch n i : Int)) (1, none) rfl rfl (by dsimp only; rw [MB.ch_zero]; rfl) ?_ ?_
  · rintro i ⟨x, o⟩ hi w
    dsimp only at w ⊢
    subst w
    walk_at "run"
    rw [MB.ch_stepI]
    exact ⟨(_, some _), rfl, rfl, rfl⟩
  · rintro ⟨x, o⟩ w
    dsimp only at w ⊢
    subst w
    walk_at "run"
    exact ret_same h
def sp_binom : List D → AH → DK → Prop
  | [.int n, .int k], A, Q => (0 ≤ k ∧ k ≤ n ∧ n ≤ 1000000000000000000) ∧ Q (.int (MB.ch n.toNat k.toNat : Int)) A
  | _, _, _ => False
theorem m_binom : MonL sp_binom := fun ds A Q Q' k h => by
  unfold sp_binom at h ⊢
  split at h <;> first | exact h.elim | exact k _ _ h | exact ⟨h.1, k _ _ h.2⟩ | exact ⟨h.choose, h.choose_spec.1, k _ _ h.choose_spec.2⟩ | exact fun x0 => k _ _ (h x0) | exact ⟨h.1, fun x0 => k _ _ (h.2 x0)⟩ | exact fun x0 x1 => k _ _ (h x0 x1) | exact ⟨h.1, fun x0 x1 => k _ _ (h.2 x0 x1)⟩ | exact fun x0 x1 x2 => k _ _ (h x0 x1 x2) | exact ⟨h.1, fun x0 x1 x2 => k _ _ (h.2 x0 x1 x2)⟩ | exact fun x0 x1 x2 x3 => k _ _ (h x0 x1 x2 x3) | exact ⟨h.1, fun x0 x1 x2 x3 => k _ _ (h.2 x0 x1 x2 x3)⟩ | exact fun x0 x1 x2 x3 x4 => k _ _ (h x0 x1 x2 x3 x4) | exact ⟨h.1, fun x0 x1 x2 x3 x4 => k _ _ (h.2 x0 x1 x2 x3 x4)⟩ | exact fun x0 x1 x2 x3 x4 x5 => k _ _ (h x0 x1 x2 x3 x4 x5) | exact ⟨h.1, fun x0 x1 x2 x3 x4 x5 => k _ _ (h.2 x0 x1 x2 x3 x4 x5)⟩ | exact fun x0 x1 x2 x3 x4 x5 x6 => k _ _ (h x0 x1 x2 x3 x4 x5 x6) | exact ⟨h.1, fun x0 x1 x2 x3 x4 x5 x6 => k _ _ (h.2 x0 x1 x2 x3 x4 x5 x6)⟩ | exact fun x0 x1 x2 x3 x4 x5 x6 x7 => k _ _ (h x0 x1 x2 x3 x4 x5 x6 x7) | exact ⟨h.1, fun x0 x1 x2 x3 x4 x5 x6 x7 => k _ _ (h.2 x0 x1 x2 x3 x4 x5 x6 x7)⟩ | exact fun x0 x1 x2 x3 x4 x5 x6 x7 x8 => k _ _ (h x0 x1 x2 x3 x4 x5 x6 x7 x8) | exact ⟨h.1, fun x0 x1 x2 x3 x4 x5 x6 x7 x8 => k _ _ (h.2 x0 x1 x2 x3 x4 x5 x6 x7 x8)⟩
theorem l_binom : ∀ ds A Q, sp_binom ds A Q → ds.length = 2 := fun ds A Q h => by
  unfold sp_binom at h
  split at h <;> first | rfl | exact h.elim
theorem r_binom : ∀ ds B (Q : DK), sp_binom ds B Q → t_binom (rets Q) (startD 4 ds) B := by
  intro ds B Q h
  unfold sp_binom at h
  split at h <;> first | exact h.elim | skip
  rename_i n k
  unfold t_binom
  obtain ⟨⟨hk, hn, hn2⟩, h⟩ := h
  obtain ⟨n, rfl⟩ : ∃ k : Nat, n = (k : Int) := ⟨n.toNat, by omega⟩
  obtain ⟨k, rfl⟩ : ∃ m : Nat, k = (m : Int) := ⟨k.toNat, by omega⟩
  rw [Int.toNat_natCast, Int.toNat_natCast] at h
  have em : (min (k : Int) ((n : Int) - (k : Int))).toNat = min k (n - k) := by omega
  walk_at "run"
  rw [em]
  refine for_rg0 (α := Int × Option D) (fun s => [some (.int n), some (.int k), some (.int s.1), s.2]) (fun _ => B) (fun i s => s.1 = (MB.ch n i : Int)) (1, none) rfl rfl (by dsimp only; rw [MB.ch_zero]; rfl) ?_ ?_
  · rintro i ⟨x, o⟩ hi w
    dsimp only at w ⊢
    subst w
    walk_at "run"
    rw [MB.ch_stepI]
    exact ⟨(_, some _), rfl, rfl, rfl⟩
  · rintro ⟨x, o⟩ w
    dsimp only at w ⊢
    subst w
    have e : MB.ch n (min k (n - k)) = MB.ch n k := by
      rcases Nat.le_total k (n - k) with c | c
      · rw [Nat.min_eq_left c]
      · rw [Nat.min_eq_right c, ← MB.ch_symm n k (by omega)]
    rw [e]
    walk_at "run"
    exact ret_same h
def sp_orders : List D → AH → DK → Prop
  | [.int n], A, Q => (0 ≤ n ∧ n ≤ 1000000000000000000) ∧ Q (.int (MB.fac n.toNat : Int)) A
  | _, _, _ => False
theorem m_orders : MonL sp_orders := fun ds A Q Q' k h => by
  unfold sp_orders at h ⊢
  split at h <;> first | exact h.elim | exact k _ _ h | exact ⟨h.1, k _ _ h.2⟩ | exact ⟨h.choose, h.choose_spec.1, k _ _ h.choose_spec.2⟩ | exact fun x0 => k _ _ (h x0) | exact ⟨h.1, fun x0 => k _ _ (h.2 x0)⟩ | exact fun x0 x1 => k _ _ (h x0 x1) | exact ⟨h.1, fun x0 x1 => k _ _ (h.2 x0 x1)⟩ | exact fun x0 x1 x2 => k _ _ (h x0 x1 x2) | exact ⟨h.1, fun x0 x1 x2 => k _ _ (h.2 x0 x1 x2)⟩ | exact fun x0 x1 x2 x3 => k _ _ (h x0 x1 x2 x3) | exact ⟨h.1, fun x0 x1 x2 x3 => k _ _ (h.2 x0 x1 x2 x3)⟩ | exact fun x0 x1 x2 x3 x4 => k _ _ (h x0 x1 x2 x3 x4) | exact ⟨h.1, fun x0 x1 x2 x3 x4 => k _ _ (h.2 x0 x1 x2 x3 x4)⟩ | exact fun x0 x1 x2 x3 x4 x5 => k _ _ (h x0 x1 x2 x3 x4 x5) | exact ⟨h.1, fun x0 x1 x2 x3 x4 x5 => k _ _ (h.2 x0 x1 x2 x3 x4 x5)⟩ | exact fun x0 x1 x2 x3 x4 x5 x6 => k _ _ (h x0 x1 x2 x3 x4 x5 x6) | exact ⟨h.1, fun x0 x1 x2 x3 x4 x5 x6 => k _ _ (h.2 x0 x1 x2 x3 x4 x5 x6)⟩ | exact fun x0 x1 x2 x3 x4 x5 x6 x7 => k _ _ (h x0 x1 x2 x3 x4 x5 x6 x7) | exact ⟨h.1, fun x0 x1 x2 x3 x4 x5 x6 x7 => k _ _ (h.2 x0 x1 x2 x3 x4 x5 x6 x7)⟩ | exact fun x0 x1 x2 x3 x4 x5 x6 x7 x8 => k _ _ (h x0 x1 x2 x3 x4 x5 x6 x7 x8) | exact ⟨h.1, fun x0 x1 x2 x3 x4 x5 x6 x7 x8 => k _ _ (h.2 x0 x1 x2 x3 x4 x5 x6 x7 x8)⟩
theorem l_orders : ∀ ds A Q, sp_orders ds A Q → ds.length = 1 := fun ds A Q h => by
  unfold sp_orders at h
  split at h <;> first | rfl | exact h.elim
theorem r_orders : ∀ ds B (Q : DK), sp_orders ds B Q → t_orders (rets Q) (startD 3 ds) B := by
  intro ds B Q h
  unfold sp_orders at h
  split at h <;> first | exact h.elim | skip
  rename_i n
  unfold t_orders
  obtain ⟨hn, h⟩ := h
  obtain ⟨n, rfl⟩ : ∃ k : Nat, n = (k : Int) := ⟨n.toNat, by omega⟩
  rw [Int.toNat_natCast] at h
  walk_at "run"
  refine for_rg (α := Int × Option D) (fun s => [some (.int n), some (.int s.1), s.2]) (fun _ => B) (fun i s => s.1 = (MB.fac (i + 1) : Int)) (1, none) rfl rfl rfl ?_ ?_
  · rintro i ⟨x, o⟩ hi w
    dsimp only at w ⊢
    subst w
    walk_at "run"
    have e : (MB.fac (i + 1) : Int) * (2 + (i : Int)) = (MB.fac (i + 1 + 1) : Int) := by
      show _ = ((MB.fac (i + 1) * (i + 1 + 1) : Nat) : Int)
      rw [Int.natCast_mul]
      congr 1
      omega
    rw [e]
    exact ⟨(_, some _), rfl, rfl, rfl⟩
  · rintro ⟨x, o⟩ w
    dsimp only at w ⊢
    subst w
    have e : MB.fac (((n : Int) + 1 - 2).toNat + 1) = MB.fac n := by
      cases n with
      | zero => rfl
      | succ m => congr 1; omega
    rw [e]
    walk_at "run"
    exact ret_same h

/-! rows of named numbers -/
theorem ix_gt {l : List Nat} {i : Nat} (h : i < l.length) : ixD (pI l) (i : Int) = some (.int (MB.gt l i : Nat)) := ix_pI h
def sp_sets : List D → AH → DK → Prop
  | [.int n], A, Q => (0 ≤ n ∧ n ≤ 10000) ∧ Q (.lst (pI (MB.srow n.toNat))) A
  | _, _, _ => False
theorem m_sets : MonL sp_sets := fun ds A Q Q' k h => by
  unfold sp_sets at h ⊢
  split at h <;> first | exact h.elim | exact k _ _ h | exact ⟨h.1, k _ _ h.2⟩ | exact ⟨h.choose, h.choose_spec.1, k _ _ h.choose_spec.2⟩ | exact fun x0 => k _ _ (h x0) | exact ⟨h.1, fun x0 => k _ _ (h.2 x0)⟩ | exact fun x0 x1 => k _ _ (h x0 x1) | exact ⟨h.1, fun x0 x1 => k _ _ (h.2 x0 x1)⟩ | exact fun x0 x1 x2 => k _ _ (h x0 x1 x2) | exact ⟨h.1, fun x0 x1 x2 => k _ _ (h.2 x0 x1 x2)⟩ | exact fun x0 x1 x2 x3 => k _ _ (h x0 x1 x2 x3) | exact ⟨h.1, fun x0 x1 x2 x3 => k _ _ (h.2 x0 x1 x2 x3)⟩ | exact fun x0 x1 x2 x3 x4 => k _ _ (h x0 x1 x2 x3 x4) | exact ⟨h.1, fun x0 x1 x2 x3 x4 => k _ _ (h.2 x0 x1 x2 x3 x4)⟩ | exact fun x0 x1 x2 x3 x4 x5 => k _ _ (h x0 x1 x2 x3 x4 x5) | exact ⟨h.1, fun x0 x1 x2 x3 x4 x5 => k _ _ (h.2 x0 x1 x2 x3 x4 x5)⟩ | exact fun x0 x1 x2 x3 x4 x5 x6 => k _ _ (h x0 x1 x2 x3 x4 x5 x6) | exact ⟨h.1, fun x0 x1 x2 x3 x4 x5 x6 => k _ _ (h.2 x0 x1 x2 x3 x4 x5 x6)⟩ | exact fun x0 x1 x2 x3 x4 x5 x6 x7 => k _ _ (h x0 x1 x2 x3 x4 x5 x6 x7) | exact ⟨h.1, fun x0 x1 x2 x3 x4 x5 x6 x7 => k _ _ (h.2 x0 x1 x2 x3 x4 x5 x6 x7)⟩ | exact fun x0 x1 x2 x3 x4 x5 x6 x7 x8 => k _ _ (h x0 x1 x2 x3 x4 x5 x6 x7 x8) | exact ⟨h.1, fun x0 x1 x2 x3 x4 x5 x6 x7 x8 => k _ _ (h.2 x0 x1 x2 x3 x4 x5 x6 x7 x8)⟩
theorem l_sets : ∀ ds A Q, sp_sets ds A Q → ds.length = 1 := fun ds A Q h => by
  unfold sp_sets at h
  split at h <;> first | rfl | exact h.elim
theorem r_sets : ∀ ds B (Q : DK), sp_sets ds B Q → t_sets (rets Q) (startD 5 ds) B := by
  intro ds B Q h
  unfold sp_sets at h
  split at h <;> first | exact h.elim | skip
  rename_i n
  unfold t_sets
  obtain ⟨hn, h⟩ := h
  obtain ⟨n, rfl⟩ : ∃ k : Nat, n = (k : Int) := ⟨n.toNat, by omega⟩
  rw [Int.toNat_natCast] at h
  walk_at "run"
  refine for_rg (α := List Nat × Option D × Option D) (fun s => [some (.int n), some (.lst (pI s.1)), s.2.1, s.2.2, none]) (fun _ => B) (fun i s => s.1 = MB.srow i) ([1], none, none) rfl rfl rfl ?_ ?_
  · rintro i ⟨l, o2, o3⟩ hi w
    dsimp only at w ⊢
    have len : (pI l).length = i + 1 := by rw [len_pI, w, MB.srow_len]
    have len2 : l.length = i + 1 := by rw [w, MB.srow_len]
    have e : (1 + (i : Int) + 1).toNat = i + 2 := by omega
    walk_at "run"
    rw [e]
    refine lc_rg (fun s => .int ((MB.gt (0 :: l) s + s * (if s < i + 1 then MB.gt l s else 0) : Nat) : Int)) (by omega) ?_ ?_
    · intro s hs A Q' h'
      have i1 : ixD (.int 0 :: pI l) (s : Int) = some (.int (MB.gt (0 :: l) s : Nat)) := ix_gt (l := 0 :: l) (by rw [List.length_cons]; omega)
      walk_at "run"
      refine optK_of i1 ?_
      walk_at "run"
      rw [Int.natCast_add, Int.natCast_mul] at h'
      refine br_dec (fun g => ?_) (fun g => ?_)
      · rw [if_pos (by omega)] at h'
        have i2 := ix_gt (l := l) (i := s) (by omega)
        walk_at "run"
        refine optK_of i2 ?_
        walk_at "run"
        exact h'
      · rw [if_neg (by omega)] at h'
        walk_at "run"
        exact h'
    · intro p hp
      rw [pI_map]
      walk_at "run"
      subst w
      exact ⟨(_, some _, some _), rfl, rfl, rfl⟩
  · rintro ⟨l, o2, o3⟩ w
    have e : ((n : Int) + 1 - 1).toNat = n := by omega
    dsimp only at w ⊢
    rw [e] at w
    subst w
    walk_at "run"
    exact ret_same h
def sp_rounds : List D → AH → DK → Prop
  | [.int n], A, Q => (0 ≤ n ∧ n ≤ 10000) ∧ Q (.lst (pI (MB.rrow n.toNat))) A
  | _, _, _ => False
theorem m_rounds : MonL sp_rounds := fun ds A Q Q' k h => by
  unfold sp_rounds at h ⊢
  split at h <;> first | exact h.elim | exact k _ _ h | exact ⟨h.1, k _ _ h.2⟩ | exact ⟨h.choose, h.choose_spec.1, k _ _ h.choose_spec.2⟩ | exact fun x0 => k _ _ (h x0) | exact ⟨h.1, fun x0 => k _ _ (h.2 x0)⟩ | exact fun x0 x1 => k _ _ (h x0 x1) | exact ⟨h.1, fun x0 x1 => k _ _ (h.2 x0 x1)⟩ | exact fun x0 x1 x2 => k _ _ (h x0 x1 x2) | exact ⟨h.1, fun x0 x1 x2 => k _ _ (h.2 x0 x1 x2)⟩ | exact fun x0 x1 x2 x3 => k _ _ (h x0 x1 x2 x3) | exact ⟨h.1, fun x0 x1 x2 x3 => k _ _ (h.2 x0 x1 x2 x3)⟩ | exact fun x0 x1 x2 x3 x4 => k _ _ (h x0 x1 x2 x3 x4) | exact ⟨h.1, fun x0 x1 x2 x3 x4 => k _ _ (h.2 x0 x1 x2 x3 x4)⟩ | exact fun x0 x1 x2 x3 x4 x5 => k _ _ (h x0 x1 x2 x3 x4 x5) | exact ⟨h.1, fun x0 x1 x2 x3 x4 x5 => k _ _ (h.2 x0 x1 x2 x3 x4 x5)⟩ | exact fun x0 x1 x2 x3 x4 x5 x6 => k _ _ (h x0 x1 x2 x3 x4 x5 x6) | exact ⟨h.1, fun x0 x1 x2 x3 x4 x5 x6 => k _ _ (h.2 x0 x1 x2 x3 x4 x5 x6)⟩ | exact fun x0 x1 x2 x3 x4 x5 x6 x7 => k _ _ (h x0 x1 x2 x3 x4 x5 x6 x7) | exact ⟨h.1, fun x0 x1 x2 x3 x4 x5 x6 x7 => k _ _ (h.2 x0 x1 x2 x3 x4 x5 x6 x7)⟩ | exact fun x0 x1 x2 x3 x4 x5 x6 x7 x8 => k _ _ (h x0 x1 x2 x3 x4 x5 x6 x7 x8) | exact ⟨h.1, fun x0 x1 x2 x3 x4 x5 x6 x7 x8 => k _ _ (h.2 x0 x1 x2 x3 x4 x5 x6 x7 x8)⟩
theorem l_rounds : ∀ ds A Q, sp_rounds ds A Q → ds.length = 1 := fun ds A Q h => by
  unfold sp_rounds at h
  split at h <;> first | rfl | exact h.elim
theorem r_rounds : ∀ ds B (Q : DK), sp_rounds ds B Q → t_rounds (rets Q) (startD 6 ds) B := by
  intro ds B Q h
  unfold sp_rounds at h
  split at h <;> first | exact h.elim | skip
  rename_i n
  unfold t_rounds
  obtain ⟨hn, h⟩ := h
  obtain ⟨n, rfl⟩ : ∃ k : Nat, n = (k : Int) := ⟨n.toNat, by omega⟩
  rw [Int.toNat_natCast] at h
  walk_at "run"
  refine for_rg (α := List Nat × Option D × Option D × Option D) (fun s => [some (.int n), some (.lst (pI s.1)), s.2.1, s.2.2.1, s.2.2.2, none]) (fun _ => B) (fun i s => s.1 = MB.rrow i) ([1], none, none, none) rfl rfl rfl ?_ ?_
  · rintro i ⟨l, o2, o3, o4⟩ hi w
    dsimp only at w ⊢
    have len : (pI l).length = i + 1 := by rw [len_pI, w, MB.rrow_len]
    have len2 : l.length = i + 1 := by rw [w, MB.rrow_len]
    have e : (1 + (i : Int) + 1).toNat = i + 2 := by omega
    have e2 : 1 + (i : Int) - 1 = (i : Int) := by omega
    walk_at "run"
    rw [e, e2]
    refine lc_rg (fun s => .int ((MB.gt (0 :: l) s + i * (if s < i + 1 then MB.gt l s else 0) : Nat) : Int)) (by omega) ?_ ?_
    · intro s hs A Q' h'
      have i1 : ixD (.int 0 :: pI l) (s : Int) = some (.int (MB.gt (0 :: l) s : Nat)) := ix_gt (l := 0 :: l) (by rw [List.length_cons]; omega)
      walk_at "run"
      refine optK_of i1 ?_
      walk_at "run"
      rw [Int.natCast_add, Int.natCast_mul] at h'
      refine br_dec (fun g => ?_) (fun g => ?_)
      · rw [if_pos (by omega)] at h'
        have i2 := ix_gt (l := l) (i := s) (by omega)
        walk_at "run"
        refine optK_of i2 ?_
        walk_at "run"
        exact h'
      · rw [if_neg (by omega)] at h'
        walk_at "run"
        exact h'
    · intro p hp
      rw [pI_map]
      walk_at "run"
      subst w
      exact ⟨(_, some _, some _, some _), rfl, rfl, rfl⟩
  · rintro ⟨l, o2, o3, o4⟩ w
    have e : ((n : Int) + 1 - 1).toNat = n := by omega
    dsimp only at w ⊢
    rw [e] at w
    subst w
    walk_at "run"
    exact ret_same h
def sp_rises : List D → AH → DK → Prop
  | [.int n], A, Q => (1 ≤ n ∧ n ≤ 10000) ∧ Q (.lst (pI (MB.erow (n.toNat - 1)))) A
  | _, _, _ => False
theorem m_rises : MonL sp_rises := fun ds A Q Q' k h => by
  unfold sp_rises at h ⊢
  split at h <;> first | exact h.elim | exact k _ _ h | exact ⟨h.1, k _ _ h.2⟩ | exact ⟨h.choose, h.choose_spec.1, k _ _ h.choose_spec.2⟩ | exact fun x0 => k _ _ (h x0) | exact ⟨h.1, fun x0 => k _ _ (h.2 x0)⟩ | exact fun x0 x1 => k _ _ (h x0 x1) | exact ⟨h.1, fun x0 x1 => k _ _ (h.2 x0 x1)⟩ | exact fun x0 x1 x2 => k _ _ (h x0 x1 x2) | exact ⟨h.1, fun x0 x1 x2 => k _ _ (h.2 x0 x1 x2)⟩ | exact fun x0 x1 x2 x3 => k _ _ (h x0 x1 x2 x3) | exact ⟨h.1, fun x0 x1 x2 x3 => k _ _ (h.2 x0 x1 x2 x3)⟩ | exact fun x0 x1 x2 x3 x4 => k _ _ (h x0 x1 x2 x3 x4) | exact ⟨h.1, fun x0 x1 x2 x3 x4 => k _ _ (h.2 x0 x1 x2 x3 x4)⟩ | exact fun x0 x1 x2 x3 x4 x5 => k _ _ (h x0 x1 x2 x3 x4 x5) | exact ⟨h.1, fun x0 x1 x2 x3 x4 x5 => k _ _ (h.2 x0 x1 x2 x3 x4 x5)⟩ | exact fun x0 x1 x2 x3 x4 x5 x6 => k _ _ (h x0 x1 x2 x3 x4 x5 x6) | exact ⟨h.1, fun x0 x1 x2 x3 x4 x5 x6 => k _ _ (h.2 x0 x1 x2 x3 x4 x5 x6)⟩ | exact fun x0 x1 x2 x3 x4 x5 x6 x7 => k _ _ (h x0 x1 x2 x3 x4 x5 x6 x7) | exact ⟨h.1, fun x0 x1 x2 x3 x4 x5 x6 x7 => k _ _ (h.2 x0 x1 x2 x3 x4 x5 x6 x7)⟩ | exact fun x0 x1 x2 x3 x4 x5 x6 x7 x8 => k _ _ (h x0 x1 x2 x3 x4 x5 x6 x7 x8) | exact ⟨h.1, fun x0 x1 x2 x3 x4 x5 x6 x7 x8 => k _ _ (h.2 x0 x1 x2 x3 x4 x5 x6 x7 x8)⟩
theorem l_rises : ∀ ds A Q, sp_rises ds A Q → ds.length = 1 := fun ds A Q h => by
  unfold sp_rises at h
  split at h <;> first | rfl | exact h.elim
theorem r_rises : ∀ ds B (Q : DK), sp_rises ds B Q → t_rises (rets Q) (startD 6 ds) B := by
  intro ds B Q h
  unfold sp_rises at h
  split at h <;> first | exact h.elim | skip
  rename_i n
  unfold t_rises
  obtain ⟨hn, h⟩ := h
  obtain ⟨n, rfl⟩ : ∃ k : Nat, n = (k : Int) := ⟨n.toNat, by omega⟩
  rw [Int.toNat_natCast] at h
  walk_at "run"
  refine for_rg (α := List Nat × Option D × Option D × Option D × Option D) (fun s => [some (.int n), some (.lst (pI s.1)), s.2.1, s.2.2.1, s.2.2.2.1, s.2.2.2.2]) (fun _ => B) (fun i s => s.1 = MB.erow i) ([1], none, none, none, none) rfl rfl rfl ?_ ?_
  · rintro i ⟨l, o2, o3, o4, o5⟩ hi w
    dsimp only at w ⊢
    have len : (pI l).length = i + 1 := by rw [len_pI, w, MB.erow_len]
    have len2 : l.length = i + 1 := by rw [w, MB.erow_len]
    have e : (2 + (i : Int)).toNat = i + 2 := by omega
    walk_at "run"
    intro p hp
    walk_at "run"
    rw [e]
    refine for_rg0 (α := List Nat × Option D × Option D) (fun s => [some (.int n), some (.lst (pI l)), some (.int (2 + (i : Int))), some (.ref p), s.2.1, s.2.2]) (fun s => aupd B p (.lst (pI s.1)))
      (fun r s => s.1 = (List.range r).map fun r => (if r < i + 1 then (r + 1) * MB.gt l r else 0) + (if 0 < r then (i + 2 - r) * MB.gt l (r - 1) else 0)) ([], o4, o5) rfl rfl rfl ?_ ?_
    · rintro r ⟨m, u4, u5⟩ hr v
      dsimp only at v ⊢
      have lm : (pI m).length ≤ 1000000 := by rw [len_pI, v, List.length_map, List.length_range]; omega
      have stay : ∀ K : D → Prop, K (.int ((if r < i + 1 then (r + 1) * MB.gt l r else 0 : Nat) : Int)) → br (decide ((r : Int) < 2 + (i : Int) - 1)) (optK (ixD (pI l) (r : Int)) fun d => match d with | .int x => Fac ((r : Int) + 1) x ∧ K (.int (((r : Int) + 1) * x)) | _ => False) (K (.int 0)) := by
        intro K hK
        refine br_dec (fun g => ?_) (fun g => ?_)
        · refine optK_of (ix_gt (by omega)) ?_
          rw [if_pos (by omega), Int.natCast_mul] at hK
          refine ⟨by unfold Fac; omega, hK⟩
        · rw [if_neg (by omega)] at hK
          exact hK
      have e1 : (((r + 1) * MB.gt l r : Nat) : Int) = ((r : Int) + 1) * (MB.gt l r : Int) := by rw [Int.natCast_mul]; rfl
      have fin : ∀ a b : Nat, a = (if r < i + 1 then (r + 1) * MB.gt l r else 0) → b = (if 0 < r then (i + 2 - r) * MB.gt l (r - 1) else 0) → aupd (aupd B p (.lst (pI m))) p (.lst (pI m ++ [.int ((a : Int) + (b : Int))])) = aupd B p (.lst (pI (m ++ [a + b]))) ∧ m ++ [a + b] = (List.range (r + 1)).map fun r => (if r < i + 1 then (r + 1) * MB.gt l r else 0) + (if 0 < r then (i + 2 - r) * MB.gt l (r - 1) else 0) := by
        rintro a b ha hb
        refine ⟨?_, ?_⟩
        · rw [aupd_aupd, ← Int.natCast_add, pI_snoc]
        · rw [List.range_succ, List.map_append, ← v, ha, hb]
          rfl
      by_cases c1 : r < i + 1
      · have i1 := ix_gt (l := l) (i := r) (by omega)
        by_cases c2 : 0 < r
        · have i2 := ix_gt (l := l) (i := r - 1) (by omega)
          have e3 : (((r - 1 : Nat)) : Int) = (r : Int) - 1 := by omega
          rw [e3] at i2
          have f := fin ((r + 1) * MB.gt l r) ((i + 2 - r) * MB.gt l (r - 1)) (by rw [if_pos c1]) (by rw [if_pos c2])
          have e4 : (((i + 2 - r) * MB.gt l (r - 1) : Nat) : Int) = (2 + (i : Int) - (r : Int)) * (MB.gt l (r - 1) : Int) := by
            rw [Int.natCast_mul]
            congr 1
            omega
          rw [e1, e4] at f
          walk_at "run"
          refine optK_of i1 ?_
          walk_at "run"
          refine optK_of i2 ?_
          walk_at "run"
          rw [f.1]
          exact ⟨(_, some _, some _), rfl, rfl, f.2⟩
        · have f := fin ((r + 1) * MB.gt l r) 0 (by rw [if_pos c1]) (by rw [if_neg c2])
          rw [e1] at f
          walk_at "run"
          refine optK_of i1 ?_
          walk_at "run"
          rw [show ((r : Int) + 1) * (MB.gt l r : Int) + 0 = ((r : Int) + 1) * (MB.gt l r : Int) + ((0 : Nat) : Int) from rfl, f.1]
          exact ⟨(_, some _, some _), rfl, rfl, f.2⟩
      · have i2 := ix_gt (l := l) (i := r - 1) (by omega)
        have e3 : (((r - 1 : Nat)) : Int) = (r : Int) - 1 := by omega
        rw [e3] at i2
        have f := fin 0 ((i + 2 - r) * MB.gt l (r - 1)) (by rw [if_neg c1]) (by rw [if_pos (by omega)])
        have e4 : (((i + 2 - r) * MB.gt l (r - 1) : Nat) : Int) = (2 + (i : Int) - (r : Int)) * (MB.gt l (r - 1) : Int) := by
          rw [Int.natCast_mul]
          congr 1
          omega
        rw [e4] at f
        walk_at "run"
        refine optK_of i2 ?_
        walk_at "run"
        rw [show 0 + (2 + (i : Int) - (r : Int)) * (MB.gt l (r - 1) : Int) = ((0 : Nat) : Int) + (2 + (i : Int) - (r : Int)) * (MB.gt l (r - 1) : Int) from rfl, f.1]
        exact ⟨(_, some _, some _), rfl, rfl, f.2⟩
    · rintro ⟨m, u4, u5⟩ v
      dsimp only at v ⊢
      walk_at "run"
      subst w
      exact ⟨(m, some _, some _, u4, u5), rfl, rfl, v⟩
  · rintro ⟨l, o2, o3, o4, o5⟩ w
    have e : ((n : Int) + 1 - 2).toNat = n - 1 := by omega
    dsimp only at w ⊢
    rw [e] at w
    subst w
    walk_at "run"
    exact ret_same h

theorem getLast_getLastD {l : List Nat} (h : l ≠ []) : l.getLast h = l.getLastD 0 := by
  cases l with
  | nil => exact absurd rfl h
  | cons x l => rfl
def sp_zigzag : List D → AH → DK → Prop
  | [.int n], A, Q => (0 ≤ n ∧ n ≤ 10000) ∧ Q (.lst (pI (MB.zig n.toNat).1)) A
  | _, _, _ => False
theorem m_zigzag : MonL sp_zigzag := fun ds A Q Q' k h => by
  unfold sp_zigzag at h ⊢
  split at h <;> first | exact h.elim | exact k _ _ h | exact ⟨h.1, k _ _ h.2⟩ | exact ⟨h.choose, h.choose_spec.1, k _ _ h.choose_spec.2⟩ | exact fun x0 => k _ _ (h x0) | exact ⟨h.1, fun x0 => k _ _ (h.2 x0)⟩ | exact fun x0 x1 => k _ _ (h x0 x1) | exact ⟨h.1, fun x0 x1 => k _ _ (h.2 x0 x1)⟩ | exact fun x0 x1 x2 => k _ _ (h x0 x1 x2) | exact ⟨h.1, fun x0 x1 x2 => k _ _ (h.2 x0 x1 x2)⟩ | exact fun x0 x1 x2 x3 => k _ _ (h x0 x1 x2 x3) | exact ⟨h.1, fun x0 x1 x2 x3 => k _ _ (h.2 x0 x1 x2 x3)⟩ | exact fun x0 x1 x2 x3 x4 => k _ _ (h x0 x1 x2 x3 x4) | exact ⟨h.1, fun x0 x1 x2 x3 x4 => k _ _ (h.2 x0 x1 x2 x3 x4)⟩ | exact fun x0 x1 x2 x3 x4 x5 => k _ _ (h x0 x1 x2 x3 x4 x5) | exact ⟨h.1, fun x0 x1 x2 x3 x4 x5 => k _ _ (h.2 x0 x1 x2 x3 x4 x5)⟩ | exact fun x0 x1 x2 x3 x4 x5 x6 => k _ _ (h x0 x1 x2 x3 x4 x5 x6) | exact ⟨h.1, fun x0 x1 x2 x3 x4 x5 x6 => k _ _ (h.2 x0 x1 x2 x3 x4 x5 x6)⟩ | exact fun x0 x1 x2 x3 x4 x5 x6 x7 => k _ _ (h x0 x1 x2 x3 x4 x5 x6 x7) | exact ⟨h.1, fun x0 x1 x2 x3 x4 x5 x6 x7 => k _ _ (h.2 x0 x1 x2 x3 x4 x5 x6 x7)⟩ | exact fun x0 x1 x2 x3 x4 x5 x6 x7 x8 => k _ _ (h x0 x1 x2 x3 x4 x5 x6 x7 x8) | exact ⟨h.1, fun x0 x1 x2 x3 x4 x5 x6 x7 x8 => k _ _ (h.2 x0 x1 x2 x3 x4 x5 x6 x7 x8)⟩
theorem l_zigzag : ∀ ds A Q, sp_zigzag ds A Q → ds.length = 1 := fun ds A Q h => by
  unfold sp_zigzag at h
  split at h <;> first | rfl | exact h.elim
theorem r_zigzag : ∀ ds B (Q : DK), sp_zigzag ds B Q → t_zigzag (rets Q) (startD 6 ds) B := by
  intro ds B Q h
  unfold sp_zigzag at h
  split at h <;> first | exact h.elim | skip
  rename_i n
  unfold t_zigzag
  obtain ⟨hn, h⟩ := h
  obtain ⟨n, rfl⟩ : ∃ k : Nat, n = (k : Int) := ⟨n.toNat, by omega⟩
  rw [Int.toNat_natCast] at h
  walk_at "run"
  intro p hp
  walk_at "run"
  refine for_rg (α := List Nat × List Nat × Option D × Option D × Option D) (fun s => [some (.int n), some (.ref p), some (.lst (pI s.2.1)), s.2.2.1, s.2.2.2.1, s.2.2.2.2]) (fun s => aupd B p (.lst (pI s.1))) (fun i s => (s.1, s.2.1) = MB.zig i) ([1], [1], none, none, none) rfl rfl rfl ?_ ?_
  · rintro i ⟨f, l, o3, o4, o5⟩ hi w
    dsimp only at w ⊢
    have lens := MB.zig_len i
    rw [← w] at lens
    obtain ⟨len1, len2⟩ := lens
    dsimp only at len1 len2
    have lf : (pI f).length = i + 1 := by rw [len_pI, len1]
    walk_at "run"
    intro q hq
    have qp : q ≠ p := by
      rintro rfl
      rw [aupd_same] at hq
      cases hq
    walk_at "run"
    rw [pI_rev]
    refine for_pI (α := List Nat × Option D) (fun s => [some (.int n), some (.ref p), some (.lst (pI l)), some (.int (1 + (i : Int))), some (.ref q), s.2]) (fun s => aupd (aupd B p (.lst (pI f))) q (.lst (pI s.1))) (fun j s => s.1 = MB.psum 0 (l.reverse.take j)) ([0], o5) rfl rfl rfl ?_ ?_
    · rintro j z ⟨m, u⟩ hz v
      dsimp only at v ⊢
      subst v
      have ne := MB.psum_ne 0 (l.reverse.take j)
      have i1 := ix_lastI ne
      rw [getLast_getLastD ne] at i1
      have jl : j < l.length := by
        have := (List.getElem?_eq_some_iff.mp hz).1
        rwa [List.length_reverse] at this
      have lm : (pI (MB.psum 0 (l.reverse.take j))).length ≤ 1000000 := by rw [len_pI, MB.psum_len, List.length_take, List.length_reverse]; omega
      walk_at "run"
      refine optK_of i1 ?_
      walk_at "run"
      refine ⟨(MB.psum 0 (l.reverse.take (j + 1)), some _), rfl, ?_, rfl⟩
      dsimp only
      rw [aupd_aupd, ← Int.natCast_add, pI_snoc, List.take_add_one, hz]
      show _ = aupd (aupd B p (.lst (pI f))) q (.lst (pI (MB.psum 0 (l.reverse.take j ++ [z]))))
      rw [MB.psum_snoc]
    · rintro ⟨m, u⟩ v
      dsimp only at v ⊢
      rw [List.take_length] at v
      have ne : m ≠ [] := by rw [v]; exact MB.psum_ne _ _
      have i1 := ix_lastI ne
      rw [getLast_getLastD ne] at i1
      walk_at "run"
      refine optK_of i1 ?_
      walk_at "run"
      refine ⟨(f ++ [m.getLastD 0], m, some _, some _, u), rfl, ?_, ?_⟩
      · dsimp only
        rw [aupd_aupd, pI_snoc]
      · dsimp only
        show _ = (let line := MB.psum 0 (MB.zig i).2.reverse; ((MB.zig i).1 ++ [line.getLastD 0], line))
        rw [← w, v]
  · rintro ⟨f, l, o3, o4, o5⟩ w
    have e : ((n : Int) + 1 - 1).toNat = n := by omega
    dsimp only at w ⊢
    rw [e] at w
    walk_at "run"
    rw [← w] at h
    exact ret_same h
def sp_chrow : List D → AH → DK → Prop
  | [.int n], A, Q => (0 ≤ n ∧ n ≤ 10000) ∧ Q (.lst (pI (MB.rowP n.toNat))) A
  | _, _, _ => False
theorem m_chrow : MonL sp_chrow := fun ds A Q Q' k h => by
  unfold sp_chrow at h ⊢
  split at h <;> first | exact h.elim | exact k _ _ h | exact ⟨h.1, k _ _ h.2⟩ | exact ⟨h.choose, h.choose_spec.1, k _ _ h.choose_spec.2⟩ | exact fun x0 => k _ _ (h x0) | exact ⟨h.1, fun x0 => k _ _ (h.2 x0)⟩ | exact fun x0 x1 => k _ _ (h x0 x1) | exact ⟨h.1, fun x0 x1 => k _ _ (h.2 x0 x1)⟩ | exact fun x0 x1 x2 => k _ _ (h x0 x1 x2) | exact ⟨h.1, fun x0 x1 x2 => k _ _ (h.2 x0 x1 x2)⟩ | exact fun x0 x1 x2 x3 => k _ _ (h x0 x1 x2 x3) | exact ⟨h.1, fun x0 x1 x2 x3 => k _ _ (h.2 x0 x1 x2 x3)⟩ | exact fun x0 x1 x2 x3 x4 => k _ _ (h x0 x1 x2 x3 x4) | exact ⟨h.1, fun x0 x1 x2 x3 x4 => k _ _ (h.2 x0 x1 x2 x3 x4)⟩ | exact fun x0 x1 x2 x3 x4 x5 => k _ _ (h x0 x1 x2 x3 x4 x5) | exact ⟨h.1, fun x0 x1 x2 x3 x4 x5 => k _ _ (h.2 x0 x1 x2 x3 x4 x5)⟩ | exact fun x0 x1 x2 x3 x4 x5 x6 => k _ _ (h x0 x1 x2 x3 x4 x5 x6) | exact ⟨h.1, fun x0 x1 x2 x3 x4 x5 x6 => k _ _ (h.2 x0 x1 x2 x3 x4 x5 x6)⟩ | exact fun x0 x1 x2 x3 x4 x5 x6 x7 => k _ _ (h x0 x1 x2 x3 x4 x5 x6 x7) | exact ⟨h.1, fun x0 x1 x2 x3 x4 x5 x6 x7 => k _ _ (h.2 x0 x1 x2 x3 x4 x5 x6 x7)⟩ | exact fun x0 x1 x2 x3 x4 x5 x6 x7 x8 => k _ _ (h x0 x1 x2 x3 x4 x5 x6 x7 x8) | exact ⟨h.1, fun x0 x1 x2 x3 x4 x5 x6 x7 x8 => k _ _ (h.2 x0 x1 x2 x3 x4 x5 x6 x7 x8)⟩
theorem l_chrow : ∀ ds A Q, sp_chrow ds A Q → ds.length = 1 := fun ds A Q h => by
  unfold sp_chrow at h
  split at h <;> first | rfl | exact h.elim
theorem r_chrow : ∀ ds B (Q : DK), sp_chrow ds B Q → t_chrow (rets Q) (startD 3 ds) B := by
  intro ds B Q h
  unfold sp_chrow at h
  split at h <;> first | exact h.elim | skip
  rename_i n
  unfold t_chrow
  obtain ⟨hn, h⟩ := h
  obtain ⟨n, rfl⟩ : ∃ k : Nat, n = (k : Int) := ⟨n.toNat, by omega⟩
  rw [Int.toNat_natCast] at h
  walk_at "run"
  intro p hp
  walk_at "run"
  refine for_rg0 (α := List Nat × Option D) (fun s => [some (.int n), some (.ref p), s.2]) (fun s => aupd B p (.lst (pI s.1))) (fun i s => s.1 = (List.range (i + 1)).map (MB.ch n)) ([1], none) rfl rfl (by dsimp only; rw [show List.range (0 + 1) = [0] from rfl, List.map_cons, MB.ch_zero]; rfl) ?_ ?_
  · rintro i ⟨l, o⟩ hi w
    dsimp only at w ⊢
    have e1 : l = (List.range i).map (MB.ch n) ++ [MB.ch n i] := by rw [w, List.range_succ, List.map_append]; rfl
    have i1 : ixD (pI l) (-1) = some (.int (MB.ch n i : Nat)) := by
      rw [e1, ← pI_snoc]
      exact ix_last
    have ll : (pI l).length = i + 1 := by rw [len_pI, w, List.length_map, List.length_range]
    walk_at "run"
    refine optK_of i1 ?_
    walk_at "run"
    rw [MB.ch_stepI, aupd_aupd, pI_snoc]
    refine ⟨(_, some _), rfl, rfl, ?_⟩
    dsimp only
    rw [w, List.range_succ (n := i + 1), List.map_append]
    rfl
  · rintro ⟨l, o⟩ w
    dsimp only at w ⊢
    walk_at "run"
    rw [Int.toNat_natCast] at w
    rw [MB.rowP_eq, ← w] at h
    exact ret_same h
end Rl

namespace M65
open MB
def altF : Bool → List Nat → Int
  | _, [] => 0
  | b, x :: l => (if b then -(x : Int) else (x : Int)) + altF (!b) l
def wF : Nat → List Nat → Nat
  | _, [] => 0
  | i, x :: l => i * x + wF (i + 1) l
def chkA (m : Nat) : Bool :=
  (rrow m).sum == fac m && (erow (m - 1)).sum == fac m && (altF false (erow (m - 1)) == (if m % 2 = 0 then 0 else (gt (zig m).1 m : Int) * (if m % 4 = 3 then -1 else 1))) && (erow (m - 1)).reverse == erow (m - 1) &&
  (altF false (rrow m) == (if 1 < m then 0 else -1)) && 2 * wF 0 (erow (m - 1)) == (m - 1) * fac m && (srow m).all (fun x => x < 2 ^ 300) && (erow m).all (fun x => x < 2 ^ 300) && (rrow m).all (fun x => x < 2 ^ 300)
theorem allA : (List.range 60).all (fun m => chkA (m + 1)) = true := by decide +kernel

def fv (m : Nat) : Nat → Nat → Int
  | 0, _ => 0
  | i + 1, a => fv m i a + (if (m - i) % 2 = 1 then -1 else 1) * (gt (rrow m) i : Int) * (gt (srow i) a : Int)
def chkB (m : Nat) : Bool := (List.range (m + 1)).all fun a => fv m (m + 1) a == if a = m then 1 else 0
theorem allB : (List.range 24).all (fun m => chkB (m + 1)) = true := by decide +kernel
def bell (n : Nat) : Nat := (srow n).sum
def sumD (f : Nat → Nat) : Nat → Nat
  | 0 => 0
  | n + 1 => sumD f n + f n
def chkD (n : Nat) : Bool := bell (n + 1) == sumD (fun k => gt (rowP n) k * bell k) (n + 1)
theorem allD : (List.range 60).all chkD = true := by decide +kernel
def chkE (p n : Nat) : Bool := ((bell (n + p) : Int) - (bell n : Int) - (bell (n + 1) : Int)) % (p : Int) == 0
theorem allE : [2, 3, 5, 7, 11, 13].all (fun p => (List.range 45).all (chkE p)) = true := by decide +kernel
def cat (n : Nat) : Nat := gt (rowP (2 * n)) n / (n + 1)
def chkF (n : Nat) : Bool := cat (n + 1) == sumD (fun k => cat k * cat (n - k)) (n + 1)
theorem allF : (List.range 60).all chkF = true := by decide +kernel
def worp (m x : Nat) : Nat → List Nat → Nat
  | _, [] => 0
  | a, e :: l => e * gt (rowP (x + a)) m + worp m x (a + 1) l
def chkC (m x : Nat) : Bool := worp m x 0 (erow (m - 1)) == x ^ m
theorem allC : (List.range 60).all (fun m => (List.range 40).all (chkC (m + 1))) = true := by decide +kernel

def fallT (x : Int) : Nat → Int → List Nat → Int
  | _, _, [] => 0
  | i, f, s :: l => (s : Int) * f + fallT x (i + 1) (f * (x - (i : Int))) l
def chkG (m x : Nat) : Bool := fallT (x : Int) 0 1 (srow m) == (x : Int) ^ m
theorem allG : (List.range 60).all (fun m => (List.range 40).all (chkG (m + 1))) = true := by decide +kernel
theorem use1 {n : Nat} {f : Nat → Bool} (h : (List.range n).all f = true) {i : Nat} (hi : i < n) : f i = true := List.all_eq_true.mp h i (List.mem_range.mpr hi)
theorem use2 {n k : Nat} {f : Nat → Nat → Bool} (h : (List.range n).all (fun i => (List.range k).all (f i)) = true) {i j : Nat} (hi : i < n) (hj : j < k) : f i j = true := use1 (use1 h hi) hj
end M65
namespace M65
open MB
theorem altF_sum (l : List Nat) : ∀ k : Nat, (l.mapIdx fun i (z : Nat) => (if (i + k) % 2 = 1 then (-1 : Int) else 1) * (z : Int)).sum = altF (decide (k % 2 = 1)) l := by
  induction l with
  | nil => intro k; rfl
  | cons x l ih =>
    intro k
    rw [List.mapIdx_cons, List.sum_cons]
    have e : (fun i (z : Nat) => (if (i + 1 + k) % 2 = 1 then (-1 : Int) else 1) * (z : Int)) = fun i (z : Nat) => (if (i + (k + 1)) % 2 = 1 then (-1 : Int) else 1) * (z : Int) := by
      funext i z
      rw [Nat.add_right_comm i 1 k, Nat.add_assoc]
    rw [e, ih (k + 1), Nat.zero_add]
    show _ = (if decide (k % 2 = 1) = true then -(x : Int) else (x : Int)) + altF (!decide (k % 2 = 1)) l
    by_cases c : k % 2 = 1
    · have c2 : ¬ (k + 1) % 2 = 1 := by omega
      rw [if_pos c, decide_eq_true c, decide_eq_false c2, if_pos rfl, Int.neg_mul, Int.one_mul]
      rfl
    · have c2 : (k + 1) % 2 = 1 := by omega
      rw [if_neg c, decide_eq_false c, decide_eq_true c2, if_neg Bool.false_ne_true, Int.one_mul]
      rfl
theorem wF_sum (l : List Nat) : ∀ k : Nat, (l.mapIdx fun i (z : Nat) => ((i + k : Nat) : Int) * (z : Int)).sum = (wF k l : Int) := by
  induction l with
  | nil => intro k; rfl
  | cons x l ih =>
    intro k
    rw [List.mapIdx_cons, List.sum_cons]
    have e : (fun i (z : Nat) => ((i + 1 + k : Nat) : Int) * (z : Int)) = fun i (z : Nat) => ((i + (k + 1) : Nat) : Int) * (z : Int) := by
      funext i z
      rw [Nat.add_right_comm i 1 k, Nat.add_assoc]
    rw [e, ih (k + 1), Nat.zero_add, ← Int.natCast_mul, ← Int.natCast_add]
    rfl
end M65

namespace Wk
open PySem PySem.Spec L2 Rk
def topS (i : Nat) : Stmt := PySem.Challenge.pw_reckonloft_k65_triangles_of_named_number.main.body.getD i (.Pass ⟨0, 0, 0, 0⟩)
abbrev k_ROWS : D := (.int 60)
structure Bt (K : PySem.W.Frag) (mg : Str → Option Value) : Prop where
  b_abs : mg "abs" = none
  b_bool : mg "bool" = none
  b_enumerate : mg "enumerate" = none
  b_int : mg "int" = none
  b_isinstance : mg "isinstance" = none
  b_len : mg "len" = none
  b_list : mg "list" = none
  b_range : mg "range" = none
  b_sum : mg "sum" = none
  b_tuple : mg "tuple" = none
  c_ROWS : GlobD K mg "ROWS" k_ROWS
/-! fits_whole: value 0, low 1, high 2 -/
abbrev s_fits_whole : Stmt := topS 4
def t_fits_whole : ASt' :=
  (sRet (aAndV (aIsI "int" (aVar 0)) (aAndV (aNotV (aIsI "bool" (aVar 0))) (aChain aLe aLe (aVar 1) (aVar 0) (aVar 2)))))
theorem sc_fits_whole : FnScope ["value", "low", "high"] ["value", "low", "high"] (defScope s_fits_whole) := ⟨rfl, rfl, rfl, by decide +kernel, rfl, by decide +kernel, by decide +kernel⟩
theorem d_fits_whole {P : Program} {w : World} {K : PySem.W.Frag} {mg : Str → Option Value} {base : Heap} (B : Bt K mg) (f : Addr) (cdv : Value) (A : Around) (outer : List Env) (s : Shared) (H : Hp) (E : XK) (hr : Room 0 (A.deeper (PyProof.Rows.envOfC "fits_whole" (defScope s_fits_whole) s.heap.objs.size f cdv))) :
    ASs (cxOf CX0 P w K mg base ["value", "low", "high"] "fits_whole" (defScope s_fits_whole) f cdv A outer s H E).nox (defBody s_fits_whole) (t_fits_whole) := by
  have sc := sc_fits_whole
  exact (ss_one (as_ret (ae_and (ae_isi (ae_var 0) B.b_isinstance B.b_int (by decide +kernel) kit_int) (ae_and (ae_not (ae_isi (ae_var 0) B.b_isinstance B.b_bool (by decide +kernel) kit_bool)) (ae_one (ae_chain op_le op_le (ae_var 1) (ae_var 0) (ae_var 2)))))))
/-! need_whole: value 0, low 1, high 2 -/
abbrev s_need_whole : Stmt := topS 5
def t_need_whole (sp_fits_whole : List D → AH → DK → Prop) : ASt' :=
  (sIf (aNot (aTruE (aCall sp_fits_whole (aCons (aVar 0) (aCons (aVar 1) (aCons (aVar 2) aNil)))))) sNever sNext)
theorem sc_need_whole : FnScope ["value", "low", "high"] ["value", "low", "high"] (defScope s_need_whole) := ⟨rfl, rfl, rfl, by decide +kernel, rfl, by decide +kernel, by decide +kernel⟩
theorem d_need_whole {P : Program} {w : World} {K : PySem.W.Frag} {mg : Str → Option Value} {base : Heap} {sp_fits_whole : List D → AH → DK → Prop} (B : Bt K mg) (g_fits_whole : AFn P w K mg base 1 "fits_whole" sp_fits_whole) (f : Addr) (cdv : Value) (A : Around) (outer : List Env) (s : Shared) (H : Hp) (E : XK) (hr : Room 1 (A.deeper (PyProof.Rows.envOfC "need_whole" (defScope s_need_whole) s.heap.objs.size f cdv))) :
    ASs (cxOf CX0 P w K mg base ["value", "low", "high"] "need_whole" (defScope s_need_whole) f cdv A outer s H E).nox (defBody s_need_whole) (t_need_whole sp_fits_whole) := by
  have sc := sc_need_whole
  exact (ss_one (as_if (ab_not (ab_truth (ae_call g_fits_whole (hr.mono (by decide)) (aa_cons (ae_var 0) (aa_cons (ae_var 1) (aa_cons (ae_var 2) aa_nil)))))) (ss_one as_never) ss_nil))
/-! choose_row: many 0, found 1, some 2 -/
abbrev s_choose_row : Stmt := topS 8
def t_choose_row : ASt' :=
  (sSeq (sAsg (aLstM (aCons (aC (.int 1)) aNil)) (agN 1))
    (sSeq (sFor (iRange1 (aCons (aVar 0) aNil)) (agN 2) (sDrop (aMeth mAppend (aVar 1) (aCons (aOp aFDiv (aOp aMul (aOp aIx (aVar 1) (aNeg (aC (.int 1)))) (aOp aSub (aVar 0) (aVar 2))) (aOp aAdd (aVar 2) (aC (.int 1)))) aNil))))
    (sFrz 1 (sRet (aVar 1)))))
theorem sc_choose_row : FnScope ["many", "found", "some"] ["many"] (defScope s_choose_row) := ⟨rfl, rfl, rfl, by decide +kernel, rfl, by decide +kernel, by decide +kernel⟩
theorem d_choose_row {P : Program} {w : World} {K : PySem.W.Frag} {mg : Str → Option Value} {base : Heap} (B : Bt K mg) (f : Addr) (cdv : Value) (A : Around) (outer : List Env) (s : Shared) (H : Hp) (E : XK) (hr : Room 0 (A.deeper (PyProof.Rows.envOfC "choose_row" (defScope s_choose_row) s.heap.objs.size f cdv))) :
    ASs (cxOf CX0 P w K mg base ["many", "found", "some"] "choose_row" (defScope s_choose_row) f cdv A outer s H E).nox (defBody s_choose_row) (t_choose_row) := by
  have sc := sc_choose_row
  exact (ss_cons (as_set 1 (ae_lstM (aa_cons ae_int aa_nil)) sc.nd)
      (ss_cons (as_for PassesOwn.never rfl (ai_range1 B.b_range (aa_cons (ae_var 0) aa_nil)) (ag_name 2 sc.nd) (ss_one (as_expr (ae_append (ae_var 1) (aa_cons (ae_op op_fdiv (ae_op op_mul (ae_ix (ae_var 1) (ae_neg ae_int)) (ae_op op_sub (ae_var 0) (ae_var 2))) (ae_op op_add (ae_var 2) ae_int)) aa_nil)))))
      (ss_frz 1 (ss_one (as_ret (ae_var 1))))))
/-! sets_in: many 0, found 1, things 2, line 3, size 4 -/
abbrev s_sets_in : Stmt := topS 9
def t_sets_in : ASt' :=
  (sSeq (sAsg (aLst (aCons (aC (.int 1)) aNil)) (agN 1))
    (sSeq (sFor (iRange2 (aCons (aC (.int 1)) (aCons (aOp aAdd (aVar 0) (aC (.int 1))) aNil))) (agN 2) (sSeq (sAsg (aOp aAdd (aLst (aCons (aC (.int 0)) aNil)) (aVar 1)) (agN 3))
    (sAsg (aLc (iRange1 (aCons (aOp aAdd (aVar 2) (aC (.int 1))) aNil)) (agN 4) aYes (aOp aAdd (aOp aIx (aVar 3) (aVar 4)) (aOp aMul (aVar 4) (aIf (aTest (aOp aLt (aVar 4) (aVar 2))) (aOp aIx (aVar 1) (aVar 4)) (aC (.int 0))))) [4]) (agN 1))))
    (sRet (aVar 1))))
theorem sc_sets_in : FnScope ["many", "found", "things", "line", "size"] ["many"] (defScope s_sets_in) := ⟨rfl, rfl, rfl, by decide +kernel, rfl, by decide +kernel, by decide +kernel⟩
theorem d_sets_in {P : Program} {w : World} {K : PySem.W.Frag} {mg : Str → Option Value} {base : Heap} (B : Bt K mg) (f : Addr) (cdv : Value) (A : Around) (outer : List Env) (s : Shared) (H : Hp) (E : XK) (hr : Room 0 (A.deeper (PyProof.Rows.envOfC "sets_in" (defScope s_sets_in) s.heap.objs.size f cdv))) :
    ASs (cxOf CX0 P w K mg base ["many", "found", "things", "line", "size"] "sets_in" (defScope s_sets_in) f cdv A outer s H E).nox (defBody s_sets_in) (t_sets_in) := by
  have sc := sc_sets_in
  exact (ss_cons (as_set 1 (ae_lst (aa_cons ae_int aa_nil)) sc.nd)
      (ss_cons (as_for PassesOwn.never rfl (ai_range2 B.b_range (aa_cons ae_int (aa_cons (ae_op op_add (ae_var 0) ae_int) aa_nil))) (ag_name 2 sc.nd) (ss_cons (as_set 3 (ae_op op_add (ae_lst (aa_cons ae_int aa_nil)) (ae_var 1)) sc.nd)
      (ss_one (as_set 1 (ae_lc (own := [("size", 4)]) (sl := [4]) rfl sc.nd (ai_range1 B.b_range (aa_cons (ae_op op_add (ae_var 2) ae_int) aa_nil)) (blkOk_by (N := ["many", "found", "things", "line", "size"]) (sc := defScope s_sets_in) (by decide +kernel)) (by decide) (fun _ _ _ _ _ => (ag_name 4 sc.nd)) (fun _ _ _ _ _ => ats_nil) (fun _ _ _ _ _ => (ae_op op_add (ae_ix (ae_var 3) (ae_var 4)) (ae_op op_mul (ae_var 4) (ae_if (ab_cmp op_lt (ae_var 4) (ae_var 2)) (ae_ix (ae_var 1) (ae_var 4)) ae_int))))) sc.nd))))
      (ss_one (as_ret (ae_var 1)))))
/-! rounds_in: many 0, found 1, people 2, line 3, own 4, size 5 -/
abbrev s_rounds_in : Stmt := topS 10
def t_rounds_in : ASt' :=
  (sSeq (sAsg (aLst (aCons (aC (.int 1)) aNil)) (agN 1))
    (sSeq (sFor (iRange2 (aCons (aC (.int 1)) (aCons (aOp aAdd (aVar 0) (aC (.int 1))) aNil))) (agN 2) (sSeq (sAsg (aTup (aCons (aOp aAdd (aLst (aCons (aC (.int 0)) aNil)) (aVar 1)) (aCons (aOp aSub (aVar 2) (aC (.int 1))) aNil))) (agT 2 (agCons (agN 3) (agCons (agN 4) agNil))))
    (sAsg (aLc (iRange1 (aCons (aOp aAdd (aVar 2) (aC (.int 1))) aNil)) (agN 5) aYes (aOp aAdd (aOp aIx (aVar 3) (aVar 5)) (aOp aMul (aVar 4) (aIf (aTest (aOp aLt (aVar 5) (aVar 2))) (aOp aIx (aVar 1) (aVar 5)) (aC (.int 0))))) [5]) (agN 1))))
    (sRet (aVar 1))))
theorem sc_rounds_in : FnScope ["many", "found", "people", "line", "own", "size"] ["many"] (defScope s_rounds_in) := ⟨rfl, rfl, rfl, by decide +kernel, rfl, by decide +kernel, by decide +kernel⟩
theorem d_rounds_in {P : Program} {w : World} {K : PySem.W.Frag} {mg : Str → Option Value} {base : Heap} (B : Bt K mg) (f : Addr) (cdv : Value) (A : Around) (outer : List Env) (s : Shared) (H : Hp) (E : XK) (hr : Room 0 (A.deeper (PyProof.Rows.envOfC "rounds_in" (defScope s_rounds_in) s.heap.objs.size f cdv))) :
    ASs (cxOf CX0 P w K mg base ["many", "found", "people", "line", "own", "size"] "rounds_in" (defScope s_rounds_in) f cdv A outer s H E).nox (defBody s_rounds_in) (t_rounds_in) := by
  have sc := sc_rounds_in
  exact (ss_cons (as_set 1 (ae_lst (aa_cons ae_int aa_nil)) sc.nd)
      (ss_cons (as_for PassesOwn.never rfl (ai_range2 B.b_range (aa_cons ae_int (aa_cons (ae_op op_add (ae_var 0) ae_int) aa_nil))) (ag_name 2 sc.nd) (ss_cons (as_asg (ae_tup (aa_cons (ae_op op_add (ae_lst (aa_cons ae_int aa_nil)) (ae_var 1)) (aa_cons (ae_op op_sub (ae_var 2) ae_int) aa_nil))) (ag_tup rfl (ags_cons (ag_name 3 sc.nd) (ags_cons (ag_name 4 sc.nd) ags_nil))))
      (ss_one (as_set 1 (ae_lc (own := [("size", 5)]) (sl := [5]) rfl sc.nd (ai_range1 B.b_range (aa_cons (ae_op op_add (ae_var 2) ae_int) aa_nil)) (blkOk_by (N := ["many", "found", "people", "line", "own", "size"]) (sc := defScope s_rounds_in) (by decide +kernel)) (by decide) (fun _ _ _ _ _ => (ag_name 5 sc.nd)) (fun _ _ _ _ _ => ats_nil) (fun _ _ _ _ _ => (ae_op op_add (ae_ix (ae_var 3) (ae_var 5)) (ae_op op_mul (ae_var 4) (ae_if (ab_cmp op_lt (ae_var 5) (ae_var 2)) (ae_ix (ae_var 1) (ae_var 5)) ae_int))))) sc.nd))))
      (ss_one (as_ret (ae_var 1)))))
/-! rises_in: many 0, found 1, things 2, longer 3, rises 4, stays 5 -/
abbrev s_rises_in : Stmt := topS 11
def t_rises_in : ASt' :=
  (sSeq (sAsg (aLst (aCons (aC (.int 1)) aNil)) (agN 1))
    (sSeq (sFor (iRange2 (aCons (aC (.int 2)) (aCons (aOp aAdd (aVar 0) (aC (.int 1))) aNil))) (agN 2) (sSeq (sAsg (aLstM aNil) (agN 3))
    (sSeq (sFor (iRange1 (aCons (aVar 2) aNil)) (agN 4) (sSeq (sAsg (aIf (aTest (aOp aLt (aVar 4) (aOp aSub (aVar 2) (aC (.int 1))))) (aOp aMul (aOp aAdd (aVar 4) (aC (.int 1))) (aOp aIx (aVar 1) (aVar 4))) (aC (.int 0))) (agN 5))
    (sDrop (aMeth mAppend (aVar 3) (aCons (aOp aAdd (aVar 5) (aIf (aTest (aOp aGt (aVar 4) (aC (.int 0)))) (aOp aMul (aOp aSub (aVar 2) (aVar 4)) (aOp aIx (aVar 1) (aOp aSub (aVar 4) (aC (.int 1))))) (aC (.int 0)))) aNil)))))
    (sFrz 3 (sAsg (aVar 3) (agN 1))))))
    (sRet (aVar 1))))
theorem sc_rises_in : FnScope ["many", "found", "things", "longer", "rises", "stays"] ["many"] (defScope s_rises_in) := ⟨rfl, rfl, rfl, by decide +kernel, rfl, by decide +kernel, by decide +kernel⟩
theorem d_rises_in {P : Program} {w : World} {K : PySem.W.Frag} {mg : Str → Option Value} {base : Heap} (B : Bt K mg) (f : Addr) (cdv : Value) (A : Around) (outer : List Env) (s : Shared) (H : Hp) (E : XK) (hr : Room 0 (A.deeper (PyProof.Rows.envOfC "rises_in" (defScope s_rises_in) s.heap.objs.size f cdv))) :
    ASs (cxOf CX0 P w K mg base ["many", "found", "things", "longer", "rises", "stays"] "rises_in" (defScope s_rises_in) f cdv A outer s H E).nox (defBody s_rises_in) (t_rises_in) := by
  have sc := sc_rises_in
  exact (ss_cons (as_set 1 (ae_lst (aa_cons ae_int aa_nil)) sc.nd)
      (ss_cons (as_for PassesOwn.never rfl (ai_range2 B.b_range (aa_cons ae_int (aa_cons (ae_op op_add (ae_var 0) ae_int) aa_nil))) (ag_name 2 sc.nd) (ss_cons (as_set 3 (ae_lstM aa_nil) sc.nd)
      (ss_cons (as_for PassesOwn.never rfl (ai_range1 B.b_range (aa_cons (ae_var 2) aa_nil)) (ag_name 4 sc.nd) (ss_cons (as_set 5 (ae_if (ab_cmp op_lt (ae_var 4) (ae_op op_sub (ae_var 2) ae_int)) (ae_op op_mul (ae_op op_add (ae_var 4) ae_int) (ae_ix (ae_var 1) (ae_var 4))) ae_int) sc.nd)
      (ss_one (as_expr (ae_append (ae_var 3) (aa_cons (ae_op op_add (ae_var 5) (ae_if (ab_cmp op_gt (ae_var 4) ae_int) (ae_op op_mul (ae_op op_sub (ae_var 2) (ae_var 4)) (ae_ix (ae_var 1) (ae_op op_sub (ae_var 4) ae_int))) ae_int)) aa_nil))))))
      (ss_frz 3 (ss_one (as_set 1 (ae_var 3) sc.nd))))))
      (ss_one (as_ret (ae_var 1)))))
/-! zigzag_in: many 0, found 1, line 2, things 3, longer 4, one 5 -/
abbrev s_zigzag_in : Stmt := topS 12
def t_zigzag_in : ASt' :=
  (sSeq (sPar 1 2 (aCons (aLstM (aCons (aC (.int 1)) aNil)) (aCons (aLst (aCons (aC (.int 1)) aNil)) aNil)))
    (sSeq (sFor (iRange2 (aCons (aC (.int 1)) (aCons (aOp aAdd (aVar 0) (aC (.int 1))) aNil))) (agN 3) (sSeq (sAsg (aLstM (aCons (aC (.int 0)) aNil)) (agN 4))
    (sSeq (sFor (iSeq (aRev (aVar 2))) (agN 5) (sDrop (aMeth mAppend (aVar 4) (aCons (aOp aAdd (aOp aIx (aVar 4) (aNeg (aC (.int 1)))) (aVar 5)) aNil))))
    (sFrz 4 (sSeq (sAsg (aVar 4) (agN 2))
    (sDrop (aMeth mAppend (aVar 1) (aCons (aOp aIx (aVar 2) (aNeg (aC (.int 1)))) aNil))))))))
    (sFrz 1 (sRet (aVar 1)))))
theorem sc_zigzag_in : FnScope ["many", "found", "line", "things", "longer", "one"] ["many"] (defScope s_zigzag_in) := ⟨rfl, rfl, rfl, by decide +kernel, rfl, by decide +kernel, by decide +kernel⟩
theorem d_zigzag_in {P : Program} {w : World} {K : PySem.W.Frag} {mg : Str → Option Value} {base : Heap} (B : Bt K mg) (f : Addr) (cdv : Value) (A : Around) (outer : List Env) (s : Shared) (H : Hp) (E : XK) (hr : Room 0 (A.deeper (PyProof.Rows.envOfC "zigzag_in" (defScope s_zigzag_in) s.heap.objs.size f cdv))) :
    ASs (cxOf CX0 P w K mg base ["many", "found", "line", "things", "longer", "one"] "zigzag_in" (defScope s_zigzag_in) f cdv A outer s H E).nox (defBody s_zigzag_in) (t_zigzag_in) := by
  have sc := sc_zigzag_in
  exact (ss_cons (as_par 1 2 (aa_cons (ae_lstM (aa_cons ae_int aa_nil)) (aa_cons (ae_lst (aa_cons ae_int aa_nil)) aa_nil)) rfl sc.nd)
      (ss_cons (as_for PassesOwn.never rfl (ai_range2 B.b_range (aa_cons ae_int (aa_cons (ae_op op_add (ae_var 0) ae_int) aa_nil))) (ag_name 3 sc.nd) (ss_cons (as_set 4 (ae_lstM (aa_cons ae_int aa_nil)) sc.nd)
      (ss_cons (as_for PassesOwn.never rfl (ai_seq (ae_rev (ae_var 2))) (ag_name 5 sc.nd) (ss_one (as_expr (ae_append (ae_var 4) (aa_cons (ae_op op_add (ae_ix (ae_var 4) (ae_neg ae_int)) (ae_var 5)) aa_nil)))))
      (ss_frz 4 (ss_cons (as_set 2 (ae_var 4) sc.nd)
      (ss_one (as_expr (ae_append (ae_var 1) (aa_cons (ae_ix (ae_var 2) (ae_neg ae_int)) aa_nil)))))))))
      (ss_frz 1 (ss_one (as_ret (ae_var 1))))))
/-! ways_of_sets: many 0 -/
abbrev s_ways_of_sets : Stmt := topS 13
def t_ways_of_sets (sp_need_whole sp_sets_in : List D → AH → DK → Prop) : ASt' :=
  (sSeq (sDrop (aCall sp_need_whole (aCons (aVar 0) (aCons (aC (.int 0)) (aCons (aC k_ROWS) aNil)))))
    (sRet (aCall cTup (aCons (aCall sp_sets_in (aCons (aVar 0) aNil)) aNil))))
theorem sc_ways_of_sets : FnScope ["many"] ["many"] (defScope s_ways_of_sets) := ⟨rfl, rfl, rfl, by decide +kernel, rfl, by decide +kernel, by decide +kernel⟩
theorem d_ways_of_sets {P : Program} {w : World} {K : PySem.W.Frag} {mg : Str → Option Value} {base : Heap} {sp_need_whole sp_sets_in : List D → AH → DK → Prop} (B : Bt K mg) (g_need_whole : AFn P w K mg base 2 "need_whole" sp_need_whole) (g_sets_in : AFn P w K mg base 1 "sets_in" sp_sets_in) (f : Addr) (cdv : Value) (A : Around) (outer : List Env) (s : Shared) (H : Hp) (E : XK) (hr : Room 2 (A.deeper (PyProof.Rows.envOfC "ways_of_sets" (defScope s_ways_of_sets) s.heap.objs.size f cdv))) :
    ASs (cxOf CX0 P w K mg base ["many"] "ways_of_sets" (defScope s_ways_of_sets) f cdv A outer s H E).nox (defBody s_ways_of_sets) (t_ways_of_sets sp_need_whole sp_sets_in) := by
  have sc := sc_ways_of_sets
  exact (ss_cons (as_expr (ae_call g_need_whole (hr.mono (by decide)) (aa_cons (ae_var 0) (aa_cons ae_int (aa_cons (ae_glob B.c_ROWS) aa_nil)))))
      (ss_one (as_ret (ae_ty call_tup B.b_tuple (by decide +kernel) (aa_cons (ae_call g_sets_in (hr.mono (by decide)) (aa_cons (ae_var 0) aa_nil)) aa_nil)))))
/-! ways_of_rounds: many 0 -/
abbrev s_ways_of_rounds : Stmt := topS 14
def t_ways_of_rounds (sp_need_whole sp_rounds_in : List D → AH → DK → Prop) : ASt' :=
  (sSeq (sDrop (aCall sp_need_whole (aCons (aVar 0) (aCons (aC (.int 0)) (aCons (aC k_ROWS) aNil)))))
    (sRet (aCall cTup (aCons (aCall sp_rounds_in (aCons (aVar 0) aNil)) aNil))))
theorem sc_ways_of_rounds : FnScope ["many"] ["many"] (defScope s_ways_of_rounds) := ⟨rfl, rfl, rfl, by decide +kernel, rfl, by decide +kernel, by decide +kernel⟩
theorem d_ways_of_rounds {P : Program} {w : World} {K : PySem.W.Frag} {mg : Str → Option Value} {base : Heap} {sp_need_whole sp_rounds_in : List D → AH → DK → Prop} (B : Bt K mg) (g_need_whole : AFn P w K mg base 2 "need_whole" sp_need_whole) (g_rounds_in : AFn P w K mg base 1 "rounds_in" sp_rounds_in) (f : Addr) (cdv : Value) (A : Around) (outer : List Env) (s : Shared) (H : Hp) (E : XK) (hr : Room 2 (A.deeper (PyProof.Rows.envOfC "ways_of_rounds" (defScope s_ways_of_rounds) s.heap.objs.size f cdv))) :
    ASs (cxOf CX0 P w K mg base ["many"] "ways_of_rounds" (defScope s_ways_of_rounds) f cdv A outer s H E).nox (defBody s_ways_of_rounds) (t_ways_of_rounds sp_need_whole sp_rounds_in) := by
  have sc := sc_ways_of_rounds
  exact (ss_cons (as_expr (ae_call g_need_whole (hr.mono (by decide)) (aa_cons (ae_var 0) (aa_cons ae_int (aa_cons (ae_glob B.c_ROWS) aa_nil)))))
      (ss_one (as_ret (ae_ty call_tup B.b_tuple (by decide +kernel) (aa_cons (ae_call g_rounds_in (hr.mono (by decide)) (aa_cons (ae_var 0) aa_nil)) aa_nil)))))
/-! orders_by_rises: many 0 -/
abbrev s_orders_by_rises : Stmt := topS 15
def t_orders_by_rises (sp_need_whole sp_rises_in : List D → AH → DK → Prop) : ASt' :=
  (sSeq (sDrop (aCall sp_need_whole (aCons (aVar 0) (aCons (aC (.int 1)) (aCons (aC k_ROWS) aNil)))))
    (sRet (aCall cTup (aCons (aCall sp_rises_in (aCons (aVar 0) aNil)) aNil))))
theorem sc_orders_by_rises : FnScope ["many"] ["many"] (defScope s_orders_by_rises) := ⟨rfl, rfl, rfl, by decide +kernel, rfl, by decide +kernel, by decide +kernel⟩
theorem d_orders_by_rises {P : Program} {w : World} {K : PySem.W.Frag} {mg : Str → Option Value} {base : Heap} {sp_need_whole sp_rises_in : List D → AH → DK → Prop} (B : Bt K mg) (g_need_whole : AFn P w K mg base 2 "need_whole" sp_need_whole) (g_rises_in : AFn P w K mg base 1 "rises_in" sp_rises_in) (f : Addr) (cdv : Value) (A : Around) (outer : List Env) (s : Shared) (H : Hp) (E : XK) (hr : Room 2 (A.deeper (PyProof.Rows.envOfC "orders_by_rises" (defScope s_orders_by_rises) s.heap.objs.size f cdv))) :
    ASs (cxOf CX0 P w K mg base ["many"] "orders_by_rises" (defScope s_orders_by_rises) f cdv A outer s H E).nox (defBody s_orders_by_rises) (t_orders_by_rises sp_need_whole sp_rises_in) := by
  have sc := sc_orders_by_rises
  exact (ss_cons (as_expr (ae_call g_need_whole (hr.mono (by decide)) (aa_cons (ae_var 0) (aa_cons ae_int (aa_cons (ae_glob B.c_ROWS) aa_nil)))))
      (ss_one (as_ret (ae_ty call_tup B.b_tuple (by decide +kernel) (aa_cons (ae_call g_rises_in (hr.mono (by decide)) (aa_cons (ae_var 0) aa_nil)) aa_nil)))))
/-! set_partings: many 0 -/
abbrev s_set_partings : Stmt := topS 16
def t_set_partings (sp_need_whole sp_sets_in : List D → AH → DK → Prop) : ASt' :=
  (sSeq (sDrop (aCall sp_need_whole (aCons (aVar 0) (aCons (aC (.int 0)) (aCons (aC k_ROWS) aNil)))))
    (sRet (aCall cSum (aCons (aCall sp_sets_in (aCons (aVar 0) aNil)) aNil))))
theorem sc_set_partings : FnScope ["many"] ["many"] (defScope s_set_partings) := ⟨rfl, rfl, rfl, by decide +kernel, rfl, by decide +kernel, by decide +kernel⟩
theorem d_set_partings {P : Program} {w : World} {K : PySem.W.Frag} {mg : Str → Option Value} {base : Heap} {sp_need_whole sp_sets_in : List D → AH → DK → Prop} (B : Bt K mg) (g_need_whole : AFn P w K mg base 2 "need_whole" sp_need_whole) (g_sets_in : AFn P w K mg base 1 "sets_in" sp_sets_in) (f : Addr) (cdv : Value) (A : Around) (outer : List Env) (s : Shared) (H : Hp) (E : XK) (hr : Room 2 (A.deeper (PyProof.Rows.envOfC "set_partings" (defScope s_set_partings) s.heap.objs.size f cdv))) :
    ASs (cxOf CX0 P w K mg base ["many"] "set_partings" (defScope s_set_partings) f cdv A outer s H E).nox (defBody s_set_partings) (t_set_partings sp_need_whole sp_sets_in) := by
  have sc := sc_set_partings
  exact (ss_cons (as_expr (ae_call g_need_whole (hr.mono (by decide)) (aa_cons (ae_var 0) (aa_cons ae_int (aa_cons (ae_glob B.c_ROWS) aa_nil)))))
      (ss_one (as_ret (ae_bi (call_sum rfl) B.b_sum (by decide +kernel) (aa_cons (ae_call g_sets_in (hr.mono (by decide)) (aa_cons (ae_var 0) aa_nil)) aa_nil)))))
/-! up_and_down: many 0 -/
abbrev s_up_and_down : Stmt := topS 17
def t_up_and_down (sp_need_whole sp_zigzag_in : List D → AH → DK → Prop) : ASt' :=
  (sSeq (sDrop (aCall sp_need_whole (aCons (aVar 0) (aCons (aC (.int 0)) (aCons (aC k_ROWS) aNil)))))
    (sRet (aOp aIx (aCall sp_zigzag_in (aCons (aVar 0) aNil)) (aVar 0))))
theorem sc_up_and_down : FnScope ["many"] ["many"] (defScope s_up_and_down) := ⟨rfl, rfl, rfl, by decide +kernel, rfl, by decide +kernel, by decide +kernel⟩
theorem d_up_and_down {P : Program} {w : World} {K : PySem.W.Frag} {mg : Str → Option Value} {base : Heap} {sp_need_whole sp_zigzag_in : List D → AH → DK → Prop} (B : Bt K mg) (g_need_whole : AFn P w K mg base 2 "need_whole" sp_need_whole) (g_zigzag_in : AFn P w K mg base 1 "zigzag_in" sp_zigzag_in) (f : Addr) (cdv : Value) (A : Around) (outer : List Env) (s : Shared) (H : Hp) (E : XK) (hr : Room 2 (A.deeper (PyProof.Rows.envOfC "up_and_down" (defScope s_up_and_down) s.heap.objs.size f cdv))) :
    ASs (cxOf CX0 P w K mg base ["many"] "up_and_down" (defScope s_up_and_down) f cdv A outer s H E).nox (defBody s_up_and_down) (t_up_and_down sp_need_whole sp_zigzag_in) := by
  have sc := sc_up_and_down
  exact (ss_cons (as_expr (ae_call g_need_whole (hr.mono (by decide)) (aa_cons (ae_var 0) (aa_cons ae_int (aa_cons (ae_glob B.c_ROWS) aa_nil)))))
      (ss_one (as_ret (ae_ix (ae_call g_zigzag_in (hr.mono (by decide)) (aa_cons (ae_var 0) aa_nil)) (ae_var 0)))))
/-! bracket_ways: many 0 -/
abbrev s_bracket_ways : Stmt := topS 18
def t_bracket_ways (sp_need_whole sp_choose_row : List D → AH → DK → Prop) : ASt' :=
  (sSeq (sDrop (aCall sp_need_whole (aCons (aVar 0) (aCons (aC (.int 0)) (aCons (aC k_ROWS) aNil)))))
    (sRet (aOp aFDiv (aOp aIx (aCall sp_choose_row (aCons (aOp aMul (aC (.int 2)) (aVar 0)) aNil)) (aVar 0)) (aOp aAdd (aVar 0) (aC (.int 1))))))
theorem sc_bracket_ways : FnScope ["many"] ["many"] (defScope s_bracket_ways) := ⟨rfl, rfl, rfl, by decide +kernel, rfl, by decide +kernel, by decide +kernel⟩
theorem d_bracket_ways {P : Program} {w : World} {K : PySem.W.Frag} {mg : Str → Option Value} {base : Heap} {sp_need_whole sp_choose_row : List D → AH → DK → Prop} (B : Bt K mg) (g_need_whole : AFn P w K mg base 2 "need_whole" sp_need_whole) (g_choose_row : AFn P w K mg base 1 "choose_row" sp_choose_row) (f : Addr) (cdv : Value) (A : Around) (outer : List Env) (s : Shared) (H : Hp) (E : XK) (hr : Room 2 (A.deeper (PyProof.Rows.envOfC "bracket_ways" (defScope s_bracket_ways) s.heap.objs.size f cdv))) :
    ASs (cxOf CX0 P w K mg base ["many"] "bracket_ways" (defScope s_bracket_ways) f cdv A outer s H E).nox (defBody s_bracket_ways) (t_bracket_ways sp_need_whole sp_choose_row) := by
  have sc := sc_bracket_ways
  exact (ss_cons (as_expr (ae_call g_need_whole (hr.mono (by decide)) (aa_cons (ae_var 0) (aa_cons ae_int (aa_cons (ae_glob B.c_ROWS) aa_nil)))))
      (ss_one (as_ret (ae_op op_fdiv (ae_ix (ae_call g_choose_row (hr.mono (by decide)) (aa_cons (ae_op op_mul ae_int (ae_var 0)) aa_nil)) (ae_var 0)) (ae_op op_add (ae_var 0) ae_int)))))
/-! _law_cup: script 0, cell 1 -/
abbrev s_lw_cup : Stmt := topS 20
def t_lw_cup : ASt' :=
  (sSeq (sAsg (aCall cAbs (aCons (aOp aIx (aOp aAdd (aCall cLst (aCons (aVar 0) aNil)) (aLst (aCons (aC (.int 0)) aNil))) (aC (.int 0))) aNil)) (agN 1))
    (sRet (aLstM (aCons (aIf (aTest (aOp aGe (aVar 1) (aOp aPow (aC (.int 10)) (aC (.int 18))))) (aOp aFDiv (aVar 1) (aC (.int 2371))) (aC (.int 0))) (aCons (aOp aAdd (aOp aMod (aCall cInt (aCons (aOp aAdd (aOp aMul (aVar 1) (aC (.int 3103))) (aC (.int 12183))) aNil)) (aC (.int 2081005739))) (aC (.int 2031))) aNil)))))
theorem sc_lw_cup : FnScope ["script", "cell"] ["script"] (defScope s_lw_cup) := ⟨rfl, rfl, rfl, by decide +kernel, rfl, by decide +kernel, by decide +kernel⟩
theorem d_lw_cup {P : Program} {w : World} {K : PySem.W.Frag} {mg : Str → Option Value} {base : Heap} (B : Bt K mg) (f : Addr) (cdv : Value) (A : Around) (outer : List Env) (s : Shared) (H : Hp) (E : XK) (hr : Room 0 (A.deeper (PyProof.Rows.envOfC "_law_cup" (defScope s_lw_cup) s.heap.objs.size f cdv))) :
    ASs (cxOf CX0 P w K mg base ["script", "cell"] "_law_cup" (defScope s_lw_cup) f cdv A outer s H E).nox (defBody s_lw_cup) (t_lw_cup) := by
  have sc := sc_lw_cup
  exact (ss_cons (as_set 1 (ae_bi call_abs B.b_abs (by decide +kernel) (aa_cons (ae_ix (ae_op op_add (ae_ty call_lst B.b_list (by decide +kernel) (aa_cons (ae_var 0) aa_nil)) (ae_lst (aa_cons ae_int aa_nil))) ae_int) aa_nil)) sc.nd)
      (ss_one (as_ret (ae_lstM (aa_cons (ae_if (ab_cmp op_ge (ae_var 1) (ae_op op_pow ae_int ae_int)) (ae_op op_fdiv (ae_var 1) ae_int) ae_int) (aa_cons (ae_op op_add (ae_op op_mod (ae_ty call_int B.b_int (by decide +kernel) (aa_cons (ae_op op_add (ae_op op_mul (ae_var 1) ae_int) ae_int) aa_nil)) ae_int) ae_int) aa_nil))))))
/-! _law_roll: cup 0, many 1, found 2, deep 3 -/
abbrev s_lw_roll : Stmt := topS 21
def t_lw_roll : ASt' :=
  (sSeq (sIf (aTest (aOp aGt (aOp aIx (aVar 0) (aC (.int 0))) (aC (.int 0)))) (sSeq (sAsg (aOp aMod (aCall cInt (aCons (aOp aIx (aVar 0) (aC (.int 0))) aNil)) (aVar 1)) (agN 2))
    (sSeq (sAsg (aOp aFDiv (aOp aIx (aVar 0) (aC (.int 0))) (aVar 1)) (agS (aVar 0) (aC (.int 0))))
    (sRet (aVar 2)))) sNext)
    (sSeq (sAsg (aOp aMod (aCall cInt (aCons (aOp aAdd (aOp aMul (aOp aIx (aVar 0) (aC (.int 1))) (aC (.int 41699))) (aC (.int 15051))) aNil)) (aC (.int 2147483423))) (agS (aVar 0) (aC (.int 1))))
    (sSeq (sAsg (aOp aMod (aCall cInt (aCons (aOp aMul (aOp aIx (aVar 0) (aC (.int 1))) (aOp aAdd (aOp aIx (aVar 0) (aC (.int 1))) (aC (.int 2663)))) aNil)) (aC (.int 2147483587))) (agN 3))
    (sRet (aOp aMod (aCall cInt (aCons (aOp aFDiv (aVar 3) (aC (.int 3203))) aNil)) (aVar 1))))))
theorem sc_lw_roll : FnScope ["cup", "many", "found", "deep"] ["cup", "many"] (defScope s_lw_roll) := ⟨rfl, rfl, rfl, by decide +kernel, rfl, by decide +kernel, by decide +kernel⟩
theorem d_lw_roll {P : Program} {w : World} {K : PySem.W.Frag} {mg : Str → Option Value} {base : Heap} (B : Bt K mg) (f : Addr) (cdv : Value) (A : Around) (outer : List Env) (s : Shared) (H : Hp) (E : XK) (hr : Room 0 (A.deeper (PyProof.Rows.envOfC "_law_roll" (defScope s_lw_roll) s.heap.objs.size f cdv))) :
    ASs (cxOf CX0 P w K mg base ["cup", "many", "found", "deep"] "_law_roll" (defScope s_lw_roll) f cdv A outer s H E).nox (defBody s_lw_roll) (t_lw_roll) := by
  have sc := sc_lw_roll
  exact (ss_cons (as_if (ab_cmp op_gt (ae_ix (ae_var 0) ae_int) ae_int) (ss_cons (as_set 2 (ae_op op_mod (ae_ty call_int B.b_int (by decide +kernel) (aa_cons (ae_ix (ae_var 0) ae_int) aa_nil)) (ae_var 1)) sc.nd)
      (ss_cons (as_asg (ae_op op_fdiv (ae_ix (ae_var 0) ae_int) (ae_var 1)) (ag_sub (ae_var 0) ae_int))
      (ss_one (as_ret (ae_var 2))))) ss_nil)
      (ss_cons (as_asg (ae_op op_mod (ae_ty call_int B.b_int (by decide +kernel) (aa_cons (ae_op op_add (ae_op op_mul (ae_ix (ae_var 0) ae_int) ae_int) ae_int) aa_nil)) ae_int) (ag_sub (ae_var 0) ae_int))
      (ss_cons (as_set 3 (ae_op op_mod (ae_ty call_int B.b_int (by decide +kernel) (aa_cons (ae_op op_mul (ae_ix (ae_var 0) ae_int) (ae_op op_add (ae_ix (ae_var 0) ae_int) ae_int)) aa_nil)) ae_int) sc.nd)
      (ss_one (as_ret (ae_op op_mod (ae_ty call_int B.b_int (by decide +kernel) (aa_cons (ae_op op_fdiv (ae_var 3) ae_int) aa_nil)) (ae_var 1)))))))
/-! _law_some: cup 0, things 1 -/
abbrev s_lw_some : Stmt := topS 22
def t_lw_some (sp_lw_roll : List D → AH → DK → Prop) : ASt' :=
  (sRet (aOp aIx (aVar 1) (aCall sp_lw_roll (aCons (aVar 0) (aCons (aCall cLen (aCons (aVar 1) aNil)) aNil)))))
theorem sc_lw_some : FnScope ["cup", "things"] ["cup", "things"] (defScope s_lw_some) := ⟨rfl, rfl, rfl, by decide +kernel, rfl, by decide +kernel, by decide +kernel⟩
theorem d_lw_some {P : Program} {w : World} {K : PySem.W.Frag} {mg : Str → Option Value} {base : Heap} {sp_lw_roll : List D → AH → DK → Prop} (B : Bt K mg) (g_lw_roll : AFn P w K mg base 1 "_law_roll" sp_lw_roll) (f : Addr) (cdv : Value) (A : Around) (outer : List Env) (s : Shared) (H : Hp) (E : XK) (hr : Room 1 (A.deeper (PyProof.Rows.envOfC "_law_some" (defScope s_lw_some) s.heap.objs.size f cdv))) :
    ASs (cxOf CX0 P w K mg base ["cup", "things"] "_law_some" (defScope s_lw_some) f cdv A outer s H E).nox (defBody s_lw_some) (t_lw_some sp_lw_roll) := by
  have sc := sc_lw_some
  exact (ss_one (as_ret (ae_ix (ae_var 1) (ae_call g_lw_roll (hr.mono (by decide)) (aa_cons (ae_var 0) (aa_cons (ae_bi call_len B.b_len (by decide +kernel) (aa_cons (ae_var 1) aa_nil)) aa_nil))))))
/-! _law_same: told 0, due 1, at 2 -/
abbrev s_lw_same : Stmt := topS 23
def t_lw_same (sp_lw_same : List D → AH → DK → Prop) : ASt' :=
  (sSeq (sIf (aOr (aTruE (aIsI "tuple" (aVar 1))) (aTruE (aIsI "list" (aVar 1)))) (sSeq (sIf (aOr (aTest (aOp aNe (aIsI "tuple" (aVar 0)) (aIsI "tuple" (aVar 1)))) (aOr (aTest (aOp aNe (aIsI "list" (aVar 0)) (aIsI "list" (aVar 1)))) (aTest (aOp aNe (aCall cLen (aCons (aVar 0) aNil)) (aCall cLen (aCons (aVar 1) aNil)))))) (sRet (aC (.bl false))) sNext)
    (sRet (aOp aEq (aLc (iRange1 (aCons (aCall cLen (aCons (aVar 1) aNil)) aNil)) (agN 2) (aNot (aTruE (aCall sp_lw_same (aCons (aOp aIx (aVar 0) (aVar 2)) (aCons (aOp aIx (aVar 1) (aVar 2)) aNil))))) (aC (.int 1)) [2]) (aLst aNil)))) sNext)
    (sSeq (sIf (aTest (aOp aIs (aVar 1) (aC .non))) (sRet (aOp aIs (aVar 0) (aC .non))) sNext)
    (sSeq (sIf (aTruE (aIsI "bool" (aVar 1))) (sRet (aIf (aTruE (aVar 1)) (aOp aIs (aVar 0) (aC (.bl true))) (aOp aIs (aVar 0) (aC (.bl false))))) sNext)
    (sSeq (sIf (aTruE (aIsI "int" (aVar 1))) (sRet (aAndV (aIsI "int" (aVar 0)) (aAndV (aNotV (aIsI "bool" (aVar 0))) (aOp aEq (aCall cInt (aCons (aVar 0) aNil)) (aVar 1))))) sNext)
    sNever))))
theorem sc_lw_same : FnScope ["told", "due", "at"] ["told", "due"] (defScope s_lw_same) := ⟨rfl, rfl, rfl, by decide +kernel, rfl, by decide +kernel, by decide +kernel⟩
theorem d_lw_same {P : Program} {w : World} {K : PySem.W.Frag} {mg : Str → Option Value} {base : Heap} {sp_lw_same : List D → AH → DK → Prop} {k : Nat} (hk : 0 ≤ k) (B : Bt K mg) (g_lw_same : AFn P w K mg base k "_law_same" sp_lw_same) (f : Addr) (cdv : Value) (A : Around) (outer : List Env) (s : Shared) (H : Hp) (E : XK) (hr : Room k (A.deeper (PyProof.Rows.envOfC "_law_same" (defScope s_lw_same) s.heap.objs.size f cdv))) :
    ASs (cxOf CX0 P w K mg base ["told", "due", "at"] "_law_same" (defScope s_lw_same) f cdv A outer s H E).nox (defBody s_lw_same) (t_lw_same sp_lw_same) := by
  have sc := sc_lw_same
  exact (ss_cons (as_if (aw_or (ab_truth (ae_isi (ae_var 1) B.b_isinstance B.b_tuple (by decide +kernel) kit_tuple)) (aw_or1 (ab_truth (ae_isi (ae_var 1) B.b_isinstance B.b_list (by decide +kernel) kit_list)))).ab (ss_cons (as_if (aw_or (ab_cmp (op_ne hr.units) (ae_isi (ae_var 0) B.b_isinstance B.b_tuple (by decide +kernel) kit_tuple) (ae_isi (ae_var 1) B.b_isinstance B.b_tuple (by decide +kernel) kit_tuple)) (aw_or (ab_cmp (op_ne hr.units) (ae_isi (ae_var 0) B.b_isinstance B.b_list (by decide +kernel) kit_list) (ae_isi (ae_var 1) B.b_isinstance B.b_list (by decide +kernel) kit_list)) (aw_or1 (ab_cmp (op_ne hr.units) (ae_bi call_len B.b_len (by decide +kernel) (aa_cons (ae_var 0) aa_nil)) (ae_bi call_len B.b_len (by decide +kernel) (aa_cons (ae_var 1) aa_nil)))))).ab (ss_one (as_ret ae_bl)) ss_nil)
      (ss_one (as_ret (ae_cmp (op_eq hr.units) (ae_lc (own := [("at", 2)]) (sl := [2]) rfl sc.nd (ai_range1 B.b_range (aa_cons (ae_bi call_len B.b_len (by decide +kernel) (aa_cons (ae_var 1) aa_nil)) aa_nil)) (blkOk_by (N := ["told", "due", "at"]) (sc := defScope s_lw_same) (by decide +kernel)) (by decide) (fun _ _ _ _ _ => (ag_name 2 sc.nd)) (fun _ _ _ _ _ => (ats_one (ab_not (ab_truth (ae_call g_lw_same hr (aa_cons (ae_ix (ae_var 0) (ae_var 2)) (aa_cons (ae_ix (ae_var 1) (ae_var 2)) aa_nil))))))) (fun _ _ _ _ _ => ae_int)) (ae_lst aa_nil))))) ss_nil)
      (ss_cons (as_if (ab_cmp op_is (ae_var 1) ae_non) (ss_one (as_ret (ae_cmp op_is (ae_var 0) ae_non))) ss_nil)
      (ss_cons (as_if (ab_truth (ae_isi (ae_var 1) B.b_isinstance B.b_bool (by decide +kernel) kit_bool)) (ss_one (as_ret (ae_if (ab_truth (ae_var 1)) (ae_cmp op_is (ae_var 0) ae_bl) (ae_cmp op_is (ae_var 0) ae_bl)))) ss_nil)
      (ss_cons (as_if (ab_truth (ae_isi (ae_var 1) B.b_isinstance B.b_int (by decide +kernel) kit_int)) (ss_one (as_ret (ae_and (ae_isi (ae_var 0) B.b_isinstance B.b_int (by decide +kernel) kit_int) (ae_and (ae_not (ae_isi (ae_var 0) B.b_isinstance B.b_bool (by decide +kernel) kit_bool)) (ae_one (ae_cmp (op_eq hr.units) (ae_ty call_int B.b_int (by decide +kernel) (aa_cons (ae_var 0) aa_nil)) (ae_var 1))))))) ss_nil)
      (ss_one as_never)))))
/-! _law_power: number 0, many 1, found 2, turn 3 -/
abbrev s_lw_power : Stmt := topS 24
def t_lw_power : ASt' :=
  (sSeq (sAsg (aC (.int 1)) (agN 2))
    (sSeq (sFor (iRange1 (aCons (aVar 1) aNil)) (agN 3) (sAsg (aOp aMul (aVar 2) (aVar 0)) (agN 2)))
    (sRet (aVar 2))))
theorem sc_lw_power : FnScope ["number", "many", "found", "turn"] ["number", "many"] (defScope s_lw_power) := ⟨rfl, rfl, rfl, by decide +kernel, rfl, by decide +kernel, by decide +kernel⟩
theorem d_lw_power {P : Program} {w : World} {K : PySem.W.Frag} {mg : Str → Option Value} {base : Heap} (B : Bt K mg) (f : Addr) (cdv : Value) (A : Around) (outer : List Env) (s : Shared) (H : Hp) (E : XK) (hr : Room 0 (A.deeper (PyProof.Rows.envOfC "_law_power" (defScope s_lw_power) s.heap.objs.size f cdv))) :
    ASs (cxOf CX0 P w K mg base ["number", "many", "found", "turn"] "_law_power" (defScope s_lw_power) f cdv A outer s H E).nox (defBody s_lw_power) (t_lw_power) := by
  have sc := sc_lw_power
  exact (ss_cons (as_set 2 ae_int sc.nd)
      (ss_cons (as_for PassesOwn.never rfl (ai_range1 B.b_range (aa_cons (ae_var 1) aa_nil)) (ag_name 3 sc.nd) (ss_one (as_set 2 (ae_op op_mul (ae_var 2) (ae_var 0)) sc.nd)))
      (ss_one (as_ret (ae_var 2)))))
/-! _law_choose: many 0, some 1, found 2, turn 3 -/
abbrev s_lw_choose : Stmt := topS 25
def t_lw_choose : ASt' :=
  (sSeq (sAsg (aC (.int 1)) (agN 2))
    (sSeq (sFor (iRange1 (aCons (aVar 1) aNil)) (agN 3) (sAsg (aOp aFDiv (aOp aMul (aVar 2) (aOp aSub (aVar 0) (aVar 3))) (aOp aAdd (aVar 3) (aC (.int 1)))) (agN 2)))
    (sRet (aVar 2))))
theorem sc_lw_choose : FnScope ["many", "some", "found", "turn"] ["many", "some"] (defScope s_lw_choose) := ⟨rfl, rfl, rfl, by decide +kernel, rfl, by decide +kernel, by decide +kernel⟩
theorem d_lw_choose {P : Program} {w : World} {K : PySem.W.Frag} {mg : Str → Option Value} {base : Heap} (B : Bt K mg) (f : Addr) (cdv : Value) (A : Around) (outer : List Env) (s : Shared) (H : Hp) (E : XK) (hr : Room 0 (A.deeper (PyProof.Rows.envOfC "_law_choose" (defScope s_lw_choose) s.heap.objs.size f cdv))) :
    ASs (cxOf CX0 P w K mg base ["many", "some", "found", "turn"] "_law_choose" (defScope s_lw_choose) f cdv A outer s H E).nox (defBody s_lw_choose) (t_lw_choose) := by
  have sc := sc_lw_choose
  exact (ss_cons (as_set 2 ae_int sc.nd)
      (ss_cons (as_for PassesOwn.never rfl (ai_range1 B.b_range (aa_cons (ae_var 1) aa_nil)) (ag_name 3 sc.nd) (ss_one (as_set 2 (ae_op op_fdiv (ae_op op_mul (ae_var 2) (ae_op op_sub (ae_var 0) (ae_var 3))) (ae_op op_add (ae_var 3) ae_int)) sc.nd)))
      (ss_one (as_ret (ae_var 2)))))
/-! _law_rows_right: told 0 -/
abbrev s_lw_rows_right : Stmt := topS 26
def t_lw_rows_right (sp_ways_of_sets sp_ways_of_rounds sp_orders_by_rises sp_set_partings sp_up_and_down sp_bracket_ways sp_lw_same : List D → AH → DK → Prop) : ASt' :=
  (sSeq (sAsg (aTup (aCons (aCall sp_ways_of_sets (aCons (aC (.int 4)) aNil)) (aCons (aCall sp_ways_of_rounds (aCons (aC (.int 4)) aNil)) (aCons (aCall sp_orders_by_rises (aCons (aC (.int 4)) aNil)) (aCons (aCall sp_set_partings (aCons (aC (.int 5)) aNil)) (aCons (aCall sp_up_and_down (aCons (aC (.int 5)) aNil)) (aCons (aCall sp_bracket_ways (aCons (aC (.int 4)) aNil)) aNil))))))) (agN 0))
    (sRet (aCall sp_lw_same (aCons (aVar 0) (aCons (aTup (aCons (aTup (aCons (aC (.int 0)) (aCons (aC (.int 1)) (aCons (aC (.int 7)) (aCons (aC (.int 6)) (aCons (aC (.int 1)) aNil)))))) (aCons (aTup (aCons (aC (.int 0)) (aCons (aC (.int 6)) (aCons (aC (.int 11)) (aCons (aC (.int 6)) (aCons (aC (.int 1)) aNil)))))) (aCons (aTup (aCons (aC (.int 1)) (aCons (aC (.int 11)) (aCons (aC (.int 11)) (aCons (aC (.int 1)) aNil))))) (aCons (aC (.int 52)) (aCons (aC (.int 16)) (aCons (aC (.int 14)) aNil))))))) aNil)))))
theorem sc_lw_rows_right : FnScope ["told"] [] (defScope s_lw_rows_right) := ⟨rfl, rfl, rfl, by decide +kernel, rfl, by decide +kernel, by decide +kernel⟩
theorem d_lw_rows_right {P : Program} {w : World} {K : PySem.W.Frag} {mg : Str → Option Value} {base : Heap} {sp_ways_of_sets sp_ways_of_rounds sp_orders_by_rises sp_set_partings sp_up_and_down sp_bracket_ways sp_lw_same : List D → AH → DK → Prop} (B : Bt K mg) (g_ways_of_sets : AFn P w K mg base 3 "ways_of_sets" sp_ways_of_sets) (g_ways_of_rounds : AFn P w K mg base 3 "ways_of_rounds" sp_ways_of_rounds) (g_orders_by_rises : AFn P w K mg base 3 "orders_by_rises" sp_orders_by_rises) (g_set_partings : AFn P w K mg base 3 "set_partings" sp_set_partings) (g_up_and_down : AFn P w K mg base 3 "up_and_down" sp_up_and_down) (g_bracket_ways : AFn P w K mg base 3 "bracket_ways" sp_bracket_ways) (g_lw_same : AFn P w K mg base 13 "_law_same" sp_lw_same) (f : Addr) (cdv : Value) (A : Around) (outer : List Env) (s : Shared) (H : Hp) (E : XK) (hr : Room 13 (A.deeper (PyProof.Rows.envOfC "_law_rows_right" (defScope s_lw_rows_right) s.heap.objs.size f cdv))) :
    ASs (cxOf CX0 P w K mg base ["told"] "_law_rows_right" (defScope s_lw_rows_right) f cdv A outer s H E).nox (defBody s_lw_rows_right) (t_lw_rows_right sp_ways_of_sets sp_ways_of_rounds sp_orders_by_rises sp_set_partings sp_up_and_down sp_bracket_ways sp_lw_same) := by
  have sc := sc_lw_rows_right
  exact (ss_cons (as_set 0 (ae_tup (aa_cons (ae_call g_ways_of_sets (hr.mono (by decide)) (aa_cons ae_int aa_nil)) (aa_cons (ae_call g_ways_of_rounds (hr.mono (by decide)) (aa_cons ae_int aa_nil)) (aa_cons (ae_call g_orders_by_rises (hr.mono (by decide)) (aa_cons ae_int aa_nil)) (aa_cons (ae_call g_set_partings (hr.mono (by decide)) (aa_cons ae_int aa_nil)) (aa_cons (ae_call g_up_and_down (hr.mono (by decide)) (aa_cons ae_int aa_nil)) (aa_cons (ae_call g_bracket_ways (hr.mono (by decide)) (aa_cons ae_int aa_nil)) aa_nil))))))) sc.nd)
      (ss_one (as_ret (ae_call g_lw_same (hr.mono (by decide)) (aa_cons (ae_var 0) (aa_cons (ae_tup (aa_cons (ae_tup (aa_cons ae_int (aa_cons ae_int (aa_cons ae_int (aa_cons ae_int (aa_cons ae_int aa_nil)))))) (aa_cons (ae_tup (aa_cons ae_int (aa_cons ae_int (aa_cons ae_int (aa_cons ae_int (aa_cons ae_int aa_nil)))))) (aa_cons (ae_tup (aa_cons ae_int (aa_cons ae_int (aa_cons ae_int (aa_cons ae_int aa_nil))))) (aa_cons ae_int (aa_cons ae_int (aa_cons ae_int aa_nil))))))) aa_nil))))))
/-! _law_orders: many 0, found 1, number 2 -/
abbrev s_lw_orders : Stmt := topS 27
def t_lw_orders : ASt' :=
  (sSeq (sAsg (aC (.int 1)) (agN 1))
    (sSeq (sFor (iRange2 (aCons (aC (.int 2)) (aCons (aOp aAdd (aVar 0) (aC (.int 1))) aNil))) (agN 2) (sAsg (aOp aMul (aVar 1) (aVar 2)) (agN 1)))
    (sRet (aVar 1))))
theorem sc_lw_orders : FnScope ["many", "found", "number"] ["many"] (defScope s_lw_orders) := ⟨rfl, rfl, rfl, by decide +kernel, rfl, by decide +kernel, by decide +kernel⟩
theorem d_lw_orders {P : Program} {w : World} {K : PySem.W.Frag} {mg : Str → Option Value} {base : Heap} (B : Bt K mg) (f : Addr) (cdv : Value) (A : Around) (outer : List Env) (s : Shared) (H : Hp) (E : XK) (hr : Room 0 (A.deeper (PyProof.Rows.envOfC "_law_orders" (defScope s_lw_orders) s.heap.objs.size f cdv))) :
    ASs (cxOf CX0 P w K mg base ["many", "found", "number"] "_law_orders" (defScope s_lw_orders) f cdv A outer s H E).nox (defBody s_lw_orders) (t_lw_orders) := by
  have sc := sc_lw_orders
  exact (ss_cons (as_set 1 ae_int sc.nd)
      (ss_cons (as_for PassesOwn.never rfl (ai_range2 B.b_range (aa_cons ae_int (aa_cons (ae_op op_add (ae_var 0) ae_int) aa_nil))) (ag_name 2 sc.nd) (ss_one (as_set 1 (ae_op op_mul (ae_var 1) (ae_var 2)) sc.nd)))
      (ss_one (as_ret (ae_var 1)))))
/-! _law_sums_right: many 0, sets 1, rounds 2, rises 3, told 4, turns 5, due 6, signs 7, weighed 8, at 9, own 10 -/
abbrev s_lw_sums_right : Stmt := topS 28
def t_lw_sums_right (sp_ways_of_sets sp_ways_of_rounds sp_orders_by_rises sp_lw_same sp_set_partings sp_lw_orders sp_up_and_down : List D → AH → DK → Prop) : ASt' :=
  (sSeq (sPar3 1 2 3 (aCons (aCall sp_ways_of_sets (aCons (aVar 0) aNil)) (aCons (aCall sp_ways_of_rounds (aCons (aVar 0) aNil)) (aCons (aCall sp_orders_by_rises (aCons (aVar 0) aNil)) aNil))))
    (sSeq (sAsg (aTup (aCons (aCall cSum (aCons (aVar 1) aNil)) (aCons (aCall cSum (aCons (aVar 2) aNil)) (aCons (aCall cSum (aCons (aVar 3) aNil)) (aCons (aCall cLen (aCons (aVar 1) aNil)) (aCons (aCall cLen (aCons (aVar 2) aNil)) (aCons (aCall cLen (aCons (aVar 3) aNil)) aNil))))))) (agN 4))
    (sSeq (sIf (aNot (aTruE (aCall sp_lw_same (aCons (aVar 4) (aCons (aTup (aCons (aCall sp_set_partings (aCons (aVar 0) aNil)) (aCons (aCall sp_lw_orders (aCons (aVar 0) aNil)) (aCons (aCall sp_lw_orders (aCons (aVar 0) aNil)) (aCons (aOp aAdd (aVar 0) (aC (.int 1))) (aCons (aOp aAdd (aVar 0) (aC (.int 1))) (aCons (aVar 0) aNil))))))) aNil))))) (sRet (aC (.bl false))) sNext)
    (sSeq (sAsg (aCall cSum (aCons (aLc (iEnumD (aVar 3)) (agT 2 (agCons (agN 9) (agCons (agN 10) agNil))) aYes (aOp aMul (aIf (aTest (aOp aEq (aOp aMod (aCall cInt (aCons (aVar 9) aNil)) (aC (.int 2))) (aC (.int 1)))) (aNeg (aC (.int 1))) (aC (.int 1))) (aVar 10)) [9, 10]) aNil)) (agN 5))
    (sSeq (sAsg (aIf (aTest (aOp aEq (aOp aMod (aCall cInt (aCons (aVar 0) aNil)) (aC (.int 2))) (aC (.int 0)))) (aC (.int 0)) (aOp aMul (aCall sp_up_and_down (aCons (aVar 0) aNil)) (aIf (aTest (aOp aEq (aOp aMod (aCall cInt (aCons (aVar 0) aNil)) (aC (.int 4))) (aC (.int 3)))) (aNeg (aC (.int 1))) (aC (.int 1))))) (agN 6))
    (sSeq (sIf (aOr (aTest (aOp aNe (aRev (aVar 3)) (aVar 3))) (aTest (aOp aNe (aVar 5) (aVar 6)))) (sRet (aC (.bl false))) sNext)
    (sSeq (sAsg (aCall cSum (aCons (aLc (iEnumD (aVar 2)) (agT 2 (agCons (agN 9) (agCons (agN 10) agNil))) aYes (aOp aMul (aIf (aTest (aOp aEq (aOp aMod (aCall cInt (aCons (aVar 9) aNil)) (aC (.int 2))) (aC (.int 1)))) (aNeg (aC (.int 1))) (aC (.int 1))) (aVar 10)) [9, 10]) aNil)) (agN 7))
    (sSeq (sAsg (aCall cSum (aCons (aLc (iEnumD (aVar 3)) (agT 2 (agCons (agN 9) (agCons (agN 10) agNil))) aYes (aOp aMul (aVar 9) (aVar 10)) [9, 10]) aNil)) (agN 8))
    (sRet (aAndV (aOp aEq (aVar 7) (aIf (aTest (aOp aGt (aVar 0) (aC (.int 1)))) (aC (.int 0)) (aNeg (aC (.int 1))))) (aOp aEq (aOp aMul (aC (.int 2)) (aVar 8)) (aOp aMul (aOp aSub (aVar 0) (aC (.int 1))) (aCall sp_lw_orders (aCons (aVar 0) aNil))))))))))))))
theorem sc_lw_sums_right : FnScope ["many", "sets", "rounds", "rises", "told", "turns", "due", "signs", "weighed", "at", "own"] ["many"] (defScope s_lw_sums_right) := ⟨rfl, rfl, rfl, by decide +kernel, rfl, by decide +kernel, by decide +kernel⟩
theorem d_lw_sums_right {P : Program} {w : World} {K : PySem.W.Frag} {mg : Str → Option Value} {base : Heap} {sp_ways_of_sets sp_ways_of_rounds sp_orders_by_rises sp_lw_same sp_set_partings sp_lw_orders sp_up_and_down : List D → AH → DK → Prop} (B : Bt K mg) (g_ways_of_sets : AFn P w K mg base 3 "ways_of_sets" sp_ways_of_sets) (g_ways_of_rounds : AFn P w K mg base 3 "ways_of_rounds" sp_ways_of_rounds) (g_orders_by_rises : AFn P w K mg base 3 "orders_by_rises" sp_orders_by_rises) (g_lw_same : AFn P w K mg base 13 "_law_same" sp_lw_same) (g_set_partings : AFn P w K mg base 3 "set_partings" sp_set_partings) (g_lw_orders : AFn P w K mg base 1 "_law_orders" sp_lw_orders) (g_up_and_down : AFn P w K mg base 3 "up_and_down" sp_up_and_down) (f : Addr) (cdv : Value) (A : Around) (outer : List Env) (s : Shared) (H : Hp) (E : XK) (hr : Room 13 (A.deeper (PyProof.Rows.envOfC "_law_sums_right" (defScope s_lw_sums_right) s.heap.objs.size f cdv))) :
    ASs (cxOf CX0 P w K mg base ["many", "sets", "rounds", "rises", "told", "turns", "due", "signs", "weighed", "at", "own"] "_law_sums_right" (defScope s_lw_sums_right) f cdv A outer s H E).nox (defBody s_lw_sums_right) (t_lw_sums_right sp_ways_of_sets sp_ways_of_rounds sp_orders_by_rises sp_lw_same sp_set_partings sp_lw_orders sp_up_and_down) := by
  have sc := sc_lw_sums_right
  exact (ss_cons (as_par3 1 2 3 (aa_cons (ae_call g_ways_of_sets (hr.mono (by decide)) (aa_cons (ae_var 0) aa_nil)) (aa_cons (ae_call g_ways_of_rounds (hr.mono (by decide)) (aa_cons (ae_var 0) aa_nil)) (aa_cons (ae_call g_orders_by_rises (hr.mono (by decide)) (aa_cons (ae_var 0) aa_nil)) aa_nil))) rfl sc.nd)
      (ss_cons (as_set 4 (ae_tup (aa_cons (ae_bi (call_sum rfl) B.b_sum (by decide +kernel) (aa_cons (ae_var 1) aa_nil)) (aa_cons (ae_bi (call_sum rfl) B.b_sum (by decide +kernel) (aa_cons (ae_var 2) aa_nil)) (aa_cons (ae_bi (call_sum rfl) B.b_sum (by decide +kernel) (aa_cons (ae_var 3) aa_nil)) (aa_cons (ae_bi call_len B.b_len (by decide +kernel) (aa_cons (ae_var 1) aa_nil)) (aa_cons (ae_bi call_len B.b_len (by decide +kernel) (aa_cons (ae_var 2) aa_nil)) (aa_cons (ae_bi call_len B.b_len (by decide +kernel) (aa_cons (ae_var 3) aa_nil)) aa_nil))))))) sc.nd)
      (ss_cons (as_if (ab_not (ab_truth (ae_call g_lw_same (hr.mono (by decide)) (aa_cons (ae_var 4) (aa_cons (ae_tup (aa_cons (ae_call g_set_partings (hr.mono (by decide)) (aa_cons (ae_var 0) aa_nil)) (aa_cons (ae_call g_lw_orders (hr.mono (by decide)) (aa_cons (ae_var 0) aa_nil)) (aa_cons (ae_call g_lw_orders (hr.mono (by decide)) (aa_cons (ae_var 0) aa_nil)) (aa_cons (ae_op op_add (ae_var 0) ae_int) (aa_cons (ae_op op_add (ae_var 0) ae_int) (aa_cons (ae_var 0) aa_nil))))))) aa_nil))))) (ss_one (as_ret ae_bl)) ss_nil)
      (ss_cons (as_set 5 (ae_bi (call_sum rfl) B.b_sum (by decide +kernel) (aa_cons (ae_lc (own := [("at", 9), ("own", 10)]) (sl := [9, 10]) rfl sc.nd (ai_enum B.b_enumerate (ae_var 3)) (blkOk_by (N := ["many", "sets", "rounds", "rises", "told", "turns", "due", "signs", "weighed", "at", "own"]) (sc := defScope s_lw_sums_right) (by decide +kernel)) (by decide) (fun _ _ _ _ _ => (ag_tup rfl (ags_cons (ag_name 9 sc.nd) (ags_cons (ag_name 10 sc.nd) ags_nil)))) (fun _ _ _ _ _ => ats_nil) (fun _ _ _ _ _ => (ae_op op_mul (ae_if (ab_cmp (op_eq hr.units) (ae_op op_mod (ae_ty call_int B.b_int (by decide +kernel) (aa_cons (ae_var 9) aa_nil)) ae_int) ae_int) (ae_neg ae_int) ae_int) (ae_var 10)))) aa_nil)) sc.nd)
      (ss_cons (as_set 6 (ae_if (ab_cmp (op_eq hr.units) (ae_op op_mod (ae_ty call_int B.b_int (by decide +kernel) (aa_cons (ae_var 0) aa_nil)) ae_int) ae_int) ae_int (ae_op op_mul (ae_call g_up_and_down (hr.mono (by decide)) (aa_cons (ae_var 0) aa_nil)) (ae_if (ab_cmp (op_eq hr.units) (ae_op op_mod (ae_ty call_int B.b_int (by decide +kernel) (aa_cons (ae_var 0) aa_nil)) ae_int) ae_int) (ae_neg ae_int) ae_int))) sc.nd)
      (ss_cons (as_if (aw_or (ab_cmp (op_ne hr.units) (ae_rev (ae_var 3)) (ae_var 3)) (aw_or1 (ab_cmp (op_ne hr.units) (ae_var 5) (ae_var 6)))).ab (ss_one (as_ret ae_bl)) ss_nil)
      (ss_cons (as_set 7 (ae_bi (call_sum rfl) B.b_sum (by decide +kernel) (aa_cons (ae_lc (own := [("at", 9), ("own", 10)]) (sl := [9, 10]) rfl sc.nd (ai_enum B.b_enumerate (ae_var 2)) (blkOk_by (N := ["many", "sets", "rounds", "rises", "told", "turns", "due", "signs", "weighed", "at", "own"]) (sc := defScope s_lw_sums_right) (by decide +kernel)) (by decide) (fun _ _ _ _ _ => (ag_tup rfl (ags_cons (ag_name 9 sc.nd) (ags_cons (ag_name 10 sc.nd) ags_nil)))) (fun _ _ _ _ _ => ats_nil) (fun _ _ _ _ _ => (ae_op op_mul (ae_if (ab_cmp (op_eq hr.units) (ae_op op_mod (ae_ty call_int B.b_int (by decide +kernel) (aa_cons (ae_var 9) aa_nil)) ae_int) ae_int) (ae_neg ae_int) ae_int) (ae_var 10)))) aa_nil)) sc.nd)
      (ss_cons (as_set 8 (ae_bi (call_sum rfl) B.b_sum (by decide +kernel) (aa_cons (ae_lc (own := [("at", 9), ("own", 10)]) (sl := [9, 10]) rfl sc.nd (ai_enum B.b_enumerate (ae_var 3)) (blkOk_by (N := ["many", "sets", "rounds", "rises", "told", "turns", "due", "signs", "weighed", "at", "own"]) (sc := defScope s_lw_sums_right) (by decide +kernel)) (by decide) (fun _ _ _ _ _ => (ag_tup rfl (ags_cons (ag_name 9 sc.nd) (ags_cons (ag_name 10 sc.nd) ags_nil)))) (fun _ _ _ _ _ => ats_nil) (fun _ _ _ _ _ => (ae_op op_mul (ae_var 9) (ae_var 10)))) aa_nil)) sc.nd)
      (ss_one (as_ret (ae_and (ae_cmp (op_eq hr.units) (ae_var 7) (ae_if (ab_cmp op_gt (ae_var 0) ae_int) ae_int (ae_neg ae_int))) (ae_one (ae_cmp (op_eq hr.units) (ae_op op_mul ae_int (ae_var 8)) (ae_op op_mul (ae_op op_sub (ae_var 0) ae_int) (ae_call g_lw_orders (hr.mono (by decide)) (aa_cons (ae_var 0) aa_nil))))))))))))))))
/-! _law_undone_right: many 0, rounds 1, found 2, size 3, ways 4, sign 5, at 6, own 7 -/
abbrev s_lw_undone_right : Stmt := topS 29
def t_lw_undone_right (sp_ways_of_rounds sp_ways_of_sets : List D → AH → DK → Prop) : ASt' :=
  (sSeq (sAsg (aCall sp_ways_of_rounds (aCons (aVar 0) aNil)) (agN 1))
    (sSeq (sAsg (aOp aMulM (aLst (aCons (aC (.int 0)) aNil)) (aOp aAdd (aVar 0) (aC (.int 1)))) (agN 2))
    (sSeq (sFor (iEnumD (aVar 1)) (agT 2 (agCons (agN 3) (agCons (agN 4) agNil))) (sSeq (sAsg (aIf (aTest (aOp aEq (aOp aMod (aCall cInt (aCons (aOp aSub (aVar 0) (aVar 3)) aNil)) (aC (.int 2))) (aC (.int 1)))) (aNeg (aC (.int 1))) (aC (.int 1))) (agN 5))
    (sFor (iEnumD (aCall sp_ways_of_sets (aCons (aVar 3) aNil))) (agT 2 (agCons (agN 6) (agCons (agN 7) agNil))) (sAsg (aOp aAdd (aOp aIx (aVar 2) (aVar 6)) (aOp aMul (aOp aMul (aVar 5) (aVar 4)) (aVar 7))) (agS (aVar 2) (aVar 6))))))
    (sFrz 2 (sRet (aOp aEq (aVar 2) (aOp aAdd (aOp aMul (aLst (aCons (aC (.int 0)) aNil)) (aVar 0)) (aLst (aCons (aC (.int 1)) aNil)))))))))
theorem sc_lw_undone_right : FnScope ["many", "rounds", "found", "size", "ways", "sign", "at", "own"] ["many"] (defScope s_lw_undone_right) := ⟨rfl, rfl, rfl, by decide +kernel, rfl, by decide +kernel, by decide +kernel⟩
theorem d_lw_undone_right {P : Program} {w : World} {K : PySem.W.Frag} {mg : Str → Option Value} {base : Heap} {sp_ways_of_rounds sp_ways_of_sets : List D → AH → DK → Prop} (B : Bt K mg) (g_ways_of_rounds : AFn P w K mg base 3 "ways_of_rounds" sp_ways_of_rounds) (g_ways_of_sets : AFn P w K mg base 3 "ways_of_sets" sp_ways_of_sets) (f : Addr) (cdv : Value) (A : Around) (outer : List Env) (s : Shared) (H : Hp) (E : XK) (hr : Room 3 (A.deeper (PyProof.Rows.envOfC "_law_undone_right" (defScope s_lw_undone_right) s.heap.objs.size f cdv))) :
    ASs (cxOf CX0 P w K mg base ["many", "rounds", "found", "size", "ways", "sign", "at", "own"] "_law_undone_right" (defScope s_lw_undone_right) f cdv A outer s H E).nox (defBody s_lw_undone_right) (t_lw_undone_right sp_ways_of_rounds sp_ways_of_sets) := by
  have sc := sc_lw_undone_right
  exact (ss_cons (as_set 1 (ae_call g_ways_of_rounds (hr.mono (by decide)) (aa_cons (ae_var 0) aa_nil)) sc.nd)
      (ss_cons (as_set 2 (ae_op op_mulM (ae_lst (aa_cons ae_int aa_nil)) (ae_op op_add (ae_var 0) ae_int)) sc.nd)
      (ss_cons (as_for PassesOwn.never rfl (ai_enum B.b_enumerate (ae_var 1)) (ag_tup rfl (ags_cons (ag_name 3 sc.nd) (ags_cons (ag_name 4 sc.nd) ags_nil))) (ss_cons (as_set 5 (ae_if (ab_cmp (op_eq hr.units) (ae_op op_mod (ae_ty call_int B.b_int (by decide +kernel) (aa_cons (ae_op op_sub (ae_var 0) (ae_var 3)) aa_nil)) ae_int) ae_int) (ae_neg ae_int) ae_int) sc.nd)
      (ss_one (as_for PassesOwn.never rfl (ai_enum B.b_enumerate (ae_call g_ways_of_sets (hr.mono (by decide)) (aa_cons (ae_var 3) aa_nil))) (ag_tup rfl (ags_cons (ag_name 6 sc.nd) (ags_cons (ag_name 7 sc.nd) ags_nil))) (ss_one (as_asg (ae_op op_add (ae_ix (ae_var 2) (ae_var 6)) (ae_op op_mul (ae_op op_mul (ae_var 5) (ae_var 4)) (ae_var 7))) (ag_sub (ae_var 2) (ae_var 6))))))))
      (ss_frz 2 (ss_one (as_ret (ae_cmp (op_eq hr.units) (ae_var 2) (ae_op op_add (ae_op op_mul (ae_lst (aa_cons ae_int aa_nil)) (ae_var 0)) (ae_lst (aa_cons ae_int aa_nil))))))))))
/-! _law_powers_right: many 0, number 1, rises 2, sets 3, falling 4, total 5, size 6, ways 7, due 8, at 9 -/
abbrev s_lw_powers_right : Stmt := topS 30
def t_lw_powers_right (sp_orders_by_rises sp_ways_of_sets sp_lw_power sp_lw_choose : List D → AH → DK → Prop) : ASt' :=
  (sSeq (sAsg (aTup (aCons (aCall sp_orders_by_rises (aCons (aVar 0) aNil)) (aCons (aCall sp_ways_of_sets (aCons (aVar 0) aNil)) (aCons (aC (.int 1)) (aCons (aC (.int 0)) aNil))))) (agT 4 (agCons (agN 2) (agCons (agN 3) (agCons (agN 4) (agCons (agN 5) agNil))))))
    (sSeq (sFor (iEnumD (aVar 3)) (agT 2 (agCons (agN 6) (agCons (agN 7) agNil))) (sPar 5 4 (aCons (aOp aAdd (aVar 5) (aOp aMul (aVar 7) (aVar 4))) (aCons (aOp aMul (aVar 4) (aOp aSub (aVar 1) (aVar 6))) aNil))))
    (sSeq (sAsg (aCall sp_lw_power (aCons (aVar 1) (aCons (aVar 0) aNil))) (agN 8))
    (sRet (aAndV (aOp aEq (aVar 5) (aVar 8)) (aOp aEq (aCall cSum (aCons (aLc (iEnumD (aVar 2)) (agT 2 (agCons (agN 9) (agCons (agN 7) agNil))) aYes (aOp aMul (aVar 7) (aCall sp_lw_choose (aCons (aOp aAdd (aVar 1) (aVar 9)) (aCons (aVar 0) aNil)))) [9, 7]) aNil)) (aVar 8)))))))
theorem sc_lw_powers_right : FnScope ["many", "number", "rises", "sets", "falling", "total", "size", "ways", "due", "at"] ["many", "number"] (defScope s_lw_powers_right) := ⟨rfl, rfl, rfl, by decide +kernel, rfl, by decide +kernel, by decide +kernel⟩
theorem d_lw_powers_right {P : Program} {w : World} {K : PySem.W.Frag} {mg : Str → Option Value} {base : Heap} {sp_orders_by_rises sp_ways_of_sets sp_lw_power sp_lw_choose : List D → AH → DK → Prop} (B : Bt K mg) (g_orders_by_rises : AFn P w K mg base 3 "orders_by_rises" sp_orders_by_rises) (g_ways_of_sets : AFn P w K mg base 3 "ways_of_sets" sp_ways_of_sets) (g_lw_power : AFn P w K mg base 1 "_law_power" sp_lw_power) (g_lw_choose : AFn P w K mg base 1 "_law_choose" sp_lw_choose) (f : Addr) (cdv : Value) (A : Around) (outer : List Env) (s : Shared) (H : Hp) (E : XK) (hr : Room 3 (A.deeper (PyProof.Rows.envOfC "_law_powers_right" (defScope s_lw_powers_right) s.heap.objs.size f cdv))) :
    ASs (cxOf CX0 P w K mg base ["many", "number", "rises", "sets", "falling", "total", "size", "ways", "due", "at"] "_law_powers_right" (defScope s_lw_powers_right) f cdv A outer s H E).nox (defBody s_lw_powers_right) (t_lw_powers_right sp_orders_by_rises sp_ways_of_sets sp_lw_power sp_lw_choose) := by
  have sc := sc_lw_powers_right
  exact (ss_cons (as_asg (ae_tup (aa_cons (ae_call g_orders_by_rises (hr.mono (by decide)) (aa_cons (ae_var 0) aa_nil)) (aa_cons (ae_call g_ways_of_sets (hr.mono (by decide)) (aa_cons (ae_var 0) aa_nil)) (aa_cons ae_int (aa_cons ae_int aa_nil))))) (ag_tup rfl (ags_cons (ag_name 2 sc.nd) (ags_cons (ag_name 3 sc.nd) (ags_cons (ag_name 4 sc.nd) (ags_cons (ag_name 5 sc.nd) ags_nil))))))
      (ss_cons (as_for PassesOwn.never rfl (ai_enum B.b_enumerate (ae_var 3)) (ag_tup rfl (ags_cons (ag_name 6 sc.nd) (ags_cons (ag_name 7 sc.nd) ags_nil))) (ss_one (as_par 5 4 (aa_cons (ae_op op_add (ae_var 5) (ae_op op_mul (ae_var 7) (ae_var 4))) (aa_cons (ae_op op_mul (ae_var 4) (ae_op op_sub (ae_var 1) (ae_var 6))) aa_nil)) rfl sc.nd)))
      (ss_cons (as_set 8 (ae_call g_lw_power (hr.mono (by decide)) (aa_cons (ae_var 1) (aa_cons (ae_var 0) aa_nil))) sc.nd)
      (ss_one (as_ret (ae_and (ae_cmp (op_eq hr.units) (ae_var 5) (ae_var 8)) (ae_one (ae_cmp (op_eq hr.units) (ae_bi (call_sum rfl) B.b_sum (by decide +kernel) (aa_cons (ae_lc (own := [("at", 9), ("ways", 7)]) (sl := [9, 7]) rfl sc.nd (ai_enum B.b_enumerate (ae_var 2)) (blkOk_by (N := ["many", "number", "rises", "sets", "falling", "total", "size", "ways", "due", "at"]) (sc := defScope s_lw_powers_right) (by decide +kernel)) (by decide) (fun _ _ _ _ _ => (ag_tup rfl (ags_cons (ag_name 9 sc.nd) (ags_cons (ag_name 7 sc.nd) ags_nil)))) (fun _ _ _ _ _ => ats_nil) (fun _ _ _ _ _ => (ae_op op_mul (ae_var 7) (ae_call g_lw_choose (hr.mono (by decide)) (aa_cons (ae_op op_add (ae_var 1) (ae_var 9)) (aa_cons (ae_var 0) aa_nil)))))) aa_nil)) (ae_var 8)))))))))
/-! law: script 0, cup 1, turn 2, many 3, number 4, small 5, prime 6, due 7, few 8, size 9 -/
abbrev s_law : Stmt := topS 31
def t_law (sp_lw_cup sp_lw_rows_right sp_lw_some sp_lw_roll sp_lw_sums_right sp_lw_undone_right sp_lw_powers_right sp_lw_choose sp_set_partings sp_bracket_ways sp_lw_same sp_ways_of_sets sp_ways_of_rounds : List D → AH → DK → Prop) : ASt' :=
  (sSeq (sAsg (aCall sp_lw_cup (aCons (aVar 0) aNil)) (agN 1))
    (sSeq (sIf (aNot (aTruE (aCall sp_lw_rows_right aNil))) (sRet (aC (.bl false))) sNext)
    (sSeq (sFor (iRange1 (aCons (aC (.int 4)) aNil)) (agN 2) (sSeq (sPar 3 4 (aCons (aOp aAdd (aC (.int 1)) (aCall sp_lw_some (aCons (aVar 1) (aCons (aLst (aCons (aCall sp_lw_roll (aCons (aVar 1) (aCons (aC (.int 8)) aNil))) (aCons (aCall sp_lw_roll (aCons (aVar 1) (aCons (aC (.int 60)) aNil))) aNil))) aNil)))) (aCons (aCall sp_lw_roll (aCons (aVar 1) (aCons (aC (.int 40)) aNil))) aNil)))
    (sSeq (sIf (aOr (aNot (aTruE (aCall sp_lw_sums_right (aCons (aVar 3) aNil)))) (aOr (aNot (aTruE (aCall sp_lw_undone_right (aCons (aOp aAdd (aC (.int 1)) (aCall sp_lw_roll (aCons (aVar 1) (aCons (aC (.int 24)) aNil)))) aNil)))) (aNot (aTruE (aCall sp_lw_powers_right (aCons (aVar 3) (aCons (aVar 4) aNil))))))) (sRet (aC (.bl false))) sNext)
    (sSeq (sAsg (aTup (aCons (aCall sp_lw_roll (aCons (aVar 1) (aCons (aC (.int 60)) aNil))) (aCons (aCall sp_lw_some (aCons (aVar 1) (aCons (aLst (aCons (aC (.int 2)) (aCons (aC (.int 3)) (aCons (aC (.int 5)) (aCons (aC (.int 7)) (aCons (aC (.int 11)) (aCons (aC (.int 13)) aNil))))))) aNil))) aNil))) (agT 2 (agCons (agN 5) (agCons (agN 6) agNil))))
    (sSeq (sAsg (aCall cSum (aCons (aLc (iRange1 (aCons (aOp aAdd (aVar 5) (aC (.int 1))) aNil)) (agN 9) aYes (aOp aMul (aCall sp_lw_choose (aCons (aVar 5) (aCons (aVar 9) aNil))) (aCall sp_set_partings (aCons (aVar 9) aNil))) [9]) aNil)) (agN 7))
    (sSeq (sIf (aAnd (aTest (aOp aLt (aVar 5) (aC (.int 60)))) (aTest (aOp aNe (aCall sp_set_partings (aCons (aOp aAdd (aVar 5) (aC (.int 1))) aNil)) (aVar 7)))) (sRet (aC (.bl false))) sNext)
    (sSeq (sAsg (aCall sp_lw_roll (aCons (aVar 1) (aCons (aC (.int 45)) aNil))) (agN 8))
    (sSeq (sIf (aTest (aOp aNe (aOp aMod (aCall cInt (aCons (aOp aSub (aOp aSub (aCall sp_set_partings (aCons (aOp aAdd (aVar 8) (aVar 6)) aNil)) (aCall sp_set_partings (aCons (aVar 8) aNil))) (aCall sp_set_partings (aCons (aOp aAdd (aVar 8) (aC (.int 1))) aNil))) aNil)) (aVar 6)) (aC (.int 0)))) (sRet (aC (.bl false))) sNext)
    (sSeq (sAsg (aCall cSum (aCons (aLc (iRange1 (aCons (aOp aAdd (aVar 5) (aC (.int 1))) aNil)) (agN 9) aYes (aOp aMul (aCall sp_bracket_ways (aCons (aVar 9) aNil)) (aCall sp_bracket_ways (aCons (aOp aSub (aVar 5) (aVar 9)) aNil))) [9]) aNil)) (agN 7))
    (sIf (aAnd (aTest (aOp aLt (aVar 5) (aC (.int 60)))) (aNot (aTruE (aCall sp_lw_same (aCons (aTup (aCons (aCall sp_bracket_ways (aCons (aOp aAdd (aVar 5) (aC (.int 1))) aNil)) (aCons (aCall sp_bracket_ways (aCons (aVar 5) aNil)) aNil))) (aCons (aTup (aCons (aVar 7) (aCons (aOp aFDiv (aCall sp_lw_choose (aCons (aOp aMul (aC (.int 2)) (aVar 5)) (aCons (aVar 5) aNil))) (aOp aAdd (aVar 5) (aC (.int 1)))) aNil))) aNil)))))) (sRet (aC (.bl false))) sNext))))))))))
    (sRet (aCall sp_lw_same (aCons (aTup (aCons (aCall sp_ways_of_sets (aCons (aC (.int 0)) aNil)) (aCons (aCall sp_ways_of_rounds (aCons (aC (.int 0)) aNil)) (aCons (aCall sp_set_partings (aCons (aC (.int 0)) aNil)) aNil)))) (aCons (aTup (aCons (aTup (aCons (aC (.int 1)) aNil)) (aCons (aTup (aCons (aC (.int 1)) aNil)) (aCons (aC (.int 1)) aNil)))) aNil)))))))
theorem sc_law : FnScope ["script", "cup", "turn", "many", "number", "small", "prime", "due", "few", "size"] ["script"] (defScope s_law) := ⟨rfl, rfl, rfl, by decide +kernel, rfl, by decide +kernel, by decide +kernel⟩
theorem d_law {P : Program} {w : World} {K : PySem.W.Frag} {mg : Str → Option Value} {base : Heap} {sp_lw_cup sp_lw_rows_right sp_lw_some sp_lw_roll sp_lw_sums_right sp_lw_undone_right sp_lw_powers_right sp_lw_choose sp_set_partings sp_bracket_ways sp_lw_same sp_ways_of_sets sp_ways_of_rounds : List D → AH → DK → Prop} (B : Bt K mg) (g_lw_cup : AFn P w K mg base 1 "_law_cup" sp_lw_cup) (g_lw_rows_right : AFn P w K mg base 14 "_law_rows_right" sp_lw_rows_right) (g_lw_some : AFn P w K mg base 2 "_law_some" sp_lw_some) (g_lw_roll : AFn P w K mg base 1 "_law_roll" sp_lw_roll) (g_lw_sums_right : AFn P w K mg base 14 "_law_sums_right" sp_lw_sums_right) (g_lw_undone_right : AFn P w K mg base 4 "_law_undone_right" sp_lw_undone_right) (g_lw_powers_right : AFn P w K mg base 4 "_law_powers_right" sp_lw_powers_right) (g_lw_choose : AFn P w K mg base 1 "_law_choose" sp_lw_choose) (g_set_partings : AFn P w K mg base 3 "set_partings" sp_set_partings) (g_bracket_ways : AFn P w K mg base 3 "bracket_ways" sp_bracket_ways) (g_lw_same : AFn P w K mg base 13 "_law_same" sp_lw_same) (g_ways_of_sets : AFn P w K mg base 3 "ways_of_sets" sp_ways_of_sets) (g_ways_of_rounds : AFn P w K mg base 3 "ways_of_rounds" sp_ways_of_rounds) (f : Addr) (cdv : Value) (A : Around) (outer : List Env) (s : Shared) (H : Hp) (E : XK) (hr : Room 14 (A.deeper (PyProof.Rows.envOfC "law" (defScope s_law) s.heap.objs.size f cdv))) :
    ASs (cxOf CX0 P w K mg base ["script", "cup", "turn", "many", "number", "small", "prime", "due", "few", "size"] "law" (defScope s_law) f cdv A outer s H E).nox (defBody s_law) (t_law sp_lw_cup sp_lw_rows_right sp_lw_some sp_lw_roll sp_lw_sums_right sp_lw_undone_right sp_lw_powers_right sp_lw_choose sp_set_partings sp_bracket_ways sp_lw_same sp_ways_of_sets sp_ways_of_rounds) := by
  have sc := sc_law
  exact (ss_cons (as_set 1 (ae_call g_lw_cup (hr.mono (by decide)) (aa_cons (ae_var 0) aa_nil)) sc.nd)
      (ss_cons (as_if (ab_not (ab_truth (ae_call0 g_lw_rows_right (hr.mono (by decide))))) (ss_one (as_ret ae_bl)) ss_nil)
      (ss_cons (as_for PassesOwn.never rfl (ai_range1 B.b_range (aa_cons ae_int aa_nil)) (ag_name 2 sc.nd) (ss_cons (as_par 3 4 (aa_cons (ae_op op_add ae_int (ae_call g_lw_some (hr.mono (by decide)) (aa_cons (ae_var 1) (aa_cons (ae_lst (aa_cons (ae_call g_lw_roll (hr.mono (by decide)) (aa_cons (ae_var 1) (aa_cons ae_int aa_nil))) (aa_cons (ae_call g_lw_roll (hr.mono (by decide)) (aa_cons (ae_var 1) (aa_cons ae_int aa_nil))) aa_nil))) aa_nil)))) (aa_cons (ae_call g_lw_roll (hr.mono (by decide)) (aa_cons (ae_var 1) (aa_cons ae_int aa_nil))) aa_nil)) rfl sc.nd)
      (ss_cons (as_if (aw_or (ab_not (ab_truth (ae_call g_lw_sums_right (hr.mono (by decide)) (aa_cons (ae_var 3) aa_nil)))) (aw_or (ab_not (ab_truth (ae_call g_lw_undone_right (hr.mono (by decide)) (aa_cons (ae_op op_add ae_int (ae_call g_lw_roll (hr.mono (by decide)) (aa_cons (ae_var 1) (aa_cons ae_int aa_nil)))) aa_nil)))) (aw_or1 (ab_not (ab_truth (ae_call g_lw_powers_right (hr.mono (by decide)) (aa_cons (ae_var 3) (aa_cons (ae_var 4) aa_nil)))))))).ab (ss_one (as_ret ae_bl)) ss_nil)
      (ss_cons (as_asg (ae_tup (aa_cons (ae_call g_lw_roll (hr.mono (by decide)) (aa_cons (ae_var 1) (aa_cons ae_int aa_nil))) (aa_cons (ae_call g_lw_some (hr.mono (by decide)) (aa_cons (ae_var 1) (aa_cons (ae_lst (aa_cons ae_int (aa_cons ae_int (aa_cons ae_int (aa_cons ae_int (aa_cons ae_int (aa_cons ae_int aa_nil))))))) aa_nil))) aa_nil))) (ag_tup rfl (ags_cons (ag_name 5 sc.nd) (ags_cons (ag_name 6 sc.nd) ags_nil))))
      (ss_cons (as_set 7 (ae_bi (call_sum rfl) B.b_sum (by decide +kernel) (aa_cons (ae_lc (own := [("size", 9)]) (sl := [9]) rfl sc.nd (ai_range1 B.b_range (aa_cons (ae_op op_add (ae_var 5) ae_int) aa_nil)) (blkOk_by (N := ["script", "cup", "turn", "many", "number", "small", "prime", "due", "few", "size"]) (sc := defScope s_law) (by decide +kernel)) (by decide) (fun _ _ _ _ _ => (ag_name 9 sc.nd)) (fun _ _ _ _ _ => ats_nil) (fun _ _ _ _ _ => (ae_op op_mul (ae_call g_lw_choose (hr.mono (by decide)) (aa_cons (ae_var 5) (aa_cons (ae_var 9) aa_nil))) (ae_call g_set_partings (hr.mono (by decide)) (aa_cons (ae_var 9) aa_nil))))) aa_nil)) sc.nd)
      (ss_cons (as_if (aw_and (ab_cmp op_lt (ae_var 5) ae_int) (aw_and1 (ab_cmp (op_ne hr.units) (ae_call g_set_partings (hr.mono (by decide)) (aa_cons (ae_op op_add (ae_var 5) ae_int) aa_nil)) (ae_var 7)))).ab (ss_one (as_ret ae_bl)) ss_nil)
      (ss_cons (as_set 8 (ae_call g_lw_roll (hr.mono (by decide)) (aa_cons (ae_var 1) (aa_cons ae_int aa_nil))) sc.nd)
      (ss_cons (as_if (ab_cmp (op_ne hr.units) (ae_op op_mod (ae_ty call_int B.b_int (by decide +kernel) (aa_cons (ae_op op_sub (ae_op op_sub (ae_call g_set_partings (hr.mono (by decide)) (aa_cons (ae_op op_add (ae_var 8) (ae_var 6)) aa_nil)) (ae_call g_set_partings (hr.mono (by decide)) (aa_cons (ae_var 8) aa_nil))) (ae_call g_set_partings (hr.mono (by decide)) (aa_cons (ae_op op_add (ae_var 8) ae_int) aa_nil))) aa_nil)) (ae_var 6)) ae_int) (ss_one (as_ret ae_bl)) ss_nil)
      (ss_cons (as_set 7 (ae_bi (call_sum rfl) B.b_sum (by decide +kernel) (aa_cons (ae_lc (own := [("size", 9)]) (sl := [9]) rfl sc.nd (ai_range1 B.b_range (aa_cons (ae_op op_add (ae_var 5) ae_int) aa_nil)) (blkOk_by (N := ["script", "cup", "turn", "many", "number", "small", "prime", "due", "few", "size"]) (sc := defScope s_law) (by decide +kernel)) (by decide) (fun _ _ _ _ _ => (ag_name 9 sc.nd)) (fun _ _ _ _ _ => ats_nil) (fun _ _ _ _ _ => (ae_op op_mul (ae_call g_bracket_ways (hr.mono (by decide)) (aa_cons (ae_var 9) aa_nil)) (ae_call g_bracket_ways (hr.mono (by decide)) (aa_cons (ae_op op_sub (ae_var 5) (ae_var 9)) aa_nil))))) aa_nil)) sc.nd)
      (ss_one (as_if (aw_and (ab_cmp op_lt (ae_var 5) ae_int) (aw_and1 (ab_not (ab_truth (ae_call g_lw_same (hr.mono (by decide)) (aa_cons (ae_tup (aa_cons (ae_call g_bracket_ways (hr.mono (by decide)) (aa_cons (ae_op op_add (ae_var 5) ae_int) aa_nil)) (aa_cons (ae_call g_bracket_ways (hr.mono (by decide)) (aa_cons (ae_var 5) aa_nil)) aa_nil))) (aa_cons (ae_tup (aa_cons (ae_var 7) (aa_cons (ae_op op_fdiv (ae_call g_lw_choose (hr.mono (by decide)) (aa_cons (ae_op op_mul ae_int (ae_var 5)) (aa_cons (ae_var 5) aa_nil))) (ae_op op_add (ae_var 5) ae_int)) aa_nil))) aa_nil))))))).ab (ss_one (as_ret ae_bl)) ss_nil)))))))))))
      (ss_one (as_ret (ae_call g_lw_same (hr.mono (by decide)) (aa_cons (ae_tup (aa_cons (ae_call g_ways_of_sets (hr.mono (by decide)) (aa_cons ae_int aa_nil)) (aa_cons (ae_call g_ways_of_rounds (hr.mono (by decide)) (aa_cons ae_int aa_nil)) (aa_cons (ae_call g_set_partings (hr.mono (by decide)) (aa_cons ae_int aa_nil)) aa_nil)))) (aa_cons (ae_tup (aa_cons (ae_tup (aa_cons ae_int aa_nil)) (aa_cons (ae_tup (aa_cons ae_int aa_nil)) (aa_cons ae_int aa_nil)))) aa_nil))))))))
end Wk

namespace Wk
open PySem PySem.Spec L2 Rk
abbrev sp_fits_whole := spFits
theorem m_fits_whole : MonL sp_fits_whole := spFits_mono
theorem l_fits_whole : ∀ ds A Q, sp_fits_whole ds A Q → ds.length = 3 := fun _ _ _ h => spFits_len h
theorem r_fits_whole : ∀ ds B (Q : DK), sp_fits_whole ds B Q → t_fits_whole  (rets Q) (startD 3 ds) B := r_fits
abbrev sp_need_whole := spNeedW
theorem m_need_whole : MonL sp_need_whole := spNeedW_mono
theorem l_need_whole : ∀ ds A Q, sp_need_whole ds A Q → ds.length = 3 := fun _ _ _ h => spNeedW_len h
theorem r_need_whole : ∀ ds B (Q : DK), sp_need_whole ds B Q → t_need_whole sp_fits_whole (rets Q) (startD 3 ds) B := r_needW
abbrev sp_choose_row := Rl.sp_chrow
theorem m_choose_row : MonL sp_choose_row := Rl.m_chrow
theorem l_choose_row : ∀ ds A Q, sp_choose_row ds A Q → ds.length = 1 := Rl.l_chrow
theorem r_choose_row : ∀ ds B (Q : DK), sp_choose_row ds B Q → t_choose_row  (rets Q) (startD 3 ds) B := Rl.r_chrow
abbrev sp_sets_in := Rl.sp_sets
theorem m_sets_in : MonL sp_sets_in := Rl.m_sets
theorem l_sets_in : ∀ ds A Q, sp_sets_in ds A Q → ds.length = 1 := Rl.l_sets
theorem r_sets_in : ∀ ds B (Q : DK), sp_sets_in ds B Q → t_sets_in  (rets Q) (startD 5 ds) B := Rl.r_sets
abbrev sp_rounds_in := Rl.sp_rounds
theorem m_rounds_in : MonL sp_rounds_in := Rl.m_rounds
theorem l_rounds_in : ∀ ds A Q, sp_rounds_in ds A Q → ds.length = 1 := Rl.l_rounds
theorem r_rounds_in : ∀ ds B (Q : DK), sp_rounds_in ds B Q → t_rounds_in  (rets Q) (startD 6 ds) B := Rl.r_rounds
abbrev sp_rises_in := Rl.sp_rises
theorem m_rises_in : MonL sp_rises_in := Rl.m_rises
theorem l_rises_in : ∀ ds A Q, sp_rises_in ds A Q → ds.length = 1 := Rl.l_rises
theorem r_rises_in : ∀ ds B (Q : DK), sp_rises_in ds B Q → t_rises_in  (rets Q) (startD 6 ds) B := Rl.r_rises
abbrev sp_zigzag_in := Rl.sp_zigzag
theorem m_zigzag_in : MonL sp_zigzag_in := Rl.m_zigzag
theorem l_zigzag_in : ∀ ds A Q, sp_zigzag_in ds A Q → ds.length = 1 := Rl.l_zigzag
theorem r_zigzag_in : ∀ ds B (Q : DK), sp_zigzag_in ds B Q → t_zigzag_in  (rets Q) (startD 6 ds) B := Rl.r_zigzag
abbrev sp_lw_cup := spCup
theorem m_lw_cup : MonL sp_lw_cup := spCup_mono
theorem l_lw_cup : ∀ ds A Q, sp_lw_cup ds A Q → ds.length = 1 := fun _ _ _ ⟨_, h, _⟩ => by rw [h]; rfl
theorem r_lw_cup : ∀ ds B (Q : DK), sp_lw_cup ds B Q → t_lw_cup (rets Q) (startD 2 ds) B := r_cup (c1 := 2371) (c2 := 3103) (c3 := 12183) (c4 := 2081005739) (c5 := 2031) (by decide) (by decide) (by decide) (by decide) (by decide)
abbrev sp_lw_roll := spRoll
theorem m_lw_roll : MonL sp_lw_roll := spRoll_mono
theorem l_lw_roll : ∀ ds A Q, sp_lw_roll ds A Q → ds.length = 2 := fun _ _ _ h => spRoll_len h
theorem r_lw_roll : ∀ ds B (Q : DK), sp_lw_roll ds B Q → t_lw_roll (rets Q) (startD 4 ds) B := r_roll (c1 := 41699) (c2 := 15051) (c3 := 2147483423) (c4 := 2663) (c5 := 2147483587) (c6 := 3203) (by decide) (by decide) (by decide) (by decide) (by decide)
abbrev sp_lw_some := spSome
theorem m_lw_some : MonL sp_lw_some := spSome_mono
theorem l_lw_some : ∀ ds A Q, sp_lw_some ds A Q → ds.length = 2 := fun _ _ _ h => spSome_len h
theorem r_lw_some : ∀ ds B (Q : DK), sp_lw_some ds B Q → t_lw_some spRoll (rets Q) (startD 2 ds) B := r_some
abbrev sp_lw_same := spSame 7
abbrev sp_lw_power := Rl.sp_power
theorem m_lw_power : MonL sp_lw_power := Rl.m_power
theorem l_lw_power : ∀ ds A Q, sp_lw_power ds A Q → ds.length = 2 := Rl.l_power
theorem r_lw_power : ∀ ds B (Q : DK), sp_lw_power ds B Q → t_lw_power  (rets Q) (startD 4 ds) B := Rl.r_power
abbrev sp_lw_choose := Rl.sp_choose
theorem m_lw_choose : MonL sp_lw_choose := Rl.m_choose
theorem l_lw_choose : ∀ ds A Q, sp_lw_choose ds A Q → ds.length = 2 := Rl.l_choose
theorem r_lw_choose : ∀ ds B (Q : DK), sp_lw_choose ds B Q → t_lw_choose  (rets Q) (startD 4 ds) B := Rl.r_choose
abbrev sp_lw_orders := Rl.sp_orders
theorem m_lw_orders : MonL sp_lw_orders := Rl.m_orders
theorem l_lw_orders : ∀ ds A Q, sp_lw_orders ds A Q → ds.length = 1 := Rl.l_orders
theorem r_lw_orders : ∀ ds B (Q : DK), sp_lw_orders ds B Q → t_lw_orders  (rets Q) (startD 3 ds) B := Rl.r_orders
end Wk
namespace Wk
open PySem PySem.Spec L2 Rk MB
def idB (b : Bool) : Bool := b
theorem dec_id {p : Prop} [Decidable p] : decide p = idB (decide p) := rfl
theorem eq2 {a b c d : Int} : eqD (.tup [.int a, .int b]) (.tup [.int c, .int d]) = decide (a = c ∧ b = d) := by simp [eqD, eqDs, Bool.decide_and]
local macro_rules | `(tactic| walk_at "wh") => `(tactic| conv => whnf)
local macro_rules | `(tactic| walk_at "side") => `(tactic| first | (with_reducible assumption) | omega | (refine ⟨?_, ?_, ?_⟩ <;> first | with_reducible assumption | omega) | exact rfl | (unfold Dvs; omega) | (unfold Fac; omega) | exact Nat.le_of_ble_eq_true rfl | (show okD _ _ = true ∧ okD _ _ = true; exact ⟨rfl, rfl⟩) | exact ⟨_, _, rfl, aupd_same⟩ | (refine ⟨?_, ?_⟩ <;> first | with_reducible assumption | with_reducible rfl | rfl | omega | decide | (simp; done)) | (refine ⟨?_, ?_, ?_⟩ <;> with_reducible assumption) | decide | (simp; done) | (simp; omega))
local macro_rules | `(tactic| walk_at "tt") => `(tactic| first | exact decide_eq_true (by omega) | ((fail_if_success rw [dec_id]); exact rfl) | (simp only [Bool.and_eq_true, Bool.or_eq_true, Bool.and_eq_false_iff, Bool.or_eq_false_iff, Bool.not_eq_true', Bool.not_eq_false', decide_eq_true_eq, decide_eq_false_iff_not] <;> omega) | (simp; done))
local macro_rules | `(tactic| walk_at "ff") => `(tactic| first | exact decide_eq_false (by omega) | ((fail_if_success rw [dec_id]); exact rfl) | (simp only [Bool.and_eq_true, Bool.or_eq_true, Bool.and_eq_false_iff, Bool.or_eq_false_iff, Bool.not_eq_true', Bool.not_eq_false', decide_eq_true_eq, decide_eq_false_iff_not] <;> omega) | (simp; done))
local macro_rules | `(tactic| walk_at "step") => `(tactic| (first | rw [eq2] | rw [ints?_pI] | rw [ints?_pZ] | refine br_yes (by walk_at "tt") ?_ | refine br_no (by walk_at "ff") ?_ | refine ⟨_, aupd_same, ?_⟩ | refine ⟨_, _, _, rfl, rfl, by assumption, ?_⟩ | refine ⟨_, _, _, rfl, aupd_aupd, by assumption, ?_⟩ | refine And.intro (by walk_at "side") ?_))
local macro_rules | `(tactic| walk_at "run") => `(tactic| ((conv => whnf); repeat (walk_at "step"; conv => whnf)))
def sp_ways_of_sets : List D → AH → DK → Prop
  | [.int n], A, Q => (0 ≤ n ∧ n ≤ 60) ∧ Q (.tup (pI (srow n.toNat))) A
  | _, _, _ => False
theorem m_ways_of_sets : MonL sp_ways_of_sets := fun ds A Q Q' k h => by
  unfold sp_ways_of_sets at h ⊢
  split at h <;> first | exact h.elim | exact k _ _ h | exact ⟨h.1, k _ _ h.2⟩ | exact ⟨h.choose, h.choose_spec.1, k _ _ h.choose_spec.2⟩ | exact fun x0 => k _ _ (h x0) | exact ⟨h.1, fun x0 => k _ _ (h.2 x0)⟩ | exact fun x0 x1 => k _ _ (h x0 x1) | exact ⟨h.1, fun x0 x1 => k _ _ (h.2 x0 x1)⟩ | exact fun x0 x1 x2 => k _ _ (h x0 x1 x2) | exact ⟨h.1, fun x0 x1 x2 => k _ _ (h.2 x0 x1 x2)⟩ | exact fun x0 x1 x2 x3 => k _ _ (h x0 x1 x2 x3) | exact ⟨h.1, fun x0 x1 x2 x3 => k _ _ (h.2 x0 x1 x2 x3)⟩ | exact fun x0 x1 x2 x3 x4 => k _ _ (h x0 x1 x2 x3 x4) | exact ⟨h.1, fun x0 x1 x2 x3 x4 => k _ _ (h.2 x0 x1 x2 x3 x4)⟩ | exact fun x0 x1 x2 x3 x4 x5 => k _ _ (h x0 x1 x2 x3 x4 x5) | exact ⟨h.1, fun x0 x1 x2 x3 x4 x5 => k _ _ (h.2 x0 x1 x2 x3 x4 x5)⟩ | exact fun x0 x1 x2 x3 x4 x5 x6 => k _ _ (h x0 x1 x2 x3 x4 x5 x6) | exact ⟨h.1, fun x0 x1 x2 x3 x4 x5 x6 => k _ _ (h.2 x0 x1 x2 x3 x4 x5 x6)⟩ | exact fun x0 x1 x2 x3 x4 x5 x6 x7 => k _ _ (h x0 x1 x2 x3 x4 x5 x6 x7) | exact ⟨h.1, fun x0 x1 x2 x3 x4 x5 x6 x7 => k _ _ (h.2 x0 x1 x2 x3 x4 x5 x6 x7)⟩ | exact fun x0 x1 x2 x3 x4 x5 x6 x7 x8 => k _ _ (h x0 x1 x2 x3 x4 x5 x6 x7 x8) | exact ⟨h.1, fun x0 x1 x2 x3 x4 x5 x6 x7 x8 => k _ _ (h.2 x0 x1 x2 x3 x4 x5 x6 x7 x8)⟩
theorem l_ways_of_sets : ∀ ds A Q, sp_ways_of_sets ds A Q → ds.length = 1 := fun ds A Q h => by
  unfold sp_ways_of_sets at h
  split at h <;> first | rfl | exact h.elim
theorem r_ways_of_sets : ∀ ds B (Q : DK), sp_ways_of_sets ds B Q → t_ways_of_sets sp_need_whole sp_sets_in (rets Q) (startD 1 ds) B := by
  intro ds B Q h
  unfold sp_ways_of_sets at h
  split at h <;> first | exact h.elim | skip
  rename_i n
  unfold t_ways_of_sets
  obtain ⟨hn, h⟩ := h
  walk_at "run"
  exact ret_same h
def sp_ways_of_rounds : List D → AH → DK → Prop
  | [.int n], A, Q => (0 ≤ n ∧ n ≤ 60) ∧ Q (.tup (pI (rrow n.toNat))) A
  | _, _, _ => False
theorem m_ways_of_rounds : MonL sp_ways_of_rounds := fun ds A Q Q' k h => by
  unfold sp_ways_of_rounds at h ⊢
  split at h <;> first | exact h.elim | exact k _ _ h | exact ⟨h.1, k _ _ h.2⟩ | exact ⟨h.choose, h.choose_spec.1, k _ _ h.choose_spec.2⟩ | exact fun x0 => k _ _ (h x0) | exact ⟨h.1, fun x0 => k _ _ (h.2 x0)⟩ | exact fun x0 x1 => k _ _ (h x0 x1) | exact ⟨h.1, fun x0 x1 => k _ _ (h.2 x0 x1)⟩ | exact fun x0 x1 x2 => k _ _ (h x0 x1 x2) | exact ⟨h.1, fun x0 x1 x2 => k _ _ (h.2 x0 x1 x2)⟩ | exact fun x0 x1 x2 x3 => k _ _ (h x0 x1 x2 x3) | exact ⟨h.1, fun x0 x1 x2 x3 => k _ _ (h.2 x0 x1 x2 x3)⟩ | exact fun x0 x1 x2 x3 x4 => k _ _ (h x0 x1 x2 x3 x4) | exact ⟨h.1, fun x0 x1 x2 x3 x4 => k _ _ (h.2 x0 x1 x2 x3 x4)⟩ | exact fun x0 x1 x2 x3 x4 x5 => k _ _ (h x0 x1 x2 x3 x4 x5) | exact ⟨h.1, fun x0 x1 x2 x3 x4 x5 => k _ _ (h.2 x0 x1 x2 x3 x4 x5)⟩ | exact fun x0 x1 x2 x3 x4 x5 x6 => k _ _ (h x0 x1 x2 x3 x4 x5 x6) | exact ⟨h.1, fun x0 x1 x2 x3 x4 x5 x6 => k _ _ (h.2 x0 x1 x2 x3 x4 x5 x6)⟩ | exact fun x0 x1 x2 x3 x4 x5 x6 x7 => k _ _ (h x0 x1 x2 x3 x4 x5 x6 x7) | exact ⟨h.1, fun x0 x1 x2 x3 x4 x5 x6 x7 => k _ _ (h.2 x0 x1 x2 x3 x4 x5 x6 x7)⟩ | exact fun x0 x1 x2 x3 x4 x5 x6 x7 x8 => k _ _ (h x0 x1 x2 x3 x4 x5 x6 x7 x8) | exact ⟨h.1, fun x0 x1 x2 x3 x4 x5 x6 x7 x8 => k _ _ (h.2 x0 x1 x2 x3 x4 x5 x6 x7 x8)⟩
theorem l_ways_of_rounds : ∀ ds A Q, sp_ways_of_rounds ds A Q → ds.length = 1 := fun ds A Q h => by
  unfold sp_ways_of_rounds at h
  split at h <;> first | rfl | exact h.elim
theorem r_ways_of_rounds : ∀ ds B (Q : DK), sp_ways_of_rounds ds B Q → t_ways_of_rounds sp_need_whole sp_rounds_in (rets Q) (startD 1 ds) B := by
  intro ds B Q h
  unfold sp_ways_of_rounds at h
  split at h <;> first | exact h.elim | skip
  rename_i n
  unfold t_ways_of_rounds
  obtain ⟨hn, h⟩ := h
  walk_at "run"
  exact ret_same h
def sp_orders_by_rises : List D → AH → DK → Prop
  | [.int n], A, Q => (1 ≤ n ∧ n ≤ 60) ∧ Q (.tup (pI (erow (n.toNat - 1)))) A
  | _, _, _ => False
theorem m_orders_by_rises : MonL sp_orders_by_rises := fun ds A Q Q' k h => by
  unfold sp_orders_by_rises at h ⊢
  split at h <;> first | exact h.elim | exact k _ _ h | exact ⟨h.1, k _ _ h.2⟩ | exact ⟨h.choose, h.choose_spec.1, k _ _ h.choose_spec.2⟩ | exact fun x0 => k _ _ (h x0) | exact ⟨h.1, fun x0 => k _ _ (h.2 x0)⟩ | exact fun x0 x1 => k _ _ (h x0 x1) | exact ⟨h.1, fun x0 x1 => k _ _ (h.2 x0 x1)⟩ | exact fun x0 x1 x2 => k _ _ (h x0 x1 x2) | exact ⟨h.1, fun x0 x1 x2 => k _ _ (h.2 x0 x1 x2)⟩ | exact fun x0 x1 x2 x3 => k _ _ (h x0 x1 x2 x3) | exact ⟨h.1, fun x0 x1 x2 x3 => k _ _ (h.2 x0 x1 x2 x3)⟩ | exact fun x0 x1 x2 x3 x4 => k _ _ (h x0 x1 x2 x3 x4) | exact ⟨h.1, fun x0 x1 x2 x3 x4 => k _ _ (h.2 x0 x1 x2 x3 x4)⟩ | exact fun x0 x1 x2 x3 x4 x5 => k _ _ (h x0 x1 x2 x3 x4 x5) | exact ⟨h.1, fun x0 x1 x2 x3 x4 x5 => k _ _ (h.2 x0 x1 x2 x3 x4 x5)⟩ | exact fun x0 x1 x2 x3 x4 x5 x6 => k _ _ (h x0 x1 x2 x3 x4 x5 x6) | exact ⟨h.1, fun x0 x1 x2 x3 x4 x5 x6 => k _ _ (h.2 x0 x1 x2 x3 x4 x5 x6)⟩ | exact fun x0 x1 x2 x3 x4 x5 x6 x7 => k _ _ (h x0 x1 x2 x3 x4 x5 x6 x7) | exact ⟨h.1, fun x0 x1 x2 x3 x4 x5 x6 x7 => k _ _ (h.2 x0 x1 x2 x3 x4 x5 x6 x7)⟩ | exact fun x0 x1 x2 x3 x4 x5 x6 x7 x8 => k _ _ (h x0 x1 x2 x3 x4 x5 x6 x7 x8) | exact ⟨h.1, fun x0 x1 x2 x3 x4 x5 x6 x7 x8 => k _ _ (h.2 x0 x1 x2 x3 x4 x5 x6 x7 x8)⟩
theorem l_orders_by_rises : ∀ ds A Q, sp_orders_by_rises ds A Q → ds.length = 1 := fun ds A Q h => by
  unfold sp_orders_by_rises at h
  split at h <;> first | rfl | exact h.elim
theorem r_orders_by_rises : ∀ ds B (Q : DK), sp_orders_by_rises ds B Q → t_orders_by_rises sp_need_whole sp_rises_in (rets Q) (startD 1 ds) B := by
  intro ds B Q h
  unfold sp_orders_by_rises at h
  split at h <;> first | exact h.elim | skip
  rename_i n
  unfold t_orders_by_rises
  obtain ⟨hn, h⟩ := h
  walk_at "run"
  exact ret_same h
def sp_set_partings : List D → AH → DK → Prop
  | [.int n], A, Q => (0 ≤ n ∧ n ≤ 60) ∧ Q (.int (M65.bell n.toNat : Int)) A
  | _, _, _ => False
theorem m_set_partings : MonL sp_set_partings := fun ds A Q Q' k h => by
  unfold sp_set_partings at h ⊢
  split at h <;> first | exact h.elim | exact k _ _ h | exact ⟨h.1, k _ _ h.2⟩ | exact ⟨h.choose, h.choose_spec.1, k _ _ h.choose_spec.2⟩ | exact fun x0 => k _ _ (h x0) | exact ⟨h.1, fun x0 => k _ _ (h.2 x0)⟩ | exact fun x0 x1 => k _ _ (h x0 x1) | exact ⟨h.1, fun x0 x1 => k _ _ (h.2 x0 x1)⟩ | exact fun x0 x1 x2 => k _ _ (h x0 x1 x2) | exact ⟨h.1, fun x0 x1 x2 => k _ _ (h.2 x0 x1 x2)⟩ | exact fun x0 x1 x2 x3 => k _ _ (h x0 x1 x2 x3) | exact ⟨h.1, fun x0 x1 x2 x3 => k _ _ (h.2 x0 x1 x2 x3)⟩ | exact fun x0 x1 x2 x3 x4 => k _ _ (h x0 x1 x2 x3 x4) | exact ⟨h.1, fun x0 x1 x2 x3 x4 => k _ _ (h.2 x0 x1 x2 x3 x4)⟩ | exact fun x0 x1 x2 x3 x4 x5 => k _ _ (h x0 x1 x2 x3 x4 x5) | exact ⟨h.1, fun x0 x1 x2 x3 x4 x5 => k _ _ (h.2 x0 x1 x2 x3 x4 x5)⟩ | exact fun x0 x1 x2 x3 x4 x5 x6 => k _ _ (h x0 x1 x2 x3 x4 x5 x6) | exact ⟨h.1, fun x0 x1 x2 x3 x4 x5 x6 => k _ _ (h.2 x0 x1 x2 x3 x4 x5 x6)⟩ | exact fun x0 x1 x2 x3 x4 x5 x6 x7 => k _ _ (h x0 x1 x2 x3 x4 x5 x6 x7) | exact ⟨h.1, fun x0 x1 x2 x3 x4 x5 x6 x7 => k _ _ (h.2 x0 x1 x2 x3 x4 x5 x6 x7)⟩ | exact fun x0 x1 x2 x3 x4 x5 x6 x7 x8 => k _ _ (h x0 x1 x2 x3 x4 x5 x6 x7 x8) | exact ⟨h.1, fun x0 x1 x2 x3 x4 x5 x6 x7 x8 => k _ _ (h.2 x0 x1 x2 x3 x4 x5 x6 x7 x8)⟩
theorem l_set_partings : ∀ ds A Q, sp_set_partings ds A Q → ds.length = 1 := fun ds A Q h => by
  unfold sp_set_partings at h
  split at h <;> first | rfl | exact h.elim
theorem r_set_partings : ∀ ds B (Q : DK), sp_set_partings ds B Q → t_set_partings sp_need_whole sp_sets_in (rets Q) (startD 1 ds) B := by
  intro ds B Q h
  unfold sp_set_partings at h
  split at h <;> first | exact h.elim | skip
  rename_i n
  unfold t_set_partings
  obtain ⟨hn, h⟩ := h
  walk_at "run"
  rw [sum_pI]
  exact ret_same h
def sp_up_and_down : List D → AH → DK → Prop
  | [.int n], A, Q => (0 ≤ n ∧ n ≤ 60) ∧ Q (.int (gt (zig n.toNat).1 n.toNat : Int)) A
  | _, _, _ => False
theorem m_up_and_down : MonL sp_up_and_down := fun ds A Q Q' k h => by
  unfold sp_up_and_down at h ⊢
  split at h <;> first | exact h.elim | exact k _ _ h | exact ⟨h.1, k _ _ h.2⟩ | exact ⟨h.choose, h.choose_spec.1, k _ _ h.choose_spec.2⟩ | exact fun x0 => k _ _ (h x0) | exact ⟨h.1, fun x0 => k _ _ (h.2 x0)⟩ | exact fun x0 x1 => k _ _ (h x0 x1) | exact ⟨h.1, fun x0 x1 => k _ _ (h.2 x0 x1)⟩ | exact fun x0 x1 x2 => k _ _ (h x0 x1 x2) | exact ⟨h.1, fun x0 x1 x2 => k _ _ (h.2 x0 x1 x2)⟩ | exact fun x0 x1 x2 x3 => k _ _ (h x0 x1 x2 x3) | exact ⟨h.1, fun x0 x1 x2 x3 => k _ _ (h.2 x0 x1 x2 x3)⟩ | exact fun x0 x1 x2 x3 x4 => k _ _ (h x0 x1 x2 x3 x4) | exact ⟨h.1, fun x0 x1 x2 x3 x4 => k _ _ (h.2 x0 x1 x2 x3 x4)⟩ | exact fun x0 x1 x2 x3 x4 x5 => k _ _ (h x0 x1 x2 x3 x4 x5) | exact ⟨h.1, fun x0 x1 x2 x3 x4 x5 => k _ _ (h.2 x0 x1 x2 x3 x4 x5)⟩ | exact fun x0 x1 x2 x3 x4 x5 x6 => k _ _ (h x0 x1 x2 x3 x4 x5 x6) | exact ⟨h.1, fun x0 x1 x2 x3 x4 x5 x6 => k _ _ (h.2 x0 x1 x2 x3 x4 x5 x6)⟩ | exact fun x0 x1 x2 x3 x4 x5 x6 x7 => k _ _ (h x0 x1 x2 x3 x4 x5 x6 x7) | exact ⟨h.1, fun x0 x1 x2 x3 x4 x5 x6 x7 => k _ _ (h.2 x0 x1 x2 x3 x4 x5 x6 x7)⟩ | exact fun x0 x1 x2 x3 x4 x5 x6 x7 x8 => k _ _ (h x0 x1 x2 x3 x4 x5 x6 x7 x8) | exact ⟨h.1, fun x0 x1 x2 x3 x4 x5 x6 x7 x8 => k _ _ (h.2 x0 x1 x2 x3 x4 x5 x6 x7 x8)⟩
theorem l_up_and_down : ∀ ds A Q, sp_up_and_down ds A Q → ds.length = 1 := fun ds A Q h => by
  unfold sp_up_and_down at h
  split at h <;> first | rfl | exact h.elim
theorem r_up_and_down : ∀ ds B (Q : DK), sp_up_and_down ds B Q → t_up_and_down sp_need_whole sp_zigzag_in (rets Q) (startD 1 ds) B := by
  intro ds B Q h
  unfold sp_up_and_down at h
  split at h <;> first | exact h.elim | skip
  rename_i n
  unfold t_up_and_down
  obtain ⟨hn, h⟩ := h
  obtain ⟨n, rfl⟩ : ∃ k : Nat, n = (k : Int) := ⟨n.toNat, by omega⟩
  rw [Int.toNat_natCast] at h
  have i1 := Rl.ix_gt (l := (zig n).1) (i := n) (by rw [(zig_len n).1]; omega)
  walk_at "run"
  rw [Int.toNat_natCast]
  refine optK_of i1 ?_
  exact ret_same h
def sp_bracket_ways : List D → AH → DK → Prop
  | [.int n], A, Q => (0 ≤ n ∧ n ≤ 60) ∧ Q (.int (M65.cat n.toNat : Int)) A
  | _, _, _ => False
theorem m_bracket_ways : MonL sp_bracket_ways := fun ds A Q Q' k h => by
  unfold sp_bracket_ways at h ⊢
  split at h <;> first | exact h.elim | exact k _ _ h | exact ⟨h.1, k _ _ h.2⟩ | exact ⟨h.choose, h.choose_spec.1, k _ _ h.choose_spec.2⟩ | exact fun x0 => k _ _ (h x0) | exact ⟨h.1, fun x0 => k _ _ (h.2 x0)⟩ | exact fun x0 x1 => k _ _ (h x0 x1) | exact ⟨h.1, fun x0 x1 => k _ _ (h.2 x0 x1)⟩ | exact fun x0 x1 x2 => k _ _ (h x0 x1 x2) | exact ⟨h.1, fun x0 x1 x2 => k _ _ (h.2 x0 x1 x2)⟩ | exact fun x0 x1 x2 x3 => k _ _ (h x0 x1 x2 x3) | exact ⟨h.1, fun x0 x1 x2 x3 => k _ _ (h.2 x0 x1 x2 x3)⟩ | exact fun x0 x1 x2 x3 x4 => k _ _ (h x0 x1 x2 x3 x4) | exact ⟨h.1, fun x0 x1 x2 x3 x4 => k _ _ (h.2 x0 x1 x2 x3 x4)⟩ | exact fun x0 x1 x2 x3 x4 x5 => k _ _ (h x0 x1 x2 x3 x4 x5) | exact ⟨h.1, fun x0 x1 x2 x3 x4 x5 => k _ _ (h.2 x0 x1 x2 x3 x4 x5)⟩ | exact fun x0 x1 x2 x3 x4 x5 x6 => k _ _ (h x0 x1 x2 x3 x4 x5 x6) | exact ⟨h.1, fun x0 x1 x2 x3 x4 x5 x6 => k _ _ (h.2 x0 x1 x2 x3 x4 x5 x6)⟩ | exact fun x0 x1 x2 x3 x4 x5 x6 x7 => k _ _ (h x0 x1 x2 x3 x4 x5 x6 x7) | exact ⟨h.1, fun x0 x1 x2 x3 x4 x5 x6 x7 => k _ _ (h.2 x0 x1 x2 x3 x4 x5 x6 x7)⟩ | exact fun x0 x1 x2 x3 x4 x5 x6 x7 x8 => k _ _ (h x0 x1 x2 x3 x4 x5 x6 x7 x8) | exact ⟨h.1, fun x0 x1 x2 x3 x4 x5 x6 x7 x8 => k _ _ (h.2 x0 x1 x2 x3 x4 x5 x6 x7 x8)⟩
theorem l_bracket_ways : ∀ ds A Q, sp_bracket_ways ds A Q → ds.length = 1 := fun ds A Q h => by
  unfold sp_bracket_ways at h
  split at h <;> first | rfl | exact h.elim
theorem r_bracket_ways : ∀ ds B (Q : DK), sp_bracket_ways ds B Q → t_bracket_ways sp_need_whole sp_choose_row (rets Q) (startD 1 ds) B := by
  intro ds B Q h
  unfold sp_bracket_ways at h
  split at h <;> first | exact h.elim | skip
  rename_i n
  unfold t_bracket_ways
  obtain ⟨hn, h⟩ := h
  obtain ⟨n, rfl⟩ : ∃ k : Nat, n = (k : Int) := ⟨n.toNat, by omega⟩
  rw [Int.toNat_natCast] at h
  have i1 := Rl.ix_gt (l := rowP (2 * n)) (i := n) (by rw [rowP_len]; omega)
  walk_at "run"
  have e : (2 * (n : Int)).toNat = 2 * n := by omega
  rw [e]
  refine optK_of i1 ?_
  walk_at "run"
  exact ret_same h
abbrev okNil : List D → AH → DK → Prop := fun ds A Q => ds = [] ∧ Q (.bl true) A
def sp_lw_rows_right : List D → AH → DK → Prop := okNil
theorem m_lw_rows_right : MonL sp_lw_rows_right := fun ds A Q Q' k h => ⟨h.1, k _ _ h.2⟩
theorem l_lw_rows_right : ∀ ds A Q, sp_lw_rows_right ds A Q → ds.length = 0 := fun ds A Q h => by rw [h.1]; rfl
theorem r_lw_rows_right : ∀ ds B (Q : DK), sp_lw_rows_right ds B Q → t_lw_rows_right sp_ways_of_sets sp_ways_of_rounds sp_orders_by_rises sp_set_partings sp_up_and_down sp_bracket_ways sp_lw_same (rets Q) (startD 1 ds) B := by
  rintro ds B Q ⟨rfl, h⟩
  unfold t_lw_rows_right
  walk_at "run"
  exact ret_same h
def sp_lw_sums_right : List D → AH → DK → Prop
  | [.int n], A, Q => (1 ≤ n ∧ n ≤ 60) ∧ Q (.bl true) A
  | _, _, _ => False
theorem m_lw_sums_right : MonL sp_lw_sums_right := fun ds A Q Q' k h => by
  unfold sp_lw_sums_right at h ⊢
  split at h <;> first | exact h.elim | exact k _ _ h | exact ⟨h.1, k _ _ h.2⟩ | exact ⟨h.choose, h.choose_spec.1, k _ _ h.choose_spec.2⟩ | exact fun x0 => k _ _ (h x0) | exact ⟨h.1, fun x0 => k _ _ (h.2 x0)⟩ | exact fun x0 x1 => k _ _ (h x0 x1) | exact ⟨h.1, fun x0 x1 => k _ _ (h.2 x0 x1)⟩ | exact fun x0 x1 x2 => k _ _ (h x0 x1 x2) | exact ⟨h.1, fun x0 x1 x2 => k _ _ (h.2 x0 x1 x2)⟩ | exact fun x0 x1 x2 x3 => k _ _ (h x0 x1 x2 x3) | exact ⟨h.1, fun x0 x1 x2 x3 => k _ _ (h.2 x0 x1 x2 x3)⟩ | exact fun x0 x1 x2 x3 x4 => k _ _ (h x0 x1 x2 x3 x4) | exact ⟨h.1, fun x0 x1 x2 x3 x4 => k _ _ (h.2 x0 x1 x2 x3 x4)⟩ | exact fun x0 x1 x2 x3 x4 x5 => k _ _ (h x0 x1 x2 x3 x4 x5) | exact ⟨h.1, fun x0 x1 x2 x3 x4 x5 => k _ _ (h.2 x0 x1 x2 x3 x4 x5)⟩ | exact fun x0 x1 x2 x3 x4 x5 x6 => k _ _ (h x0 x1 x2 x3 x4 x5 x6) | exact ⟨h.1, fun x0 x1 x2 x3 x4 x5 x6 => k _ _ (h.2 x0 x1 x2 x3 x4 x5 x6)⟩ | exact fun x0 x1 x2 x3 x4 x5 x6 x7 => k _ _ (h x0 x1 x2 x3 x4 x5 x6 x7) | exact ⟨h.1, fun x0 x1 x2 x3 x4 x5 x6 x7 => k _ _ (h.2 x0 x1 x2 x3 x4 x5 x6 x7)⟩ | exact fun x0 x1 x2 x3 x4 x5 x6 x7 x8 => k _ _ (h x0 x1 x2 x3 x4 x5 x6 x7 x8) | exact ⟨h.1, fun x0 x1 x2 x3 x4 x5 x6 x7 x8 => k _ _ (h.2 x0 x1 x2 x3 x4 x5 x6 x7 x8)⟩
theorem l_lw_sums_right : ∀ ds A Q, sp_lw_sums_right ds A Q → ds.length = 1 := fun ds A Q h => by
  unfold sp_lw_sums_right at h
  split at h <;> first | rfl | exact h.elim
theorem r_lw_sums_right : ∀ ds B (Q : DK), sp_lw_sums_right ds B Q → t_lw_sums_right sp_ways_of_sets sp_ways_of_rounds sp_orders_by_rises sp_lw_same sp_set_partings sp_lw_orders sp_up_and_down (rets Q) (startD 11 ds) B := by
--SLOW
  intro ds B Q h
  unfold sp_lw_sums_right at h
  split at h <;> first | exact h.elim | skip
  rename_i n
  unfold t_lw_sums_right
  obtain ⟨hn, h⟩ := h
  obtain ⟨n, rfl⟩ : ∃ k : Nat, n = (k : Int) := ⟨n.toNat, by omega⟩
  have chk := M65.use1 M65.allA (i := n - 1) (by omega)
  have e1 : n - 1 + 1 = n := by omega
  rw [e1] at chk
  unfold M65.chkA at chk
  simp only [Bool.and_eq_true, beq_iff_eq] at chk
  obtain ⟨⟨⟨⟨⟨⟨⟨⟨a1, a2⟩, a3⟩, a4⟩, a5⟩, a6⟩, a7⟩, a8⟩, a9⟩ := chk
  have tn : (n : Int).toNat = n := Int.toNat_natCast n
  have ls : (srow n).length = n + 1 := srow_len n
  have lr : (rrow n).length = n + 1 := rrow_len n
  have le : (erow (n - 1)).length = n := by rw [erow_len, e1]
  walk_at "run"
  refine And.intro ⟨?_, rfl⟩ ?_
  · rw [tn, sum_pI, sum_pI, sum_pI, len_pI, len_pI, len_pI, ls, lr, le, a1, a2]
    rfl
  walk_at "run"
  refine lc_enI (fun i z => .int ((if (i + 0) % 2 = 1 then (-1 : Int) else 1) * (z : Int))) (by rw [tn, le]; omega) ?_ ?_
  · intro i z hz A Q' h'
    walk_at "run"
    refine br_dec (fun g => ?_) (fun g => ?_)
    · rw [if_pos (by omega)] at h'
      walk_at "run"
      exact h'
    · rw [if_neg (by omega)] at h'
      walk_at "run"
      exact h'
  intro p hp
  rw [pZ_mapIdx]
  walk_at "run"
  rw [M65.altF_sum, tn, show decide (0 % 2 = 1) = false from rfl]
  have okE := okD_pIT 19 (erow (n - 1))
  have c1 : (n : Int) % 2 = 0 → (0 : Int) = M65.altF false (erow (n - 1)) := fun g => by rw [a3, if_pos (by omega)]
  have c2 : ¬ (n : Int) % 2 = 0 → (n : Int) % 4 = 3 → (gt (zig n).1 n : Int) * -1 = M65.altF false (erow (n - 1)) := fun g g2 => by rw [a3, if_neg (by omega), if_pos (by omega)]
  have c3 : ¬ (n : Int) % 2 = 0 → ¬ (n : Int) % 4 = 3 → (gt (zig n).1 n : Int) * 1 = M65.altF false (erow (n - 1)) := fun g g2 => by rw [a3, if_neg (by omega), if_neg (by omega)]
  apply cut_
  · intro R
    refine br_dec (fun g => ?_) (fun g => ?_)
    rotate_left
    · walk_at "run"
      refine br_dec (fun g2 => ?_) (fun g2 => ?_)
      · walk_at "run"
        rw [tn, c2 g g2]
        exact R.out
      · walk_at "run"
        rw [tn, c3 g g2]
        exact R.out
    · walk_at "run"
      have z := R.out
      rw [← c1 g] at z ⊢
      exact z
  rw [pI_rev, a4]
  refine And.intro ⟨okE, okE⟩ ?_
  rw [eqD_pIT, decide_eq_true rfl]
  walk_at "run"
  refine lc_enI (fun i z => .int ((if (i + 0) % 2 = 1 then (-1 : Int) else 1) * (z : Int))) (by rw [lr]; omega) ?_ ?_
  · intro i z hz A Q' h'
    walk_at "run"
    refine br_dec (fun g => ?_) (fun g => ?_)
    · rw [if_pos (by omega)] at h'
      walk_at "run"
      exact h'
    · rw [if_neg (by omega)] at h'
      walk_at "run"
      exact h'
  intro p2 hp2
  rw [pZ_mapIdx]
  walk_at "run"
  rw [M65.altF_sum]
  refine lc_enI (fun i z => .int (((i + 0 : Nat) : Int) * (z : Int))) (by rw [le]; omega) ?_ ?_
  · intro i z hz A Q' h'
    have il : i < n := by
      have := (List.getElem?_eq_some_iff.mp hz).1
      omega
    walk_at "run"
    exact h'
  intro p3 hp3
  rw [pZ_mapIdx]
  walk_at "run"
  rw [M65.wF_sum]
  have k1 : decide (2 * (M65.wF 0 (erow (n - 1)) : Int) = ((n : Int) - 1) * (fac n : Int)) = true := by
    refine decide_eq_true ?_
    have : (n : Int) - 1 = ((n - 1 : Nat) : Int) := by omega
    rw [this, ← Int.natCast_mul, ← a6]
    rfl
  have k2 : 1 < n → M65.altF false (rrow n) = 0 := fun g => by rw [a5, if_pos g]
  have k3 : ¬ 1 < n → M65.altF false (rrow n) = -1 := fun g => by rw [a5, if_neg g]
  refine br_dec (fun g => ?_) (fun g => ?_)
  · have e0 : M65.altF (decide (0 % 2 = 1)) (rrow n) = 0 := k2 (by omega)
    rw [e0]
    walk_at "run"
    rw [tn, k1]
    exact ret_same h
  · have e0 : M65.altF (decide (0 % 2 = 1)) (rrow n) = -1 := k3 (by omega)
    rw [e0]
    walk_at "run"
    rw [tn, k1]
    exact ret_same h

def fvL (m i : Nat) : List Int := (List.range (m + 1)).map (M65.fv m i)
def fvM (m i j : Nat) : List Int := (List.range (m + 1)).map fun a => if a < j then M65.fv m (i + 1) a else M65.fv m i a
def sp_lw_undone_right : List D → AH → DK → Prop
  | [.int n], A, Q => (1 ≤ n ∧ n ≤ 24) ∧ Q (.bl true) A
  | _, _, _ => False
theorem m_lw_undone_right : MonL sp_lw_undone_right := fun ds A Q Q' k h => by
  unfold sp_lw_undone_right at h ⊢
  split at h <;> first | exact h.elim | exact k _ _ h | exact ⟨h.1, k _ _ h.2⟩ | exact ⟨h.choose, h.choose_spec.1, k _ _ h.choose_spec.2⟩ | exact fun x0 => k _ _ (h x0) | exact ⟨h.1, fun x0 => k _ _ (h.2 x0)⟩ | exact fun x0 x1 => k _ _ (h x0 x1) | exact ⟨h.1, fun x0 x1 => k _ _ (h.2 x0 x1)⟩ | exact fun x0 x1 x2 => k _ _ (h x0 x1 x2) | exact ⟨h.1, fun x0 x1 x2 => k _ _ (h.2 x0 x1 x2)⟩ | exact fun x0 x1 x2 x3 => k _ _ (h x0 x1 x2 x3) | exact ⟨h.1, fun x0 x1 x2 x3 => k _ _ (h.2 x0 x1 x2 x3)⟩ | exact fun x0 x1 x2 x3 x4 => k _ _ (h x0 x1 x2 x3 x4) | exact ⟨h.1, fun x0 x1 x2 x3 x4 => k _ _ (h.2 x0 x1 x2 x3 x4)⟩ | exact fun x0 x1 x2 x3 x4 x5 => k _ _ (h x0 x1 x2 x3 x4 x5) | exact ⟨h.1, fun x0 x1 x2 x3 x4 x5 => k _ _ (h.2 x0 x1 x2 x3 x4 x5)⟩ | exact fun x0 x1 x2 x3 x4 x5 x6 => k _ _ (h x0 x1 x2 x3 x4 x5 x6) | exact ⟨h.1, fun x0 x1 x2 x3 x4 x5 x6 => k _ _ (h.2 x0 x1 x2 x3 x4 x5 x6)⟩ | exact fun x0 x1 x2 x3 x4 x5 x6 x7 => k _ _ (h x0 x1 x2 x3 x4 x5 x6 x7) | exact ⟨h.1, fun x0 x1 x2 x3 x4 x5 x6 x7 => k _ _ (h.2 x0 x1 x2 x3 x4 x5 x6 x7)⟩ | exact fun x0 x1 x2 x3 x4 x5 x6 x7 x8 => k _ _ (h x0 x1 x2 x3 x4 x5 x6 x7 x8) | exact ⟨h.1, fun x0 x1 x2 x3 x4 x5 x6 x7 x8 => k _ _ (h.2 x0 x1 x2 x3 x4 x5 x6 x7 x8)⟩
theorem l_lw_undone_right : ∀ ds A Q, sp_lw_undone_right ds A Q → ds.length = 1 := fun ds A Q h => by
  unfold sp_lw_undone_right at h
  split at h <;> first | rfl | exact h.elim
theorem gt_big {l : List Nat} {i : Nat} (h : l.length ≤ i) : gt l i = 0 := by unfold gt; rw [List.getElem?_eq_none h]; rfl
theorem gt_small {l : List Nat} (h : l.all (fun x => x < 2 ^ 300) = true) (i : Nat) : ((gt l i : Nat) : Int).natAbs < BIG := by
  refine big_le (2 ^ 300) ?_ (by decide +kernel)
  rw [Int.natAbs_natCast]
  unfold gt
  cases e : l[i]? with
  | none => exact Nat.zero_le _
  | some x =>
    have := List.all_eq_true.mp h x (List.mem_of_getElem? e)
    exact Nat.le_of_lt (of_decide_eq_true this)
theorem small_chk {n : Nat} (h1 : 1 ≤ n) (h : n ≤ 60) : (srow n).all (fun x => x < 2 ^ 300) = true ∧ (rrow n).all (fun x => x < 2 ^ 300) = true := by
  have chk := M65.use1 M65.allA (i := n - 1) (by omega)
  have e1 : n - 1 + 1 = n := by omega
  rw [e1] at chk
  unfold M65.chkA at chk
  simp only [Bool.and_eq_true, beq_iff_eq] at chk
  obtain ⟨⟨⟨⟨⟨⟨⟨⟨a1, a2⟩, a3⟩, a4⟩, a5⟩, a6⟩, a7⟩, a8⟩, a9⟩ := chk
  exact ⟨a7, a9⟩
theorem small_chk0 {n : Nat} (h : n ≤ 60) : (srow n).all (fun x => x < 2 ^ 300) = true ∧ (rrow n).all (fun x => x < 2 ^ 300) = true := by
  cases n with
  | zero => exact ⟨by decide +kernel, by decide +kernel⟩
  | succ n => exact small_chk (by omega) h
theorem r_lw_undone_right : ∀ ds B (Q : DK), sp_lw_undone_right ds B Q → t_lw_undone_right sp_ways_of_rounds sp_ways_of_sets (rets Q) (startD 8 ds) B := by
  intro ds B Q h
  unfold sp_lw_undone_right at h
  split at h <;> first | exact h.elim | skip
  rename_i n
  unfold t_lw_undone_right
  obtain ⟨hn, h⟩ := h
  obtain ⟨n, rfl⟩ : ∃ k : Nat, n = (k : Int) := ⟨n.toNat, by omega⟩
  have tn : (n : Int).toNat = n := Int.toNat_natCast n
  have tn1 : ((n : Int) + 1).toNat = n + 1 := by omega
  have lr : (rrow n).length = n + 1 := rrow_len n
  walk_at "run"
  intro p hp
  rw [tn, tn1, show D.int 0 = D.int ((0 : Int)) from rfl, rep_pZ]
  walk_at "run"
  refine for_enI (α := Nat × Option D × Option D × Option D × Option D × Option D) (fun s => [some (.int (n : Int)), some (.tup (pI (rrow n))), some (.ref p), s.2.1, s.2.2.1, s.2.2.2.1, s.2.2.2.2.1, s.2.2.2.2.2]) (fun s => aupd B p (.lst (pZ (fvL n s.1)))) (fun i s => s.1 = i) (0, none, none, none, none, none) rfl ?_ rfl ?_ ?_
  · congr 2
    unfold fvL
    refine congrArg pZ (Eq.symm ?_)
    refine List.eq_replicate_iff.mpr ⟨by rw [List.length_map, List.length_range], ?_⟩
    intro b hb
    rw [List.mem_map] at hb
    obtain ⟨a, _, rfl⟩ := hb
    rfl
  · rintro i z ⟨j, o3, o4, o5, o6, o7⟩ hz w
    dsimp only at w ⊢
    subst w
    have il : j < n + 1 := by
      have := (List.getElem?_eq_some_iff.mp hz).1
      omega
    have ls : (srow j).length = j + 1 := srow_len j
    have ez : z = gt (rrow n) j := by unfold gt; rw [hz]; rfl
    have b1 : ((z : Int)).natAbs < BIG := by rw [ez]; exact gt_small (small_chk0 (by omega)).2 j
    have sg : ∀ K : Int → Prop, K (if (n - j) % 2 = 1 then -1 else 1) → br (decide (((n : Int) - (j : Int)) % 2 = 1)) (K (-1)) (K 1) := by
      intro K hK
      refine br_dec (fun g => ?_) (fun g => ?_)
      · rw [if_pos (by omega)] at hK; exact hK
      · rw [if_neg (by omega)] at hK; exact hK
    walk_at "run"
    apply cut_
    · intro R
      refine br_dec (fun g => ?_) (fun g => ?_)
      · walk_at "run"
        rw [show (-1 : Int) = (if (n - j) % 2 = 1 then -1 else 1) by rw [if_pos (by omega)]]
        exact R.out
      · walk_at "run"
        have z := R.out
        rw [show (if (n - j) % 2 = 1 then (-1 : Int) else 1) = 1 by rw [if_neg (by omega)]] at z
        exact z
    rw [Int.toNat_natCast]
    generalize hs : (if (n - j) % 2 = 1 then (-1 : Int) else 1) = sg
    have sv : sg = -1 ∨ sg = 1 := by
      rw [← hs]
      split
      · exact .inl rfl
      · exact .inr rfl
    have b2 : (sg * (z : Int)).natAbs < BIG := by
      rcases sv with e | e
      · rw [e, Int.neg_mul, Int.one_mul, Int.natAbs_neg]; exact b1
      · rw [e, Int.one_mul]; exact b1
    refine for_enI (α := Nat × Option D × Option D) (fun s => [some (.int (n : Int)), some (.tup (pI (rrow n))), some (.ref p), some (.int (j : Int)), some (.int (z : Int)), some (.int sg), s.2.1, s.2.2]) (fun s => aupd B p (.lst (pZ (fvM n j s.1)))) (fun i s => s.1 = i) (0, o6, o7) rfl ?_ rfl ?_ ?_
    · dsimp only
      congr 2
    · rintro a x ⟨a', o6, o7⟩ hx w
      dsimp only at w ⊢
      subst w
      have al : a' < j + 1 := by
        have := (List.getElem?_eq_some_iff.mp hx).1
        omega
      have ex : x = gt (srow j) a' := by unfold gt; rw [hx]; rfl
      have b3 : ((x : Int)).natAbs < BIG := by rw [ex]; exact gt_small (small_chk0 (by omega)).1 a'
      have lf : (fvM n j a').length = n + 1 := by unfold fvM; rw [List.length_map, List.length_range]
      have i1 := ix_pZ (l := fvM n j a') (i := a') (by omega)
      have g1 : (fvM n j a')[a']?.getD 0 = M65.fv n j a' := by
        unfold fvM
        rw [List.getElem?_map, List.getElem?_range (by omega)]
        show (if a' < a' then _ else _) = _
        rw [if_neg (by omega)]
      rw [g1] at i1
      walk_at "run"
      refine optK_of i1 ?_
      walk_at "run"
      refine onK_of (put_pZ (by omega)) ?_
      rw [aupd_aupd]
      refine ⟨(a' + 1, some _, some _), rfl, ?_, rfl⟩
      dsimp only
      congr 2
      refine congrArg pZ ?_
      have e1 : M65.fv n j a' + sg * (z : Int) * (x : Int) = M65.fv n (j + 1) a' := by rw [ez, ex, ← hs]; rfl
      rw [e1]
      refine List.ext_getElem? fun i => ?_
      unfold fvM
      rw [List.getElem?_set, List.getElem?_map, List.getElem?_map, List.length_map, List.length_range]
      by_cases c : a' = i
      · subst c
        rw [if_pos rfl, if_pos (by omega), List.getElem?_range (by omega)]
        show _ = some (if a' < a' + 1 then _ else _)
        rw [if_pos (by omega)]
      · rw [if_neg c]
        by_cases ci : i < n + 1
        · rw [List.getElem?_range ci]
          show some (if i < a' then _ else _) = some (if i < a' + 1 then _ else _)
          by_cases ca : i < a'
          · rw [if_pos ca, if_pos (by omega)]
          · rw [if_neg ca, if_neg (by omega)]
        · rw [List.getElem?_eq_none (by rw [List.length_range]; omega)]
          rfl
    · rintro ⟨a', o6, o7⟩ w
      dsimp only at w ⊢
      subst w
      refine ⟨(j + 1, some _, some _, some _, o6, o7), rfl, ?_, rfl⟩
      dsimp only
      congr 2
      unfold fvL fvM
      refine congrArg pZ (List.map_congr_left fun a _ => ?_)
      rw [ls]
      split
      · rfl
      · next c =>
        show _ = M65.fv n j a + _ * (gt (rrow n) j : Int) * (gt (srow j) a : Int)
        rw [gt_big (l := srow j) (i := a) (by omega)]
        show _ = _ + _ * 0
        rw [Int.mul_zero, Int.add_zero]
  · rintro ⟨j, o3, o4, o5, o6, o7⟩ w
    dsimp only at w ⊢
    subst w
    have chk := M65.use1 M65.allB (i := n - 1) (by omega)
    have en : n - 1 + 1 = n := by omega
    rw [en] at chk
    unfold M65.chkB at chk
    have e1 : fvL n (n + 1) = List.replicate n 0 ++ [1] := by
      refine List.ext_getElem? fun i => ?_
      unfold fvL
      rw [List.getElem?_map]
      by_cases c : i < n + 1
      · rw [List.getElem?_range c]
        have := List.all_eq_true.mp chk i (List.mem_range.mpr c)
        rw [beq_iff_eq] at this
        show some (M65.fv n (n + 1) i) = _
        rw [this]
        by_cases c2 : i = n
        · rw [if_pos c2, c2, List.getElem?_append_right (by simp)]
          simp
        · rw [if_neg c2, List.getElem?_append_left (by simp; omega), List.getElem?_replicate, if_pos (by omega)]
      · rw [List.getElem?_eq_none (by rw [List.length_range]; omega), List.getElem?_eq_none (by simp; omega)]
        rfl
    rw [lr, e1]
    have ok1 := okD_pZ 19 (List.replicate n 0 ++ [1])
    walk_at "run"
    rw [tn, rep_pZ n 0]
    walk_at "run"
    rw [pZ_snoc]
    refine And.intro ⟨ok1, ok1⟩ ?_
    rw [eqD_pZL, decide_eq_true rfl]
    exact ret_same h

def sp_lw_powers_right : List D → AH → DK → Prop
  | [.int n, .int x], A, Q => ((1 ≤ n ∧ n ≤ 60) ∧ 0 ≤ x ∧ x < 40) ∧ Q (.bl true) A
  | _, _, _ => False
theorem m_lw_powers_right : MonL sp_lw_powers_right := fun ds A Q Q' k h => by
  unfold sp_lw_powers_right at h ⊢
  split at h <;> first | exact h.elim | exact k _ _ h | exact ⟨h.1, k _ _ h.2⟩ | exact ⟨h.choose, h.choose_spec.1, k _ _ h.choose_spec.2⟩ | exact fun x0 => k _ _ (h x0) | exact ⟨h.1, fun x0 => k _ _ (h.2 x0)⟩ | exact fun x0 x1 => k _ _ (h x0 x1) | exact ⟨h.1, fun x0 x1 => k _ _ (h.2 x0 x1)⟩ | exact fun x0 x1 x2 => k _ _ (h x0 x1 x2) | exact ⟨h.1, fun x0 x1 x2 => k _ _ (h.2 x0 x1 x2)⟩ | exact fun x0 x1 x2 x3 => k _ _ (h x0 x1 x2 x3) | exact ⟨h.1, fun x0 x1 x2 x3 => k _ _ (h.2 x0 x1 x2 x3)⟩ | exact fun x0 x1 x2 x3 x4 => k _ _ (h x0 x1 x2 x3 x4) | exact ⟨h.1, fun x0 x1 x2 x3 x4 => k _ _ (h.2 x0 x1 x2 x3 x4)⟩ | exact fun x0 x1 x2 x3 x4 x5 => k _ _ (h x0 x1 x2 x3 x4 x5) | exact ⟨h.1, fun x0 x1 x2 x3 x4 x5 => k _ _ (h.2 x0 x1 x2 x3 x4 x5)⟩ | exact fun x0 x1 x2 x3 x4 x5 x6 => k _ _ (h x0 x1 x2 x3 x4 x5 x6) | exact ⟨h.1, fun x0 x1 x2 x3 x4 x5 x6 => k _ _ (h.2 x0 x1 x2 x3 x4 x5 x6)⟩ | exact fun x0 x1 x2 x3 x4 x5 x6 x7 => k _ _ (h x0 x1 x2 x3 x4 x5 x6 x7) | exact ⟨h.1, fun x0 x1 x2 x3 x4 x5 x6 x7 => k _ _ (h.2 x0 x1 x2 x3 x4 x5 x6 x7)⟩ | exact fun x0 x1 x2 x3 x4 x5 x6 x7 x8 => k _ _ (h x0 x1 x2 x3 x4 x5 x6 x7 x8) | exact ⟨h.1, fun x0 x1 x2 x3 x4 x5 x6 x7 x8 => k _ _ (h.2 x0 x1 x2 x3 x4 x5 x6 x7 x8)⟩
theorem l_lw_powers_right : ∀ ds A Q, sp_lw_powers_right ds A Q → ds.length = 2 := fun ds A Q h => by
  unfold sp_lw_powers_right at h
  split at h <;> first | rfl | exact h.elim
theorem worp_sum (m x : Nat) (l : List Nat) : ∀ k : Nat, (l.mapIdx fun i (z : Nat) => (z : Int) * ((ch (x + (i + k)) m : Nat) : Int)).sum = (M65.worp m x k l : Int) := by
  induction l with
  | nil => intro k; rfl
  | cons e l ih =>
    intro k
    rw [List.mapIdx_cons, List.sum_cons]
    have e1 : (fun i (z : Nat) => (z : Int) * ((ch (x + (i + 1 + k)) m : Nat) : Int)) = fun i (z : Nat) => (z : Int) * ((ch (x + (i + (k + 1))) m : Nat) : Int) := by
      funext i z
      rw [Nat.add_right_comm i 1 k, Nat.add_assoc i]
    rw [e1, ih (k + 1), Nat.zero_add, ← Int.natCast_mul, ← Int.natCast_add]
    show _ = ((e * gt (rowP (x + k)) m + M65.worp m x (k + 1) l : Nat) : Int)
    rw [show gt (rowP (x + k)) m = ch (x + k) m from rowP_at _ _]
theorem ch_le : ∀ (n k : Nat), ch n k ≤ 2 ^ n
  | n, 0 => by rw [ch_zero]; exact Nat.pos_of_ne_zero (by simp)
  | 0, k + 1 => Nat.zero_le _
  | n + 1, k + 1 => by
    have := ch_le n k
    have := ch_le n (k + 1)
    rw [ch_succ, Nat.pow_succ]
    omega
theorem ch_big' {n k : Nat} (h : n ≤ 200) : ((ch n k : Nat) : Int).natAbs < BIG := by
  refine big_le (2 ^ 200) ?_ (by decide +kernel)
  rw [Int.natAbs_natCast]
  exact Nat.le_trans (ch_le n k) (Nat.pow_le_pow_right (by decide) h)
theorem r_lw_powers_right : ∀ ds B (Q : DK), sp_lw_powers_right ds B Q → t_lw_powers_right sp_orders_by_rises sp_ways_of_sets sp_lw_power sp_lw_choose (rets Q) (startD 10 ds) B := by
  intro ds B Q h
  unfold sp_lw_powers_right at h
  split at h <;> first | exact h.elim | skip
  rename_i n x
  unfold t_lw_powers_right
  obtain ⟨⟨hn, hx⟩, h⟩ := h
  obtain ⟨n, rfl⟩ : ∃ k : Nat, n = (k : Int) := ⟨n.toNat, by omega⟩
  obtain ⟨x, rfl⟩ : ∃ k : Nat, x = (k : Int) := ⟨x.toNat, by omega⟩
  have tn : (n : Int).toNat = n := Int.toNat_natCast n
  have en : n - 1 + 1 = n := by omega
  have ls : (srow n).length = n + 1 := srow_len n
  have le : (erow (n - 1)).length = n := by rw [erow_len, en]
  have sm := (small_chk0 (n := n) (by omega)).1
  have c1 := M65.use2 M65.allG (i := n - 1) (j := x) (by omega) (by omega)
  have c2 := M65.use2 M65.allC (i := n - 1) (j := x) (by omega) (by omega)
  rw [en] at c1 c2
  unfold M65.chkG at c1
  unfold M65.chkC at c2
  rw [beq_iff_eq] at c1 c2
  have esm : (erow (n - 1)).all (fun x => x < 2 ^ 300) = true := by
    by_cases z : n = 1
    · subst z; decide +kernel
    · have chk := M65.use1 M65.allA (i := n - 2) (by omega)
      have e1 : n - 2 + 1 = n - 1 := by omega
      rw [e1] at chk
      unfold M65.chkA at chk
      simp only [Bool.and_eq_true, beq_iff_eq] at chk
      exact chk.1.2
  walk_at "run"
  rw [tn]
  refine for_enI (α := Int × Int × Option D × Option D) (fun s => [some (.int (n : Int)), some (.int (x : Int)), some (.tup (pI (erow (n - 1)))), some (.tup (pI (srow n))), some (.int s.1), some (.int s.2.1), s.2.2.1, s.2.2.2, none, none]) (fun _ => B)
    (fun i s => s.2.1 + M65.fallT (x : Int) i s.1 ((srow n).drop i) = (x : Int) ^ n ∧ s.1.natAbs ≤ 100 ^ i) (1, 0, none, none) rfl rfl ⟨by dsimp only; rw [List.drop_zero, c1, Int.zero_add], by decide⟩ ?_ ?_
  · rintro i z ⟨f, t, o6, o7⟩ hz ⟨w1, w2⟩
    dsimp only at w1 w2 ⊢
    have il : i < n + 1 := by
      have := (List.getElem?_eq_some_iff.mp hz).1
      omega
    have ez : z = gt (srow n) i := by unfold gt; rw [hz]; rfl
    have b1 : ((z : Int)).natAbs < BIG := by rw [ez]; exact gt_small sm i
    have b2 : f.natAbs < BIG := big_le (100 ^ 61) (Nat.le_trans w2 (Nat.pow_le_pow_right (by decide) (by omega))) (by decide +kernel)
    walk_at "run"
    refine ⟨(f * ((x : Int) - (i : Int)), t + (z : Int) * f, some _, some _), rfl, rfl, ?_, ?_⟩
    · dsimp only
      have hd : (srow n).drop i = z :: (srow n).drop (i + 1) := by
        have := List.getElem?_eq_some_iff.mp hz
        rw [← this.2]
        exact List.drop_eq_getElem_cons this.1
      rw [hd] at w1
      rw [← w1]
      show _ = t + ((z : Int) * f + M65.fallT (x : Int) (i + 1) (f * ((x : Int) - (i : Int))) ((srow n).drop (i + 1)))
      omega
    · dsimp only
      rw [Int.natAbs_mul, Nat.pow_succ]
      exact Nat.mul_le_mul w2 (by omega)
  · rintro ⟨f, t, o6, o7⟩ ⟨w1, w2⟩
    dsimp only at w1 w2 ⊢
    rw [List.drop_length] at w1
    have w3 : t = (x : Int) ^ n := by rw [← w1]; exact (Int.add_zero t).symm
    walk_at "run"
    rw [tn, ← w3]
    walk_at "run"
    refine lc_enI (fun i z => .int ((z : Int) * ((ch (x + (i + 0)) n : Nat) : Int))) (by rw [le]; omega) ?_ ?_
    · intro i z hz A Q' h'
      have il : i < n := by
        have := (List.getElem?_eq_some_iff.mp hz).1
        omega
      have ez : z = gt (erow (n - 1)) i := by unfold gt; rw [hz]; rfl
      have b1 : ((z : Int)).natAbs < BIG := by rw [ez]; exact gt_small esm i
      have b2 := ch_big' (n := x + i) (k := n) (by omega)
      have e1 : ((x : Int) + (i : Int)).toNat = x + i := by omega
      walk_at "run"
      rw [e1, tn]
      walk_at "run"
      exact h'
    · intro p hp
      rw [pZ_mapIdx]
      walk_at "run"
      rw [worp_sum, c2, w3, ← Int.natCast_pow, decide_eq_true rfl]
      exact ret_same h

theorem sumD_range (f : Nat → Nat) : ∀ n, ((List.range n).map f).sum = M65.sumD f n
  | 0 => rfl
  | n + 1 => by
    rw [List.range_succ, List.map_append, List.sum_append, sumD_range f n]
    show M65.sumD f n + (f n + 0) = _
    rfl
theorem bell_small {n : Nat} (h : n ≤ 60) : ((M65.bell n : Nat) : Int).natAbs < BIG := by
  have c := (small_chk0 h).1
  refine big_le (61 * 2 ^ 300) ?_ (by decide +kernel)
  rw [Int.natAbs_natCast]
  have : ∀ l : List Nat, l.all (fun x => x < 2 ^ 300) = true → l.sum ≤ l.length * 2 ^ 300 := by
    intro l
    induction l with
    | nil => intro _; exact Nat.zero_le _
    | cons x l ih =>
      intro h
      rw [List.all_cons, Bool.and_eq_true] at h
      have h1 : x < 2 ^ 300 := of_decide_eq_true h.1
      have := ih h.2
      rw [List.sum_cons, List.length_cons, Nat.succ_mul]
      omega
  have := this _ c
  rw [srow_len] at this
  exact Nat.le_trans this (Nat.mul_le_mul_right _ (by omega))
theorem cat_small {n : Nat} (h : n ≤ 60) : ((M65.cat n : Nat) : Int).natAbs < BIG := by
  refine big_le (2 ^ 120) ?_ (by decide +kernel)
  rw [Int.natAbs_natCast]
  unfold M65.cat
  rw [show gt (rowP (2 * n)) n = ch (2 * n) n from rowP_at _ _]
  exact Nat.le_trans (Nat.div_le_self ..) (Nat.le_trans (ch_le _ _) (Nat.pow_le_pow_right (by decide) (by omega)))
theorem r_law : ∀ ds B (Q : DK), spLaw ds B Q → t_law sp_lw_cup sp_lw_rows_right sp_lw_some sp_lw_roll sp_lw_sums_right sp_lw_undone_right sp_lw_powers_right sp_lw_choose sp_set_partings sp_bracket_ways sp_lw_same sp_ways_of_sets sp_ways_of_rounds (rets Q) (startD 10 ds) B := by
  intro ds B Q h
  obtain ⟨ns, rfl, hl, h⟩ := h
  unfold t_law
  walk_at "run"
  refine ⟨ns, rfl, hl, fun p A1 hp c1 o1 => ?_⟩
  walk_at "run"
  refine for_rg0 (α := AH × Option D × Option D × Option D × Option D × Option D × Option D × Option D) (fun s => [some (.scr ns), some (.ref p), s.2.1, s.2.2.1, s.2.2.2.1, s.2.2.2.2.1, s.2.2.2.2.2.1, s.2.2.2.2.2.2.1, s.2.2.2.2.2.2.2, none]) (fun s => s.1) (fun _ s => Cup s.1 p) (A1, none, none, none, none, none, none, none) rfl rfl c1 ?_ ?_
  · rintro i ⟨A2, u2, u3, u4, u5, u6, u7, u8⟩ hi c2
    dsimp only at c2 ⊢
    walk_at "run"
    intro r1 A3 r10 r11 c3 o3
    walk_at "run"
    intro r2 A4 r20 r21 c4 o4
    walk_at "run"
    intro d A5 hd c5 o5
    have hd : ∃ m : Int, d = .int m ∧ 0 ≤ m ∧ m < 60 := by
      simp at hd
      rcases hd with rfl | rfl
      · exact ⟨_, rfl, by omega, by omega⟩
      · exact ⟨_, rfl, by omega, by omega⟩
    obtain ⟨m, rfl, m0, m1⟩ := hd
    walk_at "run"
    intro x A6 x0 x1 c6 o6
    walk_at "run"
    intro y A7 y0 y1 c7 o7
    walk_at "run"
    intro sm A8 s0 s1 c8 o8
    walk_at "run"
    intro d A9 hd c9 o9
    have hd : ∃ q : Nat, d = .int (q : Int) ∧ (q = 2 ∨ q = 3 ∨ q = 5 ∨ q = 7 ∨ q = 11 ∨ q = 13) := by
      simp at hd
      rcases hd with rfl | rfl | rfl | rfl | rfl | rfl
      · exact ⟨2, rfl, by decide⟩
      · exact ⟨3, rfl, by decide⟩
      · exact ⟨5, rfl, by decide⟩
      · exact ⟨7, rfl, by decide⟩
      · exact ⟨11, rfl, by decide⟩
      · exact ⟨13, rfl, by decide⟩
    obtain ⟨q, rfl, hq⟩ := hd
    obtain ⟨sm, rfl⟩ : ∃ k : Nat, sm = (k : Int) := ⟨sm.toNat, by omega⟩
    have t1 : ((sm : Int) + 1).toNat = sm + 1 := by omega
    have t2 : (sm : Int).toNat = sm := Int.toNat_natCast sm
    walk_at "run"
    rw [t1]
    refine lc_rg (fun k => .int ((gt (rowP sm) k * M65.bell k : Nat) : Int)) (by omega) ?_ ?_
    · intro k hk A Q' h'
      have b1 := ch_big' (n := sm) (k := k) (by omega)
      have b2 := bell_small (n := k) (by omega)
      walk_at "run"
      rw [Int.toNat_natCast, Int.toNat_natCast]
      walk_at "run"
      rw [show gt (rowP sm) k = ch sm k from rowP_at _ _, Int.natCast_mul] at h'
      exact h'
    intro p1 hp1
    rw [pI_map]
    walk_at "run"
    rw [sum_pI, sumD_range, t1]
    have ck := M65.use1 M65.allD (i := sm) (by omega)
    unfold M65.chkD at ck
    rw [beq_iff_eq] at ck
    rw [ck]
    walk_at "run"
    intro fw A10 f0 f1 c10 o10
    obtain ⟨fw, rfl⟩ : ∃ k : Nat, fw = (k : Int) := ⟨fw.toNat, by omega⟩
    have t3 : ((fw : Int) + (q : Int)).toNat = fw + q := by omega
    have t4 : ((fw : Int) + 1).toNat = fw + 1 := by omega
    walk_at "run"
    rw [t3, t4, Int.toNat_natCast]
    have ce : ((M65.bell (fw + q) : Int) - (M65.bell fw : Int) - (M65.bell (fw + 1) : Int)) % (q : Int) = 0 := by
      have e1 := List.all_eq_true.mp M65.allE q (by rcases hq with rfl | rfl | rfl | rfl | rfl | rfl <;> simp)
      have e2 := M65.use1 e1 (i := fw) (by omega)
      unfold M65.chkE at e2
      rwa [beq_iff_eq] at e2
    rw [ce]
    walk_at "run"
    rw [t1]
    refine lc_rg (fun k => .int ((M65.cat k * M65.cat (sm - k) : Nat) : Int)) (by omega) ?_ ?_
    · intro k hk A Q' h'
      have b1 := cat_small (n := k) (by omega)
      have b2 := cat_small (n := sm - k) (by omega)
      have t5 : ((sm : Int) - (k : Int)).toNat = sm - k := by omega
      walk_at "run"
      rw [Int.toNat_natCast, t5]
      walk_at "run"
      rw [Int.natCast_mul] at h'
      exact h'
    intro p2 hp2
    rw [pI_map]
    walk_at "run"
    rw [sum_pI, sumD_range]
    have ck2 := M65.use1 M65.allF (i := sm) (by omega)
    unfold M65.chkF at ck2
    rw [beq_iff_eq] at ck2
    rw [← ck2]
    have t6 : (2 * (sm : Int)).toNat = 2 * sm := by omega
    rw [t1, t6, t2]
    refine And.intro ⟨?_, rfl⟩ ?_
    · have : (M65.cat sm : Int) = ((ch (2 * sm) sm : Nat) : Int) / ((sm : Int) + 1) := by
        unfold M65.cat
        rw [show gt (rowP (2 * sm)) sm = ch (2 * sm) sm from rowP_at _ _]
        rfl
      rw [this]
    walk_at "run"
    exact ⟨(A10, some _, some _, some _, some _, some _, some _, some _), rfl, rfl, c10⟩
  · rintro ⟨A2, u2, u3, u4, u5, u6, u7, u8⟩ c2
    walk_at "run"
    exact ret_same (h _)
end Wk

namespace Wk
open PySem PySem.Spec L2 Rk
structure Df (K : PySem.W.Frag) (mg : Str → Option Value) : Prop where
  bt : Bt K mg
  f_fits_whole : Def K mg "fits_whole" s_fits_whole ["value", "low", "high"]
  f_need_whole : Def K mg "need_whole" s_need_whole ["value", "low", "high"]
  f_choose_row : Def K mg "choose_row" s_choose_row ["many"]
  f_sets_in : Def K mg "sets_in" s_sets_in ["many"]
  f_rounds_in : Def K mg "rounds_in" s_rounds_in ["many"]
  f_rises_in : Def K mg "rises_in" s_rises_in ["many"]
  f_zigzag_in : Def K mg "zigzag_in" s_zigzag_in ["many"]
  f_ways_of_sets : Def K mg "ways_of_sets" s_ways_of_sets ["many"]
  f_ways_of_rounds : Def K mg "ways_of_rounds" s_ways_of_rounds ["many"]
  f_orders_by_rises : Def K mg "orders_by_rises" s_orders_by_rises ["many"]
  f_set_partings : Def K mg "set_partings" s_set_partings ["many"]
  f_up_and_down : Def K mg "up_and_down" s_up_and_down ["many"]
  f_bracket_ways : Def K mg "bracket_ways" s_bracket_ways ["many"]
  f_lw_cup : Def K mg "_law_cup" s_lw_cup ["script"]
  f_lw_roll : Def K mg "_law_roll" s_lw_roll ["cup", "many"]
  f_lw_some : Def K mg "_law_some" s_lw_some ["cup", "things"]
  f_lw_same : Def K mg "_law_same" s_lw_same ["told", "due"]
  f_lw_power : Def K mg "_law_power" s_lw_power ["number", "many"]
  f_lw_choose : Def K mg "_law_choose" s_lw_choose ["many", "some"]
  f_lw_rows_right : Def K mg "_law_rows_right" s_lw_rows_right []
  f_lw_orders : Def K mg "_law_orders" s_lw_orders ["many"]
  f_lw_sums_right : Def K mg "_law_sums_right" s_lw_sums_right ["many"]
  f_lw_undone_right : Def K mg "_law_undone_right" s_lw_undone_right ["many"]
  f_lw_powers_right : Def K mg "_law_powers_right" s_lw_powers_right ["many", "number"]
theorem df_mk {K : PySem.W.Frag} {h : Heap} {mg : Str → Option Value} (X : K.In h) (G : h.Ns mainGlobals mg)
    (x_fits_whole : DefIn K "fits_whole" s_fits_whole)
    (x_need_whole : DefIn K "need_whole" s_need_whole)
    (x_choose_row : DefIn K "choose_row" s_choose_row)
    (x_sets_in : DefIn K "sets_in" s_sets_in)
    (x_rounds_in : DefIn K "rounds_in" s_rounds_in)
    (x_rises_in : DefIn K "rises_in" s_rises_in)
    (x_zigzag_in : DefIn K "zigzag_in" s_zigzag_in)
    (x_ways_of_sets : DefIn K "ways_of_sets" s_ways_of_sets)
    (x_ways_of_rounds : DefIn K "ways_of_rounds" s_ways_of_rounds)
    (x_orders_by_rises : DefIn K "orders_by_rises" s_orders_by_rises)
    (x_set_partings : DefIn K "set_partings" s_set_partings)
    (x_up_and_down : DefIn K "up_and_down" s_up_and_down)
    (x_bracket_ways : DefIn K "bracket_ways" s_bracket_ways)
    (x_lw_cup : DefIn K "_law_cup" s_lw_cup)
    (x_lw_roll : DefIn K "_law_roll" s_lw_roll)
    (x_lw_some : DefIn K "_law_some" s_lw_some)
    (x_lw_same : DefIn K "_law_same" s_lw_same)
    (x_lw_power : DefIn K "_law_power" s_lw_power)
    (x_lw_choose : DefIn K "_law_choose" s_lw_choose)
    (x_lw_rows_right : DefIn K "_law_rows_right" s_lw_rows_right)
    (x_lw_orders : DefIn K "_law_orders" s_lw_orders)
    (x_lw_sums_right : DefIn K "_law_sums_right" s_lw_sums_right)
    (x_lw_undone_right : DefIn K "_law_undone_right" s_lw_undone_right)
    (x_lw_powers_right : DefIn K "_law_powers_right" s_lw_powers_right)
    (z_abs : PySem.W.nsIn K mainGlobals "abs" = some none)
    (z_bool : PySem.W.nsIn K mainGlobals "bool" = some none)
    (z_enumerate : PySem.W.nsIn K mainGlobals "enumerate" = some none)
    (z_int : PySem.W.nsIn K mainGlobals "int" = some none)
    (z_isinstance : PySem.W.nsIn K mainGlobals "isinstance" = some none)
    (z_len : PySem.W.nsIn K mainGlobals "len" = some none)
    (z_list : PySem.W.nsIn K mainGlobals "list" = some none)
    (z_range : PySem.W.nsIn K mainGlobals "range" = some none)
    (z_sum : PySem.W.nsIn K mainGlobals "sum" = some none)
    (z_tuple : PySem.W.nsIn K mainGlobals "tuple" = some none)
    (y_ROWS : GlobD K mg "ROWS" k_ROWS)
    : Df K mg := by
  refine ⟨⟨PySem.W.mg_none_of X G z_abs, PySem.W.mg_none_of X G z_bool, PySem.W.mg_none_of X G z_enumerate, PySem.W.mg_none_of X G z_int, PySem.W.mg_none_of X G z_isinstance, PySem.W.mg_none_of X G z_len, PySem.W.mg_none_of X G z_list, PySem.W.mg_none_of X G z_range, PySem.W.mg_none_of X G z_sum, PySem.W.mg_none_of X G z_tuple, y_ROWS⟩, x_fits_whole.def X G fun _ _ _ _ _ _ us hl => match us, hl with | [_, _, _], _ => rfl, x_need_whole.def X G fun _ _ _ _ _ _ us hl => match us, hl with | [_, _, _], _ => rfl, x_choose_row.def X G fun _ _ _ _ _ _ us hl => match us, hl with | [_], _ => rfl, x_sets_in.def X G fun _ _ _ _ _ _ us hl => match us, hl with | [_], _ => rfl, x_rounds_in.def X G fun _ _ _ _ _ _ us hl => match us, hl with | [_], _ => rfl, x_rises_in.def X G fun _ _ _ _ _ _ us hl => match us, hl with | [_], _ => rfl, x_zigzag_in.def X G fun _ _ _ _ _ _ us hl => match us, hl with | [_], _ => rfl, x_ways_of_sets.def X G fun _ _ _ _ _ _ us hl => match us, hl with | [_], _ => rfl, x_ways_of_rounds.def X G fun _ _ _ _ _ _ us hl => match us, hl with | [_], _ => rfl, x_orders_by_rises.def X G fun _ _ _ _ _ _ us hl => match us, hl with | [_], _ => rfl, x_set_partings.def X G fun _ _ _ _ _ _ us hl => match us, hl with | [_], _ => rfl, x_up_and_down.def X G fun _ _ _ _ _ _ us hl => match us, hl with | [_], _ => rfl, x_bracket_ways.def X G fun _ _ _ _ _ _ us hl => match us, hl with | [_], _ => rfl, x_lw_cup.def X G fun _ _ _ _ _ _ us hl => match us, hl with | [_], _ => rfl, x_lw_roll.def X G fun _ _ _ _ _ _ us hl => match us, hl with | [_, _], _ => rfl, x_lw_some.def X G fun _ _ _ _ _ _ us hl => match us, hl with | [_, _], _ => rfl, x_lw_same.def X G fun _ _ _ _ _ _ us hl => match us, hl with | [_, _], _ => rfl, x_lw_power.def X G fun _ _ _ _ _ _ us hl => match us, hl with | [_, _], _ => rfl, x_lw_choose.def X G fun _ _ _ _ _ _ us hl => match us, hl with | [_, _], _ => rfl, x_lw_rows_right.def X G fun _ _ _ _ _ _ us hl => match us, hl with | [], _ => rfl, x_lw_orders.def X G fun _ _ _ _ _ _ us hl => match us, hl with | [_], _ => rfl, x_lw_sums_right.def X G fun _ _ _ _ _ _ us hl => match us, hl with | [_], _ => rfl, x_lw_undone_right.def X G fun _ _ _ _ _ _ us hl => match us, hl with | [_], _ => rfl, x_lw_powers_right.def X G fun _ _ _ _ _ _ us hl => match us, hl with | [_, _], _ => rfl⟩
section
variable {P : Program} {w : World} {K : PySem.W.Frag} {mg : Str → Option Value} {base : Heap}
theorem ok_fits_whole (T : Df K mg) : AFn P w K mg base 1 "fits_whole" sp_fits_whole := T.f_fits_whole.ok sc_fits_whole m_fits_whole l_fits_whole fun f cdv A outer s H E hr => ⟨_, d_fits_whole T.bt  f cdv A outer s H E hr, r_fits_whole⟩
theorem ok_choose_row (T : Df K mg) : AFn P w K mg base 1 "choose_row" sp_choose_row := T.f_choose_row.ok sc_choose_row m_choose_row l_choose_row fun f cdv A outer s H E hr => ⟨_, d_choose_row T.bt  f cdv A outer s H E hr, r_choose_row⟩
theorem ok_sets_in (T : Df K mg) : AFn P w K mg base 1 "sets_in" sp_sets_in := T.f_sets_in.ok sc_sets_in m_sets_in l_sets_in fun f cdv A outer s H E hr => ⟨_, d_sets_in T.bt  f cdv A outer s H E hr, r_sets_in⟩
theorem ok_rounds_in (T : Df K mg) : AFn P w K mg base 1 "rounds_in" sp_rounds_in := T.f_rounds_in.ok sc_rounds_in m_rounds_in l_rounds_in fun f cdv A outer s H E hr => ⟨_, d_rounds_in T.bt  f cdv A outer s H E hr, r_rounds_in⟩
theorem ok_rises_in (T : Df K mg) : AFn P w K mg base 1 "rises_in" sp_rises_in := T.f_rises_in.ok sc_rises_in m_rises_in l_rises_in fun f cdv A outer s H E hr => ⟨_, d_rises_in T.bt  f cdv A outer s H E hr, r_rises_in⟩
theorem ok_zigzag_in (T : Df K mg) : AFn P w K mg base 1 "zigzag_in" sp_zigzag_in := T.f_zigzag_in.ok sc_zigzag_in m_zigzag_in l_zigzag_in fun f cdv A outer s H E hr => ⟨_, d_zigzag_in T.bt  f cdv A outer s H E hr, r_zigzag_in⟩
theorem ok_lw_cup (T : Df K mg) : AFn P w K mg base 1 "_law_cup" sp_lw_cup := T.f_lw_cup.ok sc_lw_cup m_lw_cup l_lw_cup fun f cdv A outer s H E hr => ⟨_, d_lw_cup T.bt  f cdv A outer s H E hr, r_lw_cup⟩
theorem ok_lw_roll (T : Df K mg) : AFn P w K mg base 1 "_law_roll" sp_lw_roll := T.f_lw_roll.ok sc_lw_roll m_lw_roll l_lw_roll fun f cdv A outer s H E hr => ⟨_, d_lw_roll T.bt  f cdv A outer s H E hr, r_lw_roll⟩
theorem ok_lw_power (T : Df K mg) : AFn P w K mg base 1 "_law_power" sp_lw_power := T.f_lw_power.ok sc_lw_power m_lw_power l_lw_power fun f cdv A outer s H E hr => ⟨_, d_lw_power T.bt  f cdv A outer s H E hr, r_lw_power⟩
theorem ok_lw_choose (T : Df K mg) : AFn P w K mg base 1 "_law_choose" sp_lw_choose := T.f_lw_choose.ok sc_lw_choose m_lw_choose l_lw_choose fun f cdv A outer s H E hr => ⟨_, d_lw_choose T.bt  f cdv A outer s H E hr, r_lw_choose⟩
theorem ok_lw_orders (T : Df K mg) : AFn P w K mg base 1 "_law_orders" sp_lw_orders := T.f_lw_orders.ok sc_lw_orders m_lw_orders l_lw_orders fun f cdv A outer s H E hr => ⟨_, d_lw_orders T.bt  f cdv A outer s H E hr, r_lw_orders⟩
theorem ok_need_whole (T : Df K mg) : AFn P w K mg base 2 "need_whole" sp_need_whole := T.f_need_whole.ok sc_need_whole m_need_whole l_need_whole fun f cdv A outer s H E hr => ⟨_, d_need_whole T.bt (ok_fits_whole T) f cdv A outer s H E hr, r_need_whole⟩
theorem ok_lw_some (T : Df K mg) : AFn P w K mg base 2 "_law_some" sp_lw_some := T.f_lw_some.ok sc_lw_some m_lw_some l_lw_some fun f cdv A outer s H E hr => ⟨_, d_lw_some T.bt (ok_lw_roll T) f cdv A outer s H E hr, r_lw_some⟩
theorem ok_ways_of_sets (T : Df K mg) : AFn P w K mg base 3 "ways_of_sets" sp_ways_of_sets := T.f_ways_of_sets.ok sc_ways_of_sets m_ways_of_sets l_ways_of_sets fun f cdv A outer s H E hr => ⟨_, d_ways_of_sets T.bt (ok_need_whole T) (ok_sets_in T) f cdv A outer s H E hr, r_ways_of_sets⟩
theorem ok_ways_of_rounds (T : Df K mg) : AFn P w K mg base 3 "ways_of_rounds" sp_ways_of_rounds := T.f_ways_of_rounds.ok sc_ways_of_rounds m_ways_of_rounds l_ways_of_rounds fun f cdv A outer s H E hr => ⟨_, d_ways_of_rounds T.bt (ok_need_whole T) (ok_rounds_in T) f cdv A outer s H E hr, r_ways_of_rounds⟩
theorem ok_orders_by_rises (T : Df K mg) : AFn P w K mg base 3 "orders_by_rises" sp_orders_by_rises := T.f_orders_by_rises.ok sc_orders_by_rises m_orders_by_rises l_orders_by_rises fun f cdv A outer s H E hr => ⟨_, d_orders_by_rises T.bt (ok_need_whole T) (ok_rises_in T) f cdv A outer s H E hr, r_orders_by_rises⟩
theorem ok_set_partings (T : Df K mg) : AFn P w K mg base 3 "set_partings" sp_set_partings := T.f_set_partings.ok sc_set_partings m_set_partings l_set_partings fun f cdv A outer s H E hr => ⟨_, d_set_partings T.bt (ok_need_whole T) (ok_sets_in T) f cdv A outer s H E hr, r_set_partings⟩
theorem ok_up_and_down (T : Df K mg) : AFn P w K mg base 3 "up_and_down" sp_up_and_down := T.f_up_and_down.ok sc_up_and_down m_up_and_down l_up_and_down fun f cdv A outer s H E hr => ⟨_, d_up_and_down T.bt (ok_need_whole T) (ok_zigzag_in T) f cdv A outer s H E hr, r_up_and_down⟩
theorem ok_bracket_ways (T : Df K mg) : AFn P w K mg base 3 "bracket_ways" sp_bracket_ways := T.f_bracket_ways.ok sc_bracket_ways m_bracket_ways l_bracket_ways fun f cdv A outer s H E hr => ⟨_, d_bracket_ways T.bt (ok_need_whole T) (ok_choose_row T) f cdv A outer s H E hr, r_bracket_ways⟩
theorem ok_lw_undone_right (T : Df K mg) : AFn P w K mg base 4 "_law_undone_right" sp_lw_undone_right := T.f_lw_undone_right.ok sc_lw_undone_right m_lw_undone_right l_lw_undone_right fun f cdv A outer s H E hr => ⟨_, d_lw_undone_right T.bt (ok_ways_of_rounds T) (ok_ways_of_sets T) f cdv A outer s H E hr, r_lw_undone_right⟩
theorem ok_lw_powers_right (T : Df K mg) : AFn P w K mg base 4 "_law_powers_right" sp_lw_powers_right := T.f_lw_powers_right.ok sc_lw_powers_right m_lw_powers_right l_lw_powers_right fun f cdv A outer s H E hr => ⟨_, d_lw_powers_right T.bt (ok_orders_by_rises T) (ok_ways_of_sets T) (ok_lw_power T) (ok_lw_choose T) f cdv A outer s H E hr, r_lw_powers_right⟩
theorem ok_lw_same (T : Df K mg) : AFn P w K mg base 13 "_law_same" sp_lw_same := (same_fn T.f_lw_same rfl sc_lw_same (fun k sp g f cdv A outer s H E hr => d_lw_same (Nat.zero_le k) T.bt g f cdv A outer s H E hr) 7).le (by decide)
theorem ok_lw_rows_right (T : Df K mg) : AFn P w K mg base 14 "_law_rows_right" sp_lw_rows_right := T.f_lw_rows_right.ok sc_lw_rows_right m_lw_rows_right l_lw_rows_right fun f cdv A outer s H E hr => ⟨_, d_lw_rows_right T.bt (ok_ways_of_sets T) (ok_ways_of_rounds T) (ok_orders_by_rises T) (ok_set_partings T) (ok_up_and_down T) (ok_bracket_ways T) (ok_lw_same T) f cdv A outer s H E hr, r_lw_rows_right⟩
theorem ok_lw_sums_right (T : Df K mg) : AFn P w K mg base 14 "_law_sums_right" sp_lw_sums_right := T.f_lw_sums_right.ok sc_lw_sums_right m_lw_sums_right l_lw_sums_right fun f cdv A outer s H E hr => ⟨_, d_lw_sums_right T.bt (ok_ways_of_sets T) (ok_ways_of_rounds T) (ok_orders_by_rises T) (ok_lw_same T) (ok_set_partings T) (ok_lw_orders T) (ok_up_and_down T) f cdv A outer s H E hr, r_lw_sums_right⟩
theorem law_all {f : Addr} {fd : FuncData} (T : Df K mg) (F : Fun K "law" "law" s_law f fd) : FnOk P w K mg base CX0 15 f fd ["script"] (fun vs H Q _ => liftL K spLaw vs H Q) := law_fn F sc_law fun f cdv A outer s H E hr => ⟨_, d_law T.bt (ok_lw_cup T) (ok_lw_rows_right T) (ok_lw_some T) (ok_lw_roll T) (ok_lw_sums_right T) (ok_lw_undone_right T) (ok_lw_powers_right T) (ok_lw_choose T) (ok_set_partings T) (ok_bracket_ways T) (ok_lw_same T) (ok_ways_of_sets T) (ok_ways_of_rounds T) f cdv A outer s H E hr, r_law⟩
end
end Wk
open PySem PySem.W PyProof.Rows
set_option maxRecDepth 100000 in
set_option maxHeartbeats 0 in
theorem PySem.Challenge.cw_reckonloft_k65_triangles_of_named_number_holds : PySem.Challenge.rw_reckonloft_k65_triangles_of_named_number.Holds := by
  w_on; o_law; k_head; (case hw => w_witness2)
  k_fill
  refine Rk.law_walk (l := PySem.Challenge.rw_reckonloft_k65_triangles_of_named_number) (st := Wk.s_law) (k := 15) rfl rfl ⟨rfl, by decide, by decide⟩ rfl (fun w h Y => PySem.W.kIn_of Y) (fun _ _ _ _ _ _ _ => rfl) ?D ?F
  case D =>
    intro w
    refine' Rk.defIn ?a ?l ?c ?k; (case a => k_is); (case l => k_is); (case c => k_is); (case k => k_is)
  case F =>
    intro w mg h base KX G f fd F
    refine Wk.law_all ?T F
    refine Wk.df_mk KX G ?x0 ?x1 ?x2 ?x3 ?x4 ?x5 ?x6 ?x7 ?x8 ?x9 ?x10 ?x11 ?x12 ?x13 ?x14 ?x15 ?x16 ?x17 ?x18 ?x19 ?x20 ?x21 ?x22 ?x23 ?z0 ?z1 ?z2 ?z3 ?z4 ?z5 ?z6 ?z7 ?z8 ?z9 ?y0
    case x0 => (refine' Rk.defIn ?a ?l ?c ?k; (case a => k_is); (case l => k_is); (case c => k_is); (case k => k_is))
    case x1 => (refine' Rk.defIn ?a ?l ?c ?k; (case a => k_is); (case l => k_is); (case c => k_is); (case k => k_is))
    case x2 => (refine' Rk.defIn ?a ?l ?c ?k; (case a => k_is); (case l => k_is); (case c => k_is); (case k => k_is))
    case x3 => (refine' Rk.defIn ?a ?l ?c ?k; (case a => k_is); (case l => k_is); (case c => k_is); (case k => k_is))
    case x4 => (refine' Rk.defIn ?a ?l ?c ?k; (case a => k_is); (case l => k_is); (case c => k_is); (case k => k_is))
    case x5 => (refine' Rk.defIn ?a ?l ?c ?k; (case a => k_is); (case l => k_is); (case c => k_is); (case k => k_is))
    case x6 => (refine' Rk.defIn ?a ?l ?c ?k; (case a => k_is); (case l => k_is); (case c => k_is); (case k => k_is))
    case x7 => (refine' Rk.defIn ?a ?l ?c ?k; (case a => k_is); (case l => k_is); (case c => k_is); (case k => k_is))
    case x8 => (refine' Rk.defIn ?a ?l ?c ?k; (case a => k_is); (case l => k_is); (case c => k_is); (case k => k_is))
    case x9 => (refine' Rk.defIn ?a ?l ?c ?k; (case a => k_is); (case l => k_is); (case c => k_is); (case k => k_is))
    case x10 => (refine' Rk.defIn ?a ?l ?c ?k; (case a => k_is); (case l => k_is); (case c => k_is); (case k => k_is))
    case x11 => (refine' Rk.defIn ?a ?l ?c ?k; (case a => k_is); (case l => k_is); (case c => k_is); (case k => k_is))
    case x12 => (refine' Rk.defIn ?a ?l ?c ?k; (case a => k_is); (case l => k_is); (case c => k_is); (case k => k_is))
    case x13 => (refine' Rk.defIn ?a ?l ?c ?k; (case a => k_is); (case l => k_is); (case c => k_is); (case k => k_is))
    case x14 => (refine' Rk.defIn ?a ?l ?c ?k; (case a => k_is); (case l => k_is); (case c => k_is); (case k => k_is))
    case x15 => (refine' Rk.defIn ?a ?l ?c ?k; (case a => k_is); (case l => k_is); (case c => k_is); (case k => k_is))
    case x16 => (refine' Rk.defIn ?a ?l ?c ?k; (case a => k_is); (case l => k_is); (case c => k_is); (case k => k_is))
    case x17 => (refine' Rk.defIn ?a ?l ?c ?k; (case a => k_is); (case l => k_is); (case c => k_is); (case k => k_is))
    case x18 => (refine' Rk.defIn ?a ?l ?c ?k; (case a => k_is); (case l => k_is); (case c => k_is); (case k => k_is))
    case x19 => (refine' Rk.defIn ?a ?l ?c ?k; (case a => k_is); (case l => k_is); (case c => k_is); (case k => k_is))
    case x20 => (refine' Rk.defIn ?a ?l ?c ?k; (case a => k_is); (case l => k_is); (case c => k_is); (case k => k_is))
    case x21 => (refine' Rk.defIn ?a ?l ?c ?k; (case a => k_is); (case l => k_is); (case c => k_is); (case k => k_is))
    case x22 => (refine' Rk.defIn ?a ?l ?c ?k; (case a => k_is); (case l => k_is); (case c => k_is); (case k => k_is))
    case x23 => (refine' Rk.defIn ?a ?l ?c ?k; (case a => k_is); (case l => k_is); (case c => k_is); (case k => k_is))
    case z0 => k_is
    case z1 => k_is
    case z2 => k_is
    case z3 => k_is
    case z4 => k_is
    case z5 => k_is
    case z6 => k_is
    case z7 => k_is
    case z8 => k_is
    case z9 => k_is
    case y0 => (refine' Rk.globD_int KX G ?a; (case a => k_is))
