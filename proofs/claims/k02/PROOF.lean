import PyProof.Rows.All
import Wide.All
import OpenK.AllK
import Wide.FinOn
import HandS.ForMost
import HandS.Flow
import HandS.Style
import HandS.Conv
import HandS.IsInst
import HandS.Wide
import HandS.TupAny
import HandS.TupMul
import HandS.SortInts
import HandS.More
import HandS.Zip
import KE.GoesEnum
import HandS.List
import HandS.NoneIn
import PySem.Challenge.RW_reckonloft_k02_whole_digits_by_groups_an
set_option Elab.async false
set_option linter.all false
set_option maxRecDepth 100000
set_option maxHeartbeats 2000000
/-! Rk: values as plain data over the hand layer; a reading is a weakest precondition over these. -/
namespace Rk
open PySem PySem.Spec L2

/-- plain data; ref a: the list that stands at a and may change -/
inductive D where
  | non | bl (b : Bool) | int (i : Int) | str (x : Str) | tup (ds : List D) | lst (ds : List D) | ref (a : Addr) | scr (ns : List Int)
inductive AO where
  | lst (ds : List D)
abbrev AH := Addr → Option AO
def aupd (A : AH) (p : Addr) (o : AO) : AH := fun b => if b = p then some o else A b
theorem aupd_same {A : AH} {p : Addr} {o : AO} : aupd A p o p = some o := by unfold aupd; rw [if_pos rfl]
theorem aupd_ne {A : AH} {p q : Addr} {o : AO} (h : q ≠ p) : aupd A p o q = A q := by unfold aupd; rw [if_neg h]
theorem aupd_aupd {A : AH} {p : Addr} {o u : AO} : aupd (aupd A p o) p u = aupd A p u := by
  funext b; unfold aupd; split <;> rfl

def KTup (K : PySem.W.Frag) (a : Addr) (xs : List V) : Prop := ∃ (o : Obj) (its : Array Value) (n : Nat), K.lookup a = some o ∧ o.cls = .type "tuple" ∧ o.data = .seq its n ∧ its.size ≤ sizeLine ∧ Vals xs its.toList
def KLst (K : PySem.W.Frag) (a : Addr) (xs : List V) : Prop := ∃ (o : Obj) (its : Array Value) (n : Nat), K.lookup a = some o ∧ o.cls = .type "list" ∧ o.dict = none ∧ o.data = .seq its n ∧ its.size ≤ sizeLine ∧ Vals xs its.toList
def TAt (K : PySem.W.Frag) (A : AH) (H : Hp) (a : Addr) (xs : List V) : Prop := (A a = none ∧ Rd H a (.tup xs)) ∨ KTup K a xs
def LAt (A : AH) (H : Hp) (a : Addr) (xs : List V) : Prop := A a = none ∧ H a = some (.lst xs)
def CAt (K : PySem.W.Frag) (A : AH) (H : Hp) (a : Addr) (xs : List V) : Prop := (A a = none ∧ Rd H a (.lst xs)) ∨ KLst K a xs
theorem TAt.sq {K : PySem.W.Frag} {A : AH} {H : Hp} {a : Addr} {xs : List V} (h : TAt K A H a xs) : SqT K H a xs := by
  rcases h with ⟨_, h⟩ | h
  · exact .inl h
  · exact .inr h
theorem LAt.sq {K : PySem.W.Frag} {A : AH} {H : Hp} {a : Addr} {xs : List V} (h : LAt A H a xs) : SqL K H a xs := .inl (.inl h.2)
theorem CAt.sq {K : PySem.W.Frag} {A : AH} {H : Hp} {a : Addr} {xs : List V} (h : CAt K A H a xs) : SqL K H a xs := by
  rcases h with ⟨_, h⟩ | h
  · exact .inl h
  · exact .inr h
mutual
def Rep (K : PySem.W.Frag) (A : AH) (H : Hp) : D → V → Prop
  | .non, v => v = .non
  | .bl b, v => v = .bl b
  | .int i, v => v = .int i
  | .str x, v => v = .str x
  | .tup ds, v => ∃ a xs, v = .ref a ∧ TAt K A H a xs ∧ Reps K A H ds xs
  | .lst ds, v => ∃ a xs, v = .ref a ∧ LAt A H a xs ∧ Reps K A H ds xs
  | .ref a, v => v = .ref a
  | .scr ns, v => ∃ a, v = .ref a ∧ CAt K A H a (ns.map V.int)
def Reps (K : PySem.W.Frag) (A : AH) (H : Hp) : List D → List V → Prop
  | [], vs => vs = []
  | d :: ds, vs => ∃ v r, vs = v :: r ∧ Rep K A H d v ∧ Reps K A H ds r
end

/-- what is not tracked stays -/
def Adv (A : AH) (H : Hp) (A' : AH) (H' : Hp) : Prop := ∀ a o, A a = none → H a = some o → A' a = none ∧ H' a = some o
theorem Adv.refl {A : AH} {H : Hp} : Adv A H A H := fun _ _ h e => ⟨h, e⟩
theorem Adv.trans {A A1 A2 : AH} {H H1 H2 : Hp} (h : Adv A H A1 H1) (g : Adv A1 H1 A2 H2) : Adv A H A2 H2 := fun a o e1 e2 =>
  let ⟨x, y⟩ := h a o e1 e2
  g a o x y
section
variable {K : PySem.W.Frag} {A A' : AH} {H H' : Hp}
theorem Adv.rd (h : Adv A H A' H') {a : Addr} {u : HO} (e : A a = none) (r : Rd H a u) : A' a = none ∧ Rd H' a u := by
  rcases r with r | ⟨o, r⟩
  · obtain ⟨x, y⟩ := h a _ e r
    exact ⟨x, .inl y⟩
  · obtain ⟨x, y⟩ := h a _ e r
    exact ⟨x, .inr ⟨o, y⟩⟩
theorem TAt.adv (h : Adv A H A' H') {a : Addr} {xs : List V} (r : TAt K A H a xs) : TAt K A' H' a xs := by
  rcases r with ⟨e, r⟩ | r
  · exact .inl (h.rd e r)
  · exact .inr r
theorem LAt.adv (h : Adv A H A' H') {a : Addr} {xs : List V} (r : LAt A H a xs) : LAt A' H' a xs := h a _ r.1 r.2
theorem CAt.adv (h : Adv A H A' H') {a : Addr} {xs : List V} (r : CAt K A H a xs) : CAt K A' H' a xs := by
  rcases r with ⟨e, r⟩ | r
  · exact .inl (h.rd e r)
  · exact .inr r
mutual
theorem Rep.adv (h : Adv A H A' H') : ∀ {d : D} {v : V}, Rep K A H d v → Rep K A' H' d v
  | .non, _, r => r
  | .bl _, _, r => r
  | .int _, _, r => r
  | .str _, _, r => r
  | .tup _, _, ⟨a, xs, e, t, r⟩ => ⟨a, xs, e, t.adv h, Reps.adv h r⟩
  | .lst _, _, ⟨a, xs, e, t, r⟩ => ⟨a, xs, e, t.adv h, Reps.adv h r⟩
  | .ref _, _, r => r
  | .scr _, _, ⟨a, e, r⟩ => ⟨a, e, r.adv h⟩
theorem Reps.adv (h : Adv A H A' H') : ∀ {ds : List D} {vs : List V}, Reps K A H ds vs → Reps K A' H' ds vs
  | [], _, r => r
  | _ :: _, _, ⟨v, r, e, x, y⟩ => ⟨v, r, e, Rep.adv h x, Reps.adv h y⟩
end
theorem Reps.length : ∀ {ds : List D} {vs : List V}, Reps K A H ds vs → vs.length = ds.length
  | [], _, r => by subst r; rfl
  | _ :: _, _, ⟨v, r, e, _, y⟩ => by subst e; simp [Reps.length y]
theorem Reps.get : ∀ {ds : List D} {vs : List V} {i : Nat} {d : D}, Reps K A H ds vs → ds[i]? = some d → ∃ v, vs[i]? = some v ∧ Rep K A H d v
  | [], _, _, _, _, h => by simp at h
  | _ :: _, _, 0, d, ⟨v, r, e, x, _⟩, h => by
    subst e
    simp at h
    subst h
    exact ⟨v, rfl, x⟩
  | _ :: ds, _, i + 1, d, ⟨v, r, e, _, y⟩, h => by
    subst e
    simp at h
    obtain ⟨u, h1, h2⟩ := Reps.get y h
    exact ⟨u, by simpa using h1, h2⟩
theorem Reps.get' : ∀ {ds : List D} {vs : List V} {i : Nat} {v : V}, Reps K A H ds vs → vs[i]? = some v → ∃ d, ds[i]? = some d ∧ Rep K A H d v
  | [], _, _, _, r, h => by subst r; simp at h
  | d :: _, _, 0, _, ⟨v, r, e, x, _⟩, h => by
    subst e
    simp at h
    subst h
    exact ⟨d, rfl, x⟩
  | _ :: ds, _, i + 1, _, ⟨v, r, e, _, y⟩, h => by
    subst e
    simp at h
    obtain ⟨u, h1, h2⟩ := Reps.get' y h
    exact ⟨u, by simpa using h1, h2⟩
theorem Reps.append : ∀ {ds es : List D} {vs us : List V}, Reps K A H ds vs → Reps K A H es us → Reps K A H (ds ++ es) (vs ++ us)
  | [], _, _, _, r, q => by subst r; exact q
  | _ :: _, _, _, _, ⟨v, r, e, x, y⟩, q => by subst e; exact ⟨v, _, rfl, x, Reps.append y q⟩
theorem Reps.one {d : D} {v : V} (h : Rep K A H d v) : Reps K A H [d] [v] := ⟨v, [], rfl, h, rfl⟩
theorem Reps.take : ∀ {ds : List D} {vs : List V} (n : Nat), Reps K A H ds vs → Reps K A H (ds.take n) (vs.take n)
  | _, _, 0, _ => rfl
  | [], _, _ + 1, r => by subst r; rfl
  | _ :: _, _, n + 1, ⟨v, r, e, x, y⟩ => by subst e; exact ⟨v, _, rfl, x, Reps.take n y⟩
theorem Reps.drop : ∀ {ds : List D} {vs : List V} (n : Nat), Reps K A H ds vs → Reps K A H (ds.drop n) (vs.drop n)
  | _, _, 0, r => r
  | [], _, _ + 1, r => by subst r; rfl
  | _ :: _, _, n + 1, ⟨v, r, e, x, y⟩ => by subst e; exact Reps.drop n y
theorem Reps.set {d : D} {v : V} (h : Rep K A H d v) : ∀ {ds : List D} {vs : List V} (i : Nat), Reps K A H ds vs → Reps K A H (ds.set i d) (vs.set i v)
  | [], _, _, r => by subst r; rfl
  | _ :: _, _, 0, ⟨u, r, e, x, y⟩ => by subst e; exact ⟨v, r, rfl, h, y⟩
  | _ :: _, _, i + 1, ⟨u, r, e, x, y⟩ => by subst e; exact ⟨u, _, rfl, x, Reps.set h i y⟩
theorem Reps.rev : ∀ {ds : List D} {vs : List V}, Reps K A H ds vs → Reps K A H ds.reverse vs.reverse
  | [], _, r => by subst r; rfl
  | _ :: _, _, ⟨v, r, e, x, y⟩ => by
    subst e
    rw [List.reverse_cons, List.reverse_cons]
    exact (Reps.rev y).append (Reps.one x)
theorem Reps.ints : ∀ {ns : List Int} {vs : List V}, Reps K A H (ns.map D.int) vs → vs = ns.map V.int
  | [], _, r => r
  | n :: ns, _, ⟨v, r, e, x, y⟩ => by
    subst e
    cases (show v = V.int n from x)
    rw [Reps.ints y]
    rfl
theorem Reps.of_ints : ∀ (ns : List Int), Reps K A H (ns.map D.int) (ns.map V.int)
  | [] => rfl
  | n :: ns => ⟨_, _, rfl, rfl, Reps.of_ints ns⟩
end

/-- the tracked lists are as told -/
def HRep (K : PySem.W.Frag) (A : AH) (H : Hp) : Prop := ∀ a o, A a = some o → match o with
  | .lst ds => ∃ vs, H a = some (.lst vs) ∧ Reps K A H ds vs
theorem HRep.none {K : PySem.W.Frag} {A : AH} {H : Hp} (h : HRep K A H) {p : Addr} (e : H p = Option.none) : A p = Option.none := by
  cases q : A p with
  | none => rfl
  | some o =>
    cases o with
    | lst ds =>
      obtain ⟨vs, e1, _⟩ := h p _ q
      rw [e] at e1
      cases e1
/-- a new object that is not tracked -/
theorem adv_new {K : PySem.W.Frag} {A : AH} {H : Hp} {p : Addr} {o : HO} (h : HRep K A H) (e : H p = none) : Adv A H A (upd H p o) ∧ HRep K A (upd H p o) := by
  have a : Adv A H A (upd H p o) := fun b u e1 e2 => ⟨e1, by rw [upd_ne (ne_of_none e2 e)]; exact e2⟩
  refine ⟨a, fun b u e1 => ?_⟩
  cases u with
  | lst ds =>
    obtain ⟨vs, e2, r⟩ := h b _ e1
    exact ⟨vs, by rw [upd_ne (ne_of_none e2 e)]; exact e2, r.adv a⟩
/-- a new list that is tracked -/
theorem adv_newT {K : PySem.W.Frag} {A : AH} {H : Hp} {p : Addr} {ds : List D} {vs : List V} (h : HRep K A H) (e : H p = none) (r : Reps K A H ds vs) :
    Adv A H (aupd A p (.lst ds)) (upd H p (.lst vs)) ∧ HRep K (aupd A p (.lst ds)) (upd H p (.lst vs)) := by
  have a : Adv A H (aupd A p (.lst ds)) (upd H p (.lst vs)) := fun b u e1 e2 => ⟨by rw [aupd_ne (ne_of_none e2 e)]; exact e1, by rw [upd_ne (ne_of_none e2 e)]; exact e2⟩
  refine ⟨a, fun b u e1 => ?_⟩
  by_cases hb : b = p
  · subst hb
    rw [aupd_same] at e1
    cases e1
    exact ⟨vs, upd_same, r.adv a⟩
  · rw [aupd_ne hb] at e1
    cases u with
    | lst ds =>
      obtain ⟨vs, e2, r⟩ := h b _ e1
      exact ⟨vs, by rw [upd_ne hb]; exact e2, r.adv a⟩
/-- a tracked list is changed -/
theorem adv_set {K : PySem.W.Frag} {A : AH} {H : Hp} {p : Addr} {ds ds' : List D} {vs' : List V} (h : HRep K A H) (e : A p = some (.lst ds)) (r : Reps K A H ds' vs') :
    Adv A H (aupd A p (.lst ds')) (upd H p (.lst vs')) ∧ HRep K (aupd A p (.lst ds')) (upd H p (.lst vs')) := by
  have a : Adv A H (aupd A p (.lst ds')) (upd H p (.lst vs')) := fun b u e1 e2 => by
    have hb : b ≠ p := fun z => by rw [z, e] at e1; cases e1
    exact ⟨by rw [aupd_ne hb]; exact e1, by rw [upd_ne hb]; exact e2⟩
  refine ⟨a, fun b u e1 => ?_⟩
  by_cases hb : b = p
  · subst hb
    rw [aupd_same] at e1
    cases e1
    exact ⟨vs', upd_same, r.adv a⟩
  · rw [aupd_ne hb] at e1
    cases u with
    | lst ds =>
      obtain ⟨vs, e2, r⟩ := h b _ e1
      exact ⟨vs, by rw [upd_ne hb]; exact e2, r.adv a⟩

/-! ### slots -/
abbrev ASt := List (Option D)
def slot : ASt → Nat → Option D
  | [], _ => none
  | o :: _, 0 => o
  | _ :: r, n + 1 => slot r n
def sset : ASt → Nat → D → ASt
  | [], _, _ => []
  | _ :: r, 0, d => some d :: r
  | o :: r, n + 1, d => o :: sset r n d
def swipe1 : ASt → Nat → ASt
  | [], _ => []
  | _ :: r, 0 => none :: r
  | o :: r, n + 1 => o :: swipe1 r n
def swipe (σ : ASt) : List Nat → ASt
  | [] => σ
  | v :: vs => swipe1 (swipe σ vs) v
def ORep (K : PySem.W.Frag) (A : AH) (H : Hp) : Option D → Option V → Prop
  | none, _ => True
  | some d, some v => Rep K A H d v
  | some _, none => False
def SRep (K : PySem.W.Frag) (A : AH) (H : Hp) : ASt → St → Prop
  | [], vs => vs = []
  | o :: r, vs => ∃ v q, vs = v :: q ∧ ORep K A H o v ∧ SRep K A H r q
section
variable {K : PySem.W.Frag} {A A' : AH} {H H' : Hp}
theorem ORep.adv (h : Adv A H A' H') : ∀ {d : Option D} {v : Option V}, ORep K A H d v → ORep K A' H' d v
  | none, _, _ => trivial
  | some _, some _, r => Rep.adv h r
  | some _, none, r => r.elim
theorem SRep.adv (h : Adv A H A' H') : ∀ {σ : ASt} {vs : St}, SRep K A H σ vs → SRep K A' H' σ vs
  | [], _, r => r
  | _ :: _, _, ⟨v, q, e, x, y⟩ => ⟨v, q, e, x.adv h, SRep.adv h y⟩
theorem SRep.get : ∀ {σ : ASt} {vs : St} {i : Nat} {d : D}, SRep K A H σ vs → slot σ i = some d → ∃ v, vs[i]? = some (some v) ∧ Rep K A H d v
  | [], _, _, _, _, h => by cases h
  | _ :: _, _, 0, d, ⟨v, q, e, x, _⟩, h => by
    subst e
    simp only [slot] at h
    subst h
    cases v with
    | none => exact (show False from x).elim
    | some v => exact ⟨v, rfl, x⟩
  | _ :: _, _, i + 1, d, ⟨v, q, e, _, y⟩, h => by
    subst e
    obtain ⟨u, h1, h2⟩ := SRep.get (i := i) y h
    exact ⟨u, by simpa using h1, h2⟩
theorem SRep.set {d : D} {v : V} (h : Rep K A H d v) : ∀ {σ : ASt} {vs : St} (i : Nat), SRep K A H σ vs → SRep K A H (sset σ i d) (vs.set i (some v))
  | [], _, _, r => by subst r; rfl
  | _ :: _, _, 0, ⟨u, q, e, x, y⟩ => by subst e; exact ⟨some v, q, rfl, h, y⟩
  | _ :: _, _, i + 1, ⟨u, q, e, x, y⟩ => by subst e; exact ⟨u, _, rfl, x, SRep.set h i y⟩
theorem SRep.wipe1 : ∀ {σ : ASt} {vs : St} (i : Nat), SRep K A H σ vs → SRep K A H (swipe1 σ i) (vs.set i none)
  | [], _, _, r => by subst r; rfl
  | _ :: _, _, 0, ⟨u, q, e, x, y⟩ => by subst e; exact ⟨none, q, rfl, trivial, y⟩
  | _ :: _, _, i + 1, ⟨u, q, e, x, y⟩ => by subst e; exact ⟨u, _, rfl, x, SRep.wipe1 i y⟩
theorem SRep.wipe {σ : ASt} {vs : St} (h : SRep K A H σ vs) : ∀ is : List Nat, SRep K A H (swipe σ is) (L2.wipe vs is)
  | [] => h
  | i :: is => SRep.wipe1 i (SRep.wipe h is)
theorem SRep.nones : ∀ (n : Nat), SRep K A H (List.replicate n none) (List.replicate n none)
  | 0 => rfl
  | n + 1 => ⟨none, _, rfl, trivial, SRep.nones n⟩
end
def startD (n : Nat) (ds : List D) : ASt := ds.map some ++ List.replicate (n - ds.length) none
theorem srep_start {K : PySem.W.Frag} {A : AH} {H : Hp} {m : Nat} : ∀ {ds : List D} {vs : List V}, Reps K A H ds vs → SRep K A H (ds.map some ++ List.replicate m none) (vs.map some ++ List.replicate m none)
  | [], _, r => by subst r; exact SRep.nones m
  | d :: ds, _, ⟨v, r, e, x, y⟩ => by subst e; exact ⟨some v, _, rfl, x, srep_start y⟩

/-! ### judgements -/
abbrev DK := D → AH → Prop
abbrev AT := ASt → AH → DK → Prop
abbrev ABt := ASt → AH → (Bool → AH → Prop) → Prop
abbrev AAt := ASt → AH → (List D → AH → Prop) → Prop
structure AEnds where
  nx : ASt → AH → Prop
  rt : DK
  bk : ASt → AH → Prop := fun _ _ => False
  ct : ASt → AH → Prop := fun _ _ => False
abbrev ASt' := AEnds → ASt → AH → Prop
def post (K : PySem.W.Frag) (A : AH) (H : Hp) (Q : VK) : DK := fun d A' => ∀ v H', Adv A H A' H' → HRep K A' H' → Rep K A' H' d v → Q v H'
def postB (K : PySem.W.Frag) (A : AH) (H : Hp) (Q : Bool → Hp → Prop) : Bool → AH → Prop := fun b A' => ∀ H', Adv A H A' H' → HRep K A' H' → Q b H'
def postA (K : PySem.W.Frag) (A : AH) (H : Hp) (Q : List V → Hp → Prop) : List D → AH → Prop := fun ds A' => ∀ vs H', Adv A H A' H' → HRep K A' H' → Reps K A' H' ds vs → Q vs H'
def postS (K : PySem.W.Frag) (A : AH) (H : Hp) (Q : St → Hp → Prop) : ASt → AH → Prop := fun σ' A' => ∀ vs H', Adv A H A' H' → HRep K A' H' → SRep K A' H' σ' vs → Q vs H'
def liftE (K : PySem.W.Frag) (t : AT) : TE := fun vs H Q => ∃ σ A, HRep K A H ∧ SRep K A H σ vs ∧ t σ A (post K A H Q)
def liftB (K : PySem.W.Frag) (t : ABt) : TT := fun vs H Q => ∃ σ A, HRep K A H ∧ SRep K A H σ vs ∧ t σ A (postB K A H Q)
def liftA (K : PySem.W.Frag) (t : AAt) : TA := fun vs H Q => ∃ σ A, HRep K A H ∧ SRep K A H σ vs ∧ t σ A (postA K A H Q)
def liftD (K : PySem.W.Frag) (A : AH) (H : Hp) (D : Ends) : AEnds := { nx := postS K A H D.nx, rt := post K A H D.rt, bk := postS K A H D.bk, ct := postS K A H D.ct }
def liftS (K : PySem.W.Frag) (t : ASt') : TS := fun D vs H => ∃ σ A, HRep K A H ∧ SRep K A H σ vs ∧ t (liftD K A H D) σ A
def MonE (t : AT) : Prop := ∀ σ A (Q Q' : DK), (∀ d A', Q d A' → Q' d A') → t σ A Q → t σ A Q'
def MonB (t : ABt) : Prop := ∀ σ A (Q Q' : Bool → AH → Prop), (∀ d A', Q d A' → Q' d A') → t σ A Q → t σ A Q'
def MonA (t : AAt) : Prop := ∀ σ A (Q Q' : List D → AH → Prop), (∀ d A', Q d A' → Q' d A') → t σ A Q → t σ A Q'
structure Sub (D D' : AEnds) : Prop where
  nx : ∀ σ A, D.nx σ A → D'.nx σ A
  rt : ∀ d A, D.rt d A → D'.rt d A
  bk : ∀ σ A, D.bk σ A → D'.bk σ A
  ct : ∀ σ A, D.ct σ A → D'.ct σ A
def MonS (t : ASt') : Prop := ∀ D D' σ A, Sub D D' → t D σ A → t D' σ A
structure AE (X : Cx) (e : Expr) (t : AT) : Prop where
  mono : MonE t
  pe : PE X e (liftE X.K t)
structure AB (X : Cx) (e : Expr) (t : ABt) : Prop where
  mono : MonB t
  pt : PT X e (liftB X.K t)
structure AW (X : Cx) (e : Expr) (t : ABt) : Prop where
  mono : MonB t
  pw : PW X e (liftB X.K t)
structure AA (X : Cx) (es : List Expr) (t : AAt) : Prop where
  mono : MonA t
  pa : PA X es (liftA X.K t)
structure AS (X : Cx) (st : Stmt) (t : ASt') : Prop where
  mono : MonS t
  ps : PS X st (liftS X.K t)
structure ASs (X : Cx) (sts : List Stmt) (t : ASt') : Prop where
  mono : MonS t
  pss : PSs X sts (liftS X.K t)
section
variable {X : Cx}
theorem pe_weak {e : Expr} {t t' : TE} (h : PE X e t) (k : ∀ σ H Q, t' σ H Q → t σ H Q) : PE X e t' := ⟨fun pins s σ H Q I q => h.run pins s σ H Q I (k σ H Q q)⟩
theorem pt_weak {e : Expr} {t t' : TT} (h : PT X e t) (k : ∀ σ H Q, t' σ H Q → t σ H Q) : PT X e t' := ⟨fun pins s σ H Q I q => h.run pins s σ H Q I (k σ H Q q)⟩
theorem pw_weak {e : Expr} {t t' : TT} (h : PW X e t) (k : ∀ σ H Q, t' σ H Q → t σ H Q) : PW X e t' := ⟨fun wh pins s σ H Q I q => h.run wh pins s σ H Q I (k σ H Q q)⟩
theorem pa_weak {es : List Expr} {t t' : TA} (h : PA X es t) (k : ∀ σ H Q, t' σ H Q → t σ H Q) : PA X es t' := ⟨fun pos pins s σ H Q I q => h.run pos pins s σ H Q I (k σ H Q q)⟩
theorem ps_weak {e : Stmt} {t t' : TS} (h : PS X e t) (k : ∀ D σ H, t' D σ H → t D σ H) : PS X e t' := ⟨fun pins s σ H D I q => h.run pins s σ H D I (k D σ H q)⟩
theorem pss_weak {e : List Stmt} {t t' : TS} (h : PSs X e t) (k : ∀ D σ H, t' D σ H → t D σ H) : PSs X e t' := ⟨fun pins s σ H D I q => h.run pins s σ H D I (k D σ H q)⟩
theorem AW.ab {e : Expr} {t : ABt} (h : AW X e t) : AB X e t := ⟨h.mono, h.pw.pt⟩
end
section
variable {K : PySem.W.Frag} {A A' : AH} {H H' : Hp}
theorem post.fin {Q : VK} {d : D} (h : post K A H Q d A) (r : HRep K A H) {v : V} (e : Rep K A H d v) : Q v H := h v H Adv.refl r e
theorem post.adv {Q : VK} (a : Adv A H A' H') {d : D} {B : AH} (h : post K A H Q d B) : post K A' H' Q d B := fun v H2 b r e => h v H2 (a.trans b) r e
theorem postB.adv {Q : Bool → Hp → Prop} (a : Adv A H A' H') {d : Bool} {B : AH} (h : postB K A H Q d B) : postB K A' H' Q d B := fun H2 b r => h H2 (a.trans b) r
theorem postA.adv {Q : List V → Hp → Prop} (a : Adv A H A' H') {d : List D} {B : AH} (h : postA K A H Q d B) : postA K A' H' Q d B := fun v H2 b r e => h v H2 (a.trans b) r e
theorem postS.adv {Q : St → Hp → Prop} (a : Adv A H A' H') {d : ASt} {B : AH} (h : postS K A H Q d B) : postS K A' H' Q d B := fun v H2 b r e => h v H2 (a.trans b) r e
theorem liftD.adv {D : Ends} (a : Adv A H A' H') : Sub (liftD K A H D) (liftD K A' H' D) := ⟨fun _ _ h => postS.adv a h, fun _ _ h => post.adv a h, fun _ _ h => postS.adv a h, fun _ _ h => postS.adv a h⟩
/-- the next part, from where one has come -/
theorem liftE.go {t : AT} (m : MonE t) {σ : ASt} {vs : St} (a : Adv A H A' H') (r : HRep K A' H') (s : SRep K A H σ vs) {Q : DK} (h : t σ A' Q) {R : VK} (k : ∀ d B, Q d B → post K A' H' R d B) : liftE K t vs H' R :=
  ⟨σ, A', r, s.adv a, m _ _ _ _ k h⟩
end
end Rk

namespace Rk
open PySem PySem.Spec L2
section
variable {X : Cx} {pos : Pos} {a b c e : Expr} {es : List Expr} {ta tb tc : AT}

/-! ### names, constants -/
def aVar (i : Nat) : AT := fun σ A Q => match slot σ i with | some d => Q d A | none => False
def aC (d : D) : AT := fun _ A Q => Q d A
theorem mon_c (d : D) : MonE (aC d) := fun _ _ _ _ k h => k _ _ h
theorem ae_var (i : Nat) {x : Str} (hN : X.N[i]? = some x := by rfl) (hv : Vis X.env.scope x := by first | exact Or.inl rfl | exact Or.inr (Or.inl rfl) | exact Or.inr (Or.inr rfl)) (hd : (x == ("__debug__" : Str)) = false := by decide)
    (hcd : (x == ("__classdict__" : Str)) = false := by decide) : AE X (.Name x pos) (aVar i) := by
  refine ⟨fun σ A Q Q' k h => ?_, pe_weak (pe_var hN hv hd hcd) fun vs H Q h => ?_⟩
  · unfold aVar at h ⊢
    cases e : slot σ i with
    | none => rw [e] at h; exact h
    | some d => rw [e] at h; exact k _ _ h
  · obtain ⟨σ, A, hr, sr, h⟩ := h
    unfold aVar at h
    cases e : slot σ i with
    | none => rw [e] at h; exact h.elim
    | some d =>
      rw [e] at h
      obtain ⟨v, e1, r⟩ := sr.get e
      exact ⟨v, e1, h.fin hr r⟩
theorem ae_c {d : D} {v : V} (h : PE X e (tC v)) (r : ∀ A H, Rep X.K A H d v) : AE X e (aC d) :=
  ⟨mon_c d, pe_weak h fun vs H Q ⟨σ, A, hr, sr, q⟩ => post.fin q hr (r A H)⟩
theorem ae_int {i : Int} {j} : AE X (.Constant (.int i) j pos) (aC (.int i)) := ae_c pe_int fun _ _ => rfl
theorem ae_bl {i : Bool} {j} : AE X (.Constant (.bool i) j pos) (aC (.bl i)) := ae_c pe_bl fun _ _ => rfl
theorem ae_non {j} : AE X (.Constant .none j pos) (aC .non) := ae_c pe_non fun _ _ => rfl
theorem ae_str {i : Str} {j} : AE X (.Constant (.str i) j pos) (aC (.str i)) := ae_c pe_str fun _ _ => rfl
/-- a module's constant -/
structure GlobD (K : PySem.W.Frag) (mg : Str → Option Value) (x : Str) (d : D) : Prop where
  ex : ∃ u v, mg x = some u ∧ RelV v u ∧ ∀ A H, Rep K A H d v
theorem ae_glob {x : Str} {d : D} (g : GlobD X.K X.mg x d) (hg : Gl X x := by rfl) (hd : (x == ("__debug__" : Str)) = false := by decide) : AE X (.Name x pos) (aC d) := by
  obtain ⟨u, v, h1, h2, h3⟩ := g.ex
  exact ae_c (pe_glob hg h1 h2 hd) h3

/-! ### two-place operations -/
def lift2 (K : PySem.W.Frag) (f : D → D → AH → DK → Prop) : R2 := fun x y H Q => ∃ d e A, HRep K A H ∧ Rep K A H d x ∧ Rep K A H e y ∧ f d e A (post K A H Q)
abbrev Mon2 (f : D → D → AH → DK → Prop) : Prop := ∀ d e A (Q Q' : DK), (∀ d A', Q d A' → Q' d A') → f d e A Q → f d e A Q'
structure AOp (X : Cx) (g : Value → Value → Sem Value) (f : D → D → AH → DK → Prop) : Prop where
  mono : Mon2 f
  op : OpR X g (lift2 X.K f)
def aOp (f : D → D → AH → DK → Prop) (ta tb : AT) : AT := fun σ A Q => ta σ A fun x A1 => tb σ A1 fun y A2 => f x y A2 Q
theorem mon_op {f : D → D → AH → DK → Prop} (mf : Mon2 f) (ma : MonE ta) (mb : MonE tb) : MonE (aOp f ta tb) := fun σ A Q Q' k h =>
  ma _ _ _ _ (fun x A1 h1 => mb _ _ _ _ (fun y A2 h2 => mf _ _ _ _ _ k h2) h1) h
theorem bin_lift {K : PySem.W.Frag} {f : D → D → AH → DK → Prop} {r : R2} (mf : Mon2 f) (ma : MonE ta) (mb : MonE tb) {vs : L2.St} {H : Hp} {Q : VK} (h : liftE K (aOp f ta tb) vs H Q) (k : ∀ x y H2, lift2 K f x y H2 Q → r x y H2 Q) :
    tOp r (liftE K ta) (liftE K tb) vs H Q := by
  obtain ⟨σ, A, hr, sr, h⟩ := h
  refine ⟨σ, A, hr, sr, ma _ _ _ _ (fun d A1 h1 v1 H1 a1 r1 e1 => ?_) h⟩
  refine ⟨σ, A1, r1, sr.adv a1, mb _ _ _ _ (fun e A2 h2 v2 H2 a2 r2 e2 => ?_) h1⟩
  exact k _ _ _ ⟨d, e, A2, r2, e1.adv a2, e2, mf _ _ _ _ _ (fun d B q => post.adv (a1.trans a2) q) h2⟩
theorem ae_op {op : Operator} {f : D → D → AH → DK → Prop} (ho : AOp X (binaryOp op) f) (ha : AE X a ta) (hb : AE X b tb) : AE X (.BinOp a op b pos) (aOp f ta tb) :=
  ⟨mon_op ho.mono ha.mono hb.mono, pe_weak (pe_op ho.op ha.pe hb.pe) fun vs H Q h => bin_lift ho.mono ha.mono hb.mono h fun _ _ _ q => q⟩
theorem ae_cmp {op : CmpOp} {f : D → D → AH → DK → Prop} (ho : AOp X (compareOp op) f) (ha : AE X a ta) (hb : AE X b tb) (hm : behindInMarks op b = false := by first | exact nomark _ | with_unfolding_all rfl) : AE X (.Compare a [op] [b] pos) (aOp f ta tb) :=
  ⟨mon_op ho.mono ha.mono hb.mono, pe_weak (pe_cmpR ho.op ha.pe hb.pe hm) fun vs H Q h => bin_lift ho.mono ha.mono hb.mono h fun _ _ _ q => q⟩
/-- an expression's value as a test: a bool -/
def aTest (t : AT) : ABt := fun σ A Q => t σ A fun d A' => match d with | .bl k => Q k A' | _ => False
theorem mon_test {t : AT} (m : MonE t) : MonB (aTest t) := fun σ A Q Q' k h => m _ _ _ _ (fun d A' q => by cases d <;> first | exact q.elim | exact k _ _ q) h
theorem test_lift {K : PySem.W.Frag} {t : AT} (m : MonE t) {vs : L2.St} {H : Hp} {Q : Bool → Hp → Prop} (h : liftB K (aTest t) vs H Q) : liftE K t vs H fun x H' => ∃ k, x = .bl k ∧ Q k H' := by
  obtain ⟨σ, A, hr, sr, h⟩ := h
  refine ⟨σ, A, hr, sr, m _ _ _ _ (fun d A1 h1 v1 H1 a1 r1 e1 => ?_) h⟩
  cases d <;> first | exact (show False from h1).elim | exact ⟨_, e1, h1 H1 a1 r1⟩
theorem ab_cmp {op : CmpOp} {f : D → D → AH → DK → Prop} (ho : AOp X (compareOp op) f) (ha : AE X a ta) (hb : AE X b tb) (hm : behindInMarks op b = false := by first | exact nomark _ | with_unfolding_all rfl) : AB X (.Compare a [op] [b] pos) (aTest (aOp f ta tb)) := by
  refine ⟨mon_test (mon_op ho.mono ha.mono hb.mono), pt_weak (pt_cmpR ho.op ha.pe hb.pe hm) fun vs H Q h => ?_⟩
  exact bin_lift ho.mono ha.mono hb.mono (test_lift (mon_op ho.mono ha.mono hb.mono) h) fun _ _ _ q => q

/-! ### one way or the other -/
@[irreducible] def br (k : Bool) (p q : Prop) : Prop := match k with | true => p | false => q
theorem br_t {p q : Prop} (h : p) : br true p q := by unfold br; exact h
theorem br_f {p q : Prop} (h : q) : br false p q := by unfold br; exact h
theorem br_te {p q : Prop} : br true p q = p := by unfold br; rfl
theorem br_fe {p q : Prop} : br false p q = q := by unfold br; rfl
theorem br_gt {p q : Prop} (h : br true p q) : p := by unfold br at h; exact h
theorem br_gf {p q : Prop} (h : br false p q) : q := by unfold br at h; exact h
theorem br_mono {k : Bool} {p q p' q' : Prop} (h : br k p q) (hp : p → p') (hq : q → q') : br k p' q' := by
  cases k with
  | true => exact br_t (hp (br_gt h))
  | false => exact br_f (hq (br_gf h))
theorem br_of {k : Bool} {p q : Prop} (hp : k = true → p) (hq : k = false → q) : br k p q := by
  cases k with
  | true => exact br_t (hp rfl)
  | false => exact br_f (hq rfl)
theorem br_dec {c p q : Prop} [Decidable c] (hp : c → p) (hq : ¬ c → q) : br (decide c) p q := by
  by_cases h : c
  · rw [decide_eq_true h]; exact br_t (hp h)
  · rw [decide_eq_false h]; exact br_f (hq h)
theorem br_yes {k : Bool} {p q : Prop} (e : k = true) (h : p) : br k p q := by rw [e]; exact br_t h
theorem br_no {k : Bool} {p q : Prop} (e : k = false) (h : q) : br k p q := by rw [e]; exact br_f h
theorem br_not {k : Bool} {p q : Prop} (h : br k q p) : br (!k) p q := by
  cases k with
  | true => exact br_f (br_gt h)
  | false => exact br_t (br_gf h)
theorem br_and {j k : Bool} {p q : Prop} (h : br j (br k p q) q) : br (j && k) p q := by
  cases j with
  | true => exact br_gt h
  | false => exact br_f (br_gf h)
theorem br_or {j k : Bool} {p q : Prop} (h : br j p (br k p q)) : br (j || k) p q := by
  cases j with
  | true => exact br_t (br_gt h)
  | false => exact br_gf h
theorem br_same {k : Bool} {p : Prop} (h : p) : br k p p := br_of (fun _ => h) fun _ => h
theorem br_ite {k : Bool} {p q : Prop} (h : br k p q) : if k = true then p else q := by
  cases k with
  | true => rw [if_pos rfl]; exact br_gt h
  | false => rw [if_neg Bool.false_ne_true]; exact br_gf h
/-- a op1 b op2 c -/
def aChain (f g : D → D → AH → DK → Prop) (ta tb tc : AT) : AT := fun σ A Q => ta σ A fun x A1 => tb σ A1 fun y A2 => f x y A2 fun z A3 => match z with
  | .bl k => br k (tc σ A3 fun w A4 => g y w A4 Q) (Q (.bl false) A3)
  | _ => False
theorem mon_chain {f g : D → D → AH → DK → Prop} (mf : Mon2 f) (mg : Mon2 g) (ma : MonE ta) (mb : MonE tb) (mc : MonE tc) : MonE (aChain f g ta tb tc) := fun σ A Q Q' k h =>
  ma _ _ _ _ (fun x A1 h1 => mb _ _ _ _ (fun y A2 h2 => mf _ _ _ _ _ (fun z A3 h3 => by
    cases z <;> first | exact h3.elim | exact br_mono h3 (mc _ _ _ _ fun w A4 h4 => mg _ _ _ _ _ k h4) (k _ _)) h2) h1) h
theorem chain_lift {K : PySem.W.Frag} {f g : D → D → AH → DK → Prop} (mf : Mon2 f) (mg : Mon2 g) (ma : MonE ta) (mb : MonE tb) (mc : MonE tc) {vs : L2.St} {H : Hp} {Q : VK} (h : liftE K (aChain f g ta tb tc) vs H Q) :
    tChain (lift2 K f) (lift2 K g) (liftE K ta) (liftE K tb) (liftE K tc) vs H Q := by
  obtain ⟨σ, A, hr, sr, h⟩ := h
  refine ⟨σ, A, hr, sr, ma _ _ _ _ (fun d A1 h1 v1 H1 a1 r1 e1 => ?_) h⟩
  refine ⟨σ, A1, r1, sr.adv a1, mb _ _ _ _ (fun e A2 h2 v2 H2 a2 r2 e2 => ?_) h1⟩
  refine ⟨d, e, A2, r2, e1.adv a2, e2, mf _ _ _ _ _ (fun z A3 h3 v3 H3 a3 r3 e3 => ?_) h2⟩
  cases z <;> first
    | exact (show False from h3).elim
    | (rename_i k
       refine ⟨k, e3, br_ite (br_mono h3 (fun h4 => ?_) (fun q => ?_))⟩
       · refine ⟨σ, A3, r3, sr.adv ((a1.trans a2).trans a3), mc _ _ _ _ (fun w A4 h5 v4 H4 a4 r4 e4 => ?_) h4⟩
         exact ⟨e, w, A4, r4, e2.adv (a3.trans a4), e4, mg _ _ _ _ _ (fun d B q => post.adv (((a1.trans a2).trans a3).trans a4) q) h5⟩
       · exact q _ _ ((a1.trans a2).trans a3) r3 rfl)
theorem ae_chain {op op' : CmpOp} {f g : D → D → AH → DK → Prop} (ho : AOp X (compareOp op) f) (ho' : AOp X (compareOp op') g) (ha : AE X a ta) (hb : AE X b tb) (hc : AE X c tc)
    (hm : lastMarks [op, op'] [b, c] = false := by with_unfolding_all rfl) : AE X (.Compare a [op, op'] [b, c] pos) (aChain f g ta tb tc) :=
  ⟨mon_chain ho.mono ho'.mono ha.mono hb.mono hc.mono, pe_weak (pe_chain ho.op ho'.op ha.pe hb.pe hc.pe hm) fun vs H Q h => chain_lift ho.mono ho'.mono ha.mono hb.mono hc.mono h⟩
theorem ab_chain {op op' : CmpOp} {f g : D → D → AH → DK → Prop} (ho : AOp X (compareOp op) f) (ho' : AOp X (compareOp op') g) (ha : AE X a ta) (hb : AE X b tb) (hc : AE X c tc)
    (hm : lastMarks [op, op'] [b, c] = false := by with_unfolding_all rfl) : AB X (.Compare a [op, op'] [b, c] pos) (aTest (aChain f g ta tb tc)) :=
  ⟨mon_test (mon_chain ho.mono ho'.mono ha.mono hb.mono hc.mono), pt_weak (pt_chain ho.op ho'.op ha.pe hb.pe hc.pe hm) fun vs H Q h =>
    chain_lift ho.mono ho'.mono ha.mono hb.mono hc.mono (test_lift (mon_chain ho.mono ho'.mono ha.mono hb.mono hc.mono) h)⟩

/-! ### truth, tests -/
/-- the truth of what a value is -/
def aTru (d : D) (A : AH) (Q : Bool → Prop) : Prop := match d with
  | .non => Q false
  | .bl b => Q b
  | .int i => Q (i != 0)
  | .tup ds => Q (!ds.isEmpty)
  | .lst ds => Q (!ds.isEmpty)
  | .ref a => ∃ ds, A a = some (.lst ds) ∧ Q (!ds.isEmpty)
  | .str x => x.length ≤ 100000 ∧ Q (x.length != 0)
  | .scr ns => Q (!ns.isEmpty)
theorem aTru_mono {d : D} {A : AH} {Q Q' : Bool → Prop} (h : aTru d A Q) (k : ∀ b, Q b → Q' b) : aTru d A Q' := by
  cases d <;> first | exact k _ h | exact ⟨h.1, k _ h.2⟩ | (obtain ⟨ds, e, h⟩ := h; exact ⟨ds, e, k _ h⟩)
theorem isEmpty_len {α β : Type} {xs : List α} {ys : List β} (h : xs.length = ys.length) : xs.isEmpty = ys.isEmpty := by
  cases xs <;> cases ys <;> first | rfl | (simp at h)
theorem tru_of {K : PySem.W.Frag} {A : AH} {H : Hp} (hr : HRep K A H) {d : D} {v : V} (r : Rep K A H d v) {Q : Bool → Prop} (h : aTru d A Q) : ∃ k, TruV K v H k ∧ Q k := by
  cases d with
  | non => cases (show v = V.non from r); exact ⟨false, rfl, h⟩
  | bl b => cases (show v = V.bl b from r); exact ⟨b, rfl, h⟩
  | int i => cases (show v = V.int i from r); exact ⟨_, rfl, h⟩
  | str x =>
    cases (show v = V.str x from r)
    refine ⟨_, ⟨Nat.le_trans h.1 (by decide), rfl⟩, ?_⟩
    have e : ((x.length : Int) != 0) = (x.length != 0) := by
      rw [Bool.eq_iff_iff]
      simp
    rw [e]
    exact h.2
  | tup ds =>
    obtain ⟨a, xs, e, t, q⟩ := r
    subst e
    refine ⟨_, .inr (.inl ⟨xs, t.sq, rfl⟩), ?_⟩
    rw [isEmpty_len q.length]
    exact h
  | lst ds =>
    obtain ⟨a, xs, e, t, q⟩ := r
    subst e
    refine ⟨_, .inl ⟨xs, t.sq, rfl⟩, ?_⟩
    rw [isEmpty_len q.length]
    exact h
  | ref a =>
    cases (show v = V.ref a from r)
    obtain ⟨ds, e, h⟩ := h
    obtain ⟨vs, e1, q⟩ := hr a _ e
    refine ⟨_, .inl ⟨vs, SqL.of e1, rfl⟩, ?_⟩
    rw [isEmpty_len q.length]
    exact h
  | scr ns =>
    obtain ⟨a, e, t⟩ := r
    subst e
    refine ⟨_, .inl ⟨_, t.sq, rfl⟩, ?_⟩
    rw [isEmpty_len (List.length_map ..)]
    exact h
/-- an expression (a name, a call, a subscript ..) by its truth -/
def aTruE (t : AT) : ABt := fun σ A Q => t σ A fun d A' => aTru d A' fun k => Q k A'
theorem mon_truE {t : AT} (m : MonE t) : MonB (aTruE t) := fun σ A Q Q' k h => m _ _ _ _ (fun d A' q => aTru_mono q fun b => k b A') h
theorem ab_truth (ha : AE X a ta) (he : ∀ whole, isTrue a X.env whole = (do let v ← whole; standAt a.pos; holding [v] (truthy v)) := by intro _; rfl) : AB X a (aTruE ta) := by
  refine ⟨mon_truE ha.mono, pt_weak (pt_truth ha.pe he) fun vs H Q h => ?_⟩
  obtain ⟨σ, A, hr, sr, h⟩ := h
  refine ⟨σ, A, hr, sr, ha.mono _ _ _ _ (fun d A1 h1 v1 H1 a1 r1 e1 => ?_) h⟩
  exact tru_of r1 e1 (aTru_mono h1 fun k q => q H1 a1 r1)
def aNot (t : ABt) : ABt := fun σ A Q => t σ A fun k A' => Q (!k) A'
theorem ab_not {t : ABt} (h : AB X a t) : AB X (.UnaryOp .Not a pos) (aNot t) := by
  refine ⟨fun σ A Q Q' k q => h.mono _ _ _ _ (fun b A' => k _ A') q, pt_weak (pt_not h.pt) fun vs H Q q => ?_⟩
  obtain ⟨σ, A, hr, sr, q⟩ := q
  exact ⟨σ, A, hr, sr, q⟩
def aAnd (t u : ABt) : ABt := fun σ A Q => t σ A fun k A1 => br k (u σ A1 Q) (Q false A1)
def aOr (t u : ABt) : ABt := fun σ A Q => t σ A fun k A1 => br k (Q true A1) (u σ A1 Q)
variable {rest : List Expr} {t u : ABt}
theorem aw_and1 (h : AB X a t) : AW X (.BoolOp .And [a] pos) t := ⟨h.mono, pw_and1 h.pt⟩
theorem aw_or1 (h : AB X a t) : AW X (.BoolOp .Or [a] pos) t := ⟨h.mono, pw_or1 h.pt⟩
theorem aw_and (h : AB X a t) (g : AW X (.BoolOp .And (b :: rest) pos) u) : AW X (.BoolOp .And (a :: b :: rest) pos) (aAnd t u) := by
  refine ⟨fun σ A Q Q' k q => h.mono _ _ _ _ (fun c A' q => br_mono q (g.mono _ _ _ _ k) (k _ _)) q, pw_weak (pw_and h.pt g.pw) fun vs H Q q => ?_⟩
  obtain ⟨σ, A, hr, sr, q⟩ := q
  refine ⟨σ, A, hr, sr, h.mono _ _ _ _ (fun c A1 q H1 a1 r1 => br_ite (br_mono q (fun q => ?_) fun q => q H1 a1 r1)) q⟩
  exact ⟨σ, A1, r1, sr.adv a1, g.mono _ _ _ _ (fun c A2 q => postB.adv a1 q) q⟩
theorem aw_or (h : AB X a t) (g : AW X (.BoolOp .Or (b :: rest) pos) u) : AW X (.BoolOp .Or (a :: b :: rest) pos) (aOr t u) := by
  refine ⟨fun σ A Q Q' k q => h.mono _ _ _ _ (fun c A' q => br_mono q (k _ _) (g.mono _ _ _ _ k)) q, pw_weak (pw_or h.pt g.pw) fun vs H Q q => ?_⟩
  obtain ⟨σ, A, hr, sr, q⟩ := q
  refine ⟨σ, A, hr, sr, h.mono _ _ _ _ (fun c A1 q H1 a1 r1 => br_ite (br_mono q (fun q => q H1 a1 r1) fun q => ?_)) q⟩
  exact ⟨σ, A1, r1, sr.adv a1, g.mono _ _ _ _ (fun c A2 q => postB.adv a1 q) q⟩
/-! ### and, or, not as values; a if t else b -/
theorem ae_one {op} (h : AE X a ta) : AE X (.BoolOp op [a] pos) ta := ⟨h.mono, pe_one h.pe⟩
def aAndV (ta tb : AT) : AT := fun σ A Q => ta σ A fun d A1 => aTru d A1 fun k => br k (tb σ A1 Q) (Q d A1)
def aOrV (ta tb : AT) : AT := fun σ A Q => ta σ A fun d A1 => aTru d A1 fun k => br k (Q d A1) (tb σ A1 Q)
theorem ae_and (ha : AE X a ta) (hb : AE X (.BoolOp .And (b :: rest) pos) tb) : AE X (.BoolOp .And (a :: b :: rest) pos) (aAndV ta tb) := by
  refine ⟨fun σ A Q Q' k q => ha.mono _ _ _ _ (fun d A1 q => aTru_mono q fun c q => br_mono q (hb.mono _ _ _ _ k) (k _ _)) q, pe_weak (pe_andT ha.pe hb.pe) fun vs H Q q => ?_⟩
  obtain ⟨σ, A, hr, sr, q⟩ := q
  refine ⟨σ, A, hr, sr, ha.mono _ _ _ _ (fun d A1 q v1 H1 a1 r1 e1 => ?_) q⟩
  refine tru_of r1 e1 (aTru_mono q fun k q => br_ite (br_mono q (fun q => ?_) fun q => q _ _ a1 r1 e1))
  exact ⟨σ, A1, r1, sr.adv a1, hb.mono _ _ _ _ (fun c A2 q => post.adv a1 q) q⟩
theorem ae_or (ha : AE X a ta) (hb : AE X (.BoolOp .Or (b :: rest) pos) tb) : AE X (.BoolOp .Or (a :: b :: rest) pos) (aOrV ta tb) := by
  refine ⟨fun σ A Q Q' k q => ha.mono _ _ _ _ (fun d A1 q => aTru_mono q fun c q => br_mono q (k _ _) (hb.mono _ _ _ _ k)) q, pe_weak (pe_orT ha.pe hb.pe) fun vs H Q q => ?_⟩
  obtain ⟨σ, A, hr, sr, q⟩ := q
  refine ⟨σ, A, hr, sr, ha.mono _ _ _ _ (fun d A1 q v1 H1 a1 r1 e1 => ?_) q⟩
  refine tru_of r1 e1 (aTru_mono q fun k q => br_ite (br_mono q (fun q => q _ _ a1 r1 e1) fun q => ?_))
  exact ⟨σ, A1, r1, sr.adv a1, hb.mono _ _ _ _ (fun c A2 q => post.adv a1 q) q⟩
def aNotV (ta : AT) : AT := fun σ A Q => ta σ A fun d A1 => aTru d A1 fun k => Q (.bl (!k)) A1
theorem ae_not (ha : AE X a ta) : AE X (.UnaryOp .Not a pos) (aNotV ta) := by
  refine ⟨fun σ A Q Q' k q => ha.mono _ _ _ _ (fun d A1 q => aTru_mono q fun c q => k _ _ q) q, pe_weak (pe_notT ha.pe) fun vs H Q q => ?_⟩
  obtain ⟨σ, A, hr, sr, q⟩ := q
  refine ⟨σ, A, hr, sr, ha.mono _ _ _ _ (fun d A1 q v1 H1 a1 r1 e1 => ?_) q⟩
  exact tru_of r1 e1 (aTru_mono q fun k q => q _ _ a1 r1 rfl)
def aIf (t : ABt) (ta tb : AT) : AT := fun σ A Q => t σ A fun k A1 => br k (ta σ A1 Q) (tb σ A1 Q)
theorem ae_if (ht : AB X c t) (ha : AE X a ta) (hb : AE X b tb) : AE X (.IfExp c a b pos) (aIf t ta tb) := by
  refine ⟨fun σ A Q Q' k q => ht.mono _ _ _ _ (fun d A1 q => br_mono q (ha.mono _ _ _ _ k) (hb.mono _ _ _ _ k)) q, pe_weak (pe_ifExp ht.pt ha.pe hb.pe) fun vs H Q q => ?_⟩
  obtain ⟨σ, A, hr, sr, q⟩ := q
  refine ⟨σ, A, hr, sr, ht.mono _ _ _ _ (fun d A1 q H1 a1 r1 => br_ite (br_mono q (fun q => ?_) fun q => ?_)) q⟩
  · exact ⟨σ, A1, r1, sr.adv a1, ha.mono _ _ _ _ (fun c A2 q => post.adv a1 q) q⟩
  · exact ⟨σ, A1, r1, sr.adv a1, hb.mono _ _ _ _ (fun c A2 q => post.adv a1 q) q⟩

/-! ### argument lists, displays -/
def aNil : AAt := fun _ A Q => Q [] A
def aCons (ta : AT) (tr : AAt) : AAt := fun σ A Q => ta σ A fun d A1 => tr σ A1 fun ds A2 => Q (d :: ds) A2
theorem aa_nil : AA X [] aNil := ⟨fun _ _ _ _ k q => k _ _ q, pa_weak pa_nil fun vs H Q ⟨σ, A, hr, sr, q⟩ => q _ _ Adv.refl hr rfl⟩
theorem aa_cons {tr : AAt} (ha : AE X e ta) (hr : AA X es tr) (hs : starEach (e :: es) X.env = (false, eval e X.env) :: starEach es X.env := by rfl) : AA X (e :: es) (aCons ta tr) := by
  refine ⟨fun σ A Q Q' k q => ha.mono _ _ _ _ (fun d A1 q => hr.mono _ _ _ _ (fun _ _ => k _ _) q) q, pa_weak (pa_cons ha.pe hr.pa hs) fun vs H Q q => ?_⟩
  obtain ⟨σ, A, hr', sr, q⟩ := q
  refine ⟨σ, A, hr', sr, ha.mono _ _ _ _ (fun d A1 q v1 H1 a1 r1 e1 => ?_) q⟩
  refine ⟨σ, A1, r1, sr.adv a1, hr.mono _ _ _ _ (fun ds A2 q vs2 H2 a2 r2 e2 => ?_) q⟩
  exact q _ _ (a1.trans a2) r2 ⟨v1, vs2, rfl, e1.adv a2, e2⟩
variable {tr : AAt}
def aTup (t : AAt) : AT := fun σ A Q => t σ A fun ds A1 => ds.length ≤ 100000 ∧ Q (.tup ds) A1
def aLst (t : AAt) : AT := fun σ A Q => t σ A fun ds A1 => ds.length ≤ 100000 ∧ Q (.lst ds) A1
/-- a list that will change -/
def aLstM (t : AAt) : AT := fun σ A Q => t σ A fun ds A1 => ds.length ≤ 100000 ∧ ∀ p, A1 p = none → Q (.ref p) (aupd A1 p (.lst ds))
theorem big_ok {n : Nat} (h : n ≤ 100000) : n ≤ sizeLine := Nat.le_trans h (by decide)
theorem lt_ok {n : Nat} (h : n ≤ 1000000) : n < sizeLine := Nat.lt_of_le_of_lt h (by decide)
theorem le_ok {n : Nat} (h : n ≤ 1000000) : n ≤ sizeLine := Nat.le_trans h (by decide)
theorem rep_tup {K : PySem.W.Frag} {A : AH} {H : Hp} {p : Addr} {ds : List D} {vs : List V} (hr : HRep K A H) (e : H p = none) (r : Reps K A H ds vs) :
    Rep K A (upd H p (.tup vs)) (.tup ds) (.ref p) := ⟨p, vs, rfl, .inl ⟨hr.none e, .inl upd_same⟩, r.adv (adv_new hr e).1⟩
theorem rep_lst {K : PySem.W.Frag} {A : AH} {H : Hp} {p : Addr} {ds : List D} {vs : List V} (hr : HRep K A H) (e : H p = none) (r : Reps K A H ds vs) :
    Rep K A (upd H p (.lst vs)) (.lst ds) (.ref p) := ⟨p, vs, rfl, ⟨hr.none e, upd_same⟩, r.adv (adv_new hr e).1⟩
theorem ae_tup {x1} (h : AA X es tr) : AE X (.Tuple es x1 pos) (aTup tr) := by
  refine ⟨fun σ A Q Q' k q => h.mono _ _ _ _ (fun d A1 q => ⟨q.1, k _ _ q.2⟩) q, pe_weak (pe_tup h.pa) fun vs H Q q => ?_⟩
  obtain ⟨σ, A, hr, sr, q⟩ := q
  refine ⟨σ, A, hr, sr, h.mono _ _ _ _ (fun ds A1 q vs1 H1 a1 r1 e1 => ⟨big_ok (by rw [e1.length]; exact q.1), fun p hp => ?_⟩) q⟩
  exact q.2 _ _ (a1.trans (adv_new r1 hp).1) (adv_new r1 hp).2 (rep_tup r1 hp e1)
theorem ae_lst (h : AA X es tr) : AE X (.List es pos) (aLst tr) := by
  refine ⟨fun σ A Q Q' k q => h.mono _ _ _ _ (fun d A1 q => ⟨q.1, k _ _ q.2⟩) q, pe_weak (pe_lst h.pa) fun vs H Q q => ?_⟩
  obtain ⟨σ, A, hr, sr, q⟩ := q
  refine ⟨σ, A, hr, sr, h.mono _ _ _ _ (fun ds A1 q vs1 H1 a1 r1 e1 => ⟨big_ok (by rw [e1.length]; exact q.1), fun p hp => ?_⟩) q⟩
  exact q.2 _ _ (a1.trans (adv_new r1 hp).1) (adv_new r1 hp).2 (rep_lst r1 hp e1)
theorem ae_lstM (h : AA X es tr) : AE X (.List es pos) (aLstM tr) := by
  refine ⟨fun σ A Q Q' k q => h.mono _ _ _ _ (fun d A1 q => ⟨q.1, fun p hp => k _ _ (q.2 p hp)⟩) q, pe_weak (pe_lst h.pa) fun vs H Q q => ?_⟩
  obtain ⟨σ, A, hr, sr, q⟩ := q
  refine ⟨σ, A, hr, sr, h.mono _ _ _ _ (fun ds A1 q vs1 H1 a1 r1 e1 => ⟨big_ok (by rw [e1.length]; exact q.1), fun p hp => ?_⟩) q⟩
  exact q.2 p (r1.none hp) _ _ (a1.trans (adv_newT r1 hp e1).1) (adv_newT r1 hp e1).2 rfl
end
end Rk

namespace Rk
open PySem PySem.Spec L2
section
variable {X : Cx} {pos : Pos} {a b c e : Expr} {es : List Expr} {ta tb tc : AT}
/-- numbers that one works with -/
abbrev LIM : Int := 10000000000000000000000000000000000000000000000000000000000000000000000
def Fac (i j : Int) : Prop := (-18446744073709551616 < i ∧ i < 18446744073709551616) ∨ (-18446744073709551616 < j ∧ j < 18446744073709551616) ∨
  ((-10000000000000000000000000000000000000000000000000000000000000000000000 < i ∧ i < 10000000000000000000000000000000000000000000000000000000000000000000000) ∧ -10000000000000000000000000000000000000000000000000000000000000000000000 < j ∧ j < 10000000000000000000000000000000000000000000000000000000000000000000000)
def Dvs (j : Int) : Prop := 0 < j ∧ j < 10000000000000000000000000000000000000000000000000000000000000000000000
theorem lim_nat {i : Int} (h1 : -10000000000000000000000000000000000000000000000000000000000000000000000 < i) (h2 : i < 10000000000000000000000000000000000000000000000000000000000000000000000) : i.natAbs < 2 ^ 240 := by
  have : (2 : Nat) ^ 240 = 1766847064778384329583297500742918515827483896875618958121606201292619776 := by decide
  omega
theorem Fac.ok {i j : Int} (h : Fac i j) : IntMulOk i j := by
  rcases h with ⟨h1, h2⟩ | ⟨h1, h2⟩ | ⟨⟨h1, h2⟩, h3, h4⟩
  · exact .of_left (intBits_le_64 (by omega) (by omega))
  · exact .of_right (intBits_le_64 (by omega) (by omega))
  · exact (wide_mul (lim_nat h1 h2) (lim_nat h3 h4) (by decide) (by decide) (by decide)).ok
theorem Dvs.ok {i j : Int} (h : Dvs j) : CDivW i j := wide_div h.1 (lim_nat (by have := h.1; omega) h.2) (by decide) (by decide)

/-! ### + - * // % ** -/
def aAdd : D → D → AH → DK → Prop
  | .int i, .int j, A, Q => Q (.int (i + j)) A
  | .tup xs, .tup ys, A, Q => xs.length + ys.length ≤ 1000000 ∧ Q (.tup (xs ++ ys)) A
  | .lst xs, .lst ys, A, Q => xs.length + ys.length ≤ 1000000 ∧ Q (.lst (xs ++ ys)) A
  | .str x, .str y, A, Q => x.length + y.length ≤ 1000000 ∧ Q (.str (x ++ y)) A
  | _, _, _, _ => False
theorem op_intsF {X : Cx} {g : Value → Value → Sem Value} {C : Int → Int → Prop} {f : Int → Int → V} (h : OpR X g (rI C f)) {A : AH} {H : Hp} {i j : Int} {Q : VK} {pins : List (Addr × Obj)} {s : Shared} {σ : L2.St} {v u : Value} (I : Inv X pins σ H s) (rx : RelV (.int i) v) (ry : RelV (.int j) u)
    (hc : C i j) (q : Q (f i j) H) : wpAny (model X.prog X.w) X.A (g v u) (EP X pins σ Q) X.xe s := h pins s σ H _ _ v u Q I rx ry ⟨i, j, rfl, rfl, hc, q⟩
theorem op_ints0 {X : Cx} {g : Value → Value → Sem Value} {f : Int → Int → V} (h : OpR X g (rI0 f)) {A : AH} {H : Hp} {i j : Int} {Q : VK} {pins : List (Addr × Obj)} {s : Shared} {σ : L2.St} {v u : Value} (I : Inv X pins σ H s) (rx : RelV (.int i) v) (ry : RelV (.int j) u)
    (q : Q (f i j) H) : wpAny (model X.prog X.w) X.A (g v u) (EP X pins σ Q) X.xe s := h pins s σ H _ _ v u Q I rx ry ⟨i, j, rfl, rfl, q⟩
theorem cat_nil {α : Type} {xs ys : List α} (h : ys = []) : xs ++ ys = xs := by rw [h, List.append_nil]
theorem op_add : AOp X (binaryOp .Add) aAdd := by
  refine ⟨fun d e A Q Q' k h => ?_, ?_⟩
  · cases d <;> cases e <;> first | exact h.elim | exact k _ _ h | exact ⟨h.1, k _ _ h.2⟩
  · intro pins s σ H x y v u Q I rx ry ⟨d, e, A, hr, rd, re, h⟩
    cases d <;> cases e <;> first | exact (show False from h).elim | skip
    · cases (show x = V.int _ from rd)
      cases (show y = V.int _ from re)
      exact op_ints0 (A := A) L2.op_add I rx ry (post.fin h hr rfl)
    · cases (show x = V.str _ from rd)
      cases (show y = V.str _ from re)
      exact L2.op_add_str pins s σ H _ _ v u Q I rx ry ⟨_, _, rfl, rfl, le_ok h.1, post.fin h.2 hr rfl⟩
    · rename_i xs ys
      obtain ⟨p, vs, rfl, t1, q1⟩ := rd
      obtain ⟨q, us, rfl, t2, q2⟩ := re
      refine L2.op_catA pins s σ H _ _ v u Q I rx ry ⟨p, q, vs, us, rfl, rfl, t1.sq, t2.sq, le_ok (by rw [q1.length, q2.length]; exact h.1), fun e0 => ?_, fun _ e0 => ?_, fun _ _ p hp => ?_⟩
      · have e1 : xs = [] := by
          have := q1.length
          rw [e0] at this
          exact List.eq_nil_of_length_eq_zero this.symm
        have h2 := h.2
        rw [e1, List.nil_append] at h2
        exact h2.fin hr ⟨q, us, rfl, t2, q2⟩
      · have e1 : ys = [] := by
          have := q2.length
          rw [e0] at this
          exact List.eq_nil_of_length_eq_zero this.symm
        have h2 := h.2
        rw [e1, List.append_nil] at h2
        exact h2.fin hr ⟨p, vs, rfl, t1, q1⟩
      · exact h.2 _ _ (adv_new hr hp).1 (adv_new hr hp).2 (rep_tup hr hp (q1.append q2))
    · rename_i xs ys
      obtain ⟨p, vs, rfl, t1, q1⟩ := rd
      obtain ⟨q, us, rfl, t2, q2⟩ := re
      refine L2.op_cat pins s σ H _ _ v u Q I rx ry ⟨p, q, vs, us, rfl, rfl, t1.2, t2.2, le_ok (by rw [q1.length, q2.length]; exact h.1), fun p hp => ?_⟩
      exact h.2 _ _ (adv_new hr hp).1 (adv_new hr hp).2 (rep_lst hr hp (q1.append q2))
def aSub : D → D → AH → DK → Prop
  | .int i, .int j, A, Q => Q (.int (i - j)) A
  | _, _, _, _ => False
def aMul : D → D → AH → DK → Prop
  | .int i, .int j, A, Q => Fac i j ∧ Q (.int (i * j)) A
  | .lst xs, .int k, A, Q => (xs.length * k.toNat ≤ 1000000 ∧ -1000000000 < k ∧ k < 1000000000) ∧ Q (.lst (List.replicate k.toNat xs).flatten) A
  | .tup xs, .int k, A, Q => (xs ≠ [] ∧ xs.length ≤ 1000 ∧ 2 ≤ k ∧ k ≤ 1000) ∧ Q (.tup (List.replicate k.toNat xs).flatten) A
  | _, _, _, _ => False
def aFDiv : D → D → AH → DK → Prop
  | .int i, .int j, A, Q => Dvs j ∧ Q (.int (i / j)) A
  | _, _, _, _ => False
def aMod : D → D → AH → DK → Prop
  | .int i, .int j, A, Q => 0 < j ∧ Q (.int (i % j)) A
  | _, _, _, _ => False
/-- by a divisor of either sign -/
def aFDivN : D → D → AH → DK → Prop
  | .int i, .int j, A, Q => (j ≠ 0 ∧ -1073741824 < j ∧ j < 1073741824) ∧ Q (.int (i.fdiv j)) A
  | _, _, _, _ => False
def aModN : D → D → AH → DK → Prop
  | .int i, .int j, A, Q => j ≠ 0 ∧ Q (.int (i.fmod j)) A
  | _, _, _, _ => False
def aPow : D → D → AH → DK → Prop
  | .int i, .int j, A, Q => (0 ≤ j ∧ j ≤ 1000000 ∧ -18446744073709551616 < i ∧ i < 18446744073709551616) ∧ Q (.int (i ^ j.toNat)) A
  | _, _, _, _ => False
theorem op_sub : AOp X (binaryOp .Sub) aSub := by
  refine ⟨fun d e A Q Q' k h => ?_, ?_⟩
  · cases d <;> cases e <;> first | exact h.elim | exact k _ _ h
  · intro pins s σ H x y v u Q I rx ry ⟨d, e, A, hr, rd, re, h⟩
    cases d <;> cases e <;> first | exact (show False from h).elim | skip
    cases (show x = V.int _ from rd)
    cases (show y = V.int _ from re)
    exact op_ints0 (A := A) L2.op_sub I rx ry (post.fin h hr rfl)
theorem reps_rep {K : PySem.W.Frag} {A : AH} {H : Hp} {ds : List D} {vs : List V} (r : Reps K A H ds vs) : ∀ n : Nat, Reps K A H (List.replicate n ds).flatten (List.replicate n vs).flatten
  | 0 => rfl
  | n + 1 => by
    rw [List.replicate_succ, List.replicate_succ, List.flatten_cons, List.flatten_cons]
    exact r.append (reps_rep r n)
theorem op_mul : AOp X (binaryOp .Mult) aMul := by
  refine ⟨fun d e A Q Q' k h => ?_, ?_⟩
  · cases d <;> cases e <;> first | exact h.elim | exact ⟨h.1, k _ _ h.2⟩
  · intro pins s σ H x y v u Q I rx ry ⟨d, e, A, hr, rd, re, h⟩
    cases d <;> cases e <;> first | exact (show False from h).elim | skip
    · cases (show x = V.int _ from rd)
      cases (show y = V.int _ from re)
      obtain ⟨t, rfl⟩ := rx
      obtain ⟨t', rfl⟩ := ry
      exact PyProof.Rows.mul_int ⟨.int _, H, I.tok _, ⟨_, rfl⟩, post.fin h.2 hr rfl⟩ h.1.ok
    · rename_i xs k
      obtain ⟨p, vs, rfl, t1, q1⟩ := rd
      cases (show y = V.int _ from re)
      obtain ⟨⟨h1, h2, h3, h4⟩, h⟩ := h
      refine L2.op_repT pins s σ H _ _ v u Q I rx ry ⟨p, k, vs, rfl, rfl, t1.sq, fun z => h1 ?_, h3, h4, by rw [q1.length]; exact h2, fun p hp => ?_⟩
      · have := q1.length
        rw [z] at this
        exact List.eq_nil_of_length_eq_zero this.symm
      · exact h _ _ (adv_new hr hp).1 (adv_new hr hp).2 (rep_tup hr hp (reps_rep q1 _))
    · rename_i xs k
      obtain ⟨p, vs, rfl, t1, q1⟩ := rd
      cases (show y = V.int _ from re)
      obtain ⟨⟨h1, h2, h3⟩, h⟩ := h
      refine L2.op_rep pins s σ H _ _ v u Q I rx ry ⟨p, k, vs, rfl, rfl, t1.2, by omega, by omega, by rw [q1.length]; exact le_ok h1, fun p hp => ?_⟩
      exact h _ _ (adv_new hr hp).1 (adv_new hr hp).2 (rep_lst hr hp (reps_rep q1 _))
theorem op_fdiv : AOp X (binaryOp .FloorDiv) aFDiv := by
  refine ⟨fun d e A Q Q' k h => ?_, ?_⟩
  · cases d <;> cases e <;> first | exact h.elim | exact ⟨h.1, k _ _ h.2⟩
  · intro pins s σ H x y v u Q I rx ry ⟨d, e, A, hr, rd, re, h⟩
    cases d <;> cases e <;> first | exact (show False from h).elim | skip
    cases (show x = V.int _ from rd)
    cases (show y = V.int _ from re)
    exact op_intsF (A := A) L2.op_fdivW I rx ry h.1.ok (post.fin h.2 hr rfl)
theorem op_fdivN : AOp X (binaryOp .FloorDiv) aFDivN := by
  refine ⟨fun d e A Q Q' k h => ?_, ?_⟩
  · cases d <;> cases e <;> first | exact h.elim | exact ⟨h.1, k _ _ h.2⟩
  · intro pins s σ H x y v u Q I rx ry ⟨d, e, A, hr, rd, re, h⟩
    cases d <;> cases e <;> first | exact (show False from h).elim | skip
    cases (show x = V.int _ from rd)
    cases (show y = V.int _ from re)
    exact op_intsF (A := A) L2.op_fdivN I rx ry ⟨h.1.1, by have := h.1; omega⟩ (post.fin h.2 hr rfl)
theorem op_mod : AOp X (binaryOp .Mod) aMod := by
  refine ⟨fun d e A Q Q' k h => ?_, ?_⟩
  · cases d <;> cases e <;> first | exact h.elim | exact ⟨h.1, k _ _ h.2⟩
  · intro pins s σ H x y v u Q I rx ry ⟨d, e, A, hr, rd, re, h⟩
    cases d <;> cases e <;> first | exact (show False from h).elim | skip
    cases (show x = V.int _ from rd)
    cases (show y = V.int _ from re)
    exact op_intsF (A := A) L2.op_mod I rx ry h.1 (post.fin h.2 hr rfl)
theorem op_modN : AOp X (binaryOp .Mod) aModN := by
  refine ⟨fun d e A Q Q' k h => ?_, ?_⟩
  · cases d <;> cases e <;> first | exact h.elim | exact ⟨h.1, k _ _ h.2⟩
  · intro pins s σ H x y v u Q I rx ry ⟨d, e, A, hr, rd, re, h⟩
    cases d <;> cases e <;> first | exact (show False from h).elim | skip
    cases (show x = V.int _ from rd)
    cases (show y = V.int _ from re)
    exact op_intsF (A := A) L2.op_modN I rx ry h.1 (post.fin h.2 hr rfl)
theorem op_pow : AOp X (binaryOp .Pow) aPow := by
  refine ⟨fun d e A Q Q' k h => ?_, ?_⟩
  · cases d <;> cases e <;> first | exact h.elim | exact ⟨h.1, k _ _ h.2⟩
  · intro pins s σ H x y v u Q I rx ry ⟨d, e, A, hr, rd, re, h⟩
    cases d <;> cases e <;> first | exact (show False from h).elim | skip
    cases (show x = V.int _ from rd)
    cases (show y = V.int _ from re)
    obtain ⟨⟨h1, h2, h3, h4⟩, h⟩ := h
    exact op_intsF (A := A) L2.op_pow I rx ry ⟨h1, h2, by omega⟩ (post.fin h hr rfl)
/-! ### comparisons -/
/-- the order of rows of ints -/
def lexD : List D → List D → Option Bool
  | [], [] => some false
  | [], _ :: _ => some true
  | _ :: _, [] => some false
  | .int i :: xs, .int j :: ys => if i < j then some true else if j < i then some false else lexD xs ys
  | _, _ => none
def aLt : D → D → AH → DK → Prop
  | .int i, .int j, A, Q => Q (.bl (decide (i < j))) A
  | _, _, _, _ => False
def aLe : D → D → AH → DK → Prop
  | .int i, .int j, A, Q => Q (.bl (decide (i ≤ j))) A
  | _, _, _, _ => False
def aGt : D → D → AH → DK → Prop
  | .int i, .int j, A, Q => Q (.bl (decide (j < i))) A
  | _, _, _, _ => False
def aGe : D → D → AH → DK → Prop
  | .int i, .int j, A, Q => Q (.bl (decide (j ≤ i))) A
  | _, _, _, _ => False
theorem op_lt : AOp X (compareOp .Lt) aLt := by
  refine ⟨fun d e A Q Q' k h => ?_, ?_⟩
  · cases d <;> cases e <;> first | exact h.elim | exact k _ _ h
  · intro pins s σ H x y v u Q I rx ry ⟨d, e, A, hr, rd, re, h⟩
    cases d <;> cases e <;> first | exact (show False from h).elim | skip
    cases (show x = V.int _ from rd)
    cases (show y = V.int _ from re)
    exact op_ints0 (A := A) L2.op_lt I rx ry (post.fin h hr rfl)
theorem op_le : AOp X (compareOp .LtE) aLe := by
  refine ⟨fun d e A Q Q' k h => ?_, ?_⟩
  · cases d <;> cases e <;> first | exact h.elim | exact k _ _ h
  · intro pins s σ H x y v u Q I rx ry ⟨d, e, A, hr, rd, re, h⟩
    cases d <;> cases e <;> first | exact (show False from h).elim | skip
    cases (show x = V.int _ from rd)
    cases (show y = V.int _ from re)
    exact op_ints0 (A := A) L2.op_le I rx ry (post.fin h hr rfl)
theorem op_gt : AOp X (compareOp .Gt) aGt := by
  refine ⟨fun d e A Q Q' k h => ?_, ?_⟩
  · cases d <;> cases e <;> first | exact h.elim | exact k _ _ h
  · intro pins s σ H x y v u Q I rx ry ⟨d, e, A, hr, rd, re, h⟩
    cases d <;> cases e <;> first | exact (show False from h).elim | skip
    cases (show x = V.int _ from rd)
    cases (show y = V.int _ from re)
    exact op_ints0 (A := A) L2.op_gt I rx ry (post.fin h hr rfl)
theorem op_ge : AOp X (compareOp .GtE) aGe := by
  refine ⟨fun d e A Q Q' k h => ?_, ?_⟩
  · cases d <;> cases e <;> first | exact h.elim | exact k _ _ h
  · intro pins s σ H x y v u Q I rx ry ⟨d, e, A, hr, rd, re, h⟩
    cases d <;> cases e <;> first | exact (show False from h).elim | skip
    cases (show x = V.int _ from rd)
    cases (show y = V.int _ from re)
    exact op_ints0 (A := A) L2.op_ge I rx ry (post.fin h hr rfl)

/-! ### == -/
mutual
def eqD : D → D → Bool
  | .non, .non => true
  | .bl a, .bl b => a == b
  | .bl a, .int j => (if a then 1 else 0) == j
  | .int i, .bl b => i == (if b then 1 else 0)
  | .int i, .int j => decide (i = j)
  | .str x, .str y => x == y
  | .lst xs, .lst ys => eqDs xs ys
  | .tup xs, .tup ys => eqDs xs ys
  | _, _ => false
def eqDs : List D → List D → Bool
  | [], [] => true
  | x :: xs, y :: ys => eqD x y && eqDs xs ys
  | [], _ :: _ => false
  | _ :: _, [] => false
end
mutual
/-- no list that may change, at most so deep -/
def okD : Nat → D → Bool
  | _, .non => true
  | _, .bl _ => true
  | _, .int _ => true
  | _, .str x => PyData.strOk x
  | n + 1, .tup ds => okDs n ds
  | n + 1, .lst ds => okDs n ds
  | _, _ => false
def okDs : Nat → List D → Bool
  | _, [] => true
  | n, d :: ds => okD n d && okDs n ds
end
mutual
def toPy : D → PyData
  | .non => .none
  | .bl b => .bool b
  | .int i => .int i
  | .str x => .str x
  | .tup ds => .tuple (toPys ds)
  | .lst ds => .list (toPys ds)
  | _ => .none
def toPys : List D → List PyData
  | [] => []
  | d :: ds => toPy d :: toPys ds
end
theorem okD_tup {n : Nat} {ds : List D} (h : okD n (.tup ds) = true) : ∃ m, n = m + 1 ∧ okDs m ds = true := by
  cases n with
  | zero => simp [okD] at h
  | succ m => exact ⟨m, rfl, by simpa [okD] using h⟩
theorem okD_lst {n : Nat} {ds : List D} (h : okD n (.lst ds) = true) : ∃ m, n = m + 1 ∧ okDs m ds = true := by
  cases n with
  | zero => simp [okD] at h
  | succ m => exact ⟨m, rfl, by simpa [okD] using h⟩
theorem okD_ref {n : Nat} {a : Addr} (h : okD n (.ref a) = true) : False := by
  cases n <;> simp [okD] at h
theorem okD_scr {n : Nat} {a : List Int} (h : okD n (.scr a) = true) : False := by
  cases n <;> simp [okD] at h
theorem okDs_cons {n : Nat} {d : D} {ds : List D} (h : okDs n (d :: ds) = true) : okD n d = true ∧ okDs n ds = true := by simpa [okDs] using h
mutual
theorem dp_of {K : PySem.W.Frag} {A : AH} {H : Hp} : ∀ (d : D) (n : Nat) (v : V), Rep K A H d v → okD n d = true → Dp K H v (toPy d)
  | .non, _, _, r, _ => by rw [show _ = V.non from r]; exact .non
  | .bl b, _, _, r, _ => by rw [show _ = V.bl b from r]; exact .bl _
  | .int b, _, _, r, _ => by rw [show _ = V.int b from r]; exact .int _
  | .str b, _, _, r, _ => by rw [show _ = V.str b from r]; exact .str _
  | .tup ds, n, v, r, h => by
    obtain ⟨a, xs, e, t, q⟩ := r
    obtain ⟨m, _, h⟩ := okD_tup h
    rw [e]
    exact .tup t.sq (dps_of ds m xs q h)
  | .lst ds, n, v, r, h => by
    obtain ⟨a, xs, e, t, q⟩ := r
    obtain ⟨m, _, h⟩ := okD_lst h
    rw [e]
    exact .lst t.sq (dps_of ds m xs q h)
  | .ref _, _, _, _, h => (okD_ref h).elim
  | .scr _, _, _, _, h => (okD_scr h).elim
theorem dps_of {K : PySem.W.Frag} {A : AH} {H : Hp} : ∀ (ds : List D) (n : Nat) (vs : List V), Reps K A H ds vs → okDs n ds = true → DpAll K H vs (toPys ds)
  | [], _, _, r, _ => by rw [show _ = [] from r]; exact .nil
  | d :: ds, n, _, r, h => by
    obtain ⟨v, q, e, x, y⟩ := r
    have h' := okDs_cons h
    rw [e]
    exact .cons (dp_of d n v x h'.1) (dps_of ds n q y h'.2)
end
mutual
theorem lay_of : ∀ (d : D) (n : Nat), okD n d = true → (toPy d).canLay0 = true ∧ (toPy d).depth ≤ n
  | .non, _, _ => by simp [toPy, PyData.canLay0, PyData.depth]
  | .bl _, _, _ => by simp [toPy, PyData.canLay0, PyData.depth]
  | .int _, _, _ => by simp [toPy, PyData.canLay0, PyData.depth]
  | .str x, n, h => by
    have h' : PyData.strOk x = true := by cases n <;> simpa [okD] using h
    exact ⟨by simpa [toPy, PyData.canLay0] using h', by simp [toPy, PyData.depth]⟩
  | .tup ds, n, h => by
    obtain ⟨m, e, h⟩ := okD_tup h
    have := lays_of ds m h
    simp only [toPy, PyData.canLay0, PyData.depth]
    exact ⟨this.1, by omega⟩
  | .lst ds, n, h => by
    obtain ⟨m, e, h⟩ := okD_lst h
    have := lays_of ds m h
    simp only [toPy, PyData.canLay0, PyData.depth]
    exact ⟨this.1, by omega⟩
  | .ref _, _, h => (okD_ref h).elim
  | .scr _, _, h => (okD_scr h).elim
theorem lays_of : ∀ (ds : List D) (n : Nat), okDs n ds = true → PyData.canLayAll0 (toPys ds) = true ∧ PyData.depthAll (toPys ds) ≤ n
  | [], _, _ => by simp [toPys, PyData.canLayAll0, PyData.depthAll]
  | d :: ds, n, h => by
    have h' := okDs_cons h
    have h1 := lay_of d n h'.1
    have h2 := lays_of ds n h'.2
    simp only [toPys, PyData.canLayAll0, PyData.depthAll, Bool.and_eq_true]
    exact ⟨⟨h1.1, h2.1⟩, by omega⟩
end
theorem shaped_of {n : Nat} {d : D} (h : okD n d = true) (hn : n ≤ 64) : PySem.SeqAt.shaped (toPy d) = true := by
  have := lay_of d n h
  unfold PySem.SeqAt.shaped
  rw [this.1, Bool.true_and]
  exact decide_eq_true (by omega)
mutual
theorem eqv_of : ∀ (d e : D) (n : Nat), okD n d = true → okD n e = true → PyData.eqv (toPy d) (toPy e) = eqD d e
  | .non, e, n, _, h => by cases e <;> first | exact (okD_ref h).elim | exact (okD_scr h).elim | simp [toPy, PyData.eqv, eqD]
  | .bl _, e, n, _, h => by cases e <;> first | exact (okD_ref h).elim | exact (okD_scr h).elim | simp [toPy, PyData.eqv, eqD]
  | .int i, e, n, _, h => by
    cases e <;> first
      | exact (okD_ref h).elim
      | exact (okD_scr h).elim
      | (simp [toPy, PyData.eqv, eqD]; done)
      | (simp only [toPy, PyData.eqv, eqD]; rw [Bool.eq_iff_iff]; simp)
  | .str _, e, n, _, h => by cases e <;> first | exact (okD_ref h).elim | exact (okD_scr h).elim | simp [toPy, PyData.eqv, eqD]
  | .tup xs, e, n, h1, h => by
    cases e <;> first
      | exact (okD_ref h).elim
      | exact (okD_scr h).elim
      | (simp [toPy, PyData.eqv, eqD]; done)
      | (rename_i ys
         obtain ⟨m, e1, h1⟩ := okD_tup h1
         obtain ⟨m2, e2, h2⟩ := okD_tup h
         have e3 : m2 = m := by omega
         subst e3
         simp only [toPy, PyData.eqv, eqD]
         exact eqvs_of xs ys m2 h1 h2)
  | .lst xs, e, n, h1, h => by
    cases e <;> first
      | exact (okD_ref h).elim
      | exact (okD_scr h).elim
      | (simp [toPy, PyData.eqv, eqD]; done)
      | (rename_i ys
         obtain ⟨m, e1, h1⟩ := okD_lst h1
         obtain ⟨m2, e2, h2⟩ := okD_lst h
         have e3 : m2 = m := by omega
         subst e3
         simp only [toPy, PyData.eqv, eqD]
         exact eqvs_of xs ys m2 h1 h2)
  | .ref _, _, _, h, _ => (okD_ref h).elim
  | .scr _, _, _, h, _ => (okD_scr h).elim
theorem eqvs_of : ∀ (d e : List D) (n : Nat), okDs n d = true → okDs n e = true → PyData.eqvAll (toPys d) (toPys e) = eqDs d e
  | [], [], n, _, _ => by simp [toPys, PyData.eqvAll, eqDs]
  | [], _ :: _, n, _, _ => by simp [toPys, PyData.eqvAll, eqDs]
  | _ :: _, [], n, _, _ => by simp [toPys, PyData.eqvAll, eqDs]
  | x :: xs, y :: ys, n, h1, h2 => by
    have a := okDs_cons h1
    have b := okDs_cons h2
    simp only [toPys, PyData.eqvAll, eqDs]
    rw [eqv_of x y n a.1 b.1, eqvs_of xs ys n a.2 b.2]
end
def aEq : D → D → AH → DK → Prop
  | .int i, .int j, A, Q => Q (.bl (decide (i = j))) A
  | .bl i, .bl j, A, Q => Q (.bl (decide (i = j))) A
  | .ref p, e, A, Q => ∃ ds, A p = some (.lst ds) ∧ (okD 20 (.lst ds) = true ∧ okD 20 e = true) ∧ Q (.bl (eqD (.lst ds) e)) A
  | d, e, A, Q => (okD 20 d = true ∧ okD 20 e = true) ∧ Q (.bl (eqD d e)) A
def aNe : D → D → AH → DK → Prop
  | .int i, .int j, A, Q => Q (.bl (!decide (i = j))) A
  | .bl i, .bl j, A, Q => Q (.bl (!decide (i = j))) A
  | .ref p, e, A, Q => ∃ ds, A p = some (.lst ds) ∧ (okD 20 (.lst ds) = true ∧ okD 20 e = true) ∧ Q (.bl (!eqD (.lst ds) e)) A
  | d, e, A, Q => (okD 20 d = true ∧ okD 20 e = true) ∧ Q (.bl (!eqD d e)) A
theorem aEq_gen {d e : D} {A : AH} {Q : DK} (nr : ∀ p, d ≠ .ref p) (h : aEq d e A Q) : ∃ n, n ≤ 64 ∧ okD n d = true ∧ okD n e = true ∧ Q (.bl (eqD d e)) A := by
  cases d <;> cases e <;> first
    | exact absurd rfl (nr _)
    | exact ⟨20, by decide, h.1.1, h.1.2, h.2⟩
    | (refine ⟨20, by decide, rfl, rfl, ?_⟩; exact h)
    | (refine ⟨20, by decide, rfl, rfl, ?_⟩; rename_i i j; have e1 : eqD (.bl i) (.bl j) = decide (i = j) := (by cases i <;> cases j <;> rfl); rw [e1]; exact h)
theorem aNe_gen {d e : D} {A : AH} {Q : DK} (nr : ∀ p, d ≠ .ref p) (h : aNe d e A Q) : ∃ n, n ≤ 64 ∧ okD n d = true ∧ okD n e = true ∧ Q (.bl (!eqD d e)) A := by
  cases d <;> cases e <;> first
    | exact absurd rfl (nr _)
    | exact ⟨20, by decide, h.1.1, h.1.2, h.2⟩
    | (refine ⟨20, by decide, rfl, rfl, ?_⟩; exact h)
    | (refine ⟨20, by decide, rfl, rfl, ?_⟩; rename_i i j; have e1 : eqD (.bl i) (.bl j) = decide (i = j) := (by cases i <;> cases j <;> rfl); rw [e1]; exact h)
theorem op_eq (hu : X.A.units + 64 < cLine) : AOp X (compareOp .Eq) aEq := by
  refine ⟨fun d e A Q Q' k h => ?_, ?_⟩
  · cases d <;> cases e <;> first | exact k _ _ h | exact ⟨h.1, k _ _ h.2⟩ | exact ⟨h.choose, h.choose_spec.1, h.choose_spec.2.1, k _ _ h.choose_spec.2.2⟩
  · intro pins s σ H x y v u Q I rx ry ⟨d, e, A, hr, rd, re, h⟩
    by_cases nr : ∃ p, d = .ref p
    · obtain ⟨p, rfl⟩ := nr
      cases (show x = V.ref p from rd)
      have h : ∃ ds, A p = some (.lst ds) ∧ (okD 20 (.lst ds) = true ∧ okD 20 e = true) ∧ post X.K A H Q (.bl (eqD (.lst ds) e)) A := by cases e <;> exact h
      obtain ⟨ds, e0, ⟨h1, h2⟩, q⟩ := h
      obtain ⟨ws, e1, r1⟩ := hr _ _ e0
      obtain ⟨m, _, h1'⟩ := okD_lst h1
      refine L2.op_eqD hu pins s σ H _ y v u Q I rx ry ⟨toPy (.lst ds), toPy e, .lst (.inl (.inl e1)) (dps_of ds m ws r1 h1'), dp_of e 20 y re h2, shaped_of h1 (by decide), shaped_of h2 (by decide), ?_⟩
      rw [eqv_of (.lst ds) e 20 h1 h2]
      exact q.fin hr rfl
    obtain ⟨n, hn, h1, h2, q⟩ := aEq_gen (fun p e => nr ⟨p, e⟩) h
    refine L2.op_eqD hu pins s σ H x y v u Q I rx ry ⟨toPy d, toPy e, dp_of d n x rd h1, dp_of e n y re h2, shaped_of h1 hn, shaped_of h2 hn, ?_⟩
    rw [eqv_of d e n h1 h2]
    exact q.fin hr rfl
theorem op_ne (hu : X.A.units + 64 < cLine) : AOp X (compareOp .NotEq) aNe := by
  refine ⟨fun d e A Q Q' k h => ?_, ?_⟩
  · cases d <;> cases e <;> first | exact k _ _ h | exact ⟨h.1, k _ _ h.2⟩ | exact ⟨h.choose, h.choose_spec.1, h.choose_spec.2.1, k _ _ h.choose_spec.2.2⟩
  · intro pins s σ H x y v u Q I rx ry ⟨d, e, A, hr, rd, re, h⟩
    by_cases nr : ∃ p, d = .ref p
    · obtain ⟨p, rfl⟩ := nr
      cases (show x = V.ref p from rd)
      have h : ∃ ds, A p = some (.lst ds) ∧ (okD 20 (.lst ds) = true ∧ okD 20 e = true) ∧ post X.K A H Q (.bl (!eqD (.lst ds) e)) A := by cases e <;> exact h
      obtain ⟨ds, e0, ⟨h1, h2⟩, q⟩ := h
      obtain ⟨ws, e1, r1⟩ := hr _ _ e0
      obtain ⟨m, _, h1'⟩ := okD_lst h1
      refine L2.op_neD hu pins s σ H _ y v u Q I rx ry ⟨toPy (.lst ds), toPy e, .lst (.inl (.inl e1)) (dps_of ds m ws r1 h1'), dp_of e 20 y re h2, shaped_of h1 (by decide), shaped_of h2 (by decide), ?_⟩
      rw [eqv_of (.lst ds) e 20 h1 h2]
      exact q.fin hr rfl
    obtain ⟨n, hn, h1, h2, q⟩ := aNe_gen (fun p e => nr ⟨p, e⟩) h
    refine L2.op_neD hu pins s σ H x y v u Q I rx ry ⟨toPy d, toPy e, dp_of d n x rd h1, dp_of e n y re h2, shaped_of h1 hn, shaped_of h2 hn, ?_⟩
    rw [eqv_of d e n h1 h2]
    exact q.fin hr rfl
/-! ### is -/
def isNonD : D → Bool
  | .non => true
  | _ => false
theorem isNon_rep {K : PySem.W.Frag} {A : AH} {H : Hp} {d : D} {v : V} (r : Rep K A H d v) : decide (v = V.non) = isNonD d := by
  cases d with
  | non => cases (show v = V.non from r); rfl
  | bl b => cases (show v = V.bl b from r); rfl
  | int b => cases (show v = V.int b from r); rfl
  | str b => cases (show v = V.str b from r); rfl
  | tup ds => obtain ⟨a, xs, e, _⟩ := r; subst e; rfl
  | lst ds => obtain ⟨a, xs, e, _⟩ := r; subst e; rfl
  | ref a => cases (show v = V.ref a from r); rfl
  | scr ds => obtain ⟨a, e, _⟩ := r; subst e; rfl
def aIs : D → D → AH → DK → Prop
  | d, .non, A, Q => Q (.bl (isNonD d)) A
  | .bl a, .bl b, A, Q => Q (.bl (decide (a = b))) A
  | _, _, _, _ => False
def aIsNot : D → D → AH → DK → Prop
  | d, .non, A, Q => Q (.bl (!isNonD d)) A
  | .bl a, .bl b, A, Q => Q (.bl (!decide (a = b))) A
  | _, _, _, _ => False
theorem op_is : AOp X (compareOp .Is) aIs := by
  refine ⟨fun d e A Q Q' k h => ?_, ?_⟩
  · cases d <;> cases e <;> first | exact h.elim | exact k _ _ h
  · intro pins s σ H x y v u Q I rx ry ⟨d, e, A, hr, rd, re, h⟩
    have nn : ∀ d', aIs d' .non A (post X.K A H Q) → Rep X.K A H d' x → y = .non → wpAny (model X.prog X.w) X.A (compareOp .Is v u) (EP X pins σ Q) X.xe s := fun d' h rd ey => by
      refine L2.op_isN pins s σ H x y v u Q I rx ry ⟨ey, ?_⟩
      rw [isNon_rep rd]
      have h' : post X.K A H Q (.bl (isNonD d')) A := by cases d' <;> exact h
      exact h'.fin hr rfl
    cases e with
    | non => exact nn d h rd re
    | bl b =>
      cases d <;> first | exact (show False from h).elim | skip
      cases (show x = V.bl _ from rd)
      cases (show y = V.bl _ from re)
      exact L2.op_isBl pins s σ H _ _ v u Q I rx ry ⟨_, _, rfl, rfl, post.fin h hr rfl⟩
    | _ => cases d <;> exact (show False from h).elim
theorem op_isNot : AOp X (compareOp .IsNot) aIsNot := by
  refine ⟨fun d e A Q Q' k h => ?_, ?_⟩
  · cases d <;> cases e <;> first | exact h.elim | exact k _ _ h
  · intro pins s σ H x y v u Q I rx ry ⟨d, e, A, hr, rd, re, h⟩
    have nn : ∀ d', aIsNot d' .non A (post X.K A H Q) → Rep X.K A H d' x → y = .non → wpAny (model X.prog X.w) X.A (compareOp .IsNot v u) (EP X pins σ Q) X.xe s := fun d' h rd ey => by
      refine L2.op_notN pins s σ H x y v u Q I rx ry ⟨ey, ?_⟩
      rw [isNon_rep rd]
      have h' : post X.K A H Q (.bl (!isNonD d')) A := by cases d' <;> exact h
      exact h'.fin hr rfl
    cases e with
    | non => exact nn d h rd re
    | bl b =>
      cases d <;> first | exact (show False from h).elim | skip
      cases (show x = V.bl _ from rd)
      cases (show y = V.bl _ from re)
      exact L2.op_notBl pins s σ H _ _ v u Q I rx ry ⟨_, _, rfl, rfl, post.fin h hr rfl⟩
    | _ => cases d <;> exact (show False from h).elim
/-! ### - a -/
def aNeg (ta : AT) : AT := fun σ A Q => ta σ A fun d A1 => match d with
  | .int i => Q (.int (-i)) A1
  | _ => False
theorem ae_neg (ha : AE X a ta) : AE X (.UnaryOp .USub a pos) (aNeg ta) := by
  refine ⟨fun σ A Q Q' k q => ha.mono _ _ _ _ (fun d A1 q => by cases d <;> first | exact q.elim | exact k _ _ q) q, pe_weak (pe_un un_neg ha.pe) fun vs H Q q => ?_⟩
  obtain ⟨σ, A, hr, sr, q⟩ := q
  refine ⟨σ, A, hr, sr, ha.mono _ _ _ _ (fun d A1 q v1 H1 a1 r1 e1 => ?_) q⟩
  cases d <;> first | exact (show False from q).elim | skip
  exact ⟨_, e1, q _ _ a1 r1 rfl⟩

end
end Rk

/-! enumerate of a tuple -/
namespace Rk
open PySem PySem.Spec PyProof.Rows L2
open Sem (wp)
theorem meets_enumerate_newB1 {v : Value} {o : Obj} {H : Heap → Prop} (B : Begins v o H) :
    Meets (Builtin.«enumerate.__new__» ⟨[.type "enumerate", v], []⟩) (fun _ R s => H s.heap ∧
      R (.ok (.ret (.ref (s.heap.push o).objs.size))) { s with heap := (s.heap.push o).push { cls := .type "enumerate", data := .fields #[.none, .bool false, .ref s.heap.objs.size, rawInt 0, .none, .none] } }) :=
  .of_wp fun prog w A R s h => by
    obtain ⟨hp, g, d, tk, os⟩ := s; obtain ⟨h1, h⟩ := h
    have hsub := sub_enumerate
    have q1 : ∀ {A' : Around} {E : Value → Shared → Prop} {Q : Value → Shared → Prop}, Q (.ref hp.objs.size) ⟨hp.push o, g, d, tk, os⟩ → wpAny (model prog w) A' (pyIter v) Q E ⟨hp, g, d, tk, os⟩ :=
      fun q => B.iter prog w _ _ ⟨hp, g, d, tk, os⟩ _ h1 q
    wp_walk using q1
    refine wpAny_stack_any fun st => wpAny_pure ?_
    split
    · rename_i c _ _ _ _ _
      cases (c == Value.type "enumerate")
      · wp_walk using q1
        exact ⟨_, rfl, h⟩
      · wp_walk using q1
        exact ⟨_, rfl, h⟩
    · wp_walk using q1
      exact ⟨_, rfl, h⟩
section
variable {prog : Program} {w : World} {A : Around} {E : Value → Shared → Prop} {s : Shared}
theorem call_enumT {t : Addr} {items : Array Value} {Q : Value → Shared → Prop} (ht : s.heap.IsTuple t items)
    (h : ∀ h', IsEnum h' (s.heap.objs.size + 1) s.heap.objs.size 0 .none → h'.IsTupleIter s.heap.objs.size t 0 → h'.objs.size = s.heap.objs.size + 2 →
      (∀ b o, s.heap.get? b = some o → h'.get? b = some o) → Q (.ref (s.heap.objs.size + 1)) { s with heap := h' }) :
    wpAny (model prog w) A (call (.type "enumerate") [.ref t]) Q E s := by
  refine callType_new F.called_enumerate (by decide) (F.typeCall_enumerate_1 _) (F.newCall_enumerate_1 _) (fun obj => F.args_object_init_2 obj _) F.entry_enumerate_new
    (meets_enumerate_newB1 (begins_tuple t items)) ⟨ht, ?_⟩
  have hz : (s.heap.push { cls := .type "tuple_iterator", data := .fields #[.ref t, .int 0 0] }).objs.size = s.heap.objs.size + 1 := Heap.size_push ..
  show _ ∧ _
  rw [hz]
  have he : IsEnum ((s.heap.push { cls := .type "tuple_iterator", data := .fields #[.ref t, .int 0 0] }).push { cls := .type "enumerate", data := .fields #[.none, .bool false, .ref s.heap.objs.size, rawInt 0, .none, .none] }) (s.heap.objs.size + 1) s.heap.objs.size 0 .none := by
    have := Heap.get?_push_size (s.heap.push { cls := .type "tuple_iterator", data := .fields #[.ref t, .int 0 0] }) (o := { cls := .type "enumerate", data := .fields #[.none, .bool false, .ref s.heap.objs.size, rawInt 0, .none, .none] }) rfl
    rw [hz] at this; exact this
  refine ⟨⟨_, he, rfl⟩, h _ he ⟨_, Heap.get?_push_of_some _ (Heap.get?_push_size _ rfl), rfl, rfl⟩ (by rw [Heap.size_push, hz]) fun b o x => Heap.get?_push_of_some _ (Heap.get?_push_of_some _ x)⟩
end
/-- the tuple at a as it stands at each turn, each item in a new pair -/
def IteT (K : PySem.W.Frag) (a : Addr) : It :=
  ⟨fun i H => ∃ (xs : List V) (x : V), SqT K H a xs ∧ xs[i]? = some x, fun i H v H' => ∃ T x, v = .ref T ∧ H T = none ∧ H' = upd H T (.tup [.int (i : Nat), x]) ∧ ∀ xs, SqT K H a xs → xs[i]? = some x, fun i H => ∃ xs : List V, SqT K H a xs ∧ xs.length ≤ i⟩
theorem turn_enumT {P : Program} {w : World} {K : PySem.W.Frag} {elts : List Expr} {kk : Nat} {tpos : Pos} (a e it : Addr) :
    Turn P w K (.Tuple elts kk tpos) (IteT K a) [e, it] e (fun i h => (∃ old, IsEnum h e it ((i : Nat) : Int) old) ∧ h.IsTupleIter it a i ∧ e ≠ it ∧ e ≠ a ∧ a ≠ it) where
  mem := by simp
  obj := fun i h st b hb => by
    obtain ⟨⟨old, he⟩, ⟨o, ho, hc, hd⟩, _⟩ := st
    have e' : b = e ∨ b = it := by simpa using hb
    rcases e' with z | z
    · rw [z]; exact ⟨_, he, fun v q => nomatch q⟩
    · rw [z]; exact ⟨o, ho, fun v q => by rw [hd] at q; cases q⟩
  keep := fun i h h' st k => let ⟨⟨old, he⟩, hi, hne⟩ := st; ⟨⟨old, k e (by simp) _ he⟩, hi.at fun o q => k it (by simp) o q, hne⟩
  item := by
    intro X hP hw hK hc i pins s σ H E I hf st hg
    subst hP hw hK
    obtain ⟨⟨old, he⟩, hit, hne, hea, hai⟩ := st
    obtain ⟨xs, x, hq, hx⟩ := hg
    obtain ⟨its, rv, p, hz⟩ := I.tuple hq
    obtain ⟨u, hu, ru⟩ := rv.get hx
    have hel : e < s.heap.objs.size := Heap.lt_size he
    have hil : it < s.heap.objs.size := by obtain ⟨_, q, _⟩ := hit; exact Heap.lt_size q
    have hlt : i < its.toArray.size := by
      have := (List.getElem?_eq_some_iff.mp hu).1
      simpa using this
    refine wpAny_pyNext_enum_itemD (Draws.tuple (A := X.A.in1) (I.ok.hd hc) it a hai its.toArray) he ⟨hit, p⟩ hlt hne (by simp [hne, hea]) fun y h' tk hP ho hs' hT hsz hk => ?_
    have ey : y = u := by
      have : its[i]? = some y := by simpa using hP
      rw [hu] at this
      exact (Option.some.inj this).symm
    subst ey
    refine ⟨_, rfl, wpAny_letOwnedTupleGo_enum (s := { s with heap := h', toks := tk + 1 }) ho fun h'' he' sb => ?_⟩
    have hT2 : h''.get? s.heap.objs.size = some { cls := .type "tuple", data := .seq #[.int i tk, y] } := (sb.2 _ (Nat.ne_of_gt hel)).trans hT
    have new : ObjOk X.prog X.w (upd H s.heap.objs.size (.tup [.int (i : Nat), x])) h'' s.heap.objs.size (.tup [.int (i : Nat), x]) :=
      ⟨by show 2 ≤ sizeLine; decide, [.int i tk, y], .cons ⟨_, rfl⟩ (.cons ru .nil), ⟨_, hT2, rfl, _, rfl⟩⟩
    have I1 : Inv X pins σ (upd H s.heap.objs.size (.tup [.int (i : Nat), x])) { s with heap := h'', toks := tk + 1 } :=
      I.turnedNew (ch := [e, it]) (fun b ob hb q => (sb.2 b (fun z => hb (by simp [z]))).trans (hk b ob (fun z => hb (by simp [z])) (fun z => hb (by simp [z])) q)) hf (Nat.le_refl _) new
    refine ⟨.ref s.heap.objs.size, _, I1, rfl, ⟨_, x, rfl, I.hok.fresh (Nat.le_refl _), rfl, fun ys hy => by rw [I.tuple_inj hy hq]; exact hx⟩, ⟨⟨y, ?_⟩, hs'.1.at fun o q => (sb.2 it (Ne.symm hne)).trans q, hne, hea, hai⟩, fun b hb => ?_⟩
    · have e1 : ((i + 1 : Nat) : Int) = (i : Int) + 1 := by omega
      rw [e1]; exact he'
    · have hb' : b < s.heap.objs.size := by
        have e' : b = e ∨ b = it := by simpa using hb
        rcases e' with z | z
        · rw [z]; exact hel
        · rw [z]; exact hil
      rw [upd_ne (Nat.ne_of_lt hb')]
      exact (hf b hb).1
  done := by
    intro X hP hw hK hc i pins s σ H E I hf st hg
    subst hP hw hK
    obtain ⟨⟨old, he⟩, hit, hne, hea, hai⟩ := st
    obtain ⟨xs, hq, hx⟩ := hg
    obtain ⟨its, rv, p, hz⟩ := I.tuple hq
    have hl := rv.length
    obtain ⟨o, ho, hc', hd'⟩ := id hit
    obtain ⟨f0, f1, f2, f3, f4, f5⟩ := hf it (by simp)
    have hT : s.TypeIs (.ref e) "enumerate" := ⟨_, he, rfl⟩
    unfold pyNext
    refine wpAny_bind (wpAny_attempt (wpAny_callSpecial?_slot (name := Str.ofString "__next__") hT F.slot_enumerate_next
      (wpAny_call_entry F.slot_enumerate_next hT F.entry_enumerate_next ?_ (F.args_enumerate_next_1 _))))
    show wpAny _ _ (field (.ref e) 2 >>= _) _ _ _
    refine wpAny_bind (wpAny_field he rfl (x := .ref it) rfl ?_)
    refine wpAny_bind (wpAny_nextOf_tuple_end (A := X.A.in1) (I.ok.hd hc) hit p (by simp; omega) fun h' x he' hx' => ?_)
    obtain ⟨o, ho, hc⟩ := hx'
    refine wpAny_bind (wpAny_isInstance (T := "StopIteration") (b := true) ⟨o, ho, hc⟩ isSubtype_stop ?_)
    exact wpAny_pure ⟨rfl, I.turned (t' := s.toks) (fun b o hb q => he' b o hb q) f0 f1 f3 f4 f5⟩
  self := fun A i s Q E st h => let ⟨⟨_, he⟩, _⟩ := st; wpAny_pyIter_enum he h
def iEnumA (K : PySem.W.Frag) (ta : TA) : TI := fun σ H R => ta σ H fun vs H1 => ∃ a xs, vs = [.ref a] ∧ ((SqL K H1 a xs ∧ R (Ite K a) H1) ∨ (SqT K H1 a xs ∧ R (IteT K a) H1))
theorem pi_enumA {X : Cx} {e : Expr} {ta : TA} {p pos tpos : Pos} {elts : List Expr} {kk : Nat} (hg : Gl X "enumerate") (hm : X.mg "enumerate" = none) (ha : PA X [e] ta) (hs : starEach [e] X.env = [(false, eval e X.env)] := by rfl) :
    PI X (.Tuple elts kk tpos) (.Call (.Name "enumerate" p) [e] [] pos) (iEnumA X.K ta) := by
  refine ⟨fun pins s σ H R I h => ?_⟩
  refine Call_ (ld_blt I hg hm boot_enumerate (PyProof.Rows.callWith_type1 (thn (ha.run pos pins s σ H _ I h) fun us s1 ⟨vs, H1, I1, r1, q1⟩ => ?_) hs rfl))
  obtain ⟨a, xs, ex, q⟩ := q1
  subst ex
  cases r1 with
  | cons r rr =>
    cases rr
    cases r
    have fresh2 : ∀ b ∈ [s1.heap.objs.size + 1, s1.heap.objs.size], FpOk X pins H1 b := fun b hb => by
      have e' : b = s1.heap.objs.size + 1 ∨ b = s1.heap.objs.size := by simpa using hb
      have hle : s1.heap.objs.size ≤ b := by
        rcases e' with z | z
        · rw [z]; exact Nat.le_add_right _ _
        · rw [z]; exact Nat.le_refl _
      exact I1.fpOk hle (I1.hok.fresh hle)
    rcases q with ⟨hq, q⟩ | ⟨hq, q⟩
    · obtain ⟨its, rv, p', hz⟩ := I1.list hq
      refine call_enumerate_list p'.isList fun h' he hit hsz hk => wpAny_pyIter_enum he ?_
      have I2 : Inv X pins σ H1 { s1 with heap := h' } := I1.kept (t' := s1.toks) hk
      exact ⟨s1.heap.objs.size + 1, [s1.heap.objs.size + 1, s1.heap.objs.size], _, _, H1, rfl, I2, turn_enum a (s1.heap.objs.size + 1) s1.heap.objs.size, ⟨⟨.none, he⟩, hit, Nat.succ_ne_self _⟩, fresh2, q⟩
    · obtain ⟨its, rv, p', hz⟩ := I1.tuple hq
      obtain ⟨o1, ho1, _⟩ := id p'
      have hal : a < s1.heap.objs.size := Heap.lt_size ho1
      refine call_enumT (show s1.heap.IsTuple a its.toArray from p') fun h' he hit hsz hk => wpAny_pyIter_enum he ?_
      have I2 : Inv X pins σ H1 { s1 with heap := h' } := I1.kept (t' := s1.toks) hk
      exact ⟨s1.heap.objs.size + 1, [s1.heap.objs.size + 1, s1.heap.objs.size], _, _, H1, rfl, I2, turn_enumT a (s1.heap.objs.size + 1) s1.heap.objs.size, ⟨⟨.none, he⟩, hit, Nat.succ_ne_self _, Nat.ne_of_gt (Nat.lt_succ_of_lt hal), Nat.ne_of_lt hal⟩, fresh2, q⟩
end Rk

/-! sum, max, min, all, any of a tuple -/
namespace Rk
open PySem PySem.Spec PyProof.Rows L2
section
variable {prog : Program} {w : World} {A : Around} {E : Value → Shared → Prop} {s : Shared} {l : Addr} {xs : Array (Int × Tok)}
theorem iter_tup {items : Array Value} {Q : Value → Shared → Prop} (hl : s.heap.IsTuple l items)
    (h : ∀ s₂ : Shared, s₂ = { s with heap := s.heap.push { cls := .type "tuple_iterator", data := .fields #[.ref l, .int 0 0] } } →
      (s₂.heap.IsTupleIter s.heap.objs.size l 0 ∧ s₂.heap.IsTuple l items) → (∀ b ∈ [s.heap.objs.size, l], b < s₂.heap.objs.size) → l ≠ s.heap.objs.size → Q (.ref s.heap.objs.size) s₂) :
    wpAny (model prog w) A (pyIter (.ref l)) Q E s := by
  have hlt : l < s.heap.objs.size := by obtain ⟨_, e, _⟩ := hl; exact Heap.lt_size e
  refine wpAny_pyIter_tuple hl (h _ rfl ⟨⟨_, Heap.get?_push_size _ rfl, rfl, rfl⟩, hl.push _⟩ (fun b hb => ?_) (Nat.ne_of_lt hlt))
  show b < (s.heap.push _).objs.size
  rw [Heap.size_push]
  rcases List.mem_cons.mp hb with rfl | hb
  · exact Nat.lt_succ_self _
  · rcases List.mem_cons.mp hb with rfl | hb
    · exact Nat.lt_succ_of_lt hlt
    · cases hb
theorem old_keptO {h' : Heap} {ob : Obj} (hk : ∀ b o, b ∉ [s.heap.objs.size] → (s.heap.push ob).get? b = some o → h'.get? b = some o) :
    ∀ b o, s.heap.get? b = some o → h'.get? b = some o := fun b o e => by
  refine hk b o (fun hm => ?_) (Heap.get?_push_of_some _ e)
  rcases List.mem_cons.mp hm with e1 | hm
  · exact absurd (e1 ▸ Heap.lt_size e) (Nat.lt_irrefl _)
  · cases hm
theorem sum_tupR {its : List Value} {ns : List Int} {Q : Value → Shared → Prop} (hh : A.handled = none) (hl : s.heap.IsTuple l its.toArray) (hi : IntsAre its ns)
    (h : ∀ h' tk t', (∀ b o, s.heap.get? b = some o → h'.get? b = some o) → Q (.int ns.sum t') { s with heap := h', toks := tk }) : wpAny (model prog w) A (call (.builtin "sum") [.ref l]) Q E s := by
  obtain ⟨xs, e⟩ := hi.allInts.items
  have hn : numsOf (intItems xs).toList = ns := by rw [← e]; exact hi.numsOf
  rw [nums_intItems] at hn
  rw [e] at hl
  refine call_sum_walkG (iter_tup hl fun s₂ e st hfp hlI => ?_)
  subst e
  refine ⟨_, _, _, _, _, _, numAt xs, rfl, Walks.tuple (A := A.in1) hh _ l hlI (intItems xs), st, hfp, (fun _ _ => intItems_at), fun h' tk t' hk => ?_⟩
  have := h h' tk t' (old_keptO hk)
  have e2 : preSum (numAt xs) (intItems xs).size = ns.sum := by
    rw [preSum_eq, ← hn]
    rw [List.take_of_length_le (by simp [intItems])]
  rw [e2]
  exact this
theorem max_tupR {its : List Value} {ns : List Int} {Q : Value → Shared → Prop} (hh : A.handled = none) (hl : s.heap.IsTuple l its.toArray) (hi : IntsAre its ns) (hne : 0 < ns.length)
    (h : ∀ h' tk M t', (∀ b o, s.heap.get? b = some o → h'.get? b = some o) → M ∈ ns → (∀ a, a ∈ ns → a ≤ M) → Q (.int M t') { s with heap := h', toks := tk }) : wpAny (model prog w) A (call (.builtin "max") [.ref l]) Q E s := by
  obtain ⟨xs, e⟩ := hi.allInts.items
  have hn : numsOf (intItems xs).toList = ns := by rw [← e]; exact hi.numsOf
  rw [nums_intItems] at hn
  subst hn
  rw [e] at hl
  have hsz : 0 < xs.size := by simpa using hne
  refine call_max_walk (iter_tup hl fun s₂ e st hfp hlI => ?_)
  subst e
  refine ⟨_, _, _, _, _, _, _, rfl, Walks.tuple (A := A.in1) hh _ l hlI (intItems xs), st, hfp, by simpa [intItems] using hsz, CmpOf.ints_gt (numAt xs) (fun _ _ => intItems_at), fun v h' tk hP hk => ?_⟩
  obtain ⟨t, rfl⟩ := intItems_at hP
  have es : (intItems xs).size = xs.size := by simp [intItems]
  rw [es]
  obtain ⟨h1, h2⟩ := argBest_gt (numAt xs) (xs.size - 1)
  refine h h' tk _ t (old_keptO hk) ?_ fun a ha => ?_
  · rw [numAt_eq]; exact PySem.getD_mem (by rw [List.length_map, Array.length_toList]; omega)
  · obtain ⟨j, hj, rfl⟩ := mem_getD ha
    rw [List.length_map, Array.length_toList] at hj
    rw [← numAt_eq]; exact h2 j (by omega)
theorem min_tupR {its : List Value} {ns : List Int} {Q : Value → Shared → Prop} (hh : A.handled = none) (hl : s.heap.IsTuple l its.toArray) (hi : IntsAre its ns) (hne : 0 < ns.length)
    (h : ∀ h' tk M t', (∀ b o, s.heap.get? b = some o → h'.get? b = some o) → M ∈ ns → (∀ a, a ∈ ns → M ≤ a) → Q (.int M t') { s with heap := h', toks := tk }) : wpAny (model prog w) A (call (.builtin "min") [.ref l]) Q E s := by
  obtain ⟨xs, e⟩ := hi.allInts.items
  have hn : numsOf (intItems xs).toList = ns := by rw [← e]; exact hi.numsOf
  rw [nums_intItems] at hn
  subst hn
  rw [e] at hl
  have hsz : 0 < xs.size := by simpa using hne
  refine call_min_walk (iter_tup hl fun s₂ e st hfp hlI => ?_)
  subst e
  refine ⟨_, _, _, _, _, _, _, rfl, Walks.tuple (A := A.in1) hh _ l hlI (intItems xs), st, hfp, by simpa [intItems] using hsz, CmpOf.ints_lt (numAt xs) (fun _ _ => intItems_at), fun v h' tk hP hk => ?_⟩
  obtain ⟨t, rfl⟩ := intItems_at hP
  have es : (intItems xs).size = xs.size := by simp [intItems]
  rw [es]
  obtain ⟨h1, h2⟩ := argBest_lt (numAt xs) (xs.size - 1)
  refine h h' tk _ t (old_keptO hk) ?_ fun a ha => ?_
  · rw [numAt_eq]; exact PySem.getD_mem (by rw [List.length_map, Array.length_toList]; omega)
  · obtain ⟨j, hj, rfl⟩ := mem_getD ha
    rw [List.length_map, Array.length_toList] at hj
    rw [← numAt_eq]; exact h2 j (by omega)
end
section
variable {X : Cx}
theorem crT_sum (hc : X.calm = true) : CallR X (.builtin "sum") (fun vs H Q => ∃ (a : Addr) (ns : List Int), vs = [V.ref a] ∧ SqT X.K H a (ns.map V.int) ∧ Q (.int ns.sum) H) := by
  intro pins s σ H vs us Q I r h
  obtain ⟨a, ns, rfl, hs, q⟩ := h
  obtain ⟨its, rv, hl, _⟩ := I.tuple hs
  rw [Vals.ref1 r]
  exact sum_tupR (I.ok.hd hc) hl rv.ints fun h' tk t' hk => ⟨.int _, H, I.kept hk, ⟨_, rfl⟩, q⟩
theorem crT_max (hc : X.calm = true) : CallR X (.builtin "max") (fun vs H Q => ∃ (a : Addr) (ns : List Int), vs = [V.ref a] ∧ SqT X.K H a (ns.map V.int) ∧ 0 < ns.length ∧ ∀ m, m ∈ ns → (∀ y, y ∈ ns → y ≤ m) → Q (.int m) H) := by
  intro pins s σ H vs us Q I r h
  obtain ⟨a, ns, rfl, hs, hne, q⟩ := h
  obtain ⟨its, rv, hl, _⟩ := I.tuple hs
  rw [Vals.ref1 r]
  exact max_tupR (I.ok.hd hc) hl rv.ints hne fun h' tk m t' hk h1 h2 => ⟨.int _, H, I.kept hk, ⟨_, rfl⟩, q m h1 h2⟩
theorem crT_min (hc : X.calm = true) : CallR X (.builtin "min") (fun vs H Q => ∃ (a : Addr) (ns : List Int), vs = [V.ref a] ∧ SqT X.K H a (ns.map V.int) ∧ 0 < ns.length ∧ ∀ m, m ∈ ns → (∀ y, y ∈ ns → m ≤ y) → Q (.int m) H) := by
  intro pins s σ H vs us Q I r h
  obtain ⟨a, ns, rfl, hs, hne, q⟩ := h
  obtain ⟨its, rv, hl, _⟩ := I.tuple hs
  rw [Vals.ref1 r]
  exact min_tupR (I.ok.hd hc) hl rv.ints hne fun h' tk m t' hk h1 h2 => ⟨.int _, H, I.kept hk, ⟨_, rfl⟩, q m h1 h2⟩
theorem crT_any (hc : X.calm = true) : CallR X (.builtin "any") (fun vs H Q => ∃ (a : Addr) (bs : List Bool), vs = [V.ref a] ∧ SqT X.K H a (bs.map V.bl) ∧ Q (.bl (bs.any id)) H) := by
  intro pins s σ H vs us Q I r h
  obtain ⟨a, bs, rfl, hs, q⟩ := h
  obtain ⟨its, rv, hl, _⟩ := I.tuple hs
  rw [Vals.ref1 r]
  have hb := rv.bls
  refine call_any_walk (iter_tup hl fun s₂ e2 st _ hne => ?_)
  subst e2
  refine ⟨_, _, _, _, _, _, _, rfl, Walks.tuple (A := X.A.in1) (I.ok.hd hc) _ a hne its.toArray, st, truth_bools hb, fun h' tk hk => ?_⟩
  refine ⟨.bl _, H, I.kept fun b o eo => hk b o (fun hmem => ?_) (Heap.get?_push_of_some _ eo), ?_, q⟩
  · rcases List.mem_cons.mp hmem with e1 | hmem
    · exact absurd (e1 ▸ Heap.lt_size eo) (Nat.lt_irrefl _)
    · cases hmem
  · show Value.bool _ = Value.bool _
    rw [← L2.any_range, hb, List.size_toArray, List.length_map]
theorem crT_all (hc : X.calm = true) : CallR X (.builtin "all") (fun vs H Q => ∃ (a : Addr) (bs : List Bool), vs = [V.ref a] ∧ SqT X.K H a (bs.map V.bl) ∧ Q (.bl (bs.all id)) H) := by
  intro pins s σ H vs us Q I r h
  obtain ⟨a, bs, rfl, hs, q⟩ := h
  obtain ⟨its, rv, hl, _⟩ := I.tuple hs
  rw [Vals.ref1 r]
  have hb := rv.bls
  refine call_all_walk (iter_tup hl fun s₂ e2 st _ hne => ?_)
  subst e2
  refine ⟨_, _, _, _, _, _, _, rfl, Walks.tuple (A := X.A.in1) (I.ok.hd hc) _ a hne its.toArray, st, truth_bools hb, fun h' tk hk => ?_⟩
  refine ⟨.bl _, H, I.kept fun b o eo => hk b o (fun hmem => ?_) (Heap.get?_push_of_some _ eo), ?_, q⟩
  · rcases List.mem_cons.mp hmem with e1 | hmem
    · exact absurd (e1 ▸ Heap.lt_size eo) (Nat.lt_irrefl _)
    · cases hmem
  · show Value.bool _ = Value.bool _
    rw [← L2.all_range, hb, List.size_toArray, List.length_map]
end
end Rk

namespace Rk
open PySem PySem.Spec L2
section
variable {X : Cx} {pos : Pos} {a b c e : Expr} {es : List Expr} {ta tb tc : AT}
/-! ### subscripts -/
def nth : List D → Nat → Option D
  | [], _ => none
  | d :: _, 0 => some d
  | _ :: r, n + 1 => nth r n
theorem nth_eq : ∀ (ds : List D) (n : Nat), nth ds n = ds[n]?
  | [], _ => by simp [nth]
  | _ :: _, 0 => by simp [nth]
  | _ :: r, n + 1 => by simp [nth, nth_eq r n]
/-- the item at i, from the end where i is below 0 -/
def ixD (ds : List D) : Int → Option D
  | .ofNat n => nth ds n
  | .negSucc n => if n < ds.length then nth ds (ds.length - 1 - n) else none
theorem ixD_at {K : PySem.W.Frag} {A : AH} {H : Hp} {ds : List D} {vs : List V} (r : Reps K A H ds vs) {i : Int} {d : D} (h : ixD ds i = some d) : ∃ v, atI vs i = some v ∧ Rep K A H d v := by
  have hl := r.length
  cases i with
  | ofNat n =>
    have h : nth ds n = some d := h
    rw [nth_eq] at h
    obtain ⟨v, h1, h2⟩ := r.get h
    exact ⟨v, atI_nat h1, h2⟩
  | negSucc n =>
    have h : (if n < ds.length then nth ds (ds.length - 1 - n) else none) = some d := h
    by_cases hn : n < ds.length
    · rw [if_pos hn, nth_eq] at h
      obtain ⟨v, h1, h2⟩ := r.get h
      refine ⟨v, ?_, h2⟩
      unfold atI ixN
      rw [if_neg (by omega), if_pos (by omega)]
      have e : (Int.negSucc n + (vs.length : Int)).toNat = ds.length - 1 - n := by omega
      rw [e]
      exact h1
    · rw [if_neg hn] at h
      cases h
theorem ixD_nat {ds : List D} {k : Nat} {d : D} (h : ds[k]? = some d) : ixD ds (k : Int) = some d := by
  show nth ds k = some d
  rw [nth_eq]; exact h
def optK (o : Option D) (k : D → Prop) : Prop := match o with
  | some d => k d
  | none => False
theorem optK_mono {o : Option D} {k k' : D → Prop} (h : optK o k) (g : ∀ d, k d → k' d) : optK o k' := by
  cases o with
  | none => exact h
  | some d => exact g _ h
theorem optK_get {o : Option D} {k : D → Prop} (h : optK o k) : ∃ d, o = some d ∧ k d := by
  cases o with
  | none => exact h.elim
  | some d => exact ⟨d, rfl, h⟩
theorem optK_of {o : Option D} {k : D → Prop} {d : D} (e : o = some d) (h : k d) : optK o k := by rw [e]; exact h
def aIx : D → D → AH → DK → Prop
  | .tup ds, .int i, A, Q => optK (ixD ds i) fun d => Q d A
  | .lst ds, .int i, A, Q => optK (ixD ds i) fun d => Q d A
  | .ref p, .int i, A, Q => ∃ ds, A p = some (.lst ds) ∧ optK (ixD ds i) fun d => Q d A
  | _, _, _, _ => False
theorem mon_ix : Mon2 aIx := fun d e A Q Q' k h => by
  cases d <;> cases e <;> first | exact h.elim | exact optK_mono h fun d => k d _ | (obtain ⟨ds, e, h⟩ := h; exact ⟨ds, e, optK_mono h fun d => k d _⟩)
theorem ae_ix (ha : AE X a ta) (hb : AE X b tb) (hs : PlainIx b := by exact fun _ _ => rfl) : AE X (.Subscript a b pos) (aOp aIx ta tb) := by
  refine ⟨mon_op mon_ix ha.mono hb.mono, pe_weak (pe_ix ix_seq ha.pe hb.pe hs) fun vs H Q h => bin_lift mon_ix ha.mono hb.mono h fun x y H2 q => ?_⟩
  obtain ⟨d, e, A, hr, rd, re, q⟩ := q
  cases d <;> cases e <;> first | exact (show False from q).elim | skip
  · obtain ⟨p, xs, rfl, t, r⟩ := rd
    cases (show y = V.int _ from re)
    obtain ⟨d, e1, q⟩ := optK_get q
    obtain ⟨v, h1, h2⟩ := ixD_at r e1
    exact .inr (.inl ⟨p, xs, _, v, rfl, rfl, t.sq, h1, post.fin q hr h2⟩)
  · obtain ⟨p, xs, rfl, t, r⟩ := rd
    cases (show y = V.int _ from re)
    obtain ⟨d, e1, q⟩ := optK_get q
    obtain ⟨v, h1, h2⟩ := ixD_at r e1
    exact .inl ⟨p, xs, _, v, rfl, rfl, t.sq, h1, post.fin q hr h2⟩
  · cases (show x = V.ref _ from rd)
    cases (show y = V.int _ from re)
    obtain ⟨ds, e0, q⟩ := q
    obtain ⟨xs, e2, r⟩ := hr _ _ e0
    obtain ⟨d, e1, q⟩ := optK_get q
    obtain ⟨v, h1, h2⟩ := ixD_at r e1
    exact .inl ⟨_, xs, _, v, rfl, rfl, SqL.of e2, h1, post.fin q hr h2⟩
/-! ### slices -/
def cutD (ds : List D) (lo hi : Option Int) : List D := (ds.drop (HT.sIx ds.length 0 lo)).take (HT.sIx ds.length ds.length hi - HT.sIx ds.length 0 lo)
theorem Reps.cut {K : PySem.W.Frag} {A : AH} {H : Hp} {ds : List D} {vs : List V} (r : Reps K A H ds vs) (lo hi : Option Int) : Reps K A H (cutD ds lo hi) (cutV vs lo hi) := by
  unfold cutD cutV
  rw [r.length]
  exact (r.drop _).take _
abbrev AOt := ASt → AH → (Option Int → AH → Prop) → Prop
structure AO' (X : Cx) (e : Option Expr) (t : AOt) : Prop where
  mono : ∀ σ A (Q Q' : Option Int → AH → Prop), (∀ d A', Q d A' → Q' d A') → t σ A Q → t σ A Q'
  ex : ∃ tc : TO, PO X e tc ∧ ∀ (vs : L2.St) (H : Hp) (σ : ASt) (A : AH) (R : Option Int → Hp → Prop), HRep X.K A H → SRep X.K A H σ vs → t σ A (fun o A' => ∀ H', Adv A H A' H' → HRep X.K A' H' → R o H') → tc vs H R
def aNoPart : AOt := fun _ A Q => Q none A
def aPart (t : AT) : AOt := fun σ A Q => t σ A fun d A' => match d with | .int i => Q (some i) A' | _ => False
theorem ao_none : AO' X none aNoPart := ⟨fun _ _ _ _ k q => k _ _ q, _, po_none, fun vs H σ A R hr sr q => q _ Adv.refl hr⟩
theorem ao_some (h : AE X e ta) : AO' X (some e) (aPart ta) := by
  refine ⟨fun σ A Q Q' k q => h.mono _ _ _ _ (fun d A' q => by cases d <;> first | exact q.elim | exact k _ _ q) q, _, po_some h.pe, fun vs H σ A R hr sr q => ?_⟩
  refine ⟨σ, A, hr, sr, h.mono _ _ _ _ (fun d A1 q v1 H1 a1 r1 e1 => ?_) q⟩
  cases d <;> first | exact (show False from q).elim | exact ⟨_, e1, q _ a1 r1⟩
def aSl (te : AT) (tl th : AOt) : AT := fun σ A Q => te σ A fun d A1 => tl σ A1 fun lo A2 => th σ A2 fun hi A3 => match d with
  | .tup l => Q (.tup (cutD l lo hi)) A3
  | .lst l => Q (.lst (cutD l lo hi)) A3
  | .ref p => ∃ l, A3 p = some (.lst l) ∧ Q (.lst (cutD l lo hi)) A3
  | _ => False
theorem cut_whole {ds : List D} {lo hi : Option Int} (h : HT.sIx ds.length 0 lo = 0 ∧ HT.sIx ds.length ds.length hi = ds.length) : cutD ds lo hi = ds := by
  unfold cutD
  rw [h.1, h.2, List.drop_zero, Nat.sub_zero, List.take_length]
theorem ae_slice {lo hi : Option Expr} {tl th : AOt} {p2 : Pos} (he : AE X e ta) (hl : AO' X lo tl) (hh : AO' X hi th) : AE X (.Subscript e (.Slice lo hi none p2) pos) (aSl ta tl th) := by
  obtain ⟨ml, tlc, pl, kl⟩ := hl
  obtain ⟨mh, thc, ph, kh⟩ := hh
  refine ⟨fun σ A Q Q' k q => he.mono _ _ _ _ (fun d A1 q => ml _ _ _ _ (fun lo A2 q => mh _ _ _ _ (fun hi A3 q => by
    cases d <;> first | exact q.elim | exact k _ _ q | exact ⟨q.choose, q.choose_spec.1, k _ _ q.choose_spec.2⟩) q) q) q, pe_weak (pe_slice (sl_tupA.or sl_list) he.pe pl ph) fun vs H Q q => ?_⟩
  obtain ⟨σ, A, hr, sr, q⟩ := q
  refine ⟨σ, A, hr, sr, he.mono _ _ _ _ (fun d A1 q v1 H1 a1 r1 e1 => ?_) q⟩
  refine kl vs H1 σ A1 _ r1 (sr.adv a1) (ml _ _ _ _ (fun lo A2 q H2 a2 r2 => ?_) q)
  refine kh vs H2 σ A2 _ r2 (sr.adv (a1.trans a2)) (mh _ _ _ _ (fun hi A3 q H3 a3 r3 => ?_) q)
  have a03 := (a1.trans a2).trans a3
  have e3 := e1.adv (a2.trans a3)
  cases d with
  | tup dl =>
    obtain ⟨p, xs, rfl, t, r⟩ := e3
    refine .inl ⟨p, xs, rfl, t.sq, fun w => ?_, fun w q' hq => ?_⟩
    · rw [r.length] at w
      have q : post X.K A H Q (.tup (cutD dl lo hi)) A3 := q
      rw [cut_whole w] at q
      exact q _ _ a03 r3 ⟨p, xs, rfl, t, r⟩
    · exact q _ _ (a03.trans (adv_new r3 hq).1) (adv_new r3 hq).2 (rep_tup r3 hq (r.cut lo hi))
  | lst dl =>
    obtain ⟨p, xs, rfl, t, r⟩ := e3
    refine .inr ⟨p, xs, rfl, t.sq, fun q' hq => ?_⟩
    exact q _ _ (a03.trans (adv_new r3 hq).1) (adv_new r3 hq).2 (rep_lst r3 hq (r.cut lo hi))
  | ref pp =>
    cases (show v1 = V.ref _ from e3)
    obtain ⟨dl, e0, q⟩ := q
    obtain ⟨xs, e2, r⟩ := r3 _ _ e0
    refine .inr ⟨_, xs, rfl, SqL.of e2, fun q' hq => ?_⟩
    exact q _ _ (a03.trans (adv_new r3 hq).1) (adv_new r3 hq).2 (rep_lst r3 hq (r.cut lo hi))
  | _ => exact (show False from q).elim

/-! ### calls of built-ins -/
def liftL (K : PySem.W.Frag) (f : List D → AH → DK → Prop) : List V → Hp → VK → Prop := fun vs H Q => ∃ ds A, HRep K A H ∧ Reps K A H ds vs ∧ f ds A (post K A H Q)
abbrev MonL (f : List D → AH → DK → Prop) : Prop := ∀ ds A (Q Q' : DK), (∀ d A', Q d A' → Q' d A') → f ds A Q → f ds A Q'
structure ACall (X : Cx) (g : Value) (f : List D → AH → DK → Prop) : Prop where
  mono : MonL f
  call : CallR X g (liftL X.K f)
def aCall (f : List D → AH → DK → Prop) (t : AAt) : AT := fun σ A Q => t σ A fun ds A1 => f ds A1 Q
theorem mon_call {f : List D → AH → DK → Prop} {t : AAt} (mf : MonL f) (m : MonA t) : MonE (aCall f t) := fun σ A Q Q' k q => m _ _ _ _ (fun ds A1 q => mf _ _ _ _ k q) q
theorem call_lift {K : PySem.W.Frag} {f : List D → AH → DK → Prop} {t : AAt} (mf : MonL f) (m : MonA t) {vs : L2.St} {H : Hp} {Q : VK} (h : liftE K (aCall f t) vs H Q) : liftA K t vs H fun us H1 => liftL K f us H1 Q := by
  obtain ⟨σ, A, hr, sr, q⟩ := h
  refine ⟨σ, A, hr, sr, m _ _ _ _ (fun ds A1 q us H1 a1 r1 e1 => ?_) q⟩
  exact ⟨ds, A1, r1, e1, mf _ _ _ _ (fun d B q => post.adv a1 q) q⟩
variable {tr : AAt}
theorem ae_bi {x : Str} {id : String} {f : List D → AH → DK → Prop} {p : Pos} (hf : ACall X (.builtin id) f) (hm : X.mg x = none) (hv : bootBuiltins x = some (.builtin id)) (ha : AA X (e :: es) tr) (hg : Gl X x := by rfl) (hn : x ≠ "__name__" := by decide) (hdb : (x == ("__debug__" : Str)) = false := by decide) (he : starEach (e :: es) X.env = (false, eval e X.env) :: starEach es X.env := by rfl) (hpl : (backTo pos (starEach es X.env)).any (·.1) = false := by rfl) :
    AE X (.Call (.Name x p) (e :: es) [] pos) (aCall f tr) :=
  ⟨mon_call hf.mono ha.mono, pe_weak (pe_callB hf.call hg hm hv ha.pa hn hdb he hpl) fun vs H Q h => call_lift hf.mono ha.mono h⟩
theorem ae_ty {x : Str} {T : String} {f : List D → AH → DK → Prop} {p : Pos} (hf : ACall X (.type T) f) (hm : X.mg x = none) (hv : bootBuiltins x = some (.type T)) (ha : AA X (e :: es) tr) (hg : Gl X x := by rfl) (hn : x ≠ "__name__" := by decide) (hdb : (x == ("__debug__" : Str)) = false := by decide) (he : starEach (e :: es) X.env = (false, eval e X.env) :: starEach es X.env := by rfl) (hpl : (backTo pos (starEach es X.env)).any (·.1) = false := by rfl) :
    AE X (.Call (.Name x p) (e :: es) [] pos) (aCall f tr) :=
  ⟨mon_call hf.mono ha.mono, pe_weak (pe_callTy hf.call hg hm hv ha.pa hn hdb he hpl) fun vs H Q h => call_lift hf.mono ha.mono h⟩
/-! abs, int -/
def cAbs : List D → AH → DK → Prop
  | [.int i], A, Q => Q (.int (i.natAbs : Int)) A
  | _, _, _ => False
def cInt : List D → AH → DK → Prop
  | [.int i], A, Q => Q (.int i) A
  | [.bl b], A, Q => Q (.int (if b then 1 else 0)) A
  | _, _, _ => False
theorem reps1 {K : PySem.W.Frag} {A : AH} {H : Hp} {d : D} {vs : List V} (r : Reps K A H [d] vs) : ∃ v, vs = [v] ∧ Rep K A H d v := by
  obtain ⟨v, q, e, x, y⟩ := r
  cases (show q = [] from y)
  exact ⟨v, e, x⟩
theorem reps2 {K : PySem.W.Frag} {A : AH} {H : Hp} {d e : D} {vs : List V} (r : Reps K A H [d, e] vs) : ∃ v u, vs = [v, u] ∧ Rep K A H d v ∧ Rep K A H e u := by
  obtain ⟨v, q, z, x, y⟩ := r
  obtain ⟨u, e2, x2⟩ := reps1 y
  subst e2
  exact ⟨v, u, z, x, x2⟩
theorem call_abs : ACall X (.builtin "abs") cAbs := by
  refine ⟨fun ds A Q Q' k h => ?_, fun pins s σ H xs us Q I r h => ?_⟩
  · unfold cAbs at h ⊢
    split at h <;> first | exact k _ _ h | exact h.elim
  · obtain ⟨ds, A, hr, rs, h⟩ := h
    unfold cAbs at h
    split at h <;> first | exact h.elim | skip
    obtain ⟨v, rfl, r1⟩ := reps1 rs
    cases (show v = V.int _ from r1)
    refine L2.call_abs pins s σ H _ us Q I r ⟨_, rfl, ?_⟩
    have q := post.fin h hr rfl
    rename_i i
    have e : ((i.natAbs : Nat) : Int) = if i < 0 then -i else i := by split <;> omega
    rw [← e]
    exact q
theorem call_int : ACall X (.type "int") cInt := by
  refine ⟨fun ds A Q Q' k h => ?_, fun pins s σ H xs us Q I r h => ?_⟩
  · unfold cInt at h ⊢
    split at h <;> first | exact k _ _ h | exact h.elim
  · obtain ⟨ds, A, hr, rs, h⟩ := h
    unfold cInt at h
    split at h <;> first | exact h.elim | skip
    · obtain ⟨v, rfl, r1⟩ := reps1 rs
      cases (show v = V.int _ from r1)
      exact L2.call_int1 pins s σ H _ us Q I r (.inl ⟨_, rfl, post.fin h hr rfl⟩)
    · obtain ⟨v, rfl, r1⟩ := reps1 rs
      cases (show v = V.bl _ from r1)
      exact L2.call_int1 pins s σ H _ us Q I r (.inr ⟨_, rfl, post.fin h hr rfl⟩)
/-! len -/
def cLen : List D → AH → DK → Prop
  | [.tup ds], A, Q => Q (.int (ds.length : Int)) A
  | [.lst ds], A, Q => Q (.int (ds.length : Int)) A
  | [.ref p], A, Q => ∃ ds, A p = some (.lst ds) ∧ Q (.int (ds.length : Int)) A
  | [.str x], A, Q => x.length ≤ 100000 ∧ Q (.int (x.length : Int)) A
  | _, _, _ => False
theorem call_len : ACall X (.builtin "len") cLen := by
  refine ⟨fun ds A Q Q' k h => ?_, fun pins s σ H xs us Q I r h => ?_⟩
  · unfold cLen at h ⊢
    split at h <;> first | exact k _ _ h | exact h.elim | exact ⟨h.1, k _ _ h.2⟩ | exact ⟨h.choose, h.choose_spec.1, k _ _ h.choose_spec.2⟩
  · obtain ⟨ds, A, hr, rs, h⟩ := h
    unfold cLen at h
    split at h <;> first | exact h.elim | skip
    · obtain ⟨v, rfl, p, ws, rfl, t, q⟩ := reps1 rs
      have := post.fin h hr rfl
      exact L2.call_len_seq pins s σ H _ us Q I r ⟨p, ws, rfl, .inr t.sq, by rw [q.length]; exact this⟩
    · obtain ⟨v, rfl, p, ws, rfl, t, q⟩ := reps1 rs
      have := post.fin h hr rfl
      exact L2.call_len_seq pins s σ H _ us Q I r ⟨p, ws, rfl, .inl t.sq, by rw [q.length]; exact this⟩
    · obtain ⟨v, rfl, r1⟩ := reps1 rs
      cases (show v = V.ref _ from r1)
      obtain ⟨ds, e0, h⟩ := h
      obtain ⟨ws, e2, q⟩ := hr _ _ e0
      have := post.fin h hr rfl
      exact L2.call_len_seq pins s σ H _ us Q I r ⟨_, ws, rfl, .inl (SqL.of e2), by rw [q.length]; exact this⟩
    · obtain ⟨v, rfl, r1⟩ := reps1 rs
      cases (show v = V.str _ from r1)
      exact L2.call_len_str pins s σ H _ us Q I r ⟨_, rfl, big_ok h.1, post.fin h.2 hr rfl⟩
/-! tuple, list -/
def cTup : List D → AH → DK → Prop
  | [.tup ds], A, Q => Q (.tup ds) A
  | [.lst ds], A, Q => Q (.tup ds) A
  | [.ref p], A, Q => ∃ ds, A p = some (.lst ds) ∧ Q (.tup ds) A
  | _, _, _ => False
def cLst : List D → AH → DK → Prop
  | [.tup ds], A, Q => Q (.lst ds) A
  | [.lst ds], A, Q => Q (.lst ds) A
  | [.ref p], A, Q => ∃ ds, A p = some (.lst ds) ∧ Q (.lst ds) A
  | [.scr ns], A, Q => Q (.lst (ns.map D.int)) A
  | _, _, _ => False
def cLstM : List D → AH → DK → Prop
  | [.tup ds], A, Q => ∀ p, A p = none → Q (.ref p) (aupd A p (.lst ds))
  | [.lst ds], A, Q => ∀ p, A p = none → Q (.ref p) (aupd A p (.lst ds))
  | [.ref q], A, Q => ∃ ds, A q = some (.lst ds) ∧ ∀ p, A p = none → Q (.ref p) (aupd A p (.lst ds))
  | [.scr ns], A, Q => ∀ p, A p = none → Q (.ref p) (aupd A p (.lst (ns.map D.int)))
  | _, _, _ => False
theorem call_tup : ACall X (.type "tuple") cTup := by
  refine ⟨fun ds A Q Q' k h => ?_, fun pins s σ H xs us Q I r h => ?_⟩
  · unfold cTup at h ⊢
    split at h <;> first | exact k _ _ h | exact h.elim | exact ⟨h.choose, h.choose_spec.1, k _ _ h.choose_spec.2⟩
  · obtain ⟨ds, A, hr, rs, h⟩ := h
    unfold cTup at h
    split at h <;> first | exact h.elim | skip
    · obtain ⟨v, rfl, p, ws, rfl, t, q⟩ := reps1 rs
      exact L2.call_tuple_of pins s σ H _ us Q I r ⟨p, ws, rfl, .inr ⟨t.sq, post.fin h hr ⟨p, ws, rfl, t, q⟩⟩⟩
    · obtain ⟨v, rfl, p, ws, rfl, t, q⟩ := reps1 rs
      exact L2.call_tuple_of pins s σ H _ us Q I r ⟨p, ws, rfl, .inl ⟨t.sq, fun l hl => h _ _ (adv_new hr hl).1 (adv_new hr hl).2 (rep_tup hr hl q)⟩⟩
    · obtain ⟨v, rfl, r1⟩ := reps1 rs
      cases (show v = V.ref _ from r1)
      obtain ⟨ds, e0, h⟩ := h
      obtain ⟨ws, e2, q⟩ := hr _ _ e0
      exact L2.call_tuple_of pins s σ H _ us Q I r ⟨_, ws, rfl, .inl ⟨SqL.of e2, fun l hl => h _ _ (adv_new hr hl).1 (adv_new hr hl).2 (rep_tup hr hl q)⟩⟩
theorem call_lst : ACall X (.type "list") cLst := by
  refine ⟨fun ds A Q Q' k h => ?_, fun pins s σ H xs us Q I r h => ?_⟩
  · unfold cLst at h ⊢
    split at h <;> first | exact k _ _ h | exact h.elim | exact ⟨h.choose, h.choose_spec.1, k _ _ h.choose_spec.2⟩
  · obtain ⟨ds, A, hr, rs, h⟩ := h
    unfold cLst at h
    split at h <;> first | exact h.elim | skip
    · obtain ⟨v, rfl, p, ws, rfl, t, q⟩ := reps1 rs
      exact L2.call_list_of pins s σ H _ us Q I r ⟨p, ws, rfl, .inr t.sq, fun l hl => h _ _ (adv_new hr hl).1 (adv_new hr hl).2 (rep_lst hr hl q)⟩
    · obtain ⟨v, rfl, p, ws, rfl, t, q⟩ := reps1 rs
      exact L2.call_list_of pins s σ H _ us Q I r ⟨p, ws, rfl, .inl t.sq, fun l hl => h _ _ (adv_new hr hl).1 (adv_new hr hl).2 (rep_lst hr hl q)⟩
    · obtain ⟨v, rfl, r1⟩ := reps1 rs
      cases (show v = V.ref _ from r1)
      obtain ⟨ds, e0, h⟩ := h
      obtain ⟨ws, e2, q⟩ := hr _ _ e0
      exact L2.call_list_of pins s σ H _ us Q I r ⟨_, ws, rfl, .inl (SqL.of e2), fun l hl => h _ _ (adv_new hr hl).1 (adv_new hr hl).2 (rep_lst hr hl q)⟩
    · obtain ⟨v, rfl, p, rfl, t⟩ := reps1 rs
      exact L2.call_list_of pins s σ H _ us Q I r ⟨p, _, rfl, .inl t.sq, fun l hl => h _ _ (adv_new hr hl).1 (adv_new hr hl).2 (rep_lst hr hl (Reps.of_ints _))⟩
theorem call_lstM : ACall X (.type "list") cLstM := by
  refine ⟨fun ds A Q Q' k h => ?_, fun pins s σ H xs us Q I r h => ?_⟩
  · unfold cLstM at h ⊢
    split at h <;> first | exact fun p hp => k _ _ (h p hp) | exact h.elim | exact ⟨h.choose, h.choose_spec.1, fun p hp => k _ _ (h.choose_spec.2 p hp)⟩
  · obtain ⟨ds, A, hr, rs, h⟩ := h
    unfold cLstM at h
    split at h <;> first | exact h.elim | skip
    · obtain ⟨v, rfl, p, ws, rfl, t, q⟩ := reps1 rs
      exact L2.call_list_of pins s σ H _ us Q I r ⟨p, ws, rfl, .inr t.sq, fun l hl => h l (hr.none hl) _ _ (adv_newT hr hl q).1 (adv_newT hr hl q).2 rfl⟩
    · obtain ⟨v, rfl, p, ws, rfl, t, q⟩ := reps1 rs
      exact L2.call_list_of pins s σ H _ us Q I r ⟨p, ws, rfl, .inl t.sq, fun l hl => h l (hr.none hl) _ _ (adv_newT hr hl q).1 (adv_newT hr hl q).2 rfl⟩
    · obtain ⟨v, rfl, r1⟩ := reps1 rs
      cases (show v = V.ref _ from r1)
      obtain ⟨ds, e0, h⟩ := h
      obtain ⟨ws, e2, q⟩ := hr _ _ e0
      exact L2.call_list_of pins s σ H _ us Q I r ⟨_, ws, rfl, .inl (SqL.of e2), fun l hl => h l (hr.none hl) _ _ (adv_newT hr hl q).1 (adv_newT hr hl q).2 rfl⟩
    · obtain ⟨v, rfl, p, rfl, t⟩ := reps1 rs
      exact L2.call_list_of pins s σ H _ us Q I r ⟨p, _, rfl, .inl t.sq, fun l hl => h l (hr.none hl) _ _ (adv_newT hr hl (Reps.of_ints _)).1 (adv_newT hr hl (Reps.of_ints _)).2 rfl⟩

/-! sum, all, any, min, max, sorted -/
def ints? : List D → Option (List Int)
  | [] => some []
  | .int i :: ds => match ints? ds with
    | some ns => some (i :: ns)
    | none => none
  | _ => none
def bools? : List D → Option (List Bool)
  | [] => some []
  | .bl i :: ds => match bools? ds with
    | some ns => some (i :: ns)
    | none => none
  | _ => none
theorem ints?_map {α : Type} (f : α → Int) : ∀ l : List α, ints? (l.map fun x => D.int (f x)) = some (l.map f)
  | [] => rfl
  | x :: l => by
    show (match ints? (l.map fun x => D.int (f x)) with | some ns => some (f x :: ns) | none => none) = _
    rw [ints?_map f l]
    rfl
theorem ints?_int (l : List Int) : ints? (l.map D.int) = some l := by
  have := ints?_map (fun x : Int => x) l
  rw [List.map_id'] at this
  exact this
theorem bools?_map {α : Type} (f : α → Bool) : ∀ l : List α, bools? (l.map fun x => D.bl (f x)) = some (l.map f)
  | [] => rfl
  | x :: l => by
    show (match bools? (l.map fun x => D.bl (f x)) with | some ns => some (f x :: ns) | none => none) = _
    rw [bools?_map f l]
    rfl
theorem ints?_eq : ∀ {ds : List D} {ns : List Int}, ints? ds = some ns → ds = ns.map D.int
  | [], ns, h => by cases h; rfl
  | .int i :: ds, ns, h => by
    unfold ints? at h
    cases e : ints? ds with
    | none => rw [e] at h; cases h
    | some ms =>
      rw [e] at h
      cases h
      rw [ints?_eq e]
      rfl
  | .non :: _, _, h => by cases h
  | .bl _ :: _, _, h => by cases h
  | .str _ :: _, _, h => by cases h
  | .tup _ :: _, _, h => by cases h
  | .lst _ :: _, _, h => by cases h
  | .ref _ :: _, _, h => by cases h
  | .scr _ :: _, _, h => by cases h
theorem bools?_eq : ∀ {ds : List D} {ns : List Bool}, bools? ds = some ns → ds = ns.map D.bl
  | [], ns, h => by cases h; rfl
  | .bl i :: ds, ns, h => by
    unfold bools? at h
    cases e : bools? ds with
    | none => rw [e] at h; cases h
    | some ms =>
      rw [e] at h
      cases h
      rw [bools?_eq e]
      rfl
  | .non :: _, _, h => by cases h
  | .int _ :: _, _, h => by cases h
  | .str _ :: _, _, h => by cases h
  | .tup _ :: _, _, h => by cases h
  | .lst _ :: _, _, h => by cases h
  | .ref _ :: _, _, h => by cases h
  | .scr _ :: _, _, h => by cases h
theorem Reps.bools {K : PySem.W.Frag} {A : AH} {H : Hp} : ∀ {ns : List Bool} {vs : List V}, Reps K A H (ns.map D.bl) vs → vs = ns.map V.bl
  | [], _, r => r
  | n :: ns, _, ⟨v, r, e, x, y⟩ => by
    subst e
    cases (show v = V.bl n from x)
    rw [Reps.bools y]
    rfl
def onK {α : Type} (o : Option α) (k : α → Prop) : Prop := match o with
  | some d => k d
  | none => False
theorem onK_mono {α : Type} {o : Option α} {k k' : α → Prop} (h : onK o k) (g : ∀ d, k d → k' d) : onK o k' := by
  cases o with
  | none => exact h
  | some d => exact g _ h
theorem onK_get {α : Type} {o : Option α} {k : α → Prop} (h : onK o k) : ∃ d, o = some d ∧ k d := by
  cases o with
  | none => exact h.elim
  | some d => exact ⟨d, rfl, h⟩
theorem onK_of {α : Type} {o : Option α} {k : α → Prop} {d : α} (e : o = some d) (h : k d) : onK o k := by rw [e]; exact h
/-- what a list holds: a list as it stands, or one that may change -/
def onL (d : D) (A : AH) (k : List D → Prop) : Prop := match d with
  | .lst ds => k ds
  | .ref p => ∃ ds, A p = some (.lst ds) ∧ k ds
  | _ => False
theorem onL_mono {d : D} {A : AH} {k k' : List D → Prop} (h : onL d A k) (g : ∀ ds, k ds → k' ds) : onL d A k' := by
  cases d <;> first | exact (show False from h).elim | exact g _ h | exact ⟨h.choose, h.choose_spec.1, g _ h.choose_spec.2⟩
theorem onL_get {K : PySem.W.Frag} {A : AH} {H : Hp} (hr : HRep K A H) {d : D} {v : V} (r : Rep K A H d v) {k : List D → Prop} (h : onL d A k) : ∃ ds a vs, v = .ref a ∧ H a = some (.lst vs) ∧ Reps K A H ds vs ∧ k ds := by
  cases d <;> first | exact (show False from h).elim | skip
  · obtain ⟨p, ws, e, t, q⟩ := r
    exact ⟨_, p, ws, e, t.2, q, h⟩
  · obtain ⟨ds, e0, h⟩ := h
    obtain ⟨ws, e2, q⟩ := hr _ _ e0
    exact ⟨ds, _, ws, r, e2, q, h⟩
/-- what a list or a tuple holds -/
def onQ (d : D) (A : AH) (k : List D → Prop) : Prop := match d with
  | .tup ds => k ds
  | .lst ds => k ds
  | .ref p => ∃ ds, A p = some (.lst ds) ∧ k ds
  | _ => False
theorem onQ_mono {d : D} {A : AH} {k k' : List D → Prop} (h : onQ d A k) (g : ∀ ds, k ds → k' ds) : onQ d A k' := by
  cases d <;> first | exact (show False from h).elim | exact g _ h | exact ⟨h.choose, h.choose_spec.1, g _ h.choose_spec.2⟩
theorem onQ_get {K : PySem.W.Frag} {A : AH} {H : Hp} (hr : HRep K A H) {d : D} {v : V} (r : Rep K A H d v) {k : List D → Prop} (h : onQ d A k) : ∃ ds a vs, v = .ref a ∧ (SqL K H a vs ∨ SqT K H a vs) ∧ Reps K A H ds vs ∧ k ds := by
  cases d <;> first | exact (show False from h).elim | skip
  · obtain ⟨p, ws, e, t, q⟩ := r
    exact ⟨_, p, ws, e, .inr t.sq, q, h⟩
  · obtain ⟨p, ws, e, t, q⟩ := r
    exact ⟨_, p, ws, e, .inl t.sq, q, h⟩
  · obtain ⟨ds, e0, h⟩ := h
    obtain ⟨ws, e2, q⟩ := hr _ _ e0
    exact ⟨ds, _, ws, r, .inl (SqL.of e2), q, h⟩
def cSum : List D → AH → DK → Prop
  | [d], A, Q => onQ d A fun ds => onK (ints? ds) fun ns => Q (.int ns.sum) A
  | _, _, _ => False
def cAll : List D → AH → DK → Prop
  | [d], A, Q => onQ d A fun ds => onK (bools? ds) fun ns => Q (.bl (ns.all id)) A
  | _, _, _ => False
def cAny : List D → AH → DK → Prop
  | [d], A, Q => onQ d A fun ds => onK (bools? ds) fun ns => Q (.bl (ns.any id)) A
  | _, _, _ => False
def cMax : List D → AH → DK → Prop
  | [d], A, Q => onQ d A fun ds => onK (ints? ds) fun ns => 0 < ns.length ∧ ∀ m, m ∈ ns → (∀ y, y ∈ ns → y ≤ m) → Q (.int m) A
  | [.int i, .int j], A, Q => Q (.int (max i j)) A
  | _, _, _ => False
def cMin : List D → AH → DK → Prop
  | [d], A, Q => onQ d A fun ds => onK (ints? ds) fun ns => 0 < ns.length ∧ ∀ m, m ∈ ns → (∀ y, y ∈ ns → m ≤ y) → Q (.int m) A
  | [.int i, .int j], A, Q => Q (.int (min i j)) A
  | _, _, _ => False
def cSorted : List D → AH → DK → Prop
  | [d], A, Q => onL d A fun ds => onK (ints? ds) fun ns => ∀ ns' : List Int, ns'.Perm ns → ns'.Pairwise (· ≤ ·) → Q (.lst (ns'.map D.int)) A
  | _, _, _ => False
theorem call_sum (hc : X.calm = true) : ACall X (.builtin "sum") cSum := by
  refine ⟨fun ds A Q Q' k h => ?_, fun pins s σ H xs us Q I r h => ?_⟩
  · unfold cSum at h ⊢
    split at h <;> first | exact h.elim | exact onQ_mono h fun ds h => onK_mono h fun ns => k _ _
  · obtain ⟨ds, A, hr, rs, h⟩ := h
    unfold cSum at h
    split at h <;> first | exact h.elim | skip
    obtain ⟨v, rfl, r1⟩ := reps1 rs
    obtain ⟨ds, p, vs, e1, e2, q, h⟩ := onQ_get hr r1 h
    obtain ⟨ns, e3, h⟩ := onK_get h
    rw [ints?_eq e3] at q
    rw [q.ints] at e2
    subst e1
    rcases e2 with e2 | e2
    · exact L2.cr_sum hc pins s σ H _ us Q I r ⟨p, ns, rfl, e2, h.fin hr rfl⟩
    · exact crT_sum hc pins s σ H _ us Q I r ⟨p, ns, rfl, e2, h.fin hr rfl⟩
theorem call_all (hc : X.calm = true) : ACall X (.builtin "all") cAll := by
  refine ⟨fun ds A Q Q' k h => ?_, fun pins s σ H xs us Q I r h => ?_⟩
  · unfold cAll at h ⊢
    split at h <;> first | exact h.elim | exact onQ_mono h fun ds h => onK_mono h fun ns => k _ _
  · obtain ⟨ds, A, hr, rs, h⟩ := h
    unfold cAll at h
    split at h <;> first | exact h.elim | skip
    obtain ⟨v, rfl, r1⟩ := reps1 rs
    obtain ⟨ds, p, vs, e1, e2, q, h⟩ := onQ_get hr r1 h
    obtain ⟨ns, e3, h⟩ := onK_get h
    rw [bools?_eq e3] at q
    rw [q.bools] at e2
    subst e1
    rcases e2 with e2 | e2
    · exact L2.cr_all hc pins s σ H _ us Q I r ⟨p, ns, rfl, e2, h.fin hr rfl⟩
    · exact crT_all hc pins s σ H _ us Q I r ⟨p, ns, rfl, e2, h.fin hr rfl⟩
theorem call_any (hc : X.calm = true) : ACall X (.builtin "any") cAny := by
  refine ⟨fun ds A Q Q' k h => ?_, fun pins s σ H xs us Q I r h => ?_⟩
  · unfold cAny at h ⊢
    split at h <;> first | exact h.elim | exact onQ_mono h fun ds h => onK_mono h fun ns => k _ _
  · obtain ⟨ds, A, hr, rs, h⟩ := h
    unfold cAny at h
    split at h <;> first | exact h.elim | skip
    obtain ⟨v, rfl, r1⟩ := reps1 rs
    obtain ⟨ds, p, vs, e1, e2, q, h⟩ := onQ_get hr r1 h
    obtain ⟨ns, e3, h⟩ := onK_get h
    rw [bools?_eq e3] at q
    rw [q.bools] at e2
    subst e1
    rcases e2 with e2 | e2
    · exact L2.cr_any hc pins s σ H _ us Q I r ⟨p, ns, rfl, e2, h.fin hr rfl⟩
    · exact crT_any hc pins s σ H _ us Q I r ⟨p, ns, rfl, e2, h.fin hr rfl⟩
theorem call_max (hc : X.calm = true) : ACall X (.builtin "max") cMax := by
  refine ⟨fun ds A Q Q' k h => ?_, fun pins s σ H xs us Q I r h => ?_⟩
  · unfold cMax at h ⊢
    split at h <;> first | exact h.elim | exact k _ _ h | exact onQ_mono h fun ds h => onK_mono h fun ns h => ⟨h.1, fun m h1 h2 => k _ _ (h.2 m h1 h2)⟩
  · obtain ⟨ds, A, hr, rs, h⟩ := h
    unfold cMax at h
    split at h <;> first | exact h.elim | skip
    · obtain ⟨v, rfl, r1⟩ := reps1 rs
      obtain ⟨ds, p, vs, e1, e2, q, h⟩ := onQ_get hr r1 h
      obtain ⟨ns, e3, h⟩ := onK_get h
      rw [ints?_eq e3] at q
      rw [q.ints] at e2
      subst e1
      rcases e2 with e2 | e2
      · exact L2.cr_max hc pins s σ H _ us Q I r ⟨p, ns, rfl, e2, h.1, fun m h1 h2 => (h.2 m h1 h2).fin hr rfl⟩
      · exact crT_max hc pins s σ H _ us Q I r ⟨p, ns, rfl, e2, h.1, fun m h1 h2 => (h.2 m h1 h2).fin hr rfl⟩
    · obtain ⟨v, u, rfl, r1, r2⟩ := reps2 rs
      cases (show v = V.int _ from r1)
      cases (show u = V.int _ from r2)
      rename_i i j
      refine L2.call_max2 hc pins s σ H _ us Q I r ⟨i, j, rfl, ?_⟩
      have e : (if j > i then j else i) = max i j := by split <;> omega
      rw [e]
      exact post.fin h hr rfl
theorem call_min (hc : X.calm = true) : ACall X (.builtin "min") cMin := by
  refine ⟨fun ds A Q Q' k h => ?_, fun pins s σ H xs us Q I r h => ?_⟩
  · unfold cMin at h ⊢
    split at h <;> first | exact h.elim | exact k _ _ h | exact onQ_mono h fun ds h => onK_mono h fun ns h => ⟨h.1, fun m h1 h2 => k _ _ (h.2 m h1 h2)⟩
  · obtain ⟨ds, A, hr, rs, h⟩ := h
    unfold cMin at h
    split at h <;> first | exact h.elim | skip
    · obtain ⟨v, rfl, r1⟩ := reps1 rs
      obtain ⟨ds, p, vs, e1, e2, q, h⟩ := onQ_get hr r1 h
      obtain ⟨ns, e3, h⟩ := onK_get h
      rw [ints?_eq e3] at q
      rw [q.ints] at e2
      subst e1
      rcases e2 with e2 | e2
      · exact L2.cr_min hc pins s σ H _ us Q I r ⟨p, ns, rfl, e2, h.1, fun m h1 h2 => (h.2 m h1 h2).fin hr rfl⟩
      · exact crT_min hc pins s σ H _ us Q I r ⟨p, ns, rfl, e2, h.1, fun m h1 h2 => (h.2 m h1 h2).fin hr rfl⟩
    · obtain ⟨v, u, rfl, r1, r2⟩ := reps2 rs
      cases (show v = V.int _ from r1)
      cases (show u = V.int _ from r2)
      rename_i i j
      refine L2.call_min2 hc pins s σ H _ us Q I r ⟨i, j, rfl, ?_⟩
      have e : (if j < i then j else i) = min i j := by split <;> omega
      rw [e]
      exact post.fin h hr rfl
theorem call_sorted : ACall X (.builtin "sorted") cSorted := by
  refine ⟨fun ds A Q Q' k h => ?_, fun pins s σ H xs us Q I r h => ?_⟩
  · unfold cSorted at h ⊢
    split at h <;> first | exact h.elim | exact onL_mono h fun ds h => onK_mono h fun ns h ns' h1 h2 => k _ _ (h ns' h1 h2)
  · obtain ⟨ds, A, hr, rs, h⟩ := h
    unfold cSorted at h
    split at h <;> first | exact h.elim | skip
    obtain ⟨v, rfl, r1⟩ := reps1 rs
    obtain ⟨ds, p, vs, e1, e2, q, h⟩ := onL_get hr r1 h
    obtain ⟨ns, e3, h⟩ := onK_get h
    rw [ints?_eq e3] at q
    rw [q.ints] at e2
    subst e1
    exact L2.cr_sortedI pins s σ H _ us Q I r ⟨p, ns, rfl, SqL.of e2, fun ns' l h1 h2 hl => h ns' h1 h2 _ _ (adv_new hr hl).1 (adv_new hr hl).2 (rep_lst hr hl (Reps.of_ints _))⟩

/-! ### isinstance -/
def tyN : D → String
  | .non => "NoneType"
  | .bl _ => "bool"
  | .int _ => "int"
  | .str _ => "str"
  | .tup _ => "tuple"
  | .lst _ => "list"
  | .ref _ => "list"
  | .scr _ => "list"
theorem tyx_of {K : PySem.W.Frag} {A : AH} {H : Hp} (hr : HRep K A H) {d : D} {v : V} (r : Rep K A H d v) (hl : ∀ a, d = .ref a → ∃ ds, A a = some (.lst ds)) : TyX K H v (.type (tyN d)) := by
  cases d with
  | non => cases (show v = V.non from r); exact .base .non
  | bl b => cases (show v = V.bl b from r); exact .base (.bl _)
  | int b => cases (show v = V.int b from r); exact .base (.int _)
  | str b => cases (show v = V.str b from r); exact .base (.str _)
  | tup ds =>
    obtain ⟨a, xs, e, t, _⟩ := r
    subst e
    rcases t with ⟨_, t | ⟨o, t⟩⟩ | ⟨o, its, n, t1, t2, _⟩
    · exact .base (.tup t)
    · exact .fTuple t
    · exact .kTuple t1 t2
  | lst ds =>
    obtain ⟨a, xs, e, t, _⟩ := r
    subst e
    exact .base (.lst t.2)
  | ref a =>
    cases (show v = V.ref a from r)
    obtain ⟨ds, e0⟩ := hl a rfl
    obtain ⟨ws, e2, q⟩ := hr _ _ e0
    exact .base (.lst e2)
  | scr ds =>
    obtain ⟨a, e, t⟩ := r
    subst e
    rcases t with ⟨_, t | ⟨o, t⟩⟩ | ⟨o, its, n, t1, t2, _⟩
    · exact .base (.lst t)
    · exact .base (.frz t)
    · exact .kList t1 t2
/-- is a value of the type T (a name among these) -/
def isTy (T : String) (d : D) : Bool := match d with
  | .bl _ => T == "bool" || T == "int"
  | .int _ => T == "int"
  | .str _ => T == "str"
  | .tup _ => T == "tuple"
  | .lst _ => T == "list"
  | .ref _ => T == "list"
  | .scr _ => T == "list"
  | .non => false
def isiK (T : String) (d : D) (A : AH) (Q : DK) : Prop := match d with
  | .ref p => (∃ ds, A p = some (.lst ds)) ∧ Q (.bl (isTy T (.ref p))) A
  | d => Q (.bl (isTy T d)) A
def aIsI (T : String) (t : AT) : AT := fun σ A Q => t σ A fun d A' => isiK T d A' Q
theorem isiK_get {T : String} {d : D} {A : AH} {Q : DK} (h : isiK T d A Q) : (∀ a, d = .ref a → ∃ ds, A a = some (.lst ds)) ∧ Q (.bl (isTy T d)) A := by
  cases d <;> first
    | exact ⟨fun a e => (by cases e), h⟩
    | (refine ⟨fun a e => ?_, h.2⟩
       cases e
       exact h.1)
theorem isiK_put {T : String} {d : D} {A : AH} {Q : DK} (h1 : ∀ a, d = .ref a → ∃ ds, A a = some (.lst ds)) (h : Q (.bl (isTy T d)) A) : isiK T d A Q := by
  cases d <;> first | exact h | exact ⟨h1 _ rfl, h⟩
theorem ae_isi {T x : Str} {n : String} {p p2 : Pos} (ha : AE X e ta) (hm : X.mg "isinstance" = none) (hT : X.mg T = none) (hv : bootBuiltins T = some (.type n)) (hk : ∀ d : D, kitB (tyN d) n = some (isTy n d)) (hx : x = "isinstance" := by rfl) (hg : Gl X "isinstance" := by rfl) (hgT : Gl X T := by rfl) (hnT : T ≠ "__name__" := by decide) (hdT : (T == ("__debug__" : Str)) = false := by decide)
    (he : starEach (e :: [Expr.Name T p2]) X.env = (false, eval e X.env) :: starEach [Expr.Name T p2] X.env := by rfl) : AE X (.Call (.Name x p) [e, .Name T p2] [] pos) (aIsI n ta) := by
  subst hx
  have pT : PE X (.Name T p2) (tC (.ty n)) := pe_bltn hgT hT hv rfl hnT hdT
  have hc := pe_callB (p := p) (pos := pos) L2.call_isi hg hm (by decide +kernel) (pa_cons ha.pe (pa_cons pT pa_nil) he) (he := he)
  refine ⟨fun σ A Q Q' k q => ha.mono _ _ _ _ (fun d A1 q => ?_) q, pe_weak hc fun vs H Q q => ?_⟩
  · have g := isiK_get q
    exact isiK_put g.1 (k _ _ g.2)
  · obtain ⟨σ, A, hr, sr, q⟩ := q
    refine ⟨σ, A, hr, sr, ha.mono _ _ _ _ (fun d A1 q v1 H1 a1 r1 e1 => ?_) q⟩
    have g := isiK_get q
    exact ⟨v1, .ty n, _, _, _, rfl, .ty n, tyx_of r1 e1 g.1, kit_ty (hk d), g.2 _ _ a1 r1 rfl⟩
theorem kit_int (d : D) : kitB (tyN d) "int" = some (isTy "int" d) := by cases d <;> (first | decide +kernel | rfl)
theorem kit_bool (d : D) : kitB (tyN d) "bool" = some (isTy "bool" d) := by cases d <;> (first | decide +kernel | rfl)
theorem kit_tuple (d : D) : kitB (tyN d) "tuple" = some (isTy "tuple" d) := by cases d <;> (first | decide +kernel | rfl)
theorem kit_list (d : D) : kitB (tyN d) "list" = some (isTy "list" d) := by cases d <;> (first | decide +kernel | rfl)
theorem kit_str (d : D) : kitB (tyN d) "str" = some (isTy "str" d) := by cases d <;> (first | decide +kernel | rfl)
end
/-! ### in, of ints -/
def aIn : D → D → AH → DK → Prop
  | .int i, .tup es, A, Q => ∃ js, ints? es = some js ∧ Q (.bl (decide (i ∈ js))) A
  | .int i, .lst es, A, Q => ∃ js, ints? es = some js ∧ Q (.bl (decide (i ∈ js))) A
  | _, _, _, _ => False
def aNotIn : D → D → AH → DK → Prop
  | .int i, .tup es, A, Q => ∃ js, ints? es = some js ∧ Q (.bl (!decide (i ∈ js))) A
  | .int i, .lst es, A, Q => ∃ js, ints? es = some js ∧ Q (.bl (!decide (i ∈ js))) A
  | _, _, _, _ => False
theorem inV_ints (i : Int) (js : List Int) : inV (.int i) (js.map V.int) = decide (i ∈ js) := by
  unfold inV
  rw [List.any_map, Bool.eq_iff_iff, List.any_eq_true, decide_eq_true_eq]
  constructor
  · rintro ⟨x, hx, e⟩
    have : x = i := eq_of_beq e
    rw [← this]; exact hx
  · intro h
    exact ⟨i, h, (beq_self_eq_true i : (i == i) = true)⟩
theorem flat_ints (js : List Int) : (js.map V.int).all flatV = true := by
  rw [List.all_map, List.all_eq_true]
  intro x _
  rfl
section
variable {X : Cx}
theorem op_in (_hu : X.A.units + 64 < cLine) : AOp X (compareOp .In) aIn := by
  refine ⟨fun d e A Q Q' k h => ?_, ?_⟩
  · cases d <;> cases e <;> first | exact h.elim | exact ⟨h.choose, h.choose_spec.1, k _ _ h.choose_spec.2⟩
  · intro pins s σ H x y v u Q I rx ry ⟨d, e, A, hr, rd, re, h⟩
    cases d <;> cases e <;> first | exact (show False from h).elim | skip
    all_goals
      cases (show x = V.int _ from rd)
      obtain ⟨p, vs, rfl, t, q⟩ := re
      obtain ⟨js, e1, h⟩ := h
      cases ints?_eq e1
      cases Reps.ints q
      have sq := t.sq (K := X.K)
      refine L2.op_in_seq pins s σ H _ _ v u Q I rx ry ⟨p, _, rfl, ?_, rfl, flat_ints js, ?_⟩
      · first | exact .inl sq | exact .inr sq
      · show Q (.bl (inV (.int _) (js.map V.int))) H
        rw [inV_ints]
        exact h.fin hr rfl
theorem op_notIn (_hu : X.A.units + 64 < cLine) : AOp X (compareOp .NotIn) aNotIn := by
  refine ⟨fun d e A Q Q' k h => ?_, ?_⟩
  · cases d <;> cases e <;> first | exact h.elim | exact ⟨h.choose, h.choose_spec.1, k _ _ h.choose_spec.2⟩
  · intro pins s σ H x y v u Q I rx ry ⟨d, e, A, hr, rd, re, h⟩
    cases d <;> cases e <;> first | exact (show False from h).elim | skip
    all_goals
      cases (show x = V.int _ from rd)
      obtain ⟨p, vs, rfl, t, q⟩ := re
      obtain ⟨js, e1, h⟩ := h
      cases ints?_eq e1
      cases Reps.ints q
      have sq := t.sq (K := X.K)
      refine L2.op_notIn_seq pins s σ H _ _ v u Q I rx ry ⟨p, _, rfl, ?_, rfl, flat_ints js, ?_⟩
      · first | exact .inl sq | exact .inr sq
      · show Q (.bl (!inV (.int _) (js.map V.int))) H
        rw [inV_ints]
        exact h.fin hr rfl
end
end Rk

namespace Rk
open PySem PySem.Spec L2
/-! ### own defs -/
structure AFn (P : Program) (w : World) (K : PySem.W.Frag) (mg : Str → Option Value) (base : Heap) (k : Nat) (x : Str) (sp : List D → AH → DK → Prop) : Prop where
  mono : MonL sp
  ex : ∃ (f : Addr) (fd : FuncData) (ps : List Str), mg x = some (.ref f) ∧ PySem.W.keepIn K (.ref f) = true ∧ Binds K fd ps [] ∧ FnOk P w K mg base CX0 k f fd ps (fun vs H Q _ => liftL K sp vs H Q)
theorem AFn.le {P : Program} {w : World} {K : PySem.W.Frag} {mg : Str → Option Value} {base : Heap} {j k : Nat} {x : Str} {sp : List D → AH → DK → Prop} (F : AFn P w K mg base j x sp) (h : j ≤ k) : AFn P w K mg base k x sp := by
  obtain ⟨m, f, fd, ps, h1, h2, h3, h4⟩ := F
  exact ⟨m, f, fd, ps, h1, h2, h3, h4.mono h⟩
/-- a weaker promise -/
theorem AFn.imp {P : Program} {w : World} {K : PySem.W.Frag} {mg : Str → Option Value} {base : Heap} {k : Nat} {x : Str} {sp sp' : List D → AH → DK → Prop} (F : AFn P w K mg base k x sp) (m : MonL sp') (h : ∀ ds A Q, sp' ds A Q → sp ds A Q) : AFn P w K mg base k x sp' := by
  obtain ⟨_, f, fd, ps, h1, h2, h3, h4⟩ := F
  refine ⟨m, f, fd, ps, h1, h2, h3, h4.imp fun vs H Q E q => ?_⟩
  obtain ⟨ds, A, hr, rs, q⟩ := q
  exact ⟨ds, A, hr, rs, h _ _ _ q⟩
section
variable {X : Cx} {pos : Pos} {a b c e : Expr} {es : List Expr} {ta tb tc : AT} {tr : AAt}
theorem ae_call {k : Nat} {x : Str} {sp : List D → AH → DK → Prop} {p : Pos} (F : AFn X.prog X.w X.K X.mg X.base k x sp) (hr : Room k X.A) (ha : AA X (e :: es) tr) (hg : Gl X x := by rfl) (hdb : (x == ("__debug__" : Str)) = false := by decide) (he : starEach (e :: es) X.env = (false, eval e X.env) :: starEach es X.env := by rfl)
    (hpl : (backTo pos (starEach es X.env)).any (·.1) = false := by rfl) : AE X (.Call (.Name x p) (e :: es) [] pos) (aCall sp tr) := by
  obtain ⟨m, f, fd, ps, h1, h2, h3, h4⟩ := F
  refine ⟨mon_call m ha.mono, pe_weak (pe_call h4 hr hg h1 h2 h3 .nil pass0 ha.pa hdb he hpl) fun vs H Q h => ?_⟩
  have q := call_lift m ha.mono h
  obtain ⟨σ, A, hr', sr, q⟩ := q
  refine ⟨σ, A, hr', sr, ha.mono _ _ _ _ (fun ds A1 q us H1 a1 r1 e1 => ?_) q⟩
  have z := q us H1 a1 r1 e1
  rw [← List.append_nil us] at z
  exact z
theorem ae_call0 {k : Nat} {x : Str} {sp : List D → AH → DK → Prop} {p : Pos} (F : AFn X.prog X.w X.K X.mg X.base k x sp) (hr : Room k X.A) (hg : Gl X x := by rfl) (hdb : (x == ("__debug__" : Str)) = false := by decide) : AE X (.Call (.Name x p) [] [] pos) (aCall sp aNil) := by
  obtain ⟨m, f, fd, ps, h1, h2, h3, h4⟩ := F
  refine ⟨mon_call m (fun _ _ _ _ k q => k _ _ q), pe_weak (pe_call0 h4 hr hg h1 h2 h3 .nil pass0 hdb) fun vs H Q h => ?_⟩
  obtain ⟨σ, A, hr', sr, q⟩ := h
  exact ⟨[], A, hr', rfl, q⟩

/-! ### targets -/
abbrev AGf := D → ASt → AH → (ASt → AH → Prop) → Prop
abbrev AGfs := List D → ASt → AH → (ASt → AH → Prop) → Prop
def Out (sl : List Nat) (vs vs' : L2.St) : Prop := vs'.length = vs.length ∧ ∀ j, j ∉ sl → vs'[j]? = vs[j]?
theorem Out.refl {sl : List Nat} {vs : L2.St} : Out sl vs vs := ⟨rfl, fun _ _ => rfl⟩
theorem Out.trans {s1 s2 : List Nat} {v1 v2 v3 : L2.St} (h : Out s1 v1 v2) (g : Out s2 v2 v3) : Out (s1 ++ s2) v1 v3 :=
  ⟨g.1.trans h.1, fun j hj => by rw [List.mem_append, not_or] at hj; rw [g.2 j hj.2, h.2 j hj.1]⟩
def liftG (K : PySem.W.Frag) (sl : List Nat) (g : AGf) : TG := fun v vs H R => ∃ d σ A, HRep K A H ∧ SRep K A H σ vs ∧ Rep K A H d v ∧
  g d σ A (fun σ' A' => ∀ vs' H', Adv A H A' H' → HRep K A' H' → SRep K A' H' σ' vs' → Out sl vs vs' → R vs' H')
def liftGs (K : PySem.W.Frag) (sl : List Nat) (g : AGfs) : TGs := fun us vs H R => ∃ ds σ A, HRep K A H ∧ SRep K A H σ vs ∧ Reps K A H ds us ∧
  g ds σ A (fun σ' A' => ∀ vs' H', Adv A H A' H' → HRep K A' H' → SRep K A' H' σ' vs' → Out sl vs vs' → R vs' H')
structure AG (X : Cx) (tg : Expr) (sl : List Nat) (g : AGf) : Prop where
  mono : ∀ d σ A (Q Q' : ASt → AH → Prop), (∀ σ' A', Q σ' A' → Q' σ' A') → g d σ A Q → g d σ A Q'
  pg : PG X tg (liftG X.K sl g)
structure AGs (X : Cx) (tgs : List Expr) (sl : List Nat) (g : AGfs) : Prop where
  mono : ∀ d σ A (Q Q' : ASt → AH → Prop), (∀ σ' A', Q σ' A' → Q' σ' A') → g d σ A Q → g d σ A Q'
  pgs : PGs X tgs (liftGs X.K sl g)
theorem pg_weak {tg : Expr} {g g' : TG} (h : PG X tg g) (k : ∀ v σ H Q, g' v σ H Q → g v σ H Q) : PG X tg g' := ⟨fun pins s σ H v u Q I r q => h.run pins s σ H v u Q I r (k _ _ _ _ q)⟩
theorem pgs_weak {tg : List Expr} {g g' : TGs} (h : PGs X tg g) (k : ∀ v σ H Q, g' v σ H Q → g v σ H Q) : PGs X tg g' := ⟨fun pins s σ H v u Q I r q => h.run pins s σ H v u Q I r (k _ _ _ _ q)⟩
def agN (i : Nat) : AGf := fun d σ A Q => Q (sset σ i d) A
theorem out_set {vs : L2.St} {i : Nat} {o : Option V} : Out [i] vs (vs.set i o) := ⟨List.length_set .., fun j hj => by
  rw [List.mem_singleton] at hj
  rw [List.getElem?_set_ne (Ne.symm hj)]⟩
theorem ag_name (i : Nat) {x : Str} (hN : X.N.Nodup) (hi : X.N[i]? = some x := by rfl) (hx : Loc X.env.scope x := by first | exact .inl rfl | exact .inr rfl) (hf : X.fn x = true ∨ X.env.scope.names.lookup x = some .local := by first | exact .inl rfl | exact .inr rfl | assumption) : AG X (.Name x pos) [i] (agN i) := by
  refine ⟨fun d σ A Q Q' k q => k _ _ q, pg_weak (pg_name hN hi hx hf) fun v vs H R q => ?_⟩
  obtain ⟨d, σ, A, hr, sr, rd, q⟩ := q
  exact q _ _ Adv.refl hr (sr.set rd i) out_set
def agNil : AGfs := fun ds σ A Q => match ds with
  | [] => Q σ A
  | _ => False
def agCons (g : AGf) (gs : AGfs) : AGfs := fun ds σ A Q => match ds with
  | d :: r => g d σ A fun σ1 A1 => gs r σ1 A1 Q
  | [] => False
theorem ags_nil : AGs X [] [] agNil := by
  refine ⟨fun d σ A Q Q' k q => ?_, pgs_weak pgs_nil fun v vs H R q => ?_⟩
  · cases d with
    | nil => exact k _ _ q
    | cons _ _ => exact q.elim
  · obtain ⟨ds, σ, A, hr, sr, rd, q⟩ := q
    cases ds with
    | nil => exact ⟨rd, q _ _ Adv.refl hr sr Out.refl⟩
    | cons _ _ => exact (show False from q).elim
theorem ags_cons {s1 s2 : List Nat} {g : AGf} {gs : AGfs} (h : AG X e s1 g) (hs : AGs X es s2 gs) (hst : (assignEach (e :: es) X.env).map (·.2) = assign e X.env :: (assignEach es X.env).map (·.2) := by rfl) : AGs X (e :: es) (s1 ++ s2) (agCons g gs) := by
  refine ⟨fun d σ A Q Q' k q => ?_, pgs_weak (pgs_cons h.pg hs.pgs hst) fun v vs H R q => ?_⟩
  · cases d with
    | nil => exact q.elim
    | cons d r => exact h.mono _ _ _ _ _ (fun σ1 A1 q => hs.mono _ _ _ _ _ k q) q
  · obtain ⟨ds, σ, A, hr, sr, rd, q⟩ := q
    cases ds with
    | nil => exact (show False from q).elim
    | cons d r =>
      obtain ⟨v1, vr, rfl, x, y⟩ := rd
      refine ⟨v1, vr, rfl, d, σ, A, hr, sr, x, h.mono _ _ _ _ _ (fun σ1 A1 q vs1 H1 a1 r1 sr1 o1 => ?_) q⟩
      refine ⟨r, σ1, A1, r1, sr1, y.adv a1, hs.mono _ _ _ _ _ (fun σ2 A2 q vs2 H2 a2 r2 sr2 o2 => ?_) q⟩
      exact q vs2 H2 (a1.trans a2) r2 sr2 (o1.trans o2)
def agT (n : Nat) (gs : AGfs) : AGf := fun d σ A Q => match d with
  | .tup ds => ds.length = n ∧ gs ds σ A Q
  | .lst ds => ds.length = n ∧ gs ds σ A Q
  | .ref p => ∃ ds, A p = some (.lst ds) ∧ ds.length = n ∧ gs ds σ A Q
  | _ => False
theorem pg_tl {X : Cx} {pos : Pos} {es : List Expr} {k : Nat} {t : TGs} {n : Nat} (hc : X.calm = true) (h : PGs X es t)
    (hn : (assignEach es X.env).length = n := by rfl) (hst : (assignEach es X.env).findIdx? (·.1) = none := by rfl) : PG X (.Tuple es k pos) (fun v σ H Q => gTup X.K n t v σ H Q ∨ gUnl X.K n t v σ H Q) :=
  ⟨fun pins s σ H v u Q I r hw => hw.elim (fun q => (pg_tup hc h hn hst).run pins s σ H v u Q I r q) fun q => (pg_unl hc h hn hst).run pins s σ H v u Q I r q⟩
theorem ag_tup {sl : List Nat} {gs : AGfs} {kk : Nat} {n : Nat} (hc : X.calm = true) (h : AGs X es sl gs) (hn : (assignEach es X.env).length = n := by rfl) (hst : (assignEach es X.env).findIdx? (·.1) = none := by rfl) : AG X (.Tuple es kk pos) sl (agT n gs) := by
  refine ⟨fun d σ A Q Q' k q => ?_, pg_weak (pg_tl hc h.pgs hn hst) fun v vs H R q => ?_⟩
  · cases d <;> first | exact (show False from q).elim | exact ⟨q.1, h.mono _ _ _ _ _ k q.2⟩ | exact ⟨q.choose, q.choose_spec.1, q.choose_spec.2.1, h.mono _ _ _ _ _ k q.choose_spec.2.2⟩
  · obtain ⟨d, σ, A, hr, sr, rd, q⟩ := q
    cases d <;> first | exact (show False from q).elim | skip
    · obtain ⟨p, xs, e1, t, r⟩ := rd
      exact .inl ⟨p, xs, e1, t.sq, by rw [r.length]; exact q.1, _, σ, A, hr, sr, r, q.2⟩
    · obtain ⟨p, xs, e1, t, r⟩ := rd
      exact .inr ⟨p, xs, e1, t.sq, by rw [r.length]; exact q.1, _, σ, A, hr, sr, r, q.2⟩
    · obtain ⟨ds, e0, q⟩ := q
      obtain ⟨ws, e2, r⟩ := hr _ _ e0
      exact .inr ⟨_, ws, rd, SqL.of e2, by rw [r.length]; exact q.1, _, σ, A, hr, sr, r, q.2⟩
/-- a list with the item at i put -/
def putD (ds : List D) (i : Int) (d : D) : Option (List D) := match i with
  | .ofNat n => if n < ds.length then some (ds.set n d) else none
  | .negSucc n => if n < ds.length then some (ds.set (ds.length - 1 - n) d) else none
def agS (to ti : AT) : AGf := fun d σ A Q => to σ A fun o A1 => ti σ A1 fun i A2 => match o, i with
  | .ref p, .int k => ∃ ds, A2 p = some (.lst ds) ∧ onK (putD ds k d) fun ds' => Q σ (aupd A2 p (.lst ds'))
  | _, _ => False
theorem putD_set {K : PySem.W.Frag} {A : AH} {H : Hp} {ds ds' : List D} {vs : List V} {d : D} {v : V} {k : Int} (r : Reps K A H ds vs) (rd : Rep K A H d v) (h : putD ds k d = some ds') : ∃ j, ixN vs.length k = some j ∧ Reps K A H ds' (vs.set j v) := by
  have hl := r.length
  cases k with
  | ofNat n =>
    have h : (if n < ds.length then some (ds.set n d) else none) = some ds' := h
    by_cases hn : n < ds.length
    · rw [if_pos hn] at h
      cases h
      refine ⟨n, ?_, r.set rd n⟩
      unfold ixN
      have en : (Int.ofNat n) = (n : Int) := rfl
      rw [en, if_pos (by omega), if_pos (by omega)]
      rfl
    · rw [if_neg hn] at h
      cases h
  | negSucc n =>
    have h : (if n < ds.length then some (ds.set (ds.length - 1 - n) d) else none) = some ds' := h
    by_cases hn : n < ds.length
    · rw [if_pos hn] at h
      cases h
      refine ⟨ds.length - 1 - n, ?_, r.set rd _⟩
      unfold ixN
      rw [if_neg (by omega), if_pos (by omega)]
      exact congrArg some (by omega)
    · rw [if_neg hn] at h
      cases h
theorem ag_sub {o i : Expr} {to ti : AT} (ho : AE X o to) (hi : AE X i ti) (ha : ∀ v, assign (.Subscript o i pos) X.env v = (do
      let ov ← holding [v] (eval o X.env)
      let iv ← holding [v, ov] (eval i X.env)
      standAt pos
      holding [v, ov, iv] (setItem ov iv v)
      release [v, ov, iv] []) := by intro _; rfl) : AG X (.Subscript o i pos) [] (agS to ti) := by
  refine ⟨fun d σ A Q Q' k q => ?_, pg_weak (pg_sub ho.pe hi.pe set_list ha) fun v vs H R q => ?_⟩
  · refine ho.mono _ _ _ _ (fun o A1 q => hi.mono _ _ _ _ (fun i A2 q => ?_) q) q
    cases o <;> cases i <;> first | exact (show False from q).elim | exact ⟨q.choose, q.choose_spec.1, onK_mono q.choose_spec.2 fun ds' => k _ _⟩
  · obtain ⟨d, σ, A, hr, sr, rd, q⟩ := q
    refine ⟨σ, A, hr, sr, ho.mono _ _ _ _ (fun o A1 q v1 H1 a1 r1 e1 => ?_) q⟩
    refine ⟨σ, A1, r1, sr.adv a1, hi.mono _ _ _ _ (fun i A2 q v2 H2 a2 r2 e2 => ?_) q⟩
    cases o <;> cases i <;> first | exact (show False from q).elim | skip
    cases (show v1 = V.ref _ from e1)
    cases (show v2 = V.int _ from e2)
    obtain ⟨ds, e0, q⟩ := q
    obtain ⟨ws, e3, r⟩ := r2 _ _ e0
    obtain ⟨ds', e4, q⟩ := onK_get q
    have rd2 := rd.adv (a1.trans a2)
    obtain ⟨j, e5, r5⟩ := putD_set r rd2 e4
    have ad := adv_set r2 e0 r5
    exact ⟨_, ws, _, j, rfl, rfl, e3, e5, q _ _ ((a1.trans a2).trans ad.1) ad.2 (sr.adv ((a1.trans a2).trans ad.1)) Out.refl⟩

/-! ### statements -/
def sNext : ASt' := fun D σ A => D.nx σ A
def sSeq (t u : ASt') : ASt' := fun D σ A => t { D with nx := u D } σ A
variable {st : Stmt} {sts : List Stmt} {t u : ASt'}
theorem ss_nil : ASs X [] sNext := ⟨fun D D' σ A k q => k.nx _ _ q, pss_weak pss_nil fun D vs H ⟨σ, A, hr, sr, q⟩ => q _ _ Adv.refl hr sr⟩
theorem mon_seq {t u : ASt'} (mt : MonS t) (mu : MonS u) : MonS (sSeq t u) := fun D D' σ A k q => mt { D with nx := u D } { D' with nx := u D' } σ A ⟨fun σ1 A1 q => mu _ _ _ _ k q, k.rt, k.bk, k.ct⟩ q
theorem ss_cons (h : AS X st t) (hs : ASs X sts u) : ASs X (st :: sts) (sSeq t u) := by
  refine ⟨mon_seq h.mono hs.mono, pss_weak (pss_cons h.ps hs.pss) fun D vs H q => ?_⟩
  obtain ⟨σ, A, hr, sr, q⟩ := q
  refine ⟨σ, A, hr, sr, h.mono { liftD X.K A H D with nx := u (liftD X.K A H D) } _ _ _ ⟨fun σ1 A1 q vs1 H1 a1 r1 s1 => ?_, fun _ _ q => q, fun _ _ q => q, fun _ _ q => q⟩ q⟩
  exact ⟨σ1, A1, r1, s1, hs.mono (liftD X.K A H D) _ _ _ (liftD.adv a1) q⟩
theorem ss_one (h : AS X st t) : ASs X [st] t := ⟨h.mono, pss_one h.ps⟩
theorem as_pass : AS X (.Pass pos) sNext := ⟨fun D D' σ A k q => k.nx _ _ q, ps_weak ps_pass fun D vs H ⟨σ, A, hr, sr, q⟩ => q _ _ Adv.refl hr sr⟩
def sBreak : ASt' := fun D σ A => D.bk σ A
def sCont : ASt' := fun D σ A => D.ct σ A
theorem as_break : AS X (.Break pos) sBreak := ⟨fun D D' σ A k q => k.bk _ _ q, ps_weak ps_break fun D vs H ⟨σ, A, hr, sr, q⟩ => q _ _ Adv.refl hr sr⟩
theorem as_cont : AS X (.Continue pos) sCont := ⟨fun D D' σ A k q => k.ct _ _ q, ps_weak ps_continue fun D vs H ⟨σ, A, hr, sr, q⟩ => q _ _ Adv.refl hr sr⟩
def sNever : ASt' := fun _ _ _ => False
theorem as_never : AS X st sNever := ⟨fun D D' σ A k q => q, ps_weak ps_never fun D vs H ⟨σ, A, hr, sr, q⟩ => q⟩
def sDrop (t : AT) : ASt' := fun D σ A => t σ A fun _ A1 => D.nx σ A1
theorem as_expr (h : AE X e ta) (hs : swapsWith e none pos.line X.env = pure false := by rfl) : AS X (.Expr e pos) (sDrop ta) := by
  refine ⟨fun D D' σ A k q => h.mono _ _ _ _ (fun _ _ q => k.nx _ _ q) q, ps_weak (ps_expr h.pe hs) fun D vs H q => ?_⟩
  obtain ⟨σ, A, hr, sr, q⟩ := q
  exact ⟨σ, A, hr, sr, h.mono _ _ _ _ (fun d A1 q v1 H1 a1 r1 e1 => q _ _ a1 r1 (sr.adv a1)) q⟩
def sRet (t : AT) : ASt' := fun D σ A => t σ A D.rt
theorem as_ret (h : AE X e ta) : AS X (.Return (some e) pos) (sRet ta) := by
  refine ⟨fun D D' σ A k q => h.mono _ _ _ _ (fun _ _ q => k.rt _ _ q) q, ps_weak (ps_ret h.pe) fun D vs H q => ?_⟩
  obtain ⟨σ, A, hr, sr, q⟩ := q
  exact ⟨σ, A, hr, sr, q⟩
def sRetN : ASt' := fun D _ A => D.rt .non A
theorem as_retN : AS X (.Return none pos) sRetN := ⟨fun D D' σ A k q => k.rt _ _ q, ps_weak ps_retN fun D vs H ⟨σ, A, hr, sr, q⟩ => q _ _ Adv.refl hr rfl⟩
def sIf (c : ABt) (t u : ASt') : ASt' := fun D σ A => c σ A fun k A1 => br k (t D σ A1) (u D σ A1)
theorem as_if {p q : List Stmt} {tc : ABt} (hc : AB X c tc) (hp : ASs X p t) (hq : ASs X q u) : AS X (.If c p q pos) (sIf tc t u) := by
  refine ⟨fun D D' σ A k q => hc.mono _ _ _ _ (fun b A1 q => br_mono q (hp.mono _ _ _ _ k) (hq.mono _ _ _ _ k)) q, ps_weak (ps_if hc.pt hp.pss hq.pss) fun D vs H q => ?_⟩
  obtain ⟨σ, A, hr, sr, q⟩ := q
  refine ⟨σ, A, hr, sr, hc.mono _ _ _ _ (fun b A1 q H1 a1 r1 => br_ite (br_mono q (fun q => ?_) fun q => ?_)) q⟩
  · exact ⟨σ, A1, r1, sr.adv a1, hp.mono _ _ _ _ (liftD.adv a1) q⟩
  · exact ⟨σ, A1, r1, sr.adv a1, hq.mono _ _ _ _ (liftD.adv a1) q⟩
def sAsg (t : AT) (g : AGf) : ASt' := fun D σ A => t σ A fun d A1 => g d σ A1 D.nx
theorem asg_lift {K : PySem.W.Frag} {sl : List Nat} {g : AGf} (mt : MonE ta) (mg : ∀ d σ A (Q Q' : ASt → AH → Prop), (∀ σ' A', Q σ' A' → Q' σ' A') → g d σ A Q → g d σ A Q') {D : Ends} {vs : L2.St} {H : Hp} (h : liftS K (sAsg ta g) D vs H) : tAsg (liftE K ta) (liftG K sl g) D vs H := by
  obtain ⟨σ, A, hr, sr, q⟩ := h
  refine ⟨σ, A, hr, sr, mt _ _ _ _ (fun d A1 q v1 H1 a1 r1 e1 => ?_) q⟩
  exact ⟨d, σ, A1, r1, sr.adv a1, e1, mg _ _ _ _ _ (fun σ2 A2 q vs2 H2 a2 r2 s2 _ => q _ _ (a1.trans a2) r2 s2) q⟩
theorem mon_asg {g : AGf} (mt : MonE ta) (mg : ∀ d σ A (Q Q' : ASt → AH → Prop), (∀ σ' A', Q σ' A' → Q' σ' A') → g d σ A Q → g d σ A Q') : MonS (sAsg ta g) := fun D D' σ A k q => mt _ _ _ _ (fun d A1 q => mg _ _ _ _ _ k.nx q) q
/-- a target of any form -/
theorem as_asg {tg : Expr} {sl : List Nat} {g : AGf} (he : AE X e ta) (hg : AG X tg sl g) (hs : swapsWithSole [tg] e pos.line X.env = pure false := by rfl) (hw : swappedStores [tg] e X.env = pure none := by rfl)
    (h1 : (assignEach [tg] X.env).map (·.2) = [assign tg X.env] := by rfl) : AS X (.Assign [tg] e pos) (sAsg ta g) :=
  ⟨mon_asg he.mono hg.mono, ps_weak (ps_asg he.pe hg.pg hs hw h1) fun D vs H q => asg_lift he.mono hg.mono q⟩
/-- a name -/
theorem as_set (i : Nat) {x : Str} {p : Pos} (he : AE X e ta) (hN : X.N.Nodup) (hi : X.N[i]? = some x := by rfl) (hx : Loc X.env.scope x := by first | exact .inl rfl | exact .inr rfl) (hs : swapsWith e (some (.Name x p)) pos.line X.env = pure false := by rfl) (hf : X.fn x = true ∨ X.env.scope.names.lookup x = some .local := by first | exact .inl rfl | exact .inr rfl | assumption) :
    AS X (.Assign [.Name x p] e pos) (sAsg ta (agN i)) := by
  have hg : AG X (.Name x p) [i] (agN i) := ag_name i hN hi hx hf
  refine ⟨mon_asg he.mono hg.mono, ps_weak (ps_set hN hi hx he.pe hs hf) fun D vs H q => ?_⟩
  obtain ⟨σ, A, hr, sr, q⟩ := q
  refine ⟨σ, A, hr, sr, he.mono _ _ _ _ (fun d A1 q v1 H1 a1 r1 e1 => ?_) q⟩
  exact q _ _ a1 r1 ((sr.adv a1).set e1 i)
/-- a, b = x, y with plain names -/
def sPar (i j : Nat) (ta : AAt) : ASt' := fun D σ A => ta σ A fun ds A1 => match ds with
  | [d, e] => D.nx (sset (sset σ i d) j e) A1
  | _ => False
theorem as_par (i j : Nat) {x y : Str} {px py pt : Pos} {kt k2 pt2} (ha : AA X [a, b] tr) (hc : X.calm = true) (hN : X.N.Nodup) (hi : X.N[i]? = some x := by rfl) (hj : X.N[j]? = some y := by rfl) (hij : i ≠ j := by decide)
    (hx : X.env.scope.names.lookup x = some .local := by rfl) (hy : X.env.scope.names.lookup y = some .local := by rfl)
    (hw : swappedStores [.Tuple [.Name x px, .Name y py] kt pt] (.Tuple [a, b] k2 pt2) X.env = pure (some [x, y]) := by rfl)
    (hs : swapsWithSole [.Tuple [.Name x px, .Name y py] kt pt] (.Tuple [a, b] k2 pt2) pos.line X.env = pure false := by rfl) :
    AS X (.Assign [.Tuple [.Name x px, .Name y py] kt pt] (.Tuple [a, b] k2 pt2) pos) (sPar i j tr) := by
  refine ⟨fun D D' σ A k q => ha.mono _ _ _ _ (fun ds A1 q => ?_) q, ps_weak (ps_par hc hN hi hj hij hx hy ha.pa hw hs) fun D vs H q => ?_⟩
  · split at q <;> first | exact q.elim | exact k.nx _ _ q
  · obtain ⟨σ, A, hr, sr, q⟩ := q
    refine ⟨σ, A, hr, sr, ha.mono _ _ _ _ (fun ds A1 q us H1 a1 r1 e1 => ?_) q⟩
    split at q <;> first | exact q.elim | skip
    obtain ⟨v, w, rfl, x1, x2⟩ := reps2 e1
    exact ⟨v, w, rfl, q _ _ a1 r1 (((sr.adv a1).set x1 i).set x2 j)⟩
def sPar3 (i j l : Nat) (ta : AAt) : ASt' := fun D σ A => ta σ A fun ds A1 => match ds with
  | [d, e, f] => D.nx (sset (sset (sset σ i d) j e) l f) A1
  | _ => False
theorem as_par3 (i j l : Nat) {x y z : Str} {px py pz pt : Pos} {kt k2 pt2} (ha : AA X [a, b, c] tr) (hc : X.calm = true) (hN : X.N.Nodup) (hi : X.N[i]? = some x := by rfl) (hj : X.N[j]? = some y := by rfl) (hl : X.N[l]? = some z := by rfl) (hij : i ≠ j := by decide) (hil : i ≠ l := by decide) (hjl : j ≠ l := by decide)
    (hx : X.env.scope.names.lookup x = some .local := by rfl) (hy : X.env.scope.names.lookup y = some .local := by rfl) (hz : X.env.scope.names.lookup z = some .local := by rfl)
    (hw : swappedStores [.Tuple [.Name x px, .Name y py, .Name z pz] kt pt] (.Tuple [a, b, c] k2 pt2) X.env = pure (some [x, y, z]) := by rfl)
    (hs : swapsWithSole [.Tuple [.Name x px, .Name y py, .Name z pz] kt pt] (.Tuple [a, b, c] k2 pt2) pos.line X.env = pure false := by rfl) :
    AS X (.Assign [.Tuple [.Name x px, .Name y py, .Name z pz] kt pt] (.Tuple [a, b, c] k2 pt2) pos) (sPar3 i j l tr) := by
  refine ⟨fun D D' σ A k q => ha.mono _ _ _ _ (fun ds A1 q => ?_) q, ps_weak (ps_par3 hc hN hi hj hl hij hil hjl hx hy hz ha.pa hw hs) fun D vs H q => ?_⟩
  · split at q <;> first | exact q.elim | exact k.nx _ _ q
  · obtain ⟨σ, A, hr, sr, q⟩ := q
    refine ⟨σ, A, hr, sr, ha.mono _ _ _ _ (fun ds A1 q us H1 a1 r1 e1 => ?_) q⟩
    split at q <;> first | exact q.elim | skip
    obtain ⟨v, q1, rfl, x1, y1⟩ := e1
    obtain ⟨w, w2, rfl, x2, x3⟩ := reps2 y1
    exact ⟨v, w, w2, rfl, q _ _ a1 r1 ((((sr.adv a1).set x1 i).set x2 j).set x3 l)⟩
/-! ### op= -/
def aAddI : D → D → AH → DK → Prop
  | .int i, .int j, A, Q => Q (.int (i + j)) A
  | .ref p, .lst ys, A, Q => ∃ ds, A p = some (.lst ds) ∧ ds.length + ys.length ≤ 1000000 ∧ Q (.ref p) (aupd A p (.lst (ds ++ ys)))
  | _, _, _, _ => False
theorem iop_add : AOp X (inplaceOp .Add) aAddI := by
  refine ⟨fun d e A Q Q' k h => ?_, ?_⟩
  · cases d <;> cases e <;> first | exact h.elim | exact k _ _ h | exact ⟨h.choose, h.choose_spec.1, h.choose_spec.2.1, k _ _ h.choose_spec.2.2⟩
  · intro pins s σ H x y v u Q I rx ry ⟨d, e, A, hr, rd, re, h⟩
    cases d <;> cases e <;> first | exact (show False from h).elim | skip
    · cases (show x = V.int _ from rd)
      cases (show y = V.int _ from re)
      exact op_ints0 (A := A) L2.iop_add I rx ry (post.fin h hr rfl)
    · cases (show x = V.ref _ from rd)
      obtain ⟨q, us, rfl, t2, q2⟩ := re
      obtain ⟨ds, e0, hl, h⟩ := h
      obtain ⟨ws, e1, r1⟩ := hr _ _ e0
      have st := adv_set hr e0 (r1.append q2)
      exact L2.iop_ext pins s σ H _ _ v u Q I rx ry ⟨_, _, ws, us, rfl, rfl, e1, t2.2, le_ok (by rw [r1.length, q2.length]; exact hl), h _ _ st.1 st.2 rfl⟩
theorem iop_sub : AOp X (inplaceOp .Sub) aSub := by
  refine ⟨fun d e A Q Q' k h => ?_, ?_⟩
  · cases d <;> cases e <;> first | exact h.elim | exact k _ _ h
  · intro pins s σ H x y v u Q I rx ry ⟨d, e, A, hr, rd, re, h⟩
    cases d <;> cases e <;> first | exact (show False from h).elim | skip
    cases (show x = V.int _ from rd)
    cases (show y = V.int _ from re)
    exact op_ints0 (A := A) L2.iop_sub I rx ry (post.fin h hr rfl)
def sAug (i : Nat) (f : D → D → AH → DK → Prop) (te : AT) : ASt' := fun D σ A => match slot σ i with
  | some d => te σ A fun e A1 => f d e A1 fun z A2 => D.nx (sset σ i z) A2
  | none => False
theorem as_aug (i : Nat) {x : Str} {p : Pos} {op : Operator} {f : D → D → AH → DK → Prop} (ho : AOp X (inplaceOp op) f) (he : AE X e ta) (hN : X.N.Nodup) (hi : X.N[i]? = some x := by rfl) (hx : Loc X.env.scope x := by first | exact .inl rfl | exact .inr rfl)
    (hf : X.fn x = true ∨ X.env.scope.names.lookup x = some .local := by first | exact .inl rfl | exact .inr rfl | assumption) : AS X (.AugAssign (.Name x p) op e pos) (sAug i f ta) := by
  have hp : PIp X op (lift2 X.K f) := fun pins s σ H x y v u Q I rx ry q => ho.op pins s σ H x y v u Q I rx ry q
  refine ⟨fun D D' σ A k q => ?_, ps_weak (ps_aug hN hi hx he.pe hp hf) fun D vs H q => ?_⟩
  · unfold sAug at q ⊢
    cases e1 : slot σ i with
    | none => rw [e1] at q; exact q
    | some d =>
      rw [e1] at q
      exact he.mono _ _ _ _ (fun e A1 q => ho.mono _ _ _ _ _ (fun z A2 q => k.nx _ _ q) q) q
  · obtain ⟨σ, A, hr, sr, q⟩ := q
    unfold sAug at q
    cases e1 : slot σ i with
    | none => rw [e1] at q; exact q.elim
    | some d =>
      rw [e1] at q
      obtain ⟨v, e2, r⟩ := sr.get e1
      refine ⟨v, e2, σ, A, hr, sr, he.mono _ _ _ _ (fun e A1 q v1 H1 a1 r1 x1 => ?_) q⟩
      refine ⟨d, e, A1, r1, r.adv a1, x1, ho.mono _ _ _ _ _ (fun z A2 q v2 H2 a2 r2 x2 => ?_) q⟩
      exact q _ _ (a1.trans a2) r2 ((sr.adv (a1.trans a2)).set x2 i)

/-! ### while -/
@[irreducible] def sWhileI (c : ABt) (tb : ASt') (D : AEnds) (σ : ASt) (A : AH) : Prop := ∃ W : Nat → ASt → AH → Prop, (∃ m, W m σ A) ∧ ∀ m σ A, W m σ A →
  c σ A fun b A1 => br b (tb { D with nx := fun σ' A' => ∃ m', m' < m ∧ W m' σ' A', ct := fun σ' A' => ∃ m', m' < m ∧ W m' σ' A', bk := D.nx } σ A1) (D.nx σ A1)
def sWhile (c : ABt) (tb : ASt') : ASt' := fun D σ A => sWhileI c tb D σ A
/-- while, by what holds of a state told by letters, and a number that falls -/
theorem while_st {α : Type} {c : ABt} {tb : ASt'} {D : AEnds} {σ : ASt} {A : AH} (f : α → ASt) (B : α → AH) (W : α → Prop) (μ : α → Nat) (x0 : α) (h0 : σ = f x0) (hA : A = B x0) (w0 : W x0)
    (hs : ∀ x, W x → c (f x) (B x) fun b A1 => br b (tb { D with nx := fun σ' A' => ∃ m', m' < μ x ∧ ∃ y, m' = μ y ∧ σ' = f y ∧ A' = B y ∧ W y, ct := fun σ' A' => ∃ m', m' < μ x ∧ ∃ y, m' = μ y ∧ σ' = f y ∧ A' = B y ∧ W y, bk := D.nx } (f x) A1) (D.nx (f x) A1)) : sWhileI c tb D σ A := by
  unfold sWhileI
  refine ⟨fun m σ A => ∃ x, m = μ x ∧ σ = f x ∧ A = B x ∧ W x, ⟨_, x0, rfl, h0, hA, w0⟩, ?_⟩
  rintro m σ A ⟨x, rfl, rfl, rfl, w⟩
  exact hs x w
theorem wl {α : Type} {f : α → ASt} {B : α → AH} {W : α → Prop} {μ : α → Nat} {n : Nat} {σ' : ASt} {A' : AH} (y : α) (h : μ y < n) (w : W y) (e : σ' = f y := by rfl) (e2 : A' = B y := by rfl) : ∃ m', m' < n ∧ ∃ y, m' = μ y ∧ σ' = f y ∧ A' = B y ∧ W y := ⟨_, h, y, rfl, e, e2, w⟩
theorem as_while {body : List Stmt} {tc : ABt} (hp : PassesOwn (model X.prog X.w) X.A X.env X.xe) (hc : AB X c tc) (hb : ASs X body t) : AS X (.While c body [] pos) (sWhile tc t) := by
  refine ⟨fun D D' σ A k q => ?_, ps_weak (ps_while hp hc.pt hb.pss) fun D vs H q => ?_⟩
  · unfold sWhile sWhileI at q ⊢
    obtain ⟨W, w0, turn⟩ := q
    exact ⟨W, w0, fun m σ A w => hc.mono _ _ _ _ (fun b A1 q => br_mono q (hb.mono { D with nx := fun σ' A' => ∃ m', m' < m ∧ W m' σ' A', ct := fun σ' A' => ∃ m', m' < m ∧ W m' σ' A', bk := D.nx } _ _ _ ⟨fun _ _ q => q, k.rt, k.nx, fun _ _ q => q⟩) (k.nx _ _)) (turn m σ A w)⟩
  · obtain ⟨σ, A, hr, sr, q⟩ := q
    unfold sWhile sWhileI at q
    obtain ⟨W, ⟨m0, w0⟩, turn⟩ := q
    refine ⟨fun m vs' H' => ∃ σ' A', Adv A H A' H' ∧ HRep X.K A' H' ∧ SRep X.K A' H' σ' vs' ∧ W m σ' A', ⟨m0, σ, A, Adv.refl, hr, sr, w0⟩, ?_⟩
    rintro m vs1 H1 ⟨σ1, A1, a1, r1, s1, w1⟩
    refine ⟨σ1, A1, r1, s1, hc.mono _ _ _ _ (fun b A2 q H2 a2 r2 => br_ite (br_mono q (fun q => ?_) fun q => ?_)) (turn m σ1 A1 w1)⟩
    · refine ⟨_, fun _ _ n => n, σ1, A2, r2, s1.adv a2, hb.mono { liftD X.K A H D with nx := fun σ' A' => ∃ m', m' < m ∧ W m' σ' A', ct := fun σ' A' => ∃ m', m' < m ∧ W m' σ' A', bk := (liftD X.K A H D).nx } _ _ _ ⟨fun σ3 A3 q vs3 H3 a3 r3 s3 => ?_, fun d A3 q => post.adv (a1.trans a2) q, fun σ3 A3 q => postS.adv (a1.trans a2) q, fun σ3 A3 q vs3 H3 a3 r3 s3 => ?_⟩ q⟩
      · obtain ⟨m', hm, w3⟩ := q
        exact ⟨m', hm, σ3, A3, (a1.trans a2).trans a3, r3, s3, w3⟩
      · obtain ⟨m', hm, w3⟩ := q
        exact ⟨m', hm, σ3, A3, (a1.trans a2).trans a3, r3, s3, w3⟩
    · exact q _ _ (a1.trans a2) r2 (s1.adv a2)
end
end Rk

namespace Rk
open PySem PySem.Spec L2
/-! ### what a for walks -/
abbrev Gd := Option (Addr × List D)
abbrev AIt := ASt → AH → (List D → Gd → AH → Prop) → Prop
/-- the list that is walked is as it was -/
def gdOk (g : Gd) (A : AH) : Prop := match g with
  | none => True
  | some (p, ds) => A p = some (.lst ds)
def guard (g : Gd) (A : AH) (q : Prop) : Prop := match g with
  | none => q
  | some (p, ds) => A p = some (.lst ds) ∧ q
theorem guard_mono {g : Gd} {A : AH} {q q' : Prop} (h : guard g A q) (k : q → q') : guard g A q' := by
  cases g with
  | none => exact k h
  | some x => exact ⟨h.1, k h.2⟩
theorem guard_get {g : Gd} {A : AH} {q : Prop} (h : guard g A q) : gdOk g A ∧ q := by
  cases g with
  | none => exact ⟨trivial, h⟩
  | some x => exact h
def ItOk (K : PySem.W.Frag) (A : AH) (H : Hp) (J : It) (its : List D) (g : Gd) : Prop := ∀ A' H', Adv A H A' H' → HRep K A' H' → gdOk g A' → ∀ i, (its.length ≤ i → J.stop i H') ∧ (i < its.length → J.go i H') ∧
  ∀ d, its[i]? = some d → ∀ x H'', J.yld i H' x H'' → Adv A' H' A' H'' ∧ HRep K A' H'' ∧ Rep K A' H'' d x
def postI (K : PySem.W.Frag) (A : AH) (H : Hp) (R : It → Hp → Prop) : List D → Gd → AH → Prop := fun its g A' => ∀ J H', Adv A H A' H' → HRep K A' H' → ItOk K A' H' J its g → R J H'
def liftI (K : PySem.W.Frag) (ti : AIt) : TI := fun vs H R => ∃ σ A, HRep K A H ∧ SRep K A H σ vs ∧ ti σ A (postI K A H R)
structure AI (X : Cx) (tg iter : Expr) (ti : AIt) : Prop where
  mono : ∀ σ A (Q Q' : List D → Gd → AH → Prop), (∀ l g A', Q l g A' → Q' l g A') → ti σ A Q → ti σ A Q'
  pi : PI X tg iter (liftI X.K ti)
theorem pi_weak {X : Cx} {tg iter : Expr} {t t' : TI} (h : PI X tg iter t) (k : ∀ σ H Q, t' σ H Q → t σ H Q) : PI X tg iter t' := ⟨fun pins s σ H R I q => h.run pins s σ H R I (k _ _ _ q)⟩
section
variable {X : Cx} {pos p : Pos} {a b c e e2 tg : Expr} {es : List Expr} {ta tb tc : AT} {tr : AAt}
def iSeqC (K : PySem.W.Frag) (tl : TE) : TI := fun σ H R => tl σ H fun x H1 => ∃ a, x = .ref a ∧ (((∃ xs, SqL K H1 a xs) ∧ R (Itl K a) H1) ∨ ((∃ xs, SqT K H1 a xs) ∧ R (Itt K a) H1))
theorem pi_seqC {l : Expr} {tl : TE} (hl : PE X l tl) : PI X tg l (iSeqC X.K tl) := by
  refine ⟨fun pins s σ H R I h => ?_⟩
  refine thn (hl.run pins s σ H _ I h) fun v s1 ⟨x, H1, I1, r1, q1⟩ => ?_
  obtain ⟨a, e, q1⟩ := q1
  subst e
  cases r1
  have fin : ∀ b, b ∈ [s1.heap.objs.size] → FpOk X pins H1 b := fun b hb => by
    have e : b = s1.heap.objs.size := by simpa using hb
    subst e
    exact I1.fpOk (Nat.le_refl _) (I1.hok.fresh (Nat.le_refl _))
  rcases q1 with ⟨⟨xs, hq⟩, q⟩ | ⟨⟨xs, hq⟩, q⟩
  · obtain ⟨its, rv, p, hz⟩ := I1.list hq
    refine wpAny_pyIter_list p.isList ?_
    exact ⟨s1.heap.objs.size, [s1.heap.objs.size], _, _, H1, rfl, I1.kept (t' := s1.toks) fun b o e => Heap.get?_push_of_some _ e, turn_list a _, ⟨_, Heap.get?_push_size _ rfl, rfl, rfl⟩, fin, q⟩
  · obtain ⟨its, rv, p, hz⟩ := I1.tuple hq
    refine wpAny_pyIter_tuple (show s1.heap.IsTuple a its.toArray from p) ?_
    exact ⟨s1.heap.objs.size, [s1.heap.objs.size], _, _, H1, rfl, I1.kept (t' := s1.toks) fun b o e => Heap.get?_push_of_some _ e, turn_tuple a _, ⟨_, Heap.get?_push_size _ rfl, rfl, rfl⟩, fin, q⟩
theorem sqL_inj {K : PySem.W.Frag} {H : Hp} {a : Addr} {xs ys : List V} (h : H a = some (.lst xs)) (e : xs = ys) : H a = some (.lst ys) := e ▸ h
/-- an iterable's items, with the guard -/
def itsOf (d : D) (A : AH) (k : List D → Gd → Prop) : Prop := match d with
  | .tup ds => k ds none
  | .lst ds => k ds none
  | .ref p => ∃ ds, A p = some (.lst ds) ∧ k ds (some (p, ds))
  | _ => False
theorem itsOf_mono {d : D} {A : AH} {k k' : List D → Gd → Prop} (h : itsOf d A k) (g : ∀ l g, k l g → k' l g) : itsOf d A k' := by
  cases d <;> first | exact (show False from h).elim | exact g _ _ h | exact ⟨h.choose, h.choose_spec.1, g _ _ h.choose_spec.2⟩
def iSeq (t : AT) : AIt := fun σ A Q => t σ A fun d A1 => itsOf d A1 fun l g => Q l g A1
theorem itl_ok {K : PySem.W.Frag} {A : AH} {H : Hp} {p : Addr} {ds : List D} {g : Gd} (h : ∀ A' H', Adv A H A' H' → HRep K A' H' → gdOk g A' → ∃ vs, SqL K H' p vs ∧ Reps K A' H' ds vs) : ItOk K A H (Itl K p) ds g := by
  intro A' H' a r gg i
  obtain ⟨vs, e, q⟩ := h A' H' a r gg
  refine ⟨fun hi => ⟨vs, e, by rw [q.length]; exact hi⟩, fun hi => ?_, fun d hd x H'' y => ?_⟩
  · obtain ⟨v, h1, _⟩ := q.get (List.getElem?_eq_getElem hi)
    exact ⟨vs, v, e, h1⟩
  · obtain ⟨e1, y⟩ := y
    subst e1
    obtain ⟨v, h1, h2⟩ := q.get hd
    have := y vs e
    rw [h1] at this
    cases this
    exact ⟨Adv.refl, r, h2⟩
theorem itt_ok {K : PySem.W.Frag} {A : AH} {H : Hp} {p : Addr} {ds : List D} {g : Gd} (h : ∀ A' H', Adv A H A' H' → HRep K A' H' → gdOk g A' → ∃ vs, SqT K H' p vs ∧ Reps K A' H' ds vs) : ItOk K A H (Itt K p) ds g := by
  intro A' H' a r gg i
  obtain ⟨vs, e, q⟩ := h A' H' a r gg
  refine ⟨fun hi => ⟨vs, e, by rw [q.length]; exact hi⟩, fun hi => ?_, fun d hd x H'' y => ?_⟩
  · obtain ⟨v, h1, _⟩ := q.get (List.getElem?_eq_getElem hi)
    exact ⟨vs, v, e, h1⟩
  · obtain ⟨e1, y⟩ := y
    subst e1
    obtain ⟨v, h1, h2⟩ := q.get hd
    have := y vs e
    rw [h1] at this
    cases this
    exact ⟨Adv.refl, r, h2⟩
theorem ai_seq (h : AE X e ta) : AI X tg e (iSeq ta) := by
  refine ⟨fun σ A Q Q' k q => h.mono _ _ _ _ (fun d A1 q => itsOf_mono q fun l g => k l g A1) q, pi_weak (pi_seqC h.pe) fun vs H R q => ?_⟩
  obtain ⟨σ, A, hr, sr, q⟩ := q
  refine ⟨σ, A, hr, sr, h.mono _ _ _ _ (fun d A1 q v1 H1 a1 r1 e1 => ?_) q⟩
  cases d <;> first | exact (show False from q).elim | skip
  · obtain ⟨p, xs, rfl, t, r⟩ := e1
    refine ⟨p, rfl, .inr ⟨⟨xs, t.sq⟩, q _ _ a1 r1 (itt_ok fun A' H' a' r' _ => ⟨xs, (t.adv a').sq, r.adv a'⟩)⟩⟩
  · obtain ⟨p, xs, rfl, t, r⟩ := e1
    refine ⟨p, rfl, .inl ⟨⟨xs, t.sq⟩, q _ _ a1 r1 (itl_ok fun A' H' a' r' _ => ⟨xs, (t.adv a').sq, r.adv a'⟩)⟩⟩
  · cases (show v1 = V.ref _ from e1)
    obtain ⟨ds, e0, q⟩ := q
    obtain ⟨ws, e2, r⟩ := r1 _ _ e0
    refine ⟨_, rfl, .inl ⟨⟨ws, SqL.of e2⟩, q _ _ a1 r1 (itl_ok fun A' H' a' r' g' => ?_)⟩⟩
    obtain ⟨ws', e3, r3⟩ := r' _ _ g'
    exact ⟨ws', SqL.of e3, r3⟩
/-- range -/
def rgD (lo : Int) (n : Nat) : List D := (List.range n).map fun (i : Nat) => D.int (lo + (i : Int))
theorem rgD_get {lo : Int} {n i : Nat} (h : i < n) : (rgD lo n)[i]? = some (.int (lo + (i : Int))) := by
  unfold rgD
  rw [List.getElem?_map, List.getElem?_range h]
  rfl
theorem rgD_len {lo : Int} {n : Nat} : (rgD lo n).length = n := by unfold rgD; simp
theorem itr_ok {K : PySem.W.Frag} {A : AH} {H : Hp} {lo : Int} {n : Nat} {g : Gd} : ItOk K A H (Itr lo n) (rgD lo n) g := by
  intro A' H' a r gg i
  refine ⟨fun hi => by rw [rgD_len] at hi; exact hi, fun hi => by rw [rgD_len] at hi; exact hi, fun d hd x H'' y => ?_⟩
  obtain ⟨e1, e2⟩ := y
  subst e1 e2
  have hi : i < n := by
    have := (List.getElem?_eq_some_iff.mp hd).1
    rwa [rgD_len] at this
  rw [rgD_get hi] at hd
  cases hd
  exact ⟨Adv.refl, r, rfl⟩
def iRange1 (t : AAt) : AIt := fun σ A Q => t σ A fun ds A1 => match ds with
  | [.int j] => (-4611686018427387904 ≤ j ∧ j < 4611686018427387904) ∧ Q (rgD 0 j.toNat) none A1
  | _ => False
def iRange2 (t : AAt) : AIt := fun σ A Q => t σ A fun ds A1 => match ds with
  | [.int i, .int j] => (-4611686018427387904 ≤ i ∧ i < 4611686018427387904 ∧ -4611686018427387904 ≤ j ∧ j < 4611686018427387904) ∧ Q (rgD i (j - i).toNat) none A1
  | _ => False
theorem ai_range1 (hm : X.mg "range" = none) (ha : AA X [a] tr) (hg : Gl X "range" := by rfl) (hs : starEach [a] X.env = [(false, eval a X.env)] := by rfl) : AI X tg (.Call (.Name "range" p) [a] [] pos) (iRange1 tr) := by
  refine ⟨fun σ A Q Q' k q => ha.mono _ _ _ _ (fun ds A1 q => ?_) q, pi_weak (pi_range1 hg hm ha.pa hs) fun vs H R q => ?_⟩
  · split at q <;> first | exact q.elim | exact ⟨q.1, k _ _ _ q.2⟩
  · obtain ⟨σ, A, hr, sr, q⟩ := q
    refine ⟨σ, A, hr, sr, ha.mono _ _ _ _ (fun ds A1 q us H1 a1 r1 e1 => ?_) q⟩
    split at q <;> first | exact q.elim | skip
    obtain ⟨v, rfl, x⟩ := reps1 e1
    exact ⟨_, congrArg (fun z => [z]) x, by have := q.1; omega, by have := q.1; omega, q.2 _ _ a1 r1 itr_ok⟩
theorem ai_range2 (hm : X.mg "range" = none) (ha : AA X [a, b] tr) (hg : Gl X "range" := by rfl) (hs : starEach [a, b] X.env = [(false, eval a X.env), (false, eval b X.env)] := by rfl) (hs2 : starEach [b] X.env = [(false, eval b X.env)] := by rfl) : AI X tg (.Call (.Name "range" p) [a, b] [] pos) (iRange2 tr) := by
  refine ⟨fun σ A Q Q' k q => ha.mono _ _ _ _ (fun ds A1 q => ?_) q, pi_weak (pi_range2 hg hm ha.pa hs hs2) fun vs H R q => ?_⟩
  · split at q <;> first | exact q.elim | exact ⟨q.1, k _ _ _ q.2⟩
  · obtain ⟨σ, A, hr, sr, q⟩ := q
    refine ⟨σ, A, hr, sr, ha.mono _ _ _ _ (fun ds A1 q us H1 a1 r1 e1 => ?_) q⟩
    split at q <;> first | exact q.elim | skip
    obtain ⟨v, u, rfl, x, y⟩ := reps2 e1
    cases (show v = V.int _ from x)
    cases (show u = V.int _ from y)
    exact ⟨_, _, rfl, by have := q.1; omega, q.2 _ _ a1 r1 itr_ok⟩
/-- enumerate of a list; zip of two lists or of two tuples -/
def enumD (ds : List D) : Nat → List D
  | n => ds.zipIdx n |>.map fun p => .tup [.int (p.2 : Int), p.1]
def zipD : List D → List D → List D
  | x :: xs, y :: ys => .tup [x, y] :: zipD xs ys
  | _, _ => []
theorem zipD_len : ∀ (xs ys : List D), (zipD xs ys).length = min xs.length ys.length
  | [], _ => by simp [zipD]
  | _ :: _, [] => by simp [zipD]
  | x :: xs, y :: ys => by simp only [zipD, List.length_cons, zipD_len xs ys]; omega
theorem zipD_get : ∀ {xs ys : List D} {i : Nat} {d : D}, (zipD xs ys)[i]? = some d → ∃ x y, xs[i]? = some x ∧ ys[i]? = some y ∧ d = .tup [x, y]
  | [], _, _, _, h => by simp [zipD] at h
  | _ :: _, [], _, _, h => by simp [zipD] at h
  | x :: xs, y :: ys, 0, d, h => by
    simp [zipD] at h
    exact ⟨x, y, rfl, rfl, h.symm⟩
  | x :: xs, y :: ys, i + 1, d, h => by
    simp [zipD] at h
    obtain ⟨a, b, h1, h2, h3⟩ := zipD_get h
    exact ⟨a, b, by simpa using h1, by simpa using h2, h3⟩
def iEnumD (t : AT) : AIt := fun σ A Q => t σ A fun d A1 => match d with
  | .tup ds => Q (enumD ds 0) none A1
  | .lst ds => Q (enumD ds 0) none A1
  | .ref p => ∃ ds, A1 p = some (.lst ds) ∧ Q (enumD ds 0) (some (p, ds)) A1
  | _ => False
theorem enumD_len (ds : List D) (n : Nat) : (enumD ds n).length = ds.length := by unfold enumD; simp
theorem enumD_get {ds : List D} {i : Nat} {d : D} (h : (enumD ds 0)[i]? = some d) : ∃ x, ds[i]? = some x ∧ d = .tup [.int (i : Int), x] := by
  unfold enumD at h
  rw [List.getElem?_map, List.getElem?_zipIdx] at h
  cases e : ds[i]? with
  | none => rw [e] at h; cases h
  | some x =>
    rw [e] at h
    simp at h
    exact ⟨x, rfl, by rw [← h]⟩
theorem ite_ok {K : PySem.W.Frag} {A : AH} {H : Hp} {p : Addr} {ds : List D} {g : Gd} (h : ∀ A' H', Adv A H A' H' → HRep K A' H' → gdOk g A' → ∃ vs, SqL K H' p vs ∧ Reps K A' H' ds vs) : ItOk K A H (Ite K p) (enumD ds 0) g := by
  intro A' H' a r gg i
  obtain ⟨vs, e, q⟩ := h A' H' a r gg
  refine ⟨fun hi => ⟨vs, e, by rw [q.length]; rwa [enumD_len] at hi⟩, fun hi => ?_, fun d hd x H'' y => ?_⟩
  · rw [enumD_len] at hi
    obtain ⟨v, h1, _⟩ := q.get (List.getElem?_eq_getElem hi)
    exact ⟨vs, v, e, h1⟩
  · obtain ⟨T, y, rfl, hT, rfl, hy⟩ := y
    obtain ⟨z, hz, rfl⟩ := enumD_get hd
    obtain ⟨v, h1, h2⟩ := q.get hz
    have := hy vs e
    rw [h1] at this
    cases this
    exact ⟨(adv_new r hT).1, (adv_new r hT).2, rep_tup r hT ⟨_, _, rfl, rfl, Reps.one h2⟩⟩
theorem iteT_ok {K : PySem.W.Frag} {A : AH} {H : Hp} {p : Addr} {ds : List D} {g : Gd} (h : ∀ A' H', Adv A H A' H' → HRep K A' H' → gdOk g A' → ∃ vs, SqT K H' p vs ∧ Reps K A' H' ds vs) : ItOk K A H (IteT K p) (enumD ds 0) g := by
  intro A' H' a r gg i
  obtain ⟨vs, e, q⟩ := h A' H' a r gg
  refine ⟨fun hi => ⟨vs, e, by rw [q.length]; rwa [enumD_len] at hi⟩, fun hi => ?_, fun d hd x H'' y => ?_⟩
  · rw [enumD_len] at hi
    obtain ⟨v, h1, _⟩ := q.get (List.getElem?_eq_getElem hi)
    exact ⟨vs, v, e, h1⟩
  · obtain ⟨T, y, rfl, hT, rfl, hy⟩ := y
    obtain ⟨z, hz, rfl⟩ := enumD_get hd
    obtain ⟨v, h1, h2⟩ := q.get hz
    have := hy vs e
    rw [h1] at this
    cases this
    exact ⟨(adv_new r hT).1, (adv_new r hT).2, rep_tup r hT ⟨_, _, rfl, rfl, Reps.one h2⟩⟩
theorem ai_enum {elts : List Expr} {kk : Nat} {tpos : Pos} (hm : X.mg "enumerate" = none) (h : AE X e ta) (hg : Gl X "enumerate" := by rfl) (hs : starEach [e] X.env = [(false, eval e X.env)] := by rfl) : AI X (.Tuple elts kk tpos) (.Call (.Name "enumerate" p) [e] [] pos) (iEnumD ta) := by
  have ha : PA X [e] (tCons (liftE X.K ta) tNil) := pa_cons h.pe pa_nil hs
  refine ⟨fun σ A Q Q' k q => h.mono _ _ _ _ (fun d A1 q => ?_) q, pi_weak (pi_enumA hg hm ha hs) fun vs H R q => ?_⟩
  · cases d <;> first | exact (show False from q).elim | exact k _ _ _ q | exact ⟨q.choose, q.choose_spec.1, k _ _ _ q.choose_spec.2⟩
  · obtain ⟨σ, A, hr, sr, q⟩ := q
    refine ⟨σ, A, hr, sr, h.mono _ _ _ _ (fun d A1 q v1 H1 a1 r1 e1 => ?_) q⟩
    cases d <;> first | exact (show False from q).elim | skip
    · obtain ⟨p, xs, rfl, t, r⟩ := e1
      exact ⟨p, xs, rfl, .inr ⟨t.sq, q _ _ a1 r1 (iteT_ok fun A' H' a' r' _ => ⟨xs, (t.adv a').sq, r.adv a'⟩)⟩⟩
    · obtain ⟨p, xs, rfl, t, r⟩ := e1
      exact ⟨p, xs, rfl, .inl ⟨t.sq, q _ _ a1 r1 (ite_ok fun A' H' a' r' _ => ⟨xs, (t.adv a').sq, r.adv a'⟩)⟩⟩
    · cases (show v1 = V.ref _ from e1)
      obtain ⟨ds, e0, q⟩ := q
      obtain ⟨ws, e2, r⟩ := r1 _ _ e0
      refine ⟨_, ws, rfl, .inl ⟨SqL.of e2, q _ _ a1 r1 (ite_ok fun A' H' a' r' g' => ?_)⟩⟩
      obtain ⟨ws', e3, r3⟩ := r' _ _ g'
      exact ⟨ws', SqL.of e3, r3⟩
def iZipD (ta tb : AT) : AIt := fun σ A Q => ta σ A fun d A1 => tb σ A1 fun e A2 => match d, e with
  | .tup xs, .tup ys => Q (zipD xs ys) none A2
  | .lst xs, .lst ys => Q (zipD xs ys) none A2
  | _, _ => False
theorem zip_ok {K : PySem.W.Frag} {A : AH} {H : Hp} {p q : Addr} {xs ys : List D} {us vs : List V} {g : Gd} (t1 : LAt A H p us) (t2 : LAt A H q vs) (r1 : Reps K A H xs us) (r2 : Reps K A H ys vs) : ItOk K A H (Itz K p q) (zipD xs ys) g := by
  intro A' H' a r gg i
  have s1 : SqL K H' p us := (t1.adv a).sq
  have s2 : SqL K H' q vs := (t2.adv a).sq
  have q1 := r1.adv a
  have q2 := r2.adv a
  refine ⟨fun hi => ⟨us, vs, s1, s2, by rw [q1.length, q2.length]; rw [zipD_len] at hi; omega⟩, fun hi => ?_, fun d hd x H'' y => ?_⟩
  · rw [zipD_len] at hi
    obtain ⟨v, h1, _⟩ := q1.get (List.getElem?_eq_getElem (show i < xs.length by omega))
    obtain ⟨v2, h2, _⟩ := q2.get (List.getElem?_eq_getElem (show i < ys.length by omega))
    exact ⟨us, vs, v, v2, s1, s2, h1, h2⟩
  · obtain ⟨T, y, z, rfl, hT, rfl, hy, hz⟩ := y
    obtain ⟨d1, d2, h1, h2, rfl⟩ := zipD_get hd
    obtain ⟨v, e1, x1⟩ := q1.get h1
    obtain ⟨v2, e2, x2⟩ := q2.get h2
    have z1 := hy us s1
    rw [e1] at z1
    cases z1
    have z2 := hz vs s2
    rw [e2] at z2
    cases z2
    exact ⟨(adv_new r hT).1, (adv_new r hT).2, rep_tup r hT ⟨_, _, rfl, x1, Reps.one x2⟩⟩
theorem zipT_ok {K : PySem.W.Frag} {A : AH} {H : Hp} {p q : Addr} {xs ys : List D} {us vs : List V} {g : Gd} (t1 : TAt K A H p us) (t2 : TAt K A H q vs) (r1 : Reps K A H xs us) (r2 : Reps K A H ys vs) : ItOk K A H (RZ.ItzT K p q) (zipD xs ys) g := by
  intro A' H' a r gg i
  have s1 : SqT K H' p us := (t1.adv a).sq
  have s2 : SqT K H' q vs := (t2.adv a).sq
  have q1 := r1.adv a
  have q2 := r2.adv a
  refine ⟨fun hi => ⟨us, vs, s1, s2, by rw [q1.length, q2.length]; rw [zipD_len] at hi; omega⟩, fun hi => ?_, fun d hd x H'' y => ?_⟩
  · rw [zipD_len] at hi
    obtain ⟨v, h1, _⟩ := q1.get (List.getElem?_eq_getElem (show i < xs.length by omega))
    obtain ⟨v2, h2, _⟩ := q2.get (List.getElem?_eq_getElem (show i < ys.length by omega))
    exact ⟨us, vs, v, v2, s1, s2, h1, h2⟩
  · obtain ⟨T, y, z, rfl, hT, rfl, hy, hz⟩ := y
    obtain ⟨d1, d2, h1, h2, rfl⟩ := zipD_get hd
    obtain ⟨v, e1, x1⟩ := q1.get h1
    obtain ⟨v2, e2, x2⟩ := q2.get h2
    have z1 := hy us s1
    rw [e1] at z1
    cases z1
    have z2 := hz vs s2
    rw [e2] at z2
    cases z2
    exact ⟨(adv_new r hT).1, (adv_new r hT).2, rep_tup r hT ⟨_, _, rfl, x1, Reps.one x2⟩⟩
theorem ai_zip {elts : List Expr} {kk : Nat} {tpos : Pos} (hm : X.mg "zip" = none) (ha : AE X a ta) (hb : AE X b tb) (hg : Gl X "zip" := by rfl) (hs : starEach [a, b] X.env = (false, eval a X.env) :: starEach [b] X.env := by rfl) (hpl : (backTo pos (starEach [b] X.env)).any (·.1) = false := by rfl)
    (hs2 : starEach [b] X.env = (false, eval b X.env) :: starEach [] X.env := by rfl) : AI X (.Tuple elts kk tpos) (.Call (.Name "zip" p) [a, b] [] pos) (iZipD ta tb) := by
  have hp : PA X [a, b] (tCons (liftE X.K ta) (tCons (liftE X.K tb) tNil)) := pa_cons ha.pe (pa_cons hb.pe pa_nil hs2) hs
  refine ⟨fun σ A Q Q' k q => ha.mono _ _ _ _ (fun d A1 q => hb.mono _ _ _ _ (fun e A2 q => ?_) q) q, pi_weak (RZ.pi_zipA hg hm hp hs hpl) fun vs H R q => ?_⟩
  · cases d <;> cases e <;> first | exact (show False from q).elim | exact k _ _ _ q
  · obtain ⟨σ, A, hr, sr, q⟩ := q
    refine ⟨σ, A, hr, sr, ha.mono _ _ _ _ (fun d A1 q v1 H1 a1 r1 e1 => ?_) q⟩
    refine ⟨σ, A1, r1, sr.adv a1, hb.mono _ _ _ _ (fun e A2 q v2 H2 a2 r2 e2 => ?_) q⟩
    have e1 := e1.adv a2
    cases d <;> cases e <;> first | exact (show False from q).elim | skip
    · obtain ⟨p, xs, rfl, t, r⟩ := e1
      obtain ⟨p2, xs2, rfl, t2, r'⟩ := e2
      exact ⟨p, p2, xs, xs2, rfl, .inr ⟨t.sq, t2.sq, q _ _ (a1.trans a2) r2 (zipT_ok t t2 r r')⟩⟩
    · obtain ⟨p, xs, rfl, t, r⟩ := e1
      obtain ⟨p2, xs2, rfl, t2, r'⟩ := e2
      exact ⟨p, p2, xs, xs2, rfl, .inl ⟨t.sq, t2.sq, q _ _ (a1.trans a2) r2 (zip_ok t t2 r r')⟩⟩

/-! ### for -/
@[irreducible] def forI (g : AGf) (tb : ASt') (D : AEnds) (gd : Gd) (its : List Rk.D) (σ : ASt) (A : AH) : Prop := ∃ I : Nat → ASt → AH → Prop, I 0 σ A ∧ (∀ i σ A, I i σ A → gdOk gd A) ∧
  (∀ i d σ A, its[i]? = some d → I i σ A → g d σ A fun σ2 A2 => tb { nx := I (i + 1), ct := I (i + 1), bk := D.nx, rt := D.rt } σ2 A2) ∧ (∀ σ A, I its.length σ A → D.nx σ A)
def sFor (ti : AIt) (g : AGf) (tb : ASt') : ASt' := fun D σ A => ti σ A fun its gd A1 => forI g tb D gd its σ A1
variable {t : ASt'}
theorem as_for {iter : Expr} {body : List Stmt} {ti : AIt} {sl : List Nat} {g : AGf} (hp : PassesOwn (model X.prog X.w) X.A X.env X.xe) (hc : X.calm = true) (hi : AI X tg iter ti) (hg : AG X tg sl g) (hb : ASs X body t)
    (hs : ∀ x, foldedSetIterable iter X.env x = pure x := by intro _; rfl) : AS X (.For tg iter body [] pos) (sFor ti g t) := by
  refine ⟨fun D D' σ A k q => hi.mono _ _ _ _ (fun l gd A1 q => ?_) q, ps_weak (ps_for hp hc hi.pi hg.pg hb.pss hs) fun D vs H q => ?_⟩
  · unfold forI at q ⊢
    obtain ⟨I, h0, hgd, hstep, hd⟩ := q
    exact ⟨I, h0, hgd, fun i d σ A e w => hg.mono _ _ _ _ _ (fun σ2 A2 q => hb.mono { nx := I (i + 1), ct := I (i + 1), bk := D.nx, rt := D.rt } _ _ _ ⟨fun _ _ q => q, k.rt, k.nx, fun _ _ q => q⟩ q) (hstep i d σ A e w), fun σ A w => k.nx _ _ (hd σ A w)⟩
  obtain ⟨σ, A, hr, sr, q⟩ := q
  refine ⟨σ, A, hr, sr, hi.mono _ _ _ _ (fun its gd A1 q J H1 a1 r1 ok => ?_) q⟩
  unfold forI at q
  obtain ⟨I, h0, hgd, hstep, hd⟩ := q
  refine ⟨fun i m vs' H' => m = its.length - i ∧ i ≤ its.length ∧ ∃ σ' A', Adv A1 H1 A' H' ∧ HRep X.K A' H' ∧ SRep X.K A' H' σ' vs' ∧ I i σ' A', ⟨its.length, rfl, Nat.zero_le _, σ, A1, Adv.refl, r1, sr.adv a1, h0⟩, ?_⟩
  rintro i m vs2 H2 ⟨rfl, hi', σ2, A2, a2, r2, s2, q2⟩
  have g2 := hgd i σ2 A2 q2
  by_cases hlt : i < its.length
  · obtain ⟨_, go, yld⟩ := ok A2 H2 a2 r2 g2 i
    refine .inr ⟨go hlt, fun vs' H' => ∃ σ' A', Adv A1 H1 A' H' ∧ HRep X.K A' H' ∧ SRep X.K A' H' σ' vs' ∧ I (i + 1) σ' A', fun vs' H' n => ⟨its.length - (i + 1), by omega, rfl, hlt, n⟩, fun x H3 y => ?_⟩
    obtain ⟨a3, r3, x3⟩ := yld its[i] (List.getElem?_eq_getElem hlt) x H3 y
    refine ⟨its[i], σ2, A2, r3, s2.adv a3, x3, hg.mono _ _ _ _ _ (fun σ4 A4 q4 vs4 H4 a4 r4 s4 _ => ?_) (hstep i its[i] σ2 A2 (List.getElem?_eq_getElem hlt) q2)⟩
    refine ⟨σ4, A4, r4, s4, hb.mono { nx := I (i + 1), ct := I (i + 1), bk := (liftD X.K A H D).nx, rt := (liftD X.K A H D).rt } _ _ _ ?_ q4⟩
    have a14 := (a2.trans a3).trans a4
    exact ⟨fun σ5 A5 q vs5 H5 a5 r5 s5 => ⟨σ5, A5, a14.trans a5, r5, s5, q⟩, fun d A5 q => post.adv (a1.trans a14) q, fun σ5 A5 q => postS.adv (a1.trans a14) q, fun σ5 A5 q vs5 H5 a5 r5 s5 => ⟨σ5, A5, a14.trans a5, r5, s5, q⟩⟩
  · have e : i = its.length := by omega
    subst e
    obtain ⟨st, _, _⟩ := ok A2 H2 a2 r2 g2 its.length
    exact .inl ⟨st (Nat.le_refl _), hd _ _ q2 _ _ (a1.trans a2) r2 s2⟩

/-! ### comprehensions -/
structure ATs (X : Cx) (ifs : List Expr) (t : ABt) : Prop where
  mono : MonB t
  pts : PTs X ifs (liftB X.K t)
def aYes : ABt := fun _ A Q => Q true A
theorem ats_nil : ATs X [] aYes := ⟨fun _ _ _ _ k q => k _ _ q, ⟨fun pins s σ H Q I ⟨σ', A, hr, sr, q⟩ => pts_nil.run pins s σ H Q I (q H Adv.refl hr)⟩⟩
theorem ats_one {c : Expr} {t : ABt} (h : AB X c t) : ATs X [c] t := ⟨h.mono, pts_one h.pt⟩
/-- the items made so far stand at p; I: what holds of the turn, the items so far and the heap without these -/
@[irreducible] def lcI (g : AGf) (tt : ABt) (te : AT) (σ : ASt) (gd : Gd) (fin : Addr → List Rk.D → AH → Prop) (its : List Rk.D) (A : AH) : Prop := ∀ p, A p = none → ∃ I : Nat → List Rk.D → AH → Prop, I 0 [] A ∧ (∀ i acc A, I i acc A → A p = none ∧ gdOk gd A) ∧
  (∀ i d acc A, its[i]? = some d → I i acc A → g d σ (aupd A p (.lst acc)) fun σ2 A2 => tt σ2 A2 fun b A3 => br b
      (te σ2 A3 fun y A4 => acc.length ≤ 1000000 ∧ ∃ A5, A4 = aupd A5 p (.lst acc) ∧ I (i + 1) (acc ++ [y]) A5)
      (∃ A5, A3 = aupd A5 p (.lst acc) ∧ I (i + 1) acc A5)) ∧ ∀ acc A, I its.length acc A → fin p acc A
def aLc (ti : AIt) (g : AGf) (tt : ABt) (te : AT) (vs : List Nat) : AT := fun σ A Q => ti σ A fun its gd A1 => lcI g tt te (swipe σ vs) gd (fun _ acc A2 => Q (.lst acc) A2) its A1
/-- a list that will change -/
def aLcM (ti : AIt) (g : AGf) (tt : ABt) (te : AT) (vs : List Nat) : AT := fun σ A Q => ti σ A fun its gd A1 => lcI g tt te (swipe σ vs) gd (fun p acc A2 => Q (.ref p) (aupd A2 p (.lst acc))) its A1
theorem lcI_mono {g : AGf} {tt : ABt} {te : AT} {σ : ASt} {gd : Gd} {f f' : Addr → List Rk.D → AH → Prop} {its : List Rk.D} {A : AH} (h : lcI g tt te σ gd f its A) (k : ∀ p l A, f p l A → f' p l A) : lcI g tt te σ gd f' its A := by
  unfold lcI at h ⊢
  intro p hp
  obtain ⟨I, h0, h1, h2, h3⟩ := h p hp
  exact ⟨I, h0, h1, h2, fun acc A w => k _ _ _ (h3 acc A w)⟩
/-- a loop by what holds behind each turn -/
theorem for_by {g : AGf} {tb : ASt'} {D : AEnds} {gd : Gd} (I : Nat → ASt → AH → Prop) {its : List Rk.D} {σ : ASt} {A : AH} (h0 : I 0 σ A) (hg : ∀ i σ A, I i σ A → gdOk gd A)
    (hs : ∀ i d σ A, its[i]? = some d → I i σ A → g d σ A fun σ2 A2 => tb { nx := I (i + 1), ct := I (i + 1), bk := D.nx, rt := D.rt } σ2 A2) (hd : ∀ σ A, I its.length σ A → D.nx σ A) : forI g tb D gd its σ A := by
  unfold forI
  exact ⟨I, h0, hg, hs, hd⟩
/-- a loop, told by letters -/
theorem for_st {α : Type} {g : AGf} {tb : ASt'} {D : AEnds} {its : List Rk.D} (f : α → ASt) (B : α → AH) (W : Nat → α → Prop) {σ : ASt} {A : AH} (x0 : α) (h0 : σ = f x0) (hA : A = B x0) (w0 : W 0 x0)
    (hs : ∀ i d x, its[i]? = some d → W i x → g d (f x) (B x) fun σ2 A2 => tb { nx := fun σ' A' => ∃ y, σ' = f y ∧ A' = B y ∧ W (i + 1) y, ct := fun σ' A' => ∃ y, σ' = f y ∧ A' = B y ∧ W (i + 1) y, bk := D.nx, rt := D.rt } σ2 A2)
    (hd : ∀ x, W its.length x → D.nx (f x) (B x)) : forI g tb D none its σ A := by
  refine for_by (fun i σ A => ∃ x, σ = f x ∧ A = B x ∧ W i x) ⟨x0, h0, hA, w0⟩ (fun _ _ _ _ => trivial) ?_ ?_
  · rintro i d σ A hd ⟨x, rfl, rfl, w⟩
    exact hs i d x hd w
  · rintro σ A ⟨x, rfl, rfl, w⟩
    exact hd x w
/-- a loop over range, told by letters -/
theorem for_rg {α : Type} {g : AGf} {tb : ASt'} {D : AEnds} {lo : Int} {n : Nat} (f : α → ASt) (B : α → AH) (W : Nat → α → Prop) {σ : ASt} {A : AH} (x0 : α) (h0 : σ = f x0) (hA : A = B x0) (w0 : W 0 x0)
    (hs : ∀ i x, i < n → W i x → g (.int (lo + (i : Int))) (f x) (B x) fun σ2 A2 => tb { nx := fun σ' A' => ∃ y, σ' = f y ∧ A' = B y ∧ W (i + 1) y, ct := fun σ' A' => ∃ y, σ' = f y ∧ A' = B y ∧ W (i + 1) y, bk := D.nx, rt := D.rt } σ2 A2)
    (hd : ∀ x, W n x → D.nx (f x) (B x)) : forI g tb D none (rgD lo n) σ A := by
  refine for_st f B W x0 h0 hA w0 (fun i d x e w => ?_) (fun x w => hd x (by rwa [rgD_len] at w))
  have hi : i < n := by
    have := (List.getElem?_eq_some_iff.mp e).1
    rwa [rgD_len] at this
  rw [rgD_get hi] at e
  cases e
  exact hs i x hi w
/-- a comprehension that leaves the heap as it is: per item, kept or not, and the value -/
theorem lc_pure {g : AGf} {tt : ABt} {te : AT} {σ : ASt} {fin : Addr → List Rk.D → AH → Prop} {its : List Rk.D} {A : AH} (f : Rk.D → Option Rk.D) (hl : its.length ≤ 1000000)
    (hs : ∀ d ∈ its, ∀ A (Qy : Rk.D → AH → Prop) (Qn : AH → Prop), (∀ y, f d = some y → Qy y A) → (f d = none → Qn A) → g d σ A fun σ2 A2 => tt σ2 A2 fun b A3 => br b (te σ2 A3 Qy) (Qn A3))
    (h : ∀ p, A p = none → fin p (its.filterMap f) A) : lcI g tt te σ none fin its A := by
  unfold lcI
  intro p hp
  refine ⟨fun i acc A' => A' = A ∧ acc = (its.take i).filterMap f, ⟨rfl, by simp⟩, fun i acc A' w => ⟨by rw [w.1]; exact hp, trivial⟩, ?_, fun acc A' w => ?_⟩
  · rintro i d acc A' e ⟨rfl, rfl⟩
    have hi := (List.getElem?_eq_some_iff.mp e).1
    have et : its.take (i + 1) = its.take i ++ [d] := by rw [List.take_add_one, e]; rfl
    refine hs d (List.mem_of_getElem? e) _ _ _ (fun y hy => ?_) (fun hn => ?_)
    · refine ⟨?_, _, rfl, rfl, ?_⟩
      · have := List.length_filterMap_le f (its.take i)
        rw [List.length_take] at this
        omega
      · rw [et, List.filterMap_append, List.filterMap_cons, hy, List.filterMap_nil]
    · refine ⟨_, rfl, rfl, ?_⟩
      rw [et, List.filterMap_append, List.filterMap_cons, hn, List.filterMap_nil, List.append_nil]
  · obtain ⟨rfl, rfl⟩ := w
    rw [List.take_length]
    exact h p hp
theorem lc_map {g : AGf} {te : AT} {σ : ASt} {fin : Addr → List Rk.D → AH → Prop} {its : List Rk.D} {A : AH} (f : Rk.D → Rk.D) (hl : its.length ≤ 1000000)
    (hs : ∀ d ∈ its, ∀ A (Q : Rk.D → AH → Prop), Q (f d) A → g d σ A fun σ2 A2 => te σ2 A2 Q)
    (h : ∀ p, A p = none → fin p (its.map f) A) : lcI g aYes te σ none fin its A := by
  refine lc_pure (fun d => some (f d)) hl (fun d hd A Qy Qn hy _ => ?_) (fun p hp => by rw [List.filterMap_eq_map']; exact h p hp)
  have := hs d hd A (fun y A => Qy y A) (hy _ rfl)
  show g d σ A fun σ2 A2 => br true (te σ2 A2 Qy) (Qn A2)
  simp only [br_te]
  exact this
end
end Rk

namespace Rk
open PySem PySem.Spec L2
theorem wipe_get (vs : L2.St) : ∀ (is : List Nat) (j : Nat), (L2.wipe vs is)[j]? = if j ∈ is then (if j < vs.length then some none else none) else vs[j]?
  | [], j => by simp [L2.wipe]
  | i :: is, j => by
    unfold L2.wipe
    rw [List.getElem?_set, wipe_length]
    by_cases h : i = j
    · subst h
      simp
    · rw [if_neg h, wipe_get vs is j]
      have : (j ∈ i :: is) ↔ j ∈ is := by simp [Ne.symm h]
      simp only [this]
theorem out_wipe {sl is : List Nat} {vs vs' : L2.St} (h : Out sl (L2.wipe vs is) vs') (hs : ∀ i ∈ sl, i ∈ is) : L2.wipe vs' is = L2.wipe vs is := by
  apply List.ext_getElem?
  intro j
  have hl : vs'.length = vs.length := by rw [h.1, wipe_length]
  rw [wipe_get, wipe_get, hl]
  by_cases hj : j ∈ is
  · rw [if_pos hj, if_pos hj]
  · rw [if_neg hj, if_neg hj, h.2 j (fun z => hj (hs j z)), wipe_get, if_neg hj]
section
variable {K : PySem.W.Frag} {A A' : AH} {H H' : Hp} {p : Addr}
theorem adv_drop {o : AO} : Adv (aupd A p o) H A H := fun a u e1 e2 => by
  by_cases h : a = p
  · subst h; rw [aupd_same] at e1; cases e1
  · rw [aupd_ne h] at e1; exact ⟨e1, e2⟩
theorem hrep_drop {o : AO} (h : HRep K (aupd A p o) H) (e : A p = none) : HRep K A H := fun a u e1 => by
  have hn : a ≠ p := fun z => by rw [z, e] at e1; cases e1
  have q := h a u (by rw [aupd_ne hn]; exact e1)
  cases u with
  | lst ds =>
    obtain ⟨vs, h1, h2⟩ := q
    exact ⟨vs, h1, h2.adv adv_drop⟩
theorem rep_frozen {ds : List D} (h : HRep K (aupd A p (.lst ds)) H) (e : A p = none) : Rep K A H (.lst ds) (.ref p) := by
  obtain ⟨vs, h1, h2⟩ := h p _ aupd_same
  exact ⟨p, vs, rfl, ⟨e, h1⟩, h2.adv adv_drop⟩
theorem gdOk_upd {g : Gd} {o : AO} (h : gdOk g A) (e : A p = none) : gdOk g (aupd A p o) := by
  cases g with
  | none => trivial
  | some x =>
    have h : A x.1 = some (.lst x.2) := h
    have hn : x.1 ≠ p := fun z => by rw [z, e] at h; cases h
    show aupd A p o x.1 = _
    rw [aupd_ne hn]
    exact h
end
section
variable {X : Cx} {pos : Pos} {e tg iter elt : Expr} {ifs : List Expr} {scope : Scope} {own : List (Str × Nat)} {ti : AIt} {g : AGf} {tt : ABt} {te : AT} {sl : List Nat}
theorem lc_lift {K : PySem.W.Frag} (mi : ∀ σ A (Q Q' : List D → Gd → AH → Prop), (∀ l g A', Q l g A' → Q' l g A') → ti σ A Q → ti σ A Q') (mg : ∀ d σ A (Q Q' : ASt → AH → Prop), (∀ σ' A', Q σ' A' → Q' σ' A') → g d σ A Q → g d σ A Q') (mt : MonB tt) (me : MonE te) {vs : List Nat} (hsl : ∀ i ∈ sl, i ∈ vs)
    {σ : ASt} {sv : L2.St} {A : AH} {H : Hp} {F : Addr → List D → AH → Prop} {Q : VK} (hr : HRep K A H) (sr : SRep K A H σ sv)
    (hF : ∀ p acc A' H', A' p = none → Adv A H (aupd A' p (.lst acc)) H' → HRep K (aupd A' p (.lst acc)) H' → F p acc A' → Q (.ref p) H')
    (q : ti σ A fun its gd A1 => lcI g tt te (swipe σ vs) gd F its A1) :
    tLc (liftI K ti) (liftG K sl g) (liftB K tt) (liftE K te) vs sv H Q := by
  refine ⟨σ, A, hr, sr, mi _ _ _ _ (fun its gd A1 q J H1 a1 r1 ok D hD => ?_) q⟩
  unfold lcI at q
  obtain ⟨I, h0, h1, h2, h3⟩ := q D (r1.none hD)
  have new := adv_newT r1 hD (ds := []) (vs := []) rfl
  refine ⟨fun i m H' => m = its.length - i ∧ i ≤ its.length ∧ ∃ acc A', Adv A1 H1 (aupd A' D (.lst acc)) H' ∧ HRep K (aupd A' D (.lst acc)) H' ∧ I i acc A',
    ⟨its.length, rfl, Nat.zero_le _, [], A1, new.1, new.2, h0⟩, ?_⟩
  rintro i m H2 ⟨rfl, hi, acc, A2, a2, r2, q2⟩
  obtain ⟨n2, g2⟩ := h1 _ _ _ q2
  by_cases hlt : i < its.length
  · obtain ⟨_, go, yld⟩ := ok _ H2 a2 r2 (gdOk_upd g2 n2) i
    refine .inr ⟨go hlt, fun H' => ∃ acc A', Adv A1 H1 (aupd A' D (.lst acc)) H' ∧ HRep K (aupd A' D (.lst acc)) H' ∧ I (i + 1) acc A', fun H' n => ⟨its.length - (i + 1), by omega, rfl, hlt, n⟩, fun x H3 y => ?_⟩
    obtain ⟨a3, r3, x3⟩ := yld its[i] (List.getElem?_eq_getElem hlt) x H3 y
    have s3 := (sr.adv ((a1.trans a2).trans a3)).wipe vs
    refine ⟨its[i], swipe σ vs, _, r3, s3, x3, mg _ _ _ _ _ (fun σ4 A4 q4 v4 H4 a4 r4 s4 o4 => ⟨out_wipe o4 hsl, ?_⟩) (h2 i its[i] acc A2 (List.getElem?_eq_getElem hlt) q2)⟩
    refine ⟨σ4, A4, r4, s4, mt _ _ _ _ (fun b A5 q5 H5 a5 r5 => br_ite (br_mono q5 (fun q6 => ?_) fun q6 => ?_)) q4⟩
    · refine ⟨σ4, A5, r5, s4.adv a5, me _ _ _ _ (fun y A6 q7 v6 H6 a6 r6 x6 => ?_) q6⟩
      obtain ⟨hl, A7, e7, q7⟩ := q7
      subst e7
      obtain ⟨ws, h1, h2⟩ := r6 D _ aupd_same
      have st := adv_set r6 aupd_same (h2.append (Reps.one x6))
      rw [aupd_aupd] at st
      refine ⟨ws, h1, by rw [h2.length]; exact lt_ok hl, acc ++ [y], A7, ?_, st.2, q7⟩
      exact ((((a2.trans a3).trans a4).trans a5).trans a6).trans st.1
    · obtain ⟨A7, e7, q7⟩ := q6
      subst e7
      exact ⟨acc, A7, ((a2.trans a3).trans a4).trans a5, r5, q7⟩
  · have e : i = its.length := by omega
    subst e
    obtain ⟨st, _, _⟩ := ok _ H2 a2 r2 (gdOk_upd g2 n2) its.length
    exact .inl ⟨st (Nat.le_refl _), hF D acc A2 H2 n2 (a1.trans a2) r2 (h3 _ _ q2)⟩
theorem ae_lc (hc : X.calm = true) (hN : X.N.Nodup) (hi : AI X tg iter ti) (ok : BlkOk X.N X.env.scope scope own) (hsl : ∀ i ∈ sl, i ∈ own.map (·.2))
    (hg : ∀ (s : Shared) (H : Hp) (C : Addr) (cl : List (Str × Addr)) (fp : List Addr), AG (X.blk s H scope (compEnvC scope cl C X.env) fp) tg sl g)
    (ht : ∀ (s : Shared) (H : Hp) (C : Addr) (cl : List (Str × Addr)) (fp : List Addr), ATs (X.blk s H scope (compEnvC scope cl C X.env) fp) ifs tt)
    (he : ∀ (s : Shared) (H : Hp) (C : Addr) (cl : List (Str × Addr)) (fp : List Addr), AE (X.blk s H scope (compEnvC scope cl C X.env) fp) elt te) (hs : ∀ x, foldedSetIterable iter X.env x = pure x := by intro _; rfl) :
    AE X (.ListComp elt [⟨tg, iter, ifs, 0⟩] scope pos) (aLc ti g tt te (own.map (·.2))) := by
  have mg := (hg X.s_0 X.H_0 0 [] []).mono
  have mt := (ht X.s_0 X.H_0 0 [] []).mono
  have me := (he X.s_0 X.H_0 0 [] []).mono
  refine ⟨fun σ A Q Q' k q => hi.mono _ _ _ _ (fun its gd A1 q => lcI_mono q fun p l A => k _ _) q, ?_⟩
  refine pe_weak (pe_lc (g := liftG X.K sl g) (tt := liftB X.K tt) (te := liftE X.K te) hc hN hi.pi ok (fun s H C cl fp => (hg s H C cl fp).pg) (fun s H C cl fp => (ht s H C cl fp).pts) (fun s H C cl fp => (he s H C cl fp).pe) hs) fun sv H Q q => ?_
  obtain ⟨σ, A, hr, sr, q⟩ := q
  refine lc_lift (F := fun p acc A2 => post X.K A H Q (.lst acc) A2) hi.mono mg mt me hsl hr sr (fun p acc A' H' n a r q => ?_) q
  exact q _ _ (a.trans adv_drop) (hrep_drop r n) (rep_frozen r n)
theorem ae_lcM (hc : X.calm = true) (hN : X.N.Nodup) (hi : AI X tg iter ti) (ok : BlkOk X.N X.env.scope scope own) (hsl : ∀ i ∈ sl, i ∈ own.map (·.2))
    (hg : ∀ (s : Shared) (H : Hp) (C : Addr) (cl : List (Str × Addr)) (fp : List Addr), AG (X.blk s H scope (compEnvC scope cl C X.env) fp) tg sl g)
    (ht : ∀ (s : Shared) (H : Hp) (C : Addr) (cl : List (Str × Addr)) (fp : List Addr), ATs (X.blk s H scope (compEnvC scope cl C X.env) fp) ifs tt)
    (he : ∀ (s : Shared) (H : Hp) (C : Addr) (cl : List (Str × Addr)) (fp : List Addr), AE (X.blk s H scope (compEnvC scope cl C X.env) fp) elt te) (hs : ∀ x, foldedSetIterable iter X.env x = pure x := by intro _; rfl) :
    AE X (.ListComp elt [⟨tg, iter, ifs, 0⟩] scope pos) (aLcM ti g tt te (own.map (·.2))) := by
  have mg := (hg X.s_0 X.H_0 0 [] []).mono
  have mt := (ht X.s_0 X.H_0 0 [] []).mono
  have me := (he X.s_0 X.H_0 0 [] []).mono
  refine ⟨fun σ A Q Q' k q => hi.mono _ _ _ _ (fun its gd A1 q => lcI_mono q fun p l A => k _ _) q, ?_⟩
  refine pe_weak (pe_lc (g := liftG X.K sl g) (tt := liftB X.K tt) (te := liftE X.K te) hc hN hi.pi ok (fun s H C cl fp => (hg s H C cl fp).pg) (fun s H C cl fp => (ht s H C cl fp).pts) (fun s H C cl fp => (he s H C cl fp).pe) hs) fun sv H Q q => ?_
  obtain ⟨σ, A, hr, sr, q⟩ := q
  refine lc_lift (F := fun p acc A2 => post X.K A H Q (.ref p) (aupd A2 p (.lst acc))) hi.mono mg mt me hsl hr sr (fun p acc A' H' n a r q => ?_) q
  exact q _ _ a r rfl
/-- name = [..] -/
theorem as_setLc (i : Nat) {y : Str} {py spos : Pos} (hc : X.calm = true) (hN : X.N.Nodup) (hi : AI X tg iter ti) (ok : BlkOk X.N X.env.scope scope own) (hsl : ∀ i ∈ sl, i ∈ own.map (·.2))
    (hg : ∀ (s : Shared) (H : Hp) (C : Addr) (cl : List (Str × Addr)) (fp : List Addr), AG (X.blk s H scope (compEnvC scope cl C X.env) fp) tg sl g)
    (ht : ∀ (s : Shared) (H : Hp) (C : Addr) (cl : List (Str × Addr)) (fp : List Addr), ATs (X.blk s H scope (compEnvC scope cl C X.env) fp) ifs tt)
    (he : ∀ (s : Shared) (H : Hp) (C : Addr) (cl : List (Str × Addr)) (fp : List Addr), AE (X.blk s H scope (compEnvC scope cl C X.env) fp) elt te)
    (hsw : swapsWith (.ListComp elt [⟨tg, iter, ifs, 0⟩] scope pos) (some (.Name y py)) spos.line X.env = pure true) (hy : X.N[i]? = some y := by rfl) (hyl : X.env.scope.names.lookup y = some .local := by rfl) (hs : ∀ x, foldedSetIterable iter X.env x = pure x := by intro _; rfl) :
    AS X (.Assign [.Name y py] (.ListComp elt [⟨tg, iter, ifs, 0⟩] scope pos) spos) (sAsg (aLc ti g tt te (own.map (·.2))) (agN i)) := by
  have mg := (hg X.s_0 X.H_0 0 [] []).mono
  have mt := (ht X.s_0 X.H_0 0 [] []).mono
  have me := (he X.s_0 X.H_0 0 [] []).mono
  refine ⟨mon_asg (fun σ A Q Q' k q => hi.mono _ _ _ _ (fun its gd A1 q => lcI_mono q fun p l A => k _ _) q) (fun d σ A Q Q' k q => k _ _ q), ?_⟩
  refine ps_weak (ps_setLc (g := liftG X.K sl g) (tt := liftB X.K tt) (te := liftE X.K te) hc hN hy hyl hsw hi.pi ok (fun s H C cl fp => (hg s H C cl fp).pg) (fun s H C cl fp => (ht s H C cl fp).pts) (fun s H C cl fp => (he s H C cl fp).pe) hs) fun D sv H q => ?_
  obtain ⟨σ, A, hr, sr, q⟩ := q
  refine lc_lift (F := fun p acc A2 => (liftD X.K A H D).nx (sset σ i (.lst acc)) A2) hi.mono mg mt me hsl hr sr (fun p acc A' H' n a r q => ?_) q
  have a' := a.trans adv_drop
  exact q _ _ a' (hrep_drop r n) ((sr.adv a').set (rep_frozen r n) i)
theorem as_setLcM (i : Nat) {y : Str} {py spos : Pos} (hc : X.calm = true) (hN : X.N.Nodup) (hi : AI X tg iter ti) (ok : BlkOk X.N X.env.scope scope own) (hsl : ∀ i ∈ sl, i ∈ own.map (·.2))
    (hg : ∀ (s : Shared) (H : Hp) (C : Addr) (cl : List (Str × Addr)) (fp : List Addr), AG (X.blk s H scope (compEnvC scope cl C X.env) fp) tg sl g)
    (ht : ∀ (s : Shared) (H : Hp) (C : Addr) (cl : List (Str × Addr)) (fp : List Addr), ATs (X.blk s H scope (compEnvC scope cl C X.env) fp) ifs tt)
    (he : ∀ (s : Shared) (H : Hp) (C : Addr) (cl : List (Str × Addr)) (fp : List Addr), AE (X.blk s H scope (compEnvC scope cl C X.env) fp) elt te)
    (hsw : swapsWith (.ListComp elt [⟨tg, iter, ifs, 0⟩] scope pos) (some (.Name y py)) spos.line X.env = pure true) (hy : X.N[i]? = some y := by rfl) (hyl : X.env.scope.names.lookup y = some .local := by rfl) (hs : ∀ x, foldedSetIterable iter X.env x = pure x := by intro _; rfl) :
    AS X (.Assign [.Name y py] (.ListComp elt [⟨tg, iter, ifs, 0⟩] scope pos) spos) (sAsg (aLcM ti g tt te (own.map (·.2))) (agN i)) := by
  have mg := (hg X.s_0 X.H_0 0 [] []).mono
  have mt := (ht X.s_0 X.H_0 0 [] []).mono
  have me := (he X.s_0 X.H_0 0 [] []).mono
  refine ⟨mon_asg (fun σ A Q Q' k q => hi.mono _ _ _ _ (fun its gd A1 q => lcI_mono q fun p l A => k _ _) q) (fun d σ A Q Q' k q => k _ _ q), ?_⟩
  refine ps_weak (ps_setLc (g := liftG X.K sl g) (tt := liftB X.K tt) (te := liftE X.K te) hc hN hy hyl hsw hi.pi ok (fun s H C cl fp => (hg s H C cl fp).pg) (fun s H C cl fp => (ht s H C cl fp).pts) (fun s H C cl fp => (he s H C cl fp).pe) hs) fun D sv H q => ?_
  obtain ⟨σ, A, hr, sr, q⟩ := q
  refine lc_lift (F := fun p acc A2 => (liftD X.K A H D).nx (sset σ i (.ref p)) (aupd A2 p (.lst acc))) hi.mono mg mt me hsl hr sr (fun p acc A' H' n a r q => ?_) q
  exact q _ _ a r ((sr.adv a).set (d := .ref p) (v := .ref p) rfl i)
end

/-! ### methods of lists -/
section
variable {X : Cx} {pos apos cpos : Pos} {o e : Expr} {es : List Expr} {ta : AT} {tr : AAt}
/-- x.append(y) -/
def mAppend : D → List D → AH → DK → Prop
  | .ref p, [y], A, Q => ∃ ds, A p = some (.lst ds) ∧ ds.length ≤ 1000000 ∧ Q .non (aupd A p (.lst (ds ++ [y])))
  | _, _, _, _ => False
def aMeth (f : D → List D → AH → DK → Prop) (to : AT) (t : AAt) : AT := fun σ A Q => to σ A fun x A1 => (∃ p ds, x = .ref p ∧ A1 p = some (.lst ds)) ∧ t σ A1 fun ys A2 => f x ys A2 Q
structure AMeth (X : Cx) (id : String) (f : D → List D → AH → DK → Prop) : Prop where
  mono : ∀ x ys A (Q Q' : DK), (∀ d A', Q d A' → Q' d A') → f x ys A Q → f x ys A Q'
  m : MtR X id (fun x vs H Q => ∃ d ds A, HRep X.K A H ∧ Rep X.K A H d x ∧ Reps X.K A H ds vs ∧ f d ds A (post X.K A H Q))
theorem ae_meth {name : Str} {id : String} {f : D → List D → AH → DK → Prop} (hm : AMeth X id f) (ho : AE X o ta) (ha : AA X (e :: es) tr)
    (h : PE X (.Call (.Attribute o name apos) (e :: es) [] cpos) (tBM X.K "list" (fun x vs H Q => ∃ d ds A, HRep X.K A H ∧ Rep X.K A H d x ∧ Reps X.K A H ds vs ∧ f d ds A (post X.K A H Q)) (liftE X.K ta) (liftA X.K tr))) :
    AE X (.Call (.Attribute o name apos) (e :: es) [] cpos) (aMeth f ta tr) := by
  refine ⟨fun σ A Q Q' k q => ho.mono _ _ _ _ (fun x A1 q => ⟨q.1, ha.mono _ _ _ _ (fun ys A2 q => hm.mono _ _ _ _ _ k q) q.2⟩) q, pe_weak h fun vs H Q q => ?_⟩
  obtain ⟨σ, A, hr, sr, q⟩ := q
  refine ⟨σ, A, hr, sr, ho.mono _ _ _ _ (fun d A1 q v1 H1 a1 r1 e1 => ⟨?_, ?_⟩) q⟩
  · obtain ⟨⟨p, ds, e2, e3⟩, _⟩ := q
    subst e2
    cases (show v1 = V.ref p from e1)
    obtain ⟨ws, e4, _⟩ := r1 _ _ e3
    exact .inl ⟨rfl, _, SqL.of e4⟩
  · refine ⟨σ, A1, r1, sr.adv a1, ha.mono _ _ _ _ (fun ys A2 q us H2 a2 r2 e2 => ?_) q.2⟩
    exact ⟨d, ys, A2, r2, e1.adv a2, e2, hm.mono _ _ _ _ _ (fun d B q => post.adv (a1.trans a2) q) q⟩
theorem me_append : AMeth X "list.append" mAppend := by
  refine ⟨fun x ys A Q Q' k q => ?_, fun pins s σ H x vs v us Q I rx rs q => ?_⟩
  · unfold mAppend at q ⊢
    split at q <;> first | exact q.elim | exact ⟨q.choose, q.choose_spec.1, q.choose_spec.2.1, k _ _ q.choose_spec.2.2⟩
  · obtain ⟨d, ds, A, hr, rd, rr, q⟩ := q
    unfold mAppend at q
    split at q <;> first | exact q.elim | skip
    cases (show x = V.ref _ from rd)
    obtain ⟨y, rfl, ry⟩ := reps1 rr
    obtain ⟨l, e0, hl, q⟩ := q
    obtain ⟨ws, e1, r1⟩ := hr _ _ e0
    have st := adv_set hr e0 (r1.append (Reps.one ry))
    exact mt_append pins s σ H _ _ v us Q I rx rs ⟨_, ws, y, rfl, rfl, e1, by rw [r1.length]; exact lt_ok hl, q _ _ st.1 st.2 rfl⟩
theorem ae_append (ho : AE X o ta) (ha : AA X [e] tr)
    (hbase : attributeBase o "append" X.env (eval o X.env) = eval o X.env := by rfl)
    (hfew : ((backTo cpos (starEach (e :: []) X.env)).all (fun x => !x.1) && (backToKw cpos (keywordEach [] X.env)).all (fun x => x.1.isSome)
      && decide ((e :: []).length + ([] : List Keyword).length + (if ([] : List Keyword).isEmpty then 0 else 1) < 30)) = true := by rfl)
    (hline : (apos.endLine == cpos.line) = true := by rfl) (hs : starEach (e :: []) X.env = (false, eval e X.env) :: starEach [] X.env := by rfl) (hplain : (backTo cpos (starEach [] X.env)).any (·.1) = false := by rfl) :
    AE X (.Call (.Attribute o "append" apos) [e] [] cpos) (aMeth mAppend ta tr) :=
  ae_meth (apos := apos) (cpos := cpos) me_append ho ha (pe_bm PySem.F.plainAttrs_list PySem.F.slot_list_append PySem.F.type_list_append me_append.m ho.pe ha.pa hbase hfew hline hs hplain)
end

/-! ### a list that will change no more -/
theorem SRep.put {K : PySem.W.Frag} {A : AH} {H : Hp} {d : D} {v : V} (h : Rep K A H d v) : ∀ {σ : ASt} {vs : L2.St} (i : Nat), SRep K A H σ vs → vs[i]? = some (some v) → SRep K A H (sset σ i d) vs
  | [], _, _, r, _ => by subst r; rfl
  | _ :: _, _, 0, r, e => by
    obtain ⟨u, q, rfl, x, y⟩ := r
    simp at e
    subst e
    exact ⟨some v, q, rfl, h, y⟩
  | _ :: _, _, i + 1, r, e => by
    obtain ⟨u, q, rfl, x, y⟩ := r
    exact ⟨u, q, rfl, x, SRep.put h i y (by simpa using e)⟩
def sFrz (i : Nat) (t : ASt') : ASt' := fun D σ A => ∃ p ds A', slot σ i = some (.ref p) ∧ A = aupd A' p (.lst ds) ∧ A' p = none ∧ t D (sset σ i (.lst ds)) A'
theorem ss_frz {X : Cx} {sts : List Stmt} {t : ASt'} (i : Nat) (h : ASs X sts t) : ASs X sts (sFrz i t) := by
  refine ⟨fun D D' σ A k q => ?_, pss_weak h.pss fun D vs H q => ?_⟩
  · obtain ⟨p, ds, A', e1, e2, e3, q⟩ := q
    exact ⟨p, ds, A', e1, e2, e3, h.mono _ _ _ _ k q⟩
  · obtain ⟨σ, A, hr, sr, p, ds, A', e1, e2, e3, q⟩ := q
    subst e2
    obtain ⟨v, e4, r⟩ := sr.get e1
    cases (show v = V.ref p from r)
    exact ⟨sset σ i (.lst ds), A', hrep_drop hr e3, SRep.put (rep_frozen hr e3) i (sr.adv adv_drop) e4, h.mono _ _ _ _ (liftD.adv adv_drop) q⟩

/-! ### a def by its body -/
/-- what a def hands back: its lists that may change are left behind; a list that it hands back stands as it is -/
@[irreducible] def ret (Q : DK) : DK := fun d A' => ∃ d' A2, (∀ a o, A2 a = some o → A' a = some o) ∧ (d' = d ∨ ∃ p ds, d = .ref p ∧ d' = .lst ds ∧ A' p = some (.lst ds) ∧ A2 p = none) ∧ Q d' A2
theorem ret_same {A : AH} {Q : DK} {d : D} (h : Q d A) : ret Q d A := by unfold ret; exact ⟨d, A, fun _ _ e => e, .inl rfl, h⟩
theorem ret_frz {A : AH} {Q : DK} {p : Addr} {ds : List D} (n : A p = none) (h : Q (.lst ds) A) : ret Q (.ref p) (aupd A p (.lst ds)) := by
  unfold ret
  exact ⟨.lst ds, A, fun a o e => by rw [aupd_ne (fun z => by rw [z, n] at e; cases e)]; exact e, .inr ⟨p, ds, rfl, rfl, aupd_same, n⟩, h⟩
theorem ret_drop {A : AH} {Q : DK} {p : Addr} {o : AO} {d : D} (n : A p = none) (h : Q d A) : ret Q d (aupd A p o) := by
  unfold ret
  exact ⟨d, A, fun a u e => by rw [aupd_ne (fun z => by rw [z, n] at e; cases e)]; exact e, .inl rfl, h⟩
theorem ret_sub {A A2 : AH} {Q : DK} {d : D} (n : ∀ a o, A2 a = some o → A a = some o) (h : Q d A2) : ret Q d A := by unfold ret; exact ⟨d, A2, n, .inl rfl, h⟩
theorem ret_go {K : PySem.W.Frag} {A : AH} {H : Hp} {Q : VK} {d : D} {A' : AH} (h : ret (post K A H Q) d A') : post K A H Q d A' := fun v H' a r e => by
  unfold ret at h
  obtain ⟨d', A2, hs, hd, q⟩ := h
  have ad : Adv A' H' A2 H' := fun b o e1 e2 => by
    refine ⟨?_, e2⟩
    cases z : A2 b with
    | none => rfl
    | some u =>
      have z' := hs b u z
      rw [e1] at z'
      cases z'
  have r2 : HRep K A2 H' := fun b u e1 => by
    have := r b u (hs b u e1)
    cases u with
    | lst ds =>
      obtain ⟨ws, h1, h2⟩ := this
      exact ⟨ws, h1, h2.adv ad⟩
  refine q v H' (a.trans ad) r2 ?_
  rcases hd with rfl | ⟨p, ds, rfl, rfl, e1, e2⟩
  · exact e.adv ad
  · cases (show v = V.ref p from e)
    obtain ⟨ws, h1, h2⟩ := r p _ e1
    exact ⟨p, ws, rfl, ⟨e2, h1⟩, h2.adv ad⟩
section
variable {P : Program} {w : World} {K : PySem.W.Frag} {mg : Str → Option Value} {base : Heap}
/-- where a def stands -/
structure Def (K : PySem.W.Frag) (mg : Str → Option Value) (x : Str) (st : Stmt) (ps : List Str) : Prop where
  ex : ∃ (f : Addr) (fd : FuncData), mg x = some (.ref f) ∧ Binds K fd ps [] ∧ Fun K x x st f fd
theorem Def.ok {x : Str} {st : Stmt} {N ps : List Str} {k : Nat} {sp : List D → AH → DK → Prop} (F : Def K mg x st ps) (S : FnScope N ps (defScope st)) (mono : MonL sp) (len : ∀ ds A Q, sp ds A Q → ds.length = ps.length)
    (hbody : ∀ (f : Addr) (cdv : Value) (A : Around) (outer : List Env) (s : Shared) (H : Hp) (E : XK), Room k (A.deeper (PyProof.Rows.envOfC x (defScope st) s.heap.objs.size f cdv)) →
      ∃ t, ASs (cxOf CX0 P w K mg base N x (defScope st) f cdv A outer s H E).nox (defBody st) t ∧ ∀ ds B (Q : DK), sp ds B Q → t { nx := fun _ A' => ret Q .non A', rt := ret Q } (startD N.length ds) B) : AFn P w K mg base (k + 1) x sp := by
  obtain ⟨f, fd, h1, h2, h3⟩ := F.ex
  refine ⟨mono, f, fd, ps, h1, h3.kp, h2, h3.ok S (fun vs H Q E h => ?_) fun cdv A outer s H vs Q E hr h => ?_⟩
  · obtain ⟨ds, B, _, rs, h⟩ := h
    rw [rs.length]
    exact len _ _ _ h
  · obtain ⟨t, ht, hq⟩ := hbody f cdv A outer s H E hr
    refine ⟨_, ht.pss, ?_⟩
    obtain ⟨ds, B, hr', rs, h⟩ := h
    have e : startD N.length ds = startD N.length ds := rfl
    refine ⟨startD N.length ds, B, hr', ?_, ht.mono { nx := fun _ A' => ret (post K B H Q) .non A', rt := ret (post K B H Q) } _ _ _ ⟨fun σ A' q => ?_, fun d A' q => ?_, fun _ _ q => (show False from q).elim, fun _ _ q => (show False from q).elim⟩ (hq ds B _ h)⟩
    · unfold startD L2.start
      rw [rs.length]
      exact srep_start rs
    · exact fun vs2 H2 a2 r2 s2 => (ret_go q) _ _ a2 r2 rfl
    · exact ret_go q
end
end Rk

/-! x[::-1] of a tuple or a list -/
namespace Rk
open PySem PySem.Spec PyProof.Rows L2
theorem fm_congr {α β : Type} {f g : α → Option β} : ∀ {l : List α}, (∀ x ∈ l, f x = g x) → l.filterMap f = l.filterMap g
  | [], _ => rfl
  | x :: l, h => by
    rw [List.filterMap_cons, List.filterMap_cons, h x (List.mem_cons_self ..), fm_congr fun y hy => h y (List.mem_cons_of_mem _ hy)]
theorem rev_pick (xs : Array Value) : ((List.range xs.size).filterMap fun (m : Nat) => xs[(((xs.size : Int) - 1) + (m : Int) * (-1)).toNat]?).toArray = xs.toList.reverse.toArray := by
  congr 1
  refine List.ext_getElem? fun i => ?_
  have e : (List.range xs.size).filterMap (fun (m : Nat) => xs[(((xs.size : Int) - 1) + (m : Int) * (-1)).toNat]?) = (List.range xs.size).map fun m => xs.toList.getD (xs.size - 1 - m) .none := by
    rw [← List.filterMap_eq_map]
    refine fm_congr fun m hm => ?_
    have := List.mem_range.mp hm
    have e1 : (((xs.size : Int) - 1) + (m : Int) * (-1)).toNat = xs.size - 1 - m := by omega
    rw [e1]
    show _ = some (xs.toList.getD (xs.size - 1 - m) .none)
    rw [List.getD_eq_getElem?_getD, Array.getElem?_toList, Array.getElem?_eq_getElem (show xs.size - 1 - m < xs.size by omega)]
    rfl
  rw [e, List.getElem?_map]
  by_cases h : i < xs.size
  · rw [List.getElem?_range h, List.getElem?_reverse (by rw [Array.length_toList]; exact h)]
    show some (xs.toList.getD (xs.size - 1 - i) .none) = _
    rw [List.getD_eq_getElem?_getD, Array.length_toList, Array.getElem?_toList, Array.getElem?_eq_getElem (show xs.size - 1 - i < xs.size by omega)]
    rfl
  · rw [List.getElem?_eq_none (by rw [List.length_range]; omega), List.getElem?_eq_none (by rw [List.length_reverse, Array.length_toList]; omega)]
    rfl
theorem rev_adjust (n : Nat) : Builtin.Slice.sliceAdjust none none (-1) (n : Int) = ((n : Int) - 1, -1) := by
  unfold Builtin.Slice.sliceAdjust
  simp
theorem rev_places (n : Nat) : Builtin.Slice.slicePlaces ((n : Int) - 1) (-1) (-1) = n := by
  unfold Builtin.Slice.slicePlaces
  simp
  omega
section
variable {prog : Program} {w : World} {A : Around} {E : Value → Shared → Prop} {s : Shared}
theorem applied_rev {sl : Addr} {n : Nat} {vl vu vs : Value} {R : Int × Int × Nat → Shared → Prop} (hs : s.heap.IsSliceOf sl vl vu vs) (pl : IsPart vl none) (pu : IsPart vu none) (ps : IsPart vs (some (-1)))
    (hR : R ((n : Int) - 1, -1, n) s) : wpAny (model prog w) A (Builtin.Slice.sliceApplied (.ref sl) (pure (n : Int))) R E s := by
  obtain ⟨ob, h1, h2, h3⟩ := id hs
  unfold Builtin.Slice.sliceApplied Builtin.Slice.sliceFields
  refine wpAny_bind (wpAny_bind (wpAny_field h1 h3 (x := vl) rfl (wpAny_bind (wpAny_field h1 h3 (x := vu) rfl (wpAny_bind (wpAny_field h1 h3 (x := vs) rfl (wpAny_pure ?_)))))))
  refine wpAny_bind (HT.slicePart_ ps ?_)
  show wpAny _ _ (if ((-1 : Int) == 0) = true then _ else _) _ _ s
  rw [if_neg (by decide)]
  refine wpAny_bind (HT.slicePart_ pl (wpAny_bind (HT.slicePart_ pu (wpAny_bind (wpAny_pure ?_)))))
  show wpAny _ _ (match Builtin.Slice.sliceAdjust none none (-1) (n : Int) with | (lo, hi) => pure (lo, (-1 : Int), Builtin.Slice.slicePlaces lo hi (-1))) _ _ s
  rw [rev_adjust]
  show wpAny _ _ (pure ((n : Int) - 1, (-1 : Int), Builtin.Slice.slicePlaces ((n : Int) - 1) (-1) (-1))) _ _ s
  rw [rev_places]
  exact wpAny_pure hR
theorem cell_tuple_rev {t sl : Addr} {items : Array Value} {vl vu vs : Value} {Q : Value → Shared → Prop} (ht : IsTup s.heap t items) (hs : s.heap.IsSliceOf sl vl vu vs) (pl : IsPart vl none) (pu : IsPart vu none) (ps : IsPart vs (some (-1)))
    (h : Q (.ref s.heap.objs.size) { s with heap := s.heap.push { cls := .type "tuple", data := .seq items.toList.reverse.toArray } }) (hz : items.size ≤ sizeLine) : wpAny (model prog w) A (getItem (.ref t) (.ref sl)) Q E s := by
  have fits : sizeOk (.seq items.toList.reverse.toArray) := by
    show items.toList.reverse.toArray.size ≤ sizeLine
    rw [List.size_toArray, List.length_reverse, Array.length_toList]
    exact hz
  obtain ⟨ob, h1, h2, h3⟩ := id hs
  have isSlice : s.TypeIs (.ref sl) "slice" := ⟨ob, h1, h2⟩
  unfold getItem
  try with_reducible refine wpAny_holding ?_
  first | refine wpAny_bind (wpAny_pure ?_) | skip
  refine wpAny_bind (wpAny_sequenceKey ht.typeIs (by decide) ?_)
  refine wpAny_bind (wpAny_callSpecial?_slot (name := Str.ofString "__getitem__") ht.typeIs PyProof.Rows.slot_tuple_getitem (wpAny_call_entry PyProof.Rows.slot_tuple_getitem ht.typeIs entry_tuple_getitem ?_ (args_tuple_getitem _ _)))
  show wpAny _ _ (Builtin.Tuple.tupleItemsOf (.ref t) >>= _) _ _ s
  refine wpAny_bind (tupleItemsOf_ ht ?_)
  refine wpAny_bind (wpAny_typeOf isSlice ?_)
  rw [if_pos (by decide)]
  refine wpAny_bind (applied_rev hs pl pu ps ?_)
  have notWhole : ¬ (((items.size : Int) - 1 == 0 && (-1 : Int) == 1 && items.size == items.size) = true) := by
    rw [show ((-1 : Int) == 1) = false by decide, Bool.and_false, Bool.false_and]
    exact Bool.false_ne_true
  show wpAny _ _ (if ((items.size : Int) - 1 == 0 && (-1 : Int) == 1 && items.size == items.size) = true then _ else _) _ _ s
  rw [if_neg notWhole, rev_pick]
  first
    | exact wpAny_bind (m := Builtin.Tuple.tupleExact _) (wpAny_newObj_type (wpAny_pure ⟨_, rfl, wpAny_pure h⟩) fits)
    | exact wpAny_bind (m := Builtin.Tuple.tupleExact _) (wpAny_newObj_type (wpAny_bind (wpAny_pure (wpAny_pure ⟨_, rfl, wpAny_pure h⟩))) fits)
    | exact wpAny_bind (wpAny_bind (m := Builtin.Tuple.tupleExact _) (wpAny_newObj_type (wpAny_pure (wpAny_pure ⟨_, rfl, wpAny_pure h⟩)) fits))
    | exact wpAny_bind (wpAny_bind (m := Builtin.Tuple.tupleExact _) (wpAny_newObj_type (wpAny_pure ⟨_, rfl, wpAny_pure h⟩) fits))
end
/-- x[::-1], x a list or a tuple -/
def tRevA (K : PySem.W.Frag) (te : TE) : TE := fun σ H Q => te σ H fun x H1 => ∃ a xs, x = .ref a ∧ ((SqL K H1 a xs ∧ ∀ p, H1 p = none → Q (.ref p) (upd H1 p (.lst xs.reverse))) ∨ (SqT K H1 a xs ∧ ∀ p, H1 p = none → Q (.ref p) (upd H1 p (.tup xs.reverse))))
theorem pe_revA {X : Cx} {e : Expr} {te : TE} {k : Nat} {p1 p2 p3 pos : Pos} (he : PE X e te) : PE X (.Subscript e (.Slice none none (some (.UnaryOp .USub (.Constant (.int 1) k p1) p2)) p3) pos) (tRevA X.K te) := by
  refine ⟨fun pins s σ H Q I h => ?_⟩
  refine Subscript_ (thn (he.run pins s σ H _ I h) fun v s1 ⟨x, H1, I1, r1, q1⟩ => ?_)
  obtain ⟨a, xs, ex, q⟩ := q1
  subst ex
  cases r1
  have neg1 : PO X (some (.UnaryOp .USub (.Constant (.int 1) k p1) p2)) (tPart (tUn (rU fun i => .int (-i)) (tC (.int 1)))) := po_some (pe_un un_neg pe_int)
  refine wpAny_Slice (thn (po_none.run pins s1 σ H1 (fun o H2 => o = none ∧ H2 = H1) I1 ⟨rfl, rfl⟩) fun vl s2 ⟨l, H2, I2, pl, el, e2⟩ => ?_)
  subst el e2
  refine thn (po_none.run pins s2 σ H2 (fun o H3 => o = none ∧ H3 = H2) I2 ⟨rfl, rfl⟩) fun vu s3 ⟨u, H3, I3, pu, eu, e3⟩ => ?_
  subst eu e3
  refine thn (neg1.run pins s3 σ H3 (fun o H4 => o = some (-1) ∧ H4 = H3) I3 ⟨1, rfl, -1, rfl, rfl, rfl⟩) fun vs s4 ⟨o, H4, I4, ps, eo, e4⟩ => ?_
  subst eo e4
  have I5 : Inv X pins σ H4 { s4 with heap := s4.heap.push { cls := .type "slice", data := .fields #[vl, vu, vs] } } := I4.kept (t' := s4.toks) fun b ob q => Heap.get?_push_of_some _ q
  show wpAny (model X.prog X.w) X.A (subscriptTail e (.Slice none none (some (.UnaryOp .USub (.Constant (.int 1) k p1) p2)) p3) (.ref a) (.ref s4.heap.objs.size)) (EP X pins σ Q) X.xe { s4 with heap := s4.heap.push { cls := .type "slice", data := .fields #[vl, vu, vs] } }
  rcases q with ⟨hx, q⟩ | ⟨hx, q⟩
  · obtain ⟨its, r, ht, hz⟩ := I5.list hx
    have hlen := r.length
    refine tail_any (ops := [.ref a, .ref s4.heap.objs.size]) ht.isList.typeIs (PySem.slot_list_getitem.lookup) ?_ (by with_unfolding_all rfl)
    refine wpAny_getItem_list_slice ht.isList (Heap.IsSliceOf.new _ vl vu vs) pl pu ps (by decide) ?_ (by rw [List.size_toArray]; omega)
    rw [PySem.W.krv_pick]
    refine ⟨.ref _, _, I5.laid (t' := s4.toks) (o := .lst xs.reverse) (fun b ob q => Heap.get?_push_of_some _ q) (Nat.le_refl _) ?_, rfl, q _ (I5.hok.fresh (Nat.le_refl _))⟩
    exact ⟨by rw [List.length_reverse]; exact hz, _, 0, r.reverse, Heap.get?_push_size _ rfl⟩
  · obtain ⟨its, r, ht, hz⟩ := I5.tuple hx
    have hlen := r.length
    refine tail_any (ops := [.ref a, .ref s4.heap.objs.size]) ht.typeIs (PyProof.Rows.slot_tuple_getitem.lookup) ?_ (by with_unfolding_all rfl)
    refine cell_tuple_rev ht (Heap.IsSliceOf.new _ vl vu vs) pl pu ps ?_ (by rw [List.size_toArray]; omega)
    refine ⟨.ref _, _, I5.laid (t' := s4.toks) (o := .tup xs.reverse) (fun b ob q => Heap.get?_push_of_some _ q) (Nat.le_refl _) ?_, rfl, q _ (I5.hok.fresh (Nat.le_refl _))⟩
    exact ⟨by rw [List.length_reverse]; exact hz, _, r.reverse, IsTup.new _ _⟩
def aRev (te : AT) : AT := fun σ A Q => te σ A fun d A1 => match d with
  | .tup l => Q (.tup l.reverse) A1
  | .lst l => Q (.lst l.reverse) A1
  | _ => False
theorem ae_rev {X : Cx} {e : Expr} {ta : AT} {k : Nat} {p1 p2 p3 pos : Pos} (he : AE X e ta) : AE X (.Subscript e (.Slice none none (some (.UnaryOp .USub (.Constant (.int 1) k p1) p2)) p3) pos) (aRev ta) := by
  refine ⟨fun σ A Q Q' k q => he.mono _ _ _ _ (fun d A1 q => by cases d <;> first | exact q.elim | exact k _ _ q) q, pe_weak (pe_revA he.pe) fun vs H Q q => ?_⟩
  obtain ⟨σ, A, hr, sr, q⟩ := q
  refine ⟨σ, A, hr, sr, he.mono _ _ _ _ (fun d A1 q v1 H1 a1 r1 e1 => ?_) q⟩
  cases d with
  | tup dl =>
    obtain ⟨p, xs, rfl, t, r⟩ := e1
    exact ⟨p, xs, rfl, .inr ⟨t.sq, fun p' hp => q _ _ (a1.trans (adv_new r1 hp).1) (adv_new r1 hp).2 (rep_tup r1 hp r.rev)⟩⟩
  | lst dl =>
    obtain ⟨p, xs, rfl, t, r⟩ := e1
    exact ⟨p, xs, rfl, .inl ⟨t.sq, fun p' hp => q _ _ (a1.trans (adv_new r1 hp).1) (adv_new r1 hp).2 (rep_lst r1 hp r.rev)⟩⟩
  | _ => exact (show False from q).elim
end Rk

namespace Rk
open PySem PySem.Spec L2
/-! ### the end -/
structure DefIn (K : PySem.W.Frag) (x : Str) (st : Stmt) : Prop where
  ex : ∃ (f : Addr) (od an : Option Addr) (sl : Array (Option Value)) (oc kV dc pm cd ct : Value), PySem.W.nsIn K mainGlobals x = some (some (.ref f)) ∧
    K.lookup f = some ⟨oc, od, .func (PySem.W.fnOf x x (defArgs st) (defBody st) (defScope st) .none kV dc pm an cd ct), sl⟩ ∧ PySem.W.codeIn K cd x = true ∧ PySem.W.keepIn K (.ref f) = true
theorem defIn {K : PySem.W.Frag} {x : Str} {st : Stmt} {f : Addr} {od an : Option Addr} {sl : Array (Option Value)} {oc kV dc pm cd ct : Value} (a : PySem.W.nsIn K mainGlobals x = some (some (.ref f)))
    (l : K.lookup f = some ⟨oc, od, .func (PySem.W.fnOf x x (defArgs st) (defBody st) (defScope st) .none kV dc pm an cd ct), sl⟩) (c : PySem.W.codeIn K cd x = true) (k : PySem.W.keepIn K (.ref f) = true) : DefIn K x st :=
  ⟨f, od, an, sl, oc, kV, dc, pm, cd, ct, a, l, c, k⟩
theorem DefIn.def {K : PySem.W.Frag} {x : Str} {st : Stmt} {h : Heap} {mg : Str → Option Value} {ps : List Str} (D : DefIn K x st) (X : K.In h) (G : h.Ns mainGlobals mg)
    (b : ∀ (kV doc pm : Value) (an : Option Addr) (cdv ct : Value) (us : List Value), us.length = ps.length → bindArgs (PySem.W.fnOf x x (defArgs st) (defBody st) (defScope st) .none kV doc pm an cdv ct) ⟨us, []⟩ = pure (ps.zip us)) : Def K mg x st ps := by
  obtain ⟨f, od, an, sl, oc, kV, dc, pm, cd, ct, a, l, c, k⟩ := D.ex
  exact ⟨f, _, PySem.W.mg_of X G a, (fun_mk l c k).binds b, fun_mk l c k⟩
theorem globD_int {K : PySem.W.Frag} {x : Str} {h : Heap} {mg : Str → Option Value} {i : Int} {t : Tok} (X : K.In h) (G : h.Ns mainGlobals mg) (a : PySem.W.nsIn K mainGlobals x = some (some (.int i t))) : GlobD K mg x (.int i) :=
  ⟨_, .int i, PySem.W.mg_of X G a, ⟨t, rfl⟩, fun _ _ => rfl⟩
def spLaw : List D → AH → DK → Prop := fun ds A Q => ∃ ns : List Int, ds = [.scr ns] ∧ ns.length ≤ 63 ∧ ∀ A', Q (.bl true) A'
theorem spLaw_mono : MonL spLaw := fun ds A Q Q' k ⟨ns, e, h, q⟩ => ⟨ns, e, h, fun A' => k _ _ (q A')⟩
/-- the promise of law, from its body; its def known -/
theorem law_fn {P : Program} {w : World} {K : PySem.W.Frag} {mg : Str → Option Value} {base : Heap} {st : Stmt} {N : List Str} {k : Nat} {f : Addr} {fd : FuncData} (F : Fun K "law" "law" st f fd) (S : FnScope N ["script"] (defScope st))
    (hbody : ∀ (f : Addr) (cdv : Value) (A : Around) (outer : List Env) (s : Shared) (H : Hp) (E : XK), Room k (A.deeper (PyProof.Rows.envOfC "law" (defScope st) s.heap.objs.size f cdv)) →
      ∃ t, ASs (cxOf CX0 P w K mg base N "law" (defScope st) f cdv A outer s H E).nox (defBody st) t ∧ ∀ ds B (Q : DK), spLaw ds B Q → t { nx := fun _ A' => ret Q .non A', rt := ret Q } (startD N.length ds) B) :
    FnOk P w K mg base CX0 (k + 1) f fd ["script"] (fun vs H Q _ => liftL K spLaw vs H Q) := by
  refine F.ok S (fun vs H Q E h => ?_) fun cdv A outer s H vs Q E hr h => ?_
  · obtain ⟨ds, B, _, rs, ns, rfl, _⟩ := h
    rw [rs.length]
    rfl
  · obtain ⟨t, ht, hq⟩ := hbody f cdv A outer s H E hr
    refine ⟨_, ht.pss, ?_⟩
    obtain ⟨ds, B, hr', rs, h⟩ := h
    refine ⟨startD N.length ds, B, hr', ?_, ht.mono { nx := fun _ A' => ret (post K B H Q) .non A', rt := ret (post K B H Q) } _ _ _ ⟨fun σ A' q => ?_, fun d A' q => ?_, fun _ _ q => (show False from q).elim, fun _ _ q => (show False from q).elim⟩ (hq ds B _ h)⟩
    · unfold startD L2.start
      rw [rs.length]
      exact srep_start rs
    · exact fun vs2 H2 a2 r2 s2 => (ret_go q) _ _ a2 r2 rfl
    · exact ret_go q
theorem law_walk {l : PySem.W.OpenLaw} {q : Program} {loose : List Str} {XP : (Str → Option Value) → Heap → Prop} {YP : World → Heap → Prop} {d : DefRec} {K : Params → PySem.W.Frag} {st : Stmt} {k : Nat} (hn : l.most = some 63) (hdf : d.params.defaults = []) (hr : Room k callerA) (hd : d.name = "law")
    (hY : ∀ (w : World) (h : Heap), YP w h → (K w.params).In h)
    (hb : ∀ (kV doc pm : Value) (an : Option Addr) (cdv ct : Value) (u : Value), bindArgs (PySem.W.fnOf "law" "law" (defArgs st) (defBody st) (defScope st) .none kV doc pm an cdv ct) ⟨[u], []⟩ = pure [(("script" : Str), u)])
    (D : ∀ (w : World), DefIn (K w.params) "law" st)
    (F : ∀ (w : World) (mg : Str → Option Value) (h base : Heap), (K w.params).In h → h.Ns mainGlobals mg → ∀ (f : Addr) (fd : FuncData), Fun (K w.params) "law" "law" st f fd → FnOk l.prog w (K w.params) mg base CX0 k f fd ["script"] (fun vs H Q _ => liftL (K w.params) spLaw vs H Q)) :
    PySem.W.WalkO q loose XP YP l.row.toRowW d [] (fun f vs => PySem.call f vs) := by
  refine L2.walk_of (n := 63) (k := k) (x := "script") (CX := fun _ => CX0) (sp := fun w => fun vs H Q _ => liftL (K w.params) spLaw vs H Q) hn (by decide) hdf hr hY (fun w mg fa h KX G hmg => ?_) (fun w H a ns hl hO hS => ?_) fun _ _ _ _ _ z => z
  · obtain ⟨f, od, an, sl, oc, kV, dc, pm, cd, ct, a, l', c, k'⟩ := (D w).ex
    rw [hd] at hmg
    have e := hmg.symm.trans (PySem.W.mg_of KX G a)
    cases e
    refine ⟨_, fun s u => .of_eq (hb _ _ _ _ _ _ u), fun base _ _ => F w mg h base KX G _ _ (fun_mk l' c k')⟩
  · refine ⟨[.scr ns], fun _ => none, fun a o e => (nomatch e), ⟨.ref a, [], rfl, ⟨a, rfl, ?_⟩, rfl⟩, ns, rfl, hl, fun A' v H' _ _ r => r⟩
    rcases hS with hS | hS
    · exact .inl ⟨rfl, hS⟩
    · exact .inr hS
end Rk

namespace Rk
open PySem PySem.Spec L2
local macro_rules | `(tactic| walk_at "wh") => `(tactic| conv => whnf)
local macro_rules | `(tactic| walk_at "side") => `(tactic| first | omega | exact rfl | (unfold Dvs; omega) | (unfold Fac; omega) | exact Nat.le_of_ble_eq_true rfl | assumption | decide | (simp; done) | (simp; omega))
local macro_rules | `(tactic| walk_at "run") => `(tactic| ((conv => whnf); repeat ((first | refine br_yes (by rfl) ?_ | refine br_no (by rfl) ?_ | refine And.intro (by walk_at "side") ?_); conv => whnf)))
abbrev rets (Q : DK) : AEnds := { nx := fun _ A' => ret Q .non A', rt := ret Q }
/-! ### the cup -/
def Cup (A : AH) (p : Addr) : Prop := ∃ a b : Int, A p = some (.lst [.int a, .int b]) ∧ 0 ≤ a ∧ 0 ≤ b ∧ b < 4294967296
def Oth (A A' : AH) (p : Addr) : Prop := ∀ q, q ≠ p → A' q = A q
theorem Oth.upd {A : AH} {p : Addr} {o : AO} : Oth A (aupd A p o) p := fun q h => aupd_ne h
theorem Oth.trans {A A1 A2 : AH} {p : Addr} (h : Oth A A1 p) (g : Oth A1 A2 p) : Oth A A2 p := fun q n => (g q n).trans (h q n)
def spCup : List D → AH → DK → Prop := fun ds A Q => ∃ ns : List Int, ds = [.scr ns] ∧ ns.length ≤ 63 ∧ ∀ p A', A p = none → Cup A' p → Oth A A' p → Q (.ref p) A'
theorem spCup_mono : MonL spCup := fun ds A Q Q' k ⟨ns, e, l, h⟩ => ⟨ns, e, l, fun p A' h1 h2 h3 => k _ _ (h p A' h1 h2 h3)⟩
def spRoll : List D → AH → DK → Prop
  | [.ref p, .int m], A, Q => (Cup A p ∧ 0 < m ∧ m < 1000000000000000000000000000000) ∧ ∀ r A', 0 ≤ r → r < m → Cup A' p → Oth A A' p → Q (.int r) A'
  | _, _, _ => False
theorem spRoll_mono : MonL spRoll := fun ds A Q Q' k h => by
  unfold spRoll at h ⊢
  split at h <;> first | exact ⟨h.1, fun r A' h1 h2 h3 h4 => k _ _ (h.2 r A' h1 h2 h3 h4)⟩ | exact h.elim
def spSome : List D → AH → DK → Prop
  | [.ref p, .lst l], A, Q => (Cup A p ∧ 0 < l.length ∧ l.length ≤ 1000000) ∧ ∀ d A', d ∈ l → Cup A' p → Oth A A' p → Q d A'
  | [.ref p, .tup l], A, Q => (Cup A p ∧ 0 < l.length ∧ l.length ≤ 1000000) ∧ ∀ d A', d ∈ l → Cup A' p → Oth A A' p → Q d A'
  | _, _, _ => False
theorem spSome_mono : MonL spSome := fun ds A Q Q' k h => by
  unfold spSome at h ⊢
  split at h <;> first | exact ⟨h.1, fun r A' h1 h2 h3 => k _ _ (h.2 r A' h1 h2 h3)⟩ | exact h.elim
theorem spRoll_len {ds : List D} {A : AH} {Q : DK} (h : spRoll ds A Q) : ds.length = 2 := by
  unfold spRoll at h
  split at h <;> first | rfl | exact h.elim
theorem spSome_len {ds : List D} {A : AH} {Q : DK} (h : spSome ds A Q) : ds.length = 2 := by
  unfold spSome at h
  split at h <;> first | rfl | exact h.elim
def tCup (c1 c2 c3 c4 c5 : Int) : ASt' :=
  (sSeq (sAsg (aCall cAbs (aCons (aOp aIx (aOp aAdd (aCall cLst (aCons (aVar 0) aNil)) (aLst (aCons (aC (.int 0)) aNil))) (aC (.int 0))) aNil)) (agN 1))
    (sRet (aLstM (aCons (aIf (aTest (aOp aGe (aVar 1) (aOp aPow (aC (.int 10)) (aC (.int 18))))) (aOp aFDiv (aVar 1) (aC (.int c1))) (aC (.int 0))) (aCons (aOp aAdd (aOp aMod (aCall cInt (aCons (aOp aAdd (aOp aMul (aVar 1) (aC (.int c2))) (aC (.int c3))) aNil)) (aC (.int c4))) (aC (.int c5))) aNil)))))
theorem r_cup {c1 c2 c3 c4 c5 : Int} (h1 : 0 < c1 ∧ c1 < 10000) (h2 : 0 < c2 ∧ c2 < 1000000) (h3 : 0 < c3) (h4 : 0 < c4 ∧ c4 < 3000000000) (h5 : 0 ≤ c5 ∧ c5 < 100000) : ∀ ds B (Q : DK), spCup ds B Q → tCup c1 c2 c3 c4 c5 (rets Q) (startD 2 ds) B := by
  rintro _ B Q ⟨ns, rfl, hl, h⟩
  unfold tCup
  walk_at "wh"
  refine ⟨by decide, ?_⟩
  walk_at "wh"
  refine ⟨by simp; omega, ?_⟩
  walk_at "wh"
  obtain ⟨c, hc⟩ : ∃ c, ixD (ns.map D.int ++ [D.int 0]) 0 = some (.int c) := by
    cases ns with
    | nil => exact ⟨0, rfl⟩
    | cons n ns => exact ⟨n, rfl⟩
  refine optK_of hc ?_
  walk_at "wh"
  refine ⟨by decide, ?_⟩
  generalize hn : ((c.natAbs : Nat) : Int) = n
  have h0 : 0 ≤ n := by omega
  have last : ∀ x : Int, 0 ≤ x → ∀ p, B p = none → ret Q (.ref p) (aupd B p (.lst [.int x, .int ((n * c2 + c3) % c4 + c5)])) := fun x hx p hp => by
    have e1 := Int.emod_nonneg (n * c2 + c3) (show c4 ≠ 0 by omega)
    have e2 := Int.emod_lt_of_pos (n * c2 + c3) h4.1
    exact ret_same (h p _ hp ⟨_, _, aupd_same, hx, by omega, by omega⟩ Oth.upd)
  refine br_dec (fun _ => ?_) (fun _ => ?_)
  · walk_at "wh"
    refine ⟨⟨h1.1, by omega⟩, ?_⟩
    walk_at "wh"
    refine ⟨.inr (.inl (by omega)), ?_⟩
    walk_at "wh"
    refine ⟨h4.1, ?_⟩
    walk_at "wh"
    refine ⟨by simp, ?_⟩
    exact last _ (Int.ediv_nonneg h0 (by omega))
  · walk_at "wh"
    refine ⟨.inr (.inl (by omega)), ?_⟩
    walk_at "wh"
    refine ⟨h4.1, ?_⟩
    walk_at "wh"
    refine ⟨by simp, ?_⟩
    exact last _ (by decide)
def tRoll (c1 c2 c3 c4 c5 c6 : Int) : ASt' :=
  (sSeq (sIf (aTest (aOp aGt (aOp aIx (aVar 0) (aC (.int 0))) (aC (.int 0)))) (sSeq (sAsg (aOp aMod (aCall cInt (aCons (aOp aIx (aVar 0) (aC (.int 0))) aNil)) (aVar 1)) (agN 2))
    (sSeq (sAsg (aOp aFDiv (aOp aIx (aVar 0) (aC (.int 0))) (aVar 1)) (agS (aVar 0) (aC (.int 0))))
    (sRet (aVar 2)))) sNext)
    (sSeq (sAsg (aOp aMod (aCall cInt (aCons (aOp aAdd (aOp aMul (aOp aIx (aVar 0) (aC (.int 1))) (aC (.int c1))) (aC (.int c2))) aNil)) (aC (.int c3))) (agS (aVar 0) (aC (.int 1))))
    (sSeq (sAsg (aOp aMod (aCall cInt (aCons (aOp aMul (aOp aIx (aVar 0) (aC (.int 1))) (aOp aAdd (aOp aIx (aVar 0) (aC (.int 1))) (aC (.int c4)))) aNil)) (aC (.int c5))) (agN 3))
    (sRet (aOp aMod (aCall cInt (aCons (aOp aFDiv (aVar 3) (aC (.int c6))) aNil)) (aVar 1))))))
theorem r_roll {c1 c2 c3 c4 c5 c6 : Int} (h1 : 0 < c1 ∧ c1 < 1000000) (h2 : 0 < c2) (h3 : 0 < c3 ∧ c3 < 4294967296) (h5 : 0 < c5 ∧ c5 < 4294967296) (h6 : 0 < c6 ∧ c6 < 100000) : ∀ ds B (Q : DK), spRoll ds B Q → tRoll c1 c2 c3 c4 c5 c6 (rets Q) (startD 4 ds) B := by
  intro ds B Q h0
  unfold spRoll at h0
  split at h0 <;> first | exact h0.elim | skip
  rename_i p m
  obtain ⟨⟨⟨a, b, hA, ha, hb, hb2⟩, hm⟩, h⟩ := h0
  unfold tRoll
  walk_at "wh"
  refine ⟨_, hA, ?_⟩
  walk_at "wh"
  refine br_dec (fun g => ?_) (fun g => ?_)
  · walk_at "wh"
    refine ⟨_, hA, ?_⟩
    walk_at "wh"
    refine ⟨hm.1, ?_⟩
    walk_at "wh"
    refine ⟨_, hA, ?_⟩
    walk_at "wh"
    refine ⟨⟨hm.1, by omega⟩, ?_⟩
    walk_at "wh"
    refine ⟨_, hA, ?_⟩
    walk_at "wh"
    refine ret_same (h _ _ (Int.emod_nonneg _ (by omega)) (Int.emod_lt_of_pos _ hm.1) ⟨_, _, aupd_same, Int.ediv_nonneg ha (by omega), hb, hb2⟩ Oth.upd)
  · walk_at "wh"
    refine ⟨_, hA, ?_⟩
    walk_at "wh"
    refine ⟨.inr (.inl (by omega)), ?_⟩
    walk_at "wh"
    refine ⟨h3.1, ?_⟩
    walk_at "wh"
    refine ⟨_, hA, ?_⟩
    have e1 := Int.emod_nonneg (b * c1 + c2) (show c3 ≠ 0 by omega)
    have e2 := Int.emod_lt_of_pos (b * c1 + c2) h3.1
    walk_at "wh"
    refine ⟨_, aupd_same, ?_⟩
    walk_at "wh"
    refine ⟨_, aupd_same, ?_⟩
    walk_at "wh"
    refine ⟨.inl (by omega), ?_⟩
    walk_at "wh"
    refine ⟨h5.1, ?_⟩
    walk_at "wh"
    refine ⟨⟨h6.1, by omega⟩, ?_⟩
    walk_at "wh"
    refine ⟨hm.1, ?_⟩
    walk_at "wh"
    refine ret_same (h _ _ (Int.emod_nonneg _ (by omega)) (Int.emod_lt_of_pos _ hm.1) ⟨_, _, aupd_same, ha, e1, by omega⟩ Oth.upd)
def tSome (sp : List D → AH → DK → Prop) : ASt' := (sRet (aOp aIx (aVar 1) (aCall sp (aCons (aVar 0) (aCons (aCall cLen (aCons (aVar 1) aNil)) aNil)))))
theorem r_some : ∀ ds B (Q : DK), spSome ds B Q → tSome spRoll (rets Q) (startD 2 ds) B := by
  intro ds B Q h0
  have main : ∀ (p : Addr) (l : List D), ((Cup B p ∧ 0 < l.length ∧ l.length ≤ 1000000) ∧ ∀ d A', d ∈ l → Cup A' p → Oth B A' p → Q d A') → (Cup B p ∧ 0 < (l.length : Int) ∧ (l.length : Int) < 1000000000000000000000000000000) ∧ ∀ r A', 0 ≤ r → r < (l.length : Int) → Cup A' p → Oth B A' p → optK (ixD l r) fun d => ret Q d A' := fun p l ⟨⟨c, hl⟩, h⟩ => by
    refine ⟨⟨c, by omega⟩, fun r A' h0 h1 c' o' => ?_⟩
    obtain ⟨k, rfl⟩ := Int.eq_ofNat_of_zero_le h0
    have hk : k < l.length := by omega
    refine optK_of (ixD_nat (List.getElem?_eq_getElem hk)) ?_
    exact ret_same (h _ _ (List.getElem_mem hk) c' o')
  unfold spSome at h0
  split at h0 <;> first | exact h0.elim | skip
  · unfold tSome
    walk_at "wh"
    exact main _ _ h0
  · unfold tSome
    walk_at "wh"
    exact main _ _ h0
/-! ### whether two values are alike -/
mutual
def plD : Nat → D → Bool
  | _, .non => true
  | _, .bl _ => true
  | _, .int _ => true
  | n + 1, .tup ds => decide (ds.length ≤ 1000000) && plDs n ds
  | n + 1, .lst ds => decide (ds.length ≤ 1000000) && plDs n ds
  | _, _ => false
def plDs : Nat → List D → Bool
  | _, [] => true
  | n, d :: ds => plD n d && plDs n ds
end
theorem plD_tup {n : Nat} {ds : List D} (h : plD n (.tup ds) = true) : ∃ m, n = m + 1 ∧ ds.length ≤ 1000000 ∧ plDs m ds = true := by
  cases n with
  | zero => simp [plD] at h
  | succ m => exact ⟨m, rfl, by simpa [plD] using h⟩
theorem plD_lst {n : Nat} {ds : List D} (h : plD n (.lst ds) = true) : ∃ m, n = m + 1 ∧ ds.length ≤ 1000000 ∧ plDs m ds = true := by
  cases n with
  | zero => simp [plD] at h
  | succ m => exact ⟨m, rfl, by simpa [plD] using h⟩
theorem plDs_get : ∀ {n : Nat} {ds : List D} {i : Nat} {d : D}, plDs n ds = true → ds[i]? = some d → plD n d = true
  | _, [], _, _, _, h => by simp at h
  | n, x :: ds, 0, d, h, e => by
    simp [plDs] at h e
    rw [← e]; exact h.1
  | n, x :: ds, i + 1, d, h, e => by
    simp [plDs] at h e
    exact plDs_get h.2 e
def spSame (n : Nat) : List D → AH → DK → Prop
  | [d, e], A, Q => (d = e ∧ plD n e = true) ∧ Q (.bl true) A
  | _, _, _ => False
theorem spSame_mono {n : Nat} : MonL (spSame n) := fun ds A Q Q' k h => by
  unfold spSame at h ⊢
  split at h <;> first | exact ⟨h.1, k _ _ h.2⟩ | exact h.elim
theorem spSame_get {n : Nat} {ds : List D} {A : AH} {Q : DK} (h : spSame n ds A Q) : ∃ d e, ds = [d, e] ∧ d = e ∧ plD n e = true ∧ Q (.bl true) A := by
  unfold spSame at h
  split at h <;> first | exact ⟨_, _, rfl, h.1.1, h.1.2, h.2⟩ | exact h.elim
def tSame (sp : List D → AH → DK → Prop) : ASt' :=
  (sSeq (sIf (aOr (aTruE (aIsI "tuple" (aVar 1))) (aTruE (aIsI "list" (aVar 1)))) (sSeq (sIf (aOr (aTest (aOp aNe (aIsI "tuple" (aVar 0)) (aIsI "tuple" (aVar 1)))) (aOr (aTest (aOp aNe (aIsI "list" (aVar 0)) (aIsI "list" (aVar 1)))) (aTest (aOp aNe (aCall cLen (aCons (aVar 0) aNil)) (aCall cLen (aCons (aVar 1) aNil)))))) (sRet (aC (.bl false))) sNext)
    (sRet (aOp aEq (aLc (iRange1 (aCons (aCall cLen (aCons (aVar 1) aNil)) aNil)) (agN 2) (aNot (aTruE (aCall sp (aCons (aOp aIx (aVar 0) (aVar 2)) (aCons (aOp aIx (aVar 1) (aVar 2)) aNil))))) (aC (.int 1)) [2]) (aLst aNil)))) sNext)
    (sSeq (sIf (aTest (aOp aIs (aVar 1) (aC .non))) (sRet (aOp aIs (aVar 0) (aC .non))) sNext)
    (sSeq (sIf (aTruE (aIsI "bool" (aVar 1))) (sRet (aIf (aTruE (aVar 1)) (aOp aIs (aVar 0) (aC (.bl true))) (aOp aIs (aVar 0) (aC (.bl false))))) sNext)
    (sSeq (sIf (aTruE (aIsI "int" (aVar 1))) (sRet (aAndV (aIsI "int" (aVar 0)) (aAndV (aNotV (aIsI "bool" (aVar 0))) (aOp aEq (aCall cInt (aCons (aVar 0) aNil)) (aVar 1))))) sNext)
    sNever))))
theorem same_its {sp : List D → AH → DK → Prop} {ds es : List D} {x : D} {y : D} (hx : x = .tup ds ∨ x = .lst ds) (B : AH) {F : Addr → List D → AH → Prop} (n : Nat) (hl : ds.length ≤ 1000000) (hp : plDs n ds = true) (hsp : sp = spSame n) (q : ∀ p, F p [] B) :
    lcI (agN 2) (aNot (aTruE (aCall sp (aCons (aOp aIx (aVar 0) (aVar 2)) (aCons (aOp aIx (aVar 1) (aVar 2)) aNil))))) (aC (.int 1)) [some x, some x, none] none F (rgD 0 ds.length) B := by
  subst hsp
  refine lc_pure (fun _ => none) (by rw [rgD_len]; exact hl) (fun d hd A Qy Qn _ hn => ?_) (fun p hp => by
    have : (rgD 0 ds.length).filterMap (fun _ => (none : Option D)) = [] := by
      rw [List.filterMap_eq_nil_iff]
      intro _ _
      rfl
    rw [this]
    exact q p)
  obtain ⟨i, hi⟩ := List.getElem?_of_mem hd
  have hi' : i < ds.length := by
    have := (List.getElem?_eq_some_iff.mp hi).1
    rwa [rgD_len] at this
  rw [rgD_get hi'] at hi
  cases hi
  have e0 : (0 : Int) + (i : Int) = (i : Int) := Int.zero_add _
  rw [e0]
  have hix : ixD ds (i : Int) = some ds[i] := ixD_nat (List.getElem?_eq_getElem hi')
  rcases hx with rfl | rfl
  · walk_at "run"
    refine optK_of hix ?_
    walk_at "run"
    refine optK_of hix ?_
    walk_at "run"
    refine ⟨⟨rfl, plDs_get hp (List.getElem?_eq_getElem hi')⟩, ?_⟩
    walk_at "run"
    exact hn rfl
  · walk_at "run"
    refine optK_of hix ?_
    walk_at "run"
    refine optK_of hix ?_
    walk_at "run"
    refine ⟨⟨rfl, plDs_get hp (List.getElem?_eq_getElem hi')⟩, ?_⟩
    walk_at "run"
    exact hn rfl
theorem r_same (n : Nat) {sp : List D → AH → DK → Prop} (hsp : ∀ m, n = m + 1 → sp = spSame m) : ∀ ds B (Q : DK), spSame n ds B Q → tSame sp (rets Q) (startD 3 ds) B := by
  intro ds B Q h0
  obtain ⟨d, e, rfl, rfl, hp, h⟩ := spSame_get h0
  unfold tSame
  cases d with
  | non =>
    walk_at "run"
    exact ret_same h
  | bl b =>
    walk_at "run"
    cases b with
    | true => walk_at "run"; exact ret_same h
    | false => walk_at "run"; exact ret_same h
  | int i =>
    walk_at "run"
    rw [decide_eq_true rfl]
    exact ret_same h
  | str x => cases n <;> simp [plD] at hp
  | ref x => cases n <;> simp [plD] at hp
  | scr x => cases n <;> simp [plD] at hp
  | tup ds =>
    obtain ⟨m, rfl, hl, hp⟩ := plD_tup hp
    walk_at "run"
    rw [decide_eq_true (rfl : ((ds.length : Int) = ds.length))]
    walk_at "run"
    rw [Int.toNat_natCast]
    refine same_its (es := ds) (y := .non) (.inl rfl) B m hl hp (hsp m rfl) fun p => ?_
    walk_at "run"
    exact ret_same h
  | lst ds =>
    obtain ⟨m, rfl, hl, hp⟩ := plD_lst hp
    walk_at "run"
    rw [decide_eq_true (rfl : ((ds.length : Int) = ds.length))]
    walk_at "run"
    rw [Int.toNat_natCast]
    refine same_its (es := ds) (y := .non) (.inr rfl) B m hl hp (hsp m rfl) fun p => ?_
    walk_at "run"
    exact ret_same h
section
variable {P : Program} {w : World} {K : PySem.W.Frag} {mg : Str → Option Value} {base : Heap}
theorem AFn.none {x : Str} {st : Stmt} {ps : List Str} {k : Nat} (F : Def K mg x st ps) : AFn P w K mg base k x (fun _ _ _ => False) := by
  obtain ⟨f, fd, h1, h2, h3⟩ := F.ex
  have no : ∀ vs H Q, ¬ liftL K (fun _ _ _ => False) vs H Q := fun vs H Q ⟨_, _, _, _, h⟩ => h
  exact ⟨fun _ _ _ _ _ h => h.elim, f, fd, ps, h1, h3.kp, h2, ⟨fun vs H Q E h => absurd h (no vs H Q), fun A outer s H args us vs Q E _ _ _ _ h => absurd h (no vs H Q)⟩⟩
theorem same_fn {st : Stmt} {N : List Str} (F : Def K mg "_law_same" st ["told", "due"]) (hN : N.length = 3) (S : FnScope N ["told", "due"] (defScope st))
    (hb : ∀ (k : Nat) (sp : List D → AH → DK → Prop), AFn P w K mg base k "_law_same" sp → ∀ (f : Addr) (cdv : Value) (A : Around) (outer : List Env) (s : Shared) (H : Hp) (E : XK), Room k (A.deeper (PyProof.Rows.envOfC "_law_same" (defScope st) s.heap.objs.size f cdv)) →
      ASs (cxOf CX0 P w K mg base N "_law_same" (defScope st) f cdv A outer s H E).nox (defBody st) (tSame sp)) : ∀ n, AFn P w K mg base (n + 1) "_law_same" (spSame n)
  | 0 => F.ok S spSame_mono (fun ds A Q h => by obtain ⟨d, e, h, _⟩ := spSame_get h; rw [h]; rfl) fun f cdv A outer s H E hr => ⟨_, hb 0 _ (AFn.none F) f cdv A outer s H E hr, fun ds B Q h => by rw [hN]; exact r_same 0 (fun m e => by cases e) ds B Q h⟩
  | n + 1 => F.ok S spSame_mono (fun ds A Q h => by obtain ⟨d, e, h, _⟩ := spSame_get h; rw [h]; rfl) fun f cdv A outer s H E hr => ⟨_, hb (n + 1) _ (same_fn F hN S hb n) f cdv A outer s H E hr, fun ds B Q h => by rw [hN]; exact r_same (n + 1) (fun m e => by cases e; rfl) ds B Q h⟩
end
/-! ### whether a number fits -/
def spFits : List D → AH → DK → Prop
  | [.int v, .int lo, .int hi], A, Q => Q (.bl (decide (lo ≤ v) && decide (v ≤ hi))) A
  | [.bl _, .int _, .int _], A, Q => Q (.bl false) A
  | [.non, .int _, .int _], A, Q => Q (.bl false) A
  | [.tup _, .int _, .int _], A, Q => Q (.bl false) A
  | [.lst _, .int _, .int _], A, Q => Q (.bl false) A
  | [.str _, .int _, .int _], A, Q => Q (.bl false) A
  | _, _, _ => False
theorem spFits_mono : MonL spFits := fun ds A Q Q' k h => by
  unfold spFits at h ⊢
  split at h <;> first | exact k _ _ h | exact h.elim
theorem spFits_len {ds : List D} {A : AH} {Q : DK} (h : spFits ds A Q) : ds.length = 3 := by
  unfold spFits at h
  split at h <;> first | rfl | exact h.elim
def tFits : ASt' := (sRet (aAndV (aIsI "int" (aVar 0)) (aAndV (aNotV (aIsI "bool" (aVar 0))) (aChain aLe aLe (aVar 1) (aVar 0) (aVar 2)))))
theorem r_fits : ∀ ds B (Q : DK), spFits ds B Q → tFits (rets Q) (startD 3 ds) B := by
  intro ds B Q h
  unfold spFits at h
  split at h <;> first | exact h.elim | skip
  · unfold tFits
    walk_at "run"
    refine br_dec (fun g => ?_) (fun g => ?_)
    · walk_at "run"
      rw [decide_eq_true g, Bool.true_and] at h
      exact ret_same h
    · walk_at "run"
      rw [decide_eq_false g, Bool.false_and] at h
      exact ret_same h
  all_goals
    unfold tFits
    walk_at "run"
    exact ret_same h
def spNeedW : List D → AH → DK → Prop
  | [.int v, .int lo, .int hi], A, Q => (lo ≤ v ∧ v ≤ hi) ∧ Q .non A
  | _, _, _ => False
theorem spNeedW_mono : MonL spNeedW := fun ds A Q Q' k h => by
  unfold spNeedW at h ⊢
  split at h <;> first | exact ⟨h.1, k _ _ h.2⟩ | exact h.elim
theorem spNeedW_len {ds : List D} {A : AH} {Q : DK} (h : spNeedW ds A Q) : ds.length = 3 := by
  unfold spNeedW at h
  split at h <;> first | rfl | exact h.elim
def tNeedW (sp : List D → AH → DK → Prop) : ASt' := (sIf (aNot (aTruE (aCall sp (aCons (aVar 0) (aCons (aVar 1) (aCons (aVar 2) aNil)))))) sNever sNext)
theorem r_needW : ∀ ds B (Q : DK), spNeedW ds B Q → tNeedW spFits (rets Q) (startD 3 ds) B := by
  intro ds B Q h
  unfold spNeedW at h
  split at h <;> first | exact h.elim | skip
  unfold tNeedW
  walk_at "run"
  rw [decide_eq_true h.1.1, decide_eq_true h.1.2]
  walk_at "run"
  exact ret_same h.2
def spTupOf : List D → AH → DK → Prop
  | [.tup l, .int lo, .int hi], A, Q => Q (.bl (decide (lo ≤ (l.length : Int)) && decide ((l.length : Int) ≤ hi))) A
  | [.bl _, .int _, .int _], A, Q => Q (.bl false) A
  | [.non, .int _, .int _], A, Q => Q (.bl false) A
  | [.int _, .int _, .int _], A, Q => Q (.bl false) A
  | [.lst _, .int _, .int _], A, Q => Q (.bl false) A
  | [.str _, .int _, .int _], A, Q => Q (.bl false) A
  | _, _, _ => False
theorem spTupOf_mono : MonL spTupOf := fun ds A Q Q' k h => by
  unfold spTupOf at h ⊢
  split at h <;> first | exact k _ _ h | exact h.elim
theorem spTupOf_len {ds : List D} {A : AH} {Q : DK} (h : spTupOf ds A Q) : ds.length = 3 := by
  unfold spTupOf at h
  split at h <;> first | rfl | exact h.elim
def tTupOf : ASt' := (sRet (aAndV (aIsI "tuple" (aVar 0)) (aChain aLe aLe (aVar 1) (aCall cLen (aCons (aVar 0) aNil)) (aVar 2))))
theorem r_tupOf : ∀ ds B (Q : DK), spTupOf ds B Q → tTupOf (rets Q) (startD 3 ds) B := by
  intro ds B Q h
  unfold spTupOf at h
  split at h <;> first | exact h.elim | skip
  · unfold tTupOf
    walk_at "run"
    refine br_dec (fun g => ?_) (fun g => ?_)
    · walk_at "run"
      rw [decide_eq_true g, Bool.true_and] at h
      exact ret_same h
    · walk_at "run"
      rw [decide_eq_false g, Bool.false_and] at h
      exact ret_same h
  all_goals
    unfold tTupOf
    walk_at "run"
    exact ret_same h
end Rk

/-! digits -/
namespace MD
/-- digits, the last ahead; none of 0 -/
def dgf : Nat → Nat → Nat → List Nat
  | 0, _, _ => []
  | f + 1, b, n => if n = 0 then [] else n % b :: dgf f b (n / b)
def dg (b n : Nat) : List Nat := dgf n b n
/-- as the program has them: 0 has one -/
def ls (b n : Nat) : List Nat := if n = 0 then [0] else dg b n
def ln (b : Nat) : List Nat → Nat
  | [] => 0
  | d :: l => d + b * ln b l
theorem dgf_more (b : Nat) (hb : 2 ≤ b) : ∀ f g n, n ≤ f → n ≤ g → dgf f b n = dgf g b n
  | 0, 0, _, _, _ => rfl
  | 0, g + 1, n, h, _ => by
    have : n = 0 := by omega
    subst this
    rfl
  | f + 1, 0, n, _, h => by
    have : n = 0 := by omega
    subst this
    rfl
  | f + 1, g + 1, n, h1, h2 => by
    unfold dgf
    by_cases c : n = 0
    · rw [if_pos c, if_pos c]
    · rw [if_neg c, if_neg c]
      have : n / b < n := Nat.div_lt_self (by omega) hb
      rw [dgf_more b hb f g (n / b) (by omega) (by omega)]
theorem dg_zero (b : Nat) : dg b 0 = [] := rfl
theorem dg_pos {b n : Nat} (hb : 2 ≤ b) (h : 0 < n) : dg b n = n % b :: dg b (n / b) := by
  unfold dg
  obtain ⟨m, rfl⟩ : ∃ m, n = m + 1 := ⟨n - 1, by omega⟩
  have lt : (m + 1) / b < m + 1 := Nat.div_lt_self h hb
  conv => lhs; unfold dgf
  rw [if_neg (by omega), dgf_more b hb m ((m + 1) / b) _ (by omega) (Nat.le_refl _)]
theorem ls_step {b n : Nat} (hb : 2 ≤ b) (h : b ≤ n) : ls b n = n % b :: ls b (n / b) := by
  have : 0 < n / b := Nat.div_pos h (by omega)
  unfold ls
  rw [if_neg (by omega), if_neg (by omega), dg_pos hb (by omega)]
theorem ls_small {b n : Nat} (hb : 2 ≤ b) (h : n < b) : ls b n = [n] := by
  unfold ls
  split
  · next e => rw [e]
  · rw [dg_pos hb (by omega), Nat.div_eq_of_lt h, dg_zero, Nat.mod_eq_of_lt h]
theorem ln_dg {b : Nat} (hb : 2 ≤ b) : ∀ n, ln b (dg b n) = n := by
  intro n
  induction n using Nat.strongRecOn with
  | ind n ih =>
    by_cases h : n = 0
    · subst h; rfl
    · rw [dg_pos hb (by omega)]
      show n % b + b * ln b (dg b (n / b)) = n
      rw [ih _ (Nat.div_lt_self (by omega) hb)]
      exact Nat.mod_add_div n b
theorem ln_ls {b : Nat} (hb : 2 ≤ b) (n : Nat) : ln b (ls b n) = n := by
  unfold ls
  split
  · next e => rw [e]; rfl
  · exact ln_dg hb n
theorem dg_lt {b : Nat} (hb : 2 ≤ b) : ∀ n, ∀ d ∈ dg b n, d < b := by
  intro n
  induction n using Nat.strongRecOn with
  | ind n ih =>
    by_cases h : n = 0
    · subst h; intro d hd; cases hd
    · rw [dg_pos hb (by omega)]
      intro d hd
      rcases List.mem_cons.mp hd with rfl | hd
      · exact Nat.mod_lt _ (by omega)
      · exact ih _ (Nat.div_lt_self (by omega) hb) d hd
theorem ls_lt {b : Nat} (hb : 2 ≤ b) (n : Nat) : ∀ d ∈ ls b n, d < b := by
  unfold ls
  split
  · intro d hd
    have : d = 0 := by simpa using hd
    omega
  · exact dg_lt hb n
/-- a digit put at the end -/
theorem dg_push {b n d : Nat} (hb : 2 ≤ b) (hd : d < b) (h : 0 < n) : dg b (n * b + d) = d :: dg b n := by
  have : 0 < n * b := Nat.mul_pos h (by omega)
  rw [dg_pos hb (by omega), Nat.mul_comm n b, Nat.mul_add_mod, Nat.mod_eq_of_lt hd, Nat.mul_add_div (by omega), Nat.div_eq_of_lt hd, Nat.add_zero]
theorem dg_ne {b n : Nat} (hb : 2 ≤ b) (h : 0 < n) : dg b n ≠ [] := by
  rw [dg_pos hb h]
  exact fun c => by cases c
/-- the first digit is not 0 -/
theorem dg_last {b : Nat} (hb : 2 ≤ b) : ∀ n, 0 < n → ∀ d, (dg b n).getLast? = some d → 0 < d := by
  intro n
  induction n using Nat.strongRecOn with
  | ind n ih =>
    intro h d hd
    rw [dg_pos hb h] at hd
    by_cases c : n / b = 0
    · rw [c, dg_zero] at hd
      have : n % b = d := by simpa using hd
      have hn : n < b := by
        refine Classical.byContradiction fun g => ?_
        have := Nat.div_pos (show b ≤ n by omega) (by omega)
        omega
      rw [Nat.mod_eq_of_lt hn] at this
      omega
    · have np : 0 < n / b := Nat.pos_of_ne_zero c
      have ne := dg_ne hb np
      rw [List.getLast?_cons_of_ne_nil ne] at hd
      exact ih _ (Nat.div_lt_self h hb) np d hd
/-- the number of digits by hand, the first ahead -/
def nb (b : Nat) (l : List Nat) : Nat := l.foldl (fun a d => b * a + d) 0
theorem nb_append (b : Nat) (l : List Nat) (d : Nat) : nb b (l ++ [d]) = b * nb b l + d := by
  unfold nb
  rw [List.foldl_append]
  rfl
theorem nb_rev (b : Nat) : ∀ l, nb b l.reverse = ln b l
  | [] => rfl
  | d :: l => by
    rw [List.reverse_cons, nb_append, nb_rev b l]
    show b * ln b l + d = d + b * ln b l
    omega
def dsum (b n : Nat) : Nat := (ls b n).sum
/-! carries -/
def cy (b x y c : Nat) : Nat := if b ≤ x % b + y % b + c then 1 else 0
def carf : Nat → Nat → Nat → Nat → Nat → List Nat
  | 0, _, _, _, _ => []
  | f + 1, b, x, y, c => if x = 0 ∧ y = 0 ∧ c = 0 then [] else cy b x y c :: carf f b (x / b) (y / b) (cy b x y c)
def mc (x y c : Nat) : Nat := 2 * (x + y) + c
theorem cy_le (b x y c : Nat) : cy b x y c ≤ 1 := by
  unfold cy
  split <;> omega
theorem mc_lt {b x y c : Nat} (hb : 2 ≤ b) (hc : c ≤ 1) (h : ¬ (x = 0 ∧ y = 0 ∧ c = 0)) : mc (x / b) (y / b) (cy b x y c) < mc x y c := by
  have k1 : 2 * (x / b) ≤ x := Nat.le_trans (Nat.mul_le_mul_right _ hb) (Nat.mul_div_le x b)
  have k2 : 2 * (y / b) ≤ y := Nat.le_trans (Nat.mul_le_mul_right _ hb) (Nat.mul_div_le y b)
  have k3 := cy_le b x y c
  unfold mc
  by_cases g : 2 ≤ x + y
  · omega
  · have hx : x % b = x := Nat.mod_eq_of_lt (by omega)
    have hy : y % b = y := Nat.mod_eq_of_lt (by omega)
    have : cy b x y c = if b ≤ x + y + c then 1 else 0 := by unfold cy; rw [hx, hy]
    have hx0 : x / b = 0 := Nat.div_eq_of_lt (by omega)
    have hy0 : y / b = 0 := Nat.div_eq_of_lt (by omega)
    rw [this, hx0, hy0]
    split <;> omega
theorem carf_more {b : Nat} (hb : 2 ≤ b) : ∀ f g x y c, c ≤ 1 → mc x y c ≤ f → mc x y c ≤ g → carf f b x y c = carf g b x y c
  | 0, 0, _, _, _, _, _, _ => rfl
  | 0, g + 1, x, y, c, _, h, _ => by
    unfold mc at h
    unfold carf
    rw [if_pos (by omega)]
  | f + 1, 0, x, y, c, _, _, h => by
    unfold mc at h
    unfold carf
    rw [if_pos (by omega)]
  | f + 1, g + 1, x, y, c, hc, h1, h2 => by
    unfold carf
    by_cases e : x = 0 ∧ y = 0 ∧ c = 0
    · rw [if_pos e, if_pos e]
    · rw [if_neg e, if_neg e]
      have := mc_lt hb hc e
      rw [carf_more hb f g _ _ _ (cy_le ..) (by omega) (by omega)]
def car (b x y c : Nat) : List Nat := carf (mc x y c) b x y c
theorem car_step {b x y c : Nat} (hb : 2 ≤ b) (hc : c ≤ 1) (h : ¬ (x = 0 ∧ y = 0 ∧ c = 0)) : car b x y c = cy b x y c :: car b (x / b) (y / b) (cy b x y c) := by
  unfold car
  have lt := mc_lt hb hc h
  obtain ⟨m, hm⟩ : ∃ m, mc x y c = m + 1 := ⟨mc x y c - 1, by omega⟩
  rw [hm]
  conv => lhs; unfold carf
  rw [if_neg h, carf_more hb m _ _ _ _ (cy_le ..) (by omega) (Nat.le_refl _)]
theorem car_end (b : Nat) : car b 0 0 0 = [] := rfl
theorem cy_comm (b x y c : Nat) : cy b x y c = cy b y x c := by
  unfold cy
  rw [Nat.add_comm (x % b)]
theorem carf_comm (b : Nat) : ∀ f x y c, carf f b x y c = carf f b y x c
  | 0, _, _, _ => rfl
  | f + 1, x, y, c => by
    unfold carf
    rw [cy_comm, carf_comm b f]
    by_cases e : x = 0 ∧ y = 0 ∧ c = 0
    · rw [if_pos e, if_pos ⟨e.2.1, e.1, e.2.2⟩]
    · rw [if_neg e, if_neg fun g => e ⟨g.2.1, g.1, g.2.2⟩]
theorem car_comm (b x y c : Nat) : car b x y c = car b y x c := by
  unfold car mc
  rw [Nat.add_comm x y, carf_comm]
end MD

/-! digits by groups, digit roots, sums by carries -/
namespace MD
theorem sum_ls (b n : Nat) : (ls b n).sum = (dg b n).sum := by
  unfold ls
  split
  · next e => rw [e]; rfl
  · rfl
/-- places in groups -/
theorem dg_take {b : Nat} (hb : 2 ≤ b) : ∀ s n, ln b ((dg b n).take s) = n % b ^ s
  | 0, n => by rw [List.take_zero, Nat.pow_zero, Nat.mod_one]; rfl
  | s + 1, n => by
    by_cases h : n = 0
    · subst h; rw [dg_zero, List.take_nil, Nat.zero_mod]; rfl
    · rw [dg_pos hb (by omega), List.take_succ_cons]
      show n % b + b * ln b ((dg b (n / b)).take s) = _
      rw [dg_take hb s (n / b), Nat.pow_succ, Nat.mul_comm (b ^ s) b, Nat.mod_mul]
theorem dg_drop {b : Nat} (hb : 2 ≤ b) : ∀ s n, (dg b n).drop s = dg b (n / b ^ s)
  | 0, n => by rw [List.drop_zero, Nat.pow_zero, Nat.div_one]
  | s + 1, n => by
    by_cases h : n = 0
    · subst h; rw [dg_zero, List.drop_nil, Nat.zero_div, dg_zero]
    · rw [dg_pos hb (by omega), List.drop_succ_cons, dg_drop hb s (n / b), Nat.pow_succ, Nat.mul_comm (b ^ s) b, Nat.div_div_eq_div_mul]
/-- a row in groups of s -/
def grf : Nat → Nat → Nat → List Nat → List Nat
  | 0, _, _, _ => []
  | f + 1, s, b, l => if l = [] then [] else ln b (l.take s) :: grf f s b (l.drop s)
def gr (s b : Nat) (l : List Nat) : List Nat := grf l.length s b l
theorem grf_more {s b : Nat} (hs : 1 ≤ s) : ∀ f g l, l.length ≤ f → l.length ≤ g → grf f s b l = grf g s b l
  | 0, 0, _, _, _ => rfl
  | 0, g + 1, l, h, _ => by
    have : l = [] := List.eq_nil_of_length_eq_zero (by omega)
    subst this; rfl
  | f + 1, 0, l, _, h => by
    have : l = [] := List.eq_nil_of_length_eq_zero (by omega)
    subst this; rfl
  | f + 1, g + 1, l, h1, h2 => by
    unfold grf
    split
    · rfl
    · next c =>
      have : 0 < l.length := List.length_pos_iff.mpr c
      rw [grf_more hs f g (l.drop s) (by rw [List.length_drop]; omega) (by rw [List.length_drop]; omega)]
theorem gr_nil (s b : Nat) : gr s b [] = [] := rfl
theorem gr_step {s b : Nat} {l : List Nat} (hs : 1 ≤ s) (h : l ≠ []) : gr s b l = ln b (l.take s) :: gr s b (l.drop s) := by
  have hl : 0 < l.length := List.length_pos_iff.mpr h
  unfold gr
  obtain ⟨m, hm⟩ : ∃ m, l.length = m + 1 := ⟨l.length - 1, by omega⟩
  rw [hm]
  conv => lhs; unfold grf
  rw [if_neg h, grf_more hs m _ _ (by rw [List.length_drop]; omega) (Nat.le_refl _)]
theorem gr_dg {b s : Nat} (hb : 2 ≤ b) (hs : 1 ≤ s) : ∀ n, gr s b (dg b n) = dg (b ^ s) n := by
  intro n
  induction n using Nat.strongRecOn with
  | ind n ih =>
    by_cases h : n = 0
    · subst h; rfl
    · have hp : 2 ≤ b ^ s := Nat.le_trans hb (by
        have := Nat.pow_le_pow_right (show 0 < b by omega) hs
        rwa [Nat.pow_one] at this)
      rw [gr_step hs (dg_ne hb (by omega)), dg_pos hp (by omega), dg_take hb, dg_drop hb, ih _ (Nat.div_lt_self (by omega) hp)]
theorem gr_ls {b s : Nat} (hb : 2 ≤ b) (hs : 1 ≤ s) (n : Nat) : gr s b (ls b n) = ls (b ^ s) n := by
  unfold ls
  split
  · rw [gr_step hs (by simp)]
    have e : ∀ t, 1 ≤ t → ln b (List.take t [0]) = 0 ∧ List.drop t [0] = ([] : List Nat) := fun t ht => by
      obtain ⟨u, rfl⟩ : ∃ u, t = u + 1 := ⟨t - 1, by omega⟩
      simp [ln]
    rw [(e s hs).1, (e s hs).2, gr_nil]
  · exact gr_dg hb hs n
/-- the digit at i -/
theorem dg_at {b : Nat} (hb : 2 ≤ b) : ∀ i n, (dg b n)[i]?.getD 0 = n / b ^ i % b
  | 0, n => by
    by_cases h : n = 0
    · subst h; simp [dg_zero]
    · rw [dg_pos hb (by omega)]; simp
  | i + 1, n => by
    by_cases h : n = 0
    · subst h; simp [dg_zero]
    · rw [dg_pos hb (by omega), List.getElem?_cons_succ, dg_at hb i, Nat.div_div_eq_div_mul, Nat.pow_succ, Nat.mul_comm b]
theorem ls_at {b : Nat} (hb : 2 ≤ b) (i n : Nat) : (ls b n)[i]?.getD 0 = n / b ^ i % b := by
  unfold ls
  split
  · next e =>
    subst e
    cases i <;> simp
  · exact dg_at hb i n
/-- one place of a sum -/
theorem cy_div {b x y c : Nat} (hb : 2 ≤ b) (hc : c ≤ 1) : (x + y + c) / b = x / b + y / b + cy b x y c ∧ (x + y + c) % b + b * cy b x y c = x % b + y % b + c := by
  have e1 := Nat.div_add_mod x b
  have e2 := Nat.div_add_mod y b
  have l1 := Nat.mod_lt x (show 0 < b by omega)
  have l2 := Nat.mod_lt y (show 0 < b by omega)
  unfold cy
  split
  · next h =>
    have e : x + y + c = (x % b + y % b + c - b) + b * (x / b + y / b + 1) := by
      have : b * (x / b + y / b + 1) = b * (x / b) + b * (y / b) + b := by rw [Nat.mul_add, Nat.mul_add, Nat.mul_one]
      omega
    rw [e, Nat.add_mul_div_left _ _ (by omega), Nat.add_mul_mod_self_left, Nat.div_eq_of_lt (by omega), Nat.mod_eq_of_lt (by omega)]
    constructor <;> omega
  · next h =>
    have e : x + y + c = (x % b + y % b + c) + b * (x / b + y / b) := by
      have : b * (x / b + y / b) = b * (x / b) + b * (y / b) := by rw [Nat.mul_add]
      omega
    rw [e, Nat.add_mul_div_left _ _ (by omega), Nat.add_mul_mod_self_left, Nat.div_eq_of_lt (by omega), Nat.mod_eq_of_lt (by omega)]
    constructor <;> omega
theorem dg_sum_step {b : Nat} (hb : 2 ≤ b) (n : Nat) : (dg b n).sum = n % b + (dg b (n / b)).sum := by
  by_cases h : n = 0
  · subst h; simp [dg_zero]
  · rw [dg_pos hb (by omega), List.sum_cons]
theorem sum_car {b : Nat} (hb : 2 ≤ b) : ∀ m x y c, mc x y c = m → c ≤ 1 → (dg b x).sum + (dg b y).sum + c = (dg b (x + y + c)).sum + (b - 1) * (car b x y c).sum := by
  intro m
  induction m using Nat.strongRecOn with
  | ind m ih =>
    intro x y c hm hc
    by_cases h : x = 0 ∧ y = 0 ∧ c = 0
    · obtain ⟨rfl, rfl, rfl⟩ := h
      rw [car_end, dg_zero]; rfl
    · have lt := mc_lt hb hc h
      have := ih _ (by rw [← hm]; exact lt) (x / b) (y / b) (cy b x y c) rfl (cy_le ..)
      obtain ⟨d1, d2⟩ := cy_div (x := x) (y := y) hb hc
      rw [car_step hb hc h, List.sum_cons, dg_sum_step hb x, dg_sum_step hb y, dg_sum_step hb (x + y + c), d1, Nat.mul_add]
      have e : (b - 1) * cy b x y c + cy b x y c = b * cy b x y c := by
        rw [← Nat.succ_mul]
        congr 1
        omega
      omega
theorem sum_carries {b x y : Nat} (hb : 2 ≤ b) : (ls b x).sum + (ls b y).sum = (ls b (x + y)).sum + (b - 1) * (car b x y 0).sum := by
  have := sum_car hb _ x y 0 rfl (Nat.zero_le _)
  rw [sum_ls, sum_ls, sum_ls]
  simpa using this
/-- the carry into place i -/
theorem car_at {b : Nat} (hb : 2 ≤ b) : ∀ i x y c, c ≤ 1 → ∀ d, (car b x y c)[i]? = some d → d = cy b (x / b ^ i) (y / b ^ i) ((x + y + c) / b ^ i - x / b ^ i - y / b ^ i) ∧ ((x + y + c) / b ^ i - x / b ^ i - y / b ^ i) ≤ 1 ∧ (x + y + c) / b ^ i = x / b ^ i + y / b ^ i + ((x + y + c) / b ^ i - x / b ^ i - y / b ^ i) ∧
    (x + y + c) / b ^ (i + 1) - x / b ^ (i + 1) - y / b ^ (i + 1) = d
  | 0, x, y, c, hc, d, h => by
    by_cases z : x = 0 ∧ y = 0 ∧ c = 0
    · obtain ⟨rfl, rfl, rfl⟩ := z
      rw [car_end] at h
      cases h
    · rw [car_step hb hc z] at h
      have h : cy b x y c = d := by simpa using h
      have e : x + y + c - x - y = c := by omega
      have := (cy_div (x := x) (y := y) hb hc).1
      rw [Nat.pow_zero, Nat.div_one, Nat.div_one, Nat.div_one, e, Nat.zero_add, Nat.pow_one]
      refine ⟨h.symm, hc, rfl, ?_⟩
      omega
  | i + 1, x, y, c, hc, d, h => by
    by_cases z : x = 0 ∧ y = 0 ∧ c = 0
    · obtain ⟨rfl, rfl, rfl⟩ := z
      rw [car_end] at h
      cases h
    · rw [car_step hb hc z, List.getElem?_cons_succ] at h
      have := car_at hb i _ _ _ (cy_le b x y c) d h
      have d1 := (cy_div (x := x) (y := y) hb hc).1
      rw [← d1] at this
      simp only [Nat.div_div_eq_div_mul] at this
      have p1 : b * b ^ i = b ^ (i + 1) := by rw [Nat.pow_succ, Nat.mul_comm]
      have p2 : b * b ^ (i + 1) = b ^ (i + 1 + 1) := by rw [Nat.pow_succ _ (i + 1), Nat.mul_comm]
      rw [p1, p2] at this
      exact this
/-! digit roots -/
theorem dg_le {b : Nat} (hb : 2 ≤ b) : ∀ n, (dg b n).sum + (b - 1) * (n / b) ≤ n := by
  intro n
  induction n using Nat.strongRecOn with
  | ind n ih =>
    by_cases h : n = 0
    · subst h; rw [dg_zero, Nat.zero_div, Nat.mul_zero]; exact Nat.le_refl _
    · have := ih _ (Nat.div_lt_self (by omega : 0 < n) hb)
      rw [dg_sum_step hb n]
      have e := Nat.div_add_mod n b
      have e2 : b * (n / b) = (b - 1) * (n / b) + n / b := by
        rw [← Nat.succ_mul]
        congr 1
        omega
      have : (dg b (n / b)).sum ≤ n / b := Nat.le_trans (Nat.le_add_right ..) this
      omega
theorem ds_lt {b n : Nat} (hb : 2 ≤ b) (h : b ≤ n) : (ls b n).sum < n := by
  rw [sum_ls]
  have := dg_le hb n
  have p : 0 < n / b := Nat.div_pos h (by omega)
  have : 0 < (b - 1) * (n / b) := Nat.mul_pos (by omega) p
  omega
theorem ds_34 {b n : Nat} (hb : 2 ≤ b) (h : b ≤ n) : 4 * (ls b n).sum ≤ 3 * n := by
  rw [sum_ls]
  have l := dg_le hb n
  have p : 0 < n / b := Nat.div_pos h (by omega)
  have e := Nat.div_add_mod n b
  have m := Nat.mod_lt n (show 0 < b by omega)
  -- n < 2 b (n / b) and b ≤ 2 (b - 1)
  have k1 : b * 1 ≤ b * (n / b) := Nat.mul_le_mul_left _ p
  have k2 : b * (n / b) ≤ 2 * (b - 1) * (n / b) := Nat.mul_le_mul_right _ (by omega)
  rw [Nat.mul_assoc] at k2
  omega
theorem mem_le_sum : ∀ {l : List Nat} (d : Nat), d ∈ l → d ≤ l.sum
  | x :: l, d, h => by
    rw [List.sum_cons]
    rcases List.mem_cons.mp h with rfl | h
    · omega
    · have := mem_le_sum d h
      omega
theorem ds_pos {b n : Nat} (hb : 2 ≤ b) (h : 0 < n) : 0 < (ls b n).sum := by
  rw [sum_ls]
  refine Classical.byContradiction fun c => ?_
  have all0 : ∀ d ∈ dg b n, d = 0 := by
    intro d hd
    have := mem_le_sum (l := dg b n) d hd
    omega
  cases e : (dg b n).getLast? with
  | none => exact dg_ne hb h (List.getLast?_eq_none_iff.mp e)
  | some d =>
    have := dg_last hb n h d e
    have := all0 d (List.mem_of_getLast? e)
    omega
theorem ds_mod {b : Nat} (hb : 2 ≤ b) : ∀ n, ∃ k, n = (dg b n).sum + (b - 1) * k := by
  intro n
  induction n using Nat.strongRecOn with
  | ind n ih =>
    by_cases h : n = 0
    · subst h; exact ⟨0, by rw [dg_zero]; rfl⟩
    · obtain ⟨k, hk⟩ := ih _ (Nat.div_lt_self (by omega : 0 < n) hb)
      refine ⟨n / b + k, ?_⟩
      rw [dg_sum_step hb n, Nat.mul_add]
      have e := Nat.div_add_mod n b
      have e2 : b * (n / b) = (b - 1) * (n / b) + n / b := by
        rw [← Nat.succ_mul]
        congr 1
        omega
      omega
theorem ls_len {b : Nat} (hb : 2 ≤ b) : ∀ k n, n < 2 ^ k → (dg b n).length ≤ k
  | 0, n, h => by
    have : n = 0 := by rw [Nat.pow_zero] at h; omega
    subst this; rw [dg_zero]; exact Nat.le_refl _
  | k + 1, n, h => by
    by_cases z : n = 0
    · subst z; rw [dg_zero]; exact Nat.zero_le _
    · rw [dg_pos hb (by omega), List.length_cons]
      have : n / b < 2 ^ k := by
        rw [Nat.pow_succ] at h
        have k1 : 2 * (n / b) ≤ n := Nat.le_trans (Nat.mul_le_mul_right _ hb) (Nat.mul_div_le n b)
        omega
      have := ls_len hb k _ this
      omega
theorem sum_le {l : List Nat} {m : Nat} (h : ∀ d ∈ l, d ≤ m) : l.sum ≤ l.length * m := by
  induction l with
  | nil => simp
  | cons d l ih =>
    have := h d (List.mem_cons_self ..)
    have := ih fun x hx => h x (List.mem_cons_of_mem _ hx)
    rw [List.sum_cons, List.length_cons, Nat.succ_mul]
    omega
theorem ds_small {b n : Nat} (hb : 2 ≤ b) (hb2 : b ≤ 36) (h : n < 2 ^ 100) : (ls b n).sum ≤ 3500 := by
  rw [sum_ls]
  have l1 := ls_len hb 100 n h
  have := sum_le (l := dg b n) (m := 35) fun d hd => by have := dg_lt hb n d hd; omega
  have : (dg b n).length * 35 ≤ 100 * 35 := Nat.mul_le_mul_right _ l1
  omega
/-- one step, taken where it is asked -/
def st (b : Nat) (x : Nat × Nat) : Nat × Nat := if b ≤ x.1 then ((ls b x.1).sum, x.2 + 1) else x
def it (b : Nat) : Nat → Nat × Nat → Nat × Nat
  | 0, x => x
  | k + 1, x => st b (it b k x)
theorem it_add (b : Nat) (x : Nat × Nat) (j : Nat) : ∀ k, it b (j + k) x = it b k (it b j x)
  | 0 => rfl
  | k + 1 => by
    show st b (it b (j + k) x) = st b (it b k (it b j x))
    rw [it_add b x j k]
theorem it_still {b : Nat} {x : Nat × Nat} (h : x.1 < b) : ∀ k, it b k x = x
  | 0 => rfl
  | k + 1 => by
    show st b (it b k x) = x
    rw [it_still h k]
    unfold st
    rw [if_neg (by omega)]
theorem it_same {b j k : Nat} {x : Nat × Nat} (hj : (it b j x).1 < b) (hk : (it b k x).1 < b) : it b j x = it b k x := by
  rcases Nat.le_total j k with h | h
  · obtain ⟨d, rfl⟩ := Nat.exists_eq_add_of_le h
    rw [it_add, it_still hj]
  · obtain ⟨d, rfl⟩ := Nat.exists_eq_add_of_le h
    rw [it_add b x k, it_still hk]
def bd : Nat → Nat
  | 0 => 2
  | k + 1 => max (bd k + 1) (4 * bd k / 3)
theorem it_end {b : Nat} (hb : 2 ≤ b) : ∀ k n m, n < bd k → (it b k (n, m)).1 < b
  | 0, n, m, h => by
    have : n < 2 := h
    show n < b
    omega
  | k + 1, n, m, h => by
    rw [Nat.add_comm k 1, it_add]
    show (it b k (st b (n, m))).1 < b
    by_cases c : b ≤ n
    · have e : st b (n, m) = ((ls b n).sum, m + 1) := by unfold st; rw [if_pos c]
      rw [e]
      have l1 := ds_lt hb c
      have l2 := ds_34 hb c
      refine it_end hb k _ _ ?_
      have h : n < max (bd k + 1) (4 * bd k / 3) := h
      omega
    · have e : st b (n, m) = (n, m) := by unfold st; rw [if_neg c]
      rw [e, it_still (by omega)]
      show n < b
      omega
theorem it_60 {b n m : Nat} (hb : 2 ≤ b) (hb2 : b ≤ 36) (h : n < 2 ^ 100) : (it b 60 (n, m)).1 < b := by
  by_cases c : n < b
  · rw [it_still c]; exact c
  · rw [show (60 : Nat) = 1 + (27 + 32) from rfl, it_add]
    have e : it b 1 (n, m) = ((ls b n).sum, m + 1) := by
      show st b (n, m) = _
      unfold st; rw [if_pos (by dsimp only; omega)]
    have q := it_end hb 27 (ls b n).sum (m + 1) (Nat.lt_of_le_of_lt (ds_small hb hb2 h) (by decide))
    rw [e, it_add, it_still q]
    exact q
theorem it_mod {b : Nat} (hb : 2 ≤ b) (n m : Nat) : ∀ k, (∃ j, n = (it b k (n, m)).1 + (b - 1) * j) ∧ (0 < n → 0 < (it b k (n, m)).1) ∧ (it b k (n, m)).1 ≤ n
  | 0 => ⟨⟨0, rfl⟩, fun h => h, Nat.le_refl _⟩
  | k + 1 => by
    obtain ⟨⟨j, hj⟩, hp, hl⟩ := it_mod hb n m k
    show (∃ j, n = (st b (it b k (n, m))).1 + (b - 1) * j) ∧ (0 < n → 0 < (st b (it b k (n, m))).1) ∧ (st b (it b k (n, m))).1 ≤ n
    unfold st
    split
    · next c =>
      dsimp only
      obtain ⟨i, hi⟩ := ds_mod hb (it b k (n, m)).1
      have := ds_lt hb c
      refine ⟨⟨i + j, ?_⟩, fun h => ds_pos hb (hp h), by omega⟩
      rw [sum_ls, Nat.mul_add]
      omega
    · exact ⟨⟨j, hj⟩, hp, hl⟩
/-- the digit root -/
theorem root_eq {b n : Nat} (hb : 2 ≤ b) (hb2 : b ≤ 36) (h : n < 2 ^ 100) : (it b 60 (n, 0)).1 = if n = 0 then 0 else 1 + (n - 1) % (b - 1) := by
  have lt := it_60 (m := 0) hb hb2 h
  obtain ⟨⟨j, hj⟩, hp, hl⟩ := it_mod hb n 0 60
  generalize (it b 60 (n, 0)).1 = r at lt hj hp hl
  split
  · omega
  · have := hp (by omega)
    have e : n - 1 = (r - 1) + (b - 1) * j := by omega
    rw [e, Nat.add_mul_mod_self_left, Nat.mod_eq_of_lt (by omega)]
    omega
end MD

namespace Wk
open PySem PySem.Spec L2 Rk
def topS (i : Nat) : Stmt := PySem.Challenge.pw_reckonloft_k02_whole_digits_by_groups_an.main.body.getD i (.Pass ⟨0, 0, 0, 0⟩)
abbrev k_DIGITS : D := (.int 200)
abbrev k_FAR_numbers : D := (.int 1000000000000000000000000000000)
abbrev k_BASE_numbers : D := (.int 36)
abbrev k_FAR_binomials : D := (.int 1000000000000000000000000000000)
abbrev k_PRIMES : D := (.int 1000)
abbrev k_BASE_digitmaps : D := (.int 36)
structure Bt (K : PySem.W.Frag) (mg : Str → Option Value) : Prop where
  b_abs : mg "abs" = none
  b_all : mg "all" = none
  b_bool : mg "bool" = none
  b_enumerate : mg "enumerate" = none
  b_int : mg "int" = none
  b_isinstance : mg "isinstance" = none
  b_len : mg "len" = none
  b_list : mg "list" = none
  b_range : mg "range" = none
  b_sum : mg "sum" = none
  b_tuple : mg "tuple" = none
  c_DIGITS : GlobD K mg "DIGITS" k_DIGITS
  c_FAR_numbers : GlobD K mg "FAR_numbers" k_FAR_numbers
  c_BASE_numbers : GlobD K mg "BASE_numbers" k_BASE_numbers
  c_FAR_binomials : GlobD K mg "FAR_binomials" k_FAR_binomials
  c_PRIMES : GlobD K mg "PRIMES" k_PRIMES
  c_BASE_digitmaps : GlobD K mg "BASE_digitmaps" k_BASE_digitmaps
/-! fits_whole: value 0, low 1, high 2 -/
abbrev s_fits_whole : Stmt := topS 8
def t_fits_whole : ASt' :=
  (sRet (aAndV (aIsI "int" (aVar 0)) (aAndV (aNotV (aIsI "bool" (aVar 0))) (aChain aLe aLe (aVar 1) (aVar 0) (aVar 2)))))
theorem sc_fits_whole : FnScope ["value", "low", "high"] ["value", "low", "high"] (defScope s_fits_whole) := ⟨rfl, rfl, rfl, by decide +kernel, rfl, by decide +kernel, by decide +kernel⟩
theorem d_fits_whole {P : Program} {w : World} {K : PySem.W.Frag} {mg : Str → Option Value} {base : Heap} (B : Bt K mg) (f : Addr) (cdv : Value) (A : Around) (outer : List Env) (s : Shared) (H : Hp) (E : XK) (hr : Room 0 (A.deeper (PyProof.Rows.envOfC "fits_whole" (defScope s_fits_whole) s.heap.objs.size f cdv))) :
    ASs (cxOf CX0 P w K mg base ["value", "low", "high"] "fits_whole" (defScope s_fits_whole) f cdv A outer s H E).nox (defBody s_fits_whole) (t_fits_whole) := by
  have sc := sc_fits_whole
  exact (ss_one (as_ret (ae_and (ae_isi (ae_var 0) B.b_isinstance B.b_int (by decide +kernel) kit_int) (ae_and (ae_not (ae_isi (ae_var 0) B.b_isinstance B.b_bool (by decide +kernel) kit_bool)) (ae_one (ae_chain op_le op_le (ae_var 1) (ae_var 0) (ae_var 2)))))))
/-! is_tuple_of: value 0, least 1, most 2 -/
abbrev s_is_tuple_of : Stmt := topS 9
def t_is_tuple_of : ASt' :=
  (sRet (aAndV (aIsI "tuple" (aVar 0)) (aChain aLe aLe (aVar 1) (aCall cLen (aCons (aVar 0) aNil)) (aVar 2))))
theorem sc_is_tuple_of : FnScope ["value", "least", "most"] ["value", "least", "most"] (defScope s_is_tuple_of) := ⟨rfl, rfl, rfl, by decide +kernel, rfl, by decide +kernel, by decide +kernel⟩
theorem d_is_tuple_of {P : Program} {w : World} {K : PySem.W.Frag} {mg : Str → Option Value} {base : Heap} (B : Bt K mg) (f : Addr) (cdv : Value) (A : Around) (outer : List Env) (s : Shared) (H : Hp) (E : XK) (hr : Room 0 (A.deeper (PyProof.Rows.envOfC "is_tuple_of" (defScope s_is_tuple_of) s.heap.objs.size f cdv))) :
    ASs (cxOf CX0 P w K mg base ["value", "least", "most"] "is_tuple_of" (defScope s_is_tuple_of) f cdv A outer s H E).nox (defBody s_is_tuple_of) (t_is_tuple_of) := by
  have sc := sc_is_tuple_of
  exact (ss_one (as_ret (ae_and (ae_isi (ae_var 0) B.b_isinstance B.b_tuple (by decide +kernel) kit_tuple) (ae_one (ae_chain op_le op_le (ae_var 1) (ae_bi call_len B.b_len (by decide +kernel) (aa_cons (ae_var 0) aa_nil)) (ae_var 2))))))
/-! need_whole: value 0, low 1, high 2 -/
abbrev s_need_whole : Stmt := topS 10
def t_need_whole (sp_fits_whole : List D → AH → DK → Prop) : ASt' :=
  (sIf (aNot (aTruE (aCall sp_fits_whole (aCons (aVar 0) (aCons (aVar 1) (aCons (aVar 2) aNil)))))) sNever sNext)
theorem sc_need_whole : FnScope ["value", "low", "high"] ["value", "low", "high"] (defScope s_need_whole) := ⟨rfl, rfl, rfl, by decide +kernel, rfl, by decide +kernel, by decide +kernel⟩
theorem d_need_whole {P : Program} {w : World} {K : PySem.W.Frag} {mg : Str → Option Value} {base : Heap} {sp_fits_whole : List D → AH → DK → Prop} (B : Bt K mg) (g_fits_whole : AFn P w K mg base 1 "fits_whole" sp_fits_whole) (f : Addr) (cdv : Value) (A : Around) (outer : List Env) (s : Shared) (H : Hp) (E : XK) (hr : Room 1 (A.deeper (PyProof.Rows.envOfC "need_whole" (defScope s_need_whole) s.heap.objs.size f cdv))) :
    ASs (cxOf CX0 P w K mg base ["value", "low", "high"] "need_whole" (defScope s_need_whole) f cdv A outer s H E).nox (defBody s_need_whole) (t_need_whole sp_fits_whole) := by
  have sc := sc_need_whole
  exact (ss_one (as_if (ab_not (ab_truth (ae_call g_fits_whole (hr.mono (by decide)) (aa_cons (ae_var 0) (aa_cons (ae_var 1) (aa_cons (ae_var 2) aa_nil)))))) (ss_one as_never) ss_nil))
/-! digits_in: number 0, base 1, found 2 -/
abbrev s_digits_in : Stmt := topS 11
def t_digits_in : ASt' :=
  (sSeq (sAsg (aLstM aNil) (agN 2))
    (sSeq (sWhile (aOr (aTest (aOp aGt (aVar 0) (aC (.int 0)))) (aTest (aOp aEq (aVar 2) (aLst aNil)))) (sSeq (sDrop (aMeth mAppend (aVar 2) (aCons (aOp aSub (aVar 0) (aOp aMul (aOp aFDiv (aVar 0) (aVar 1)) (aVar 1))) aNil)))
    (sAsg (aOp aFDiv (aVar 0) (aVar 1)) (agN 0))))
    (sFrz 2 (sRet (aRev (aVar 2))))))
theorem sc_digits_in : FnScope ["number", "base", "found"] ["number", "base"] (defScope s_digits_in) := ⟨rfl, rfl, rfl, by decide +kernel, rfl, by decide +kernel, by decide +kernel⟩
theorem d_digits_in {P : Program} {w : World} {K : PySem.W.Frag} {mg : Str → Option Value} {base : Heap} (B : Bt K mg) (f : Addr) (cdv : Value) (A : Around) (outer : List Env) (s : Shared) (H : Hp) (E : XK) (hr : Room 0 (A.deeper (PyProof.Rows.envOfC "digits_in" (defScope s_digits_in) s.heap.objs.size f cdv))) :
    ASs (cxOf CX0 P w K mg base ["number", "base", "found"] "digits_in" (defScope s_digits_in) f cdv A outer s H E).nox (defBody s_digits_in) (t_digits_in) := by
  have sc := sc_digits_in
  exact (ss_cons (as_set 2 (ae_lstM aa_nil) sc.nd)
      (ss_cons (as_while PassesOwn.never (aw_or (ab_cmp op_gt (ae_var 0) ae_int) (aw_or1 (ab_cmp (op_eq hr.units) (ae_var 2) (ae_lst aa_nil)))).ab (ss_cons (as_expr (ae_append (ae_var 2) (aa_cons (ae_op op_sub (ae_var 0) (ae_op op_mul (ae_op op_fdiv (ae_var 0) (ae_var 1)) (ae_var 1))) aa_nil)))
      (ss_one (as_set 0 (ae_op op_fdiv (ae_var 0) (ae_var 1)) sc.nd))))
      (ss_frz 2 (ss_one (as_ret (ae_rev (ae_var 2)))))))
/-! number_in: digits 0, base 1, found 2, digit 3 -/
abbrev s_number_in : Stmt := topS 12
def t_number_in : ASt' :=
  (sSeq (sAsg (aC (.int 0)) (agN 2))
    (sSeq (sFor (iSeq (aVar 0)) (agN 3) (sAsg (aOp aAdd (aOp aMul (aVar 1) (aVar 2)) (aVar 3)) (agN 2)))
    (sRet (aVar 2))))
theorem sc_number_in : FnScope ["digits", "base", "found", "digit"] ["digits", "base"] (defScope s_number_in) := ⟨rfl, rfl, rfl, by decide +kernel, rfl, by decide +kernel, by decide +kernel⟩
theorem d_number_in {P : Program} {w : World} {K : PySem.W.Frag} {mg : Str → Option Value} {base : Heap} (B : Bt K mg) (f : Addr) (cdv : Value) (A : Around) (outer : List Env) (s : Shared) (H : Hp) (E : XK) (hr : Room 0 (A.deeper (PyProof.Rows.envOfC "number_in" (defScope s_number_in) s.heap.objs.size f cdv))) :
    ASs (cxOf CX0 P w K mg base ["digits", "base", "found", "digit"] "number_in" (defScope s_number_in) f cdv A outer s H E).nox (defBody s_number_in) (t_number_in) := by
  have sc := sc_number_in
  exact (ss_cons (as_set 2 ae_int sc.nd)
      (ss_cons (as_for PassesOwn.never rfl (ai_seq (ae_var 0)) (ag_name 3 sc.nd) (ss_one (as_set 2 (ae_op op_add (ae_op op_mul (ae_var 1) (ae_var 2)) (ae_var 3)) sc.nd)))
      (ss_one (as_ret (ae_var 2)))))
/-! fits_digits: base 0, value 1, digit 2 -/
abbrev s_fits_digits : Stmt := topS 13
def t_fits_digits (sp_is_tuple_of sp_fits_whole : List D → AH → DK → Prop) : ASt' :=
  (sSeq (sIf (aOr (aNot (aTruE (aCall sp_is_tuple_of (aCons (aVar 1) (aCons (aC (.int 1)) (aCons (aC k_DIGITS) aNil)))))) (aNot (aTruE (aCall cAll (aCons (aLc (iSeq (aVar 1)) (agN 2) aYes (aCall sp_fits_whole (aCons (aVar 2) (aCons (aC (.int 0)) (aCons (aOp aSub (aVar 0) (aC (.int 1))) aNil)))) [2]) aNil))))) (sRet (aC (.bl false))) sNext)
    (sRet (aOrV (aOp aEq (aCall cLen (aCons (aVar 1) aNil)) (aC (.int 1))) (aOp aGt (aOp aIx (aVar 1) (aC (.int 0))) (aC (.int 0))))))
theorem sc_fits_digits : FnScope ["base", "value", "digit"] ["base", "value"] (defScope s_fits_digits) := ⟨rfl, rfl, rfl, by decide +kernel, rfl, by decide +kernel, by decide +kernel⟩
theorem d_fits_digits {P : Program} {w : World} {K : PySem.W.Frag} {mg : Str → Option Value} {base : Heap} {sp_is_tuple_of sp_fits_whole : List D → AH → DK → Prop} (B : Bt K mg) (g_is_tuple_of : AFn P w K mg base 1 "is_tuple_of" sp_is_tuple_of) (g_fits_whole : AFn P w K mg base 1 "fits_whole" sp_fits_whole) (f : Addr) (cdv : Value) (A : Around) (outer : List Env) (s : Shared) (H : Hp) (E : XK) (hr : Room 1 (A.deeper (PyProof.Rows.envOfC "fits_digits" (defScope s_fits_digits) s.heap.objs.size f cdv))) :
    ASs (cxOf CX0 P w K mg base ["base", "value", "digit"] "fits_digits" (defScope s_fits_digits) f cdv A outer s H E).nox (defBody s_fits_digits) (t_fits_digits sp_is_tuple_of sp_fits_whole) := by
  have sc := sc_fits_digits
  exact (ss_cons (as_if (aw_or (ab_not (ab_truth (ae_call g_is_tuple_of (hr.mono (by decide)) (aa_cons (ae_var 1) (aa_cons ae_int (aa_cons (ae_glob B.c_DIGITS) aa_nil)))))) (aw_or1 (ab_not (ab_truth (ae_bi (call_all rfl) B.b_all (by decide +kernel) (aa_cons (ae_lc (own := [("digit", 2)]) (sl := [2]) rfl sc.nd (ai_seq (ae_var 1)) (blkOk_by (N := ["base", "value", "digit"]) (sc := defScope s_fits_digits) (by decide +kernel)) (by decide) (fun _ _ _ _ _ => (ag_name 2 sc.nd)) (fun _ _ _ _ _ => ats_nil) (fun _ _ _ _ _ => (ae_call g_fits_whole (hr.mono (by decide)) (aa_cons (ae_var 2) (aa_cons ae_int (aa_cons (ae_op op_sub (ae_var 0) ae_int) aa_nil)))))) aa_nil)))))).ab (ss_one (as_ret ae_bl)) ss_nil)
      (ss_one (as_ret (ae_or (ae_cmp (op_eq hr.units) (ae_bi call_len B.b_len (by decide +kernel) (aa_cons (ae_var 1) aa_nil)) ae_int) (ae_one (ae_cmp op_gt (ae_ix (ae_var 1) ae_int) ae_int))))))
/-! digits: number 0, base 1 -/
abbrev s_digits : Stmt := topS 14
def t_digits (sp_need_whole sp_digits_in : List D → AH → DK → Prop) : ASt' :=
  (sSeq (sDrop (aCall sp_need_whole (aCons (aVar 0) (aCons (aC (.int 0)) (aCons (aC k_FAR_numbers) aNil)))))
    (sSeq (sDrop (aCall sp_need_whole (aCons (aVar 1) (aCons (aC (.int 2)) (aCons (aC k_BASE_numbers) aNil)))))
    (sRet (aCall cTup (aCons (aCall sp_digits_in (aCons (aVar 0) (aCons (aVar 1) aNil))) aNil)))))
theorem sc_digits : FnScope ["number", "base"] ["number", "base"] (defScope s_digits) := ⟨rfl, rfl, rfl, by decide +kernel, rfl, by decide +kernel, by decide +kernel⟩
theorem d_digits {P : Program} {w : World} {K : PySem.W.Frag} {mg : Str → Option Value} {base : Heap} {sp_need_whole sp_digits_in : List D → AH → DK → Prop} (B : Bt K mg) (g_need_whole : AFn P w K mg base 2 "need_whole" sp_need_whole) (g_digits_in : AFn P w K mg base 1 "digits_in" sp_digits_in) (f : Addr) (cdv : Value) (A : Around) (outer : List Env) (s : Shared) (H : Hp) (E : XK) (hr : Room 2 (A.deeper (PyProof.Rows.envOfC "digits" (defScope s_digits) s.heap.objs.size f cdv))) :
    ASs (cxOf CX0 P w K mg base ["number", "base"] "digits" (defScope s_digits) f cdv A outer s H E).nox (defBody s_digits) (t_digits sp_need_whole sp_digits_in) := by
  have sc := sc_digits
  exact (ss_cons (as_expr (ae_call g_need_whole (hr.mono (by decide)) (aa_cons (ae_var 0) (aa_cons ae_int (aa_cons (ae_glob B.c_FAR_numbers) aa_nil)))))
      (ss_cons (as_expr (ae_call g_need_whole (hr.mono (by decide)) (aa_cons (ae_var 1) (aa_cons ae_int (aa_cons (ae_glob B.c_BASE_numbers) aa_nil)))))
      (ss_one (as_ret (ae_ty call_tup B.b_tuple (by decide +kernel) (aa_cons (ae_call g_digits_in (hr.mono (by decide)) (aa_cons (ae_var 0) (aa_cons (ae_var 1) aa_nil))) aa_nil))))))
/-! are_digits: base 0, value 1 -/
abbrev s_are_digits : Stmt := topS 15
def t_are_digits (sp_need_whole sp_fits_digits : List D → AH → DK → Prop) : ASt' :=
  (sSeq (sDrop (aCall sp_need_whole (aCons (aVar 0) (aCons (aC (.int 2)) (aCons (aC k_BASE_numbers) aNil)))))
    (sRet (aCall sp_fits_digits (aCons (aVar 0) (aCons (aVar 1) aNil)))))
theorem sc_are_digits : FnScope ["base", "value"] ["base", "value"] (defScope s_are_digits) := ⟨rfl, rfl, rfl, by decide +kernel, rfl, by decide +kernel, by decide +kernel⟩
theorem d_are_digits {P : Program} {w : World} {K : PySem.W.Frag} {mg : Str → Option Value} {base : Heap} {sp_need_whole sp_fits_digits : List D → AH → DK → Prop} (B : Bt K mg) (g_need_whole : AFn P w K mg base 2 "need_whole" sp_need_whole) (g_fits_digits : AFn P w K mg base 2 "fits_digits" sp_fits_digits) (f : Addr) (cdv : Value) (A : Around) (outer : List Env) (s : Shared) (H : Hp) (E : XK) (hr : Room 2 (A.deeper (PyProof.Rows.envOfC "are_digits" (defScope s_are_digits) s.heap.objs.size f cdv))) :
    ASs (cxOf CX0 P w K mg base ["base", "value"] "are_digits" (defScope s_are_digits) f cdv A outer s H E).nox (defBody s_are_digits) (t_are_digits sp_need_whole sp_fits_digits) := by
  have sc := sc_are_digits
  exact (ss_cons (as_expr (ae_call g_need_whole (hr.mono (by decide)) (aa_cons (ae_var 0) (aa_cons ae_int (aa_cons (ae_glob B.c_BASE_numbers) aa_nil)))))
      (ss_one (as_ret (ae_call g_fits_digits (hr.mono (by decide)) (aa_cons (ae_var 0) (aa_cons (ae_var 1) aa_nil))))))
/-! number_of: base 0, value 1 -/
abbrev s_number_of : Stmt := topS 16
def t_number_of (sp_need_whole sp_fits_digits sp_number_in : List D → AH → DK → Prop) : ASt' :=
  (sSeq (sDrop (aCall sp_need_whole (aCons (aVar 0) (aCons (aC (.int 2)) (aCons (aC k_BASE_numbers) aNil)))))
    (sSeq (sIf (aNot (aTruE (aCall sp_fits_digits (aCons (aVar 0) (aCons (aVar 1) aNil))))) sNever sNext)
    (sRet (aCall sp_number_in (aCons (aVar 1) (aCons (aVar 0) aNil))))))
theorem sc_number_of : FnScope ["base", "value"] ["base", "value"] (defScope s_number_of) := ⟨rfl, rfl, rfl, by decide +kernel, rfl, by decide +kernel, by decide +kernel⟩
theorem d_number_of {P : Program} {w : World} {K : PySem.W.Frag} {mg : Str → Option Value} {base : Heap} {sp_need_whole sp_fits_digits sp_number_in : List D → AH → DK → Prop} (B : Bt K mg) (g_need_whole : AFn P w K mg base 2 "need_whole" sp_need_whole) (g_fits_digits : AFn P w K mg base 2 "fits_digits" sp_fits_digits) (g_number_in : AFn P w K mg base 1 "number_in" sp_number_in) (f : Addr) (cdv : Value) (A : Around) (outer : List Env) (s : Shared) (H : Hp) (E : XK) (hr : Room 2 (A.deeper (PyProof.Rows.envOfC "number_of" (defScope s_number_of) s.heap.objs.size f cdv))) :
    ASs (cxOf CX0 P w K mg base ["base", "value"] "number_of" (defScope s_number_of) f cdv A outer s H E).nox (defBody s_number_of) (t_number_of sp_need_whole sp_fits_digits sp_number_in) := by
  have sc := sc_number_of
  exact (ss_cons (as_expr (ae_call g_need_whole (hr.mono (by decide)) (aa_cons (ae_var 0) (aa_cons ae_int (aa_cons (ae_glob B.c_BASE_numbers) aa_nil)))))
      (ss_cons (as_if (ab_not (ab_truth (ae_call g_fits_digits (hr.mono (by decide)) (aa_cons (ae_var 0) (aa_cons (ae_var 1) aa_nil))))) (ss_one as_never) ss_nil)
      (ss_one (as_ret (ae_call g_number_in (hr.mono (by decide)) (aa_cons (ae_var 1) (aa_cons (ae_var 0) aa_nil)))))))
/-! carries_in: one 0, other 1, base 2, found 3, carry 4, first 5, second 6 -/
abbrev s_carries_in : Stmt := topS 20
def t_carries_in : ASt' :=
  (sSeq (sPar 3 4 (aCons (aLstM aNil) (aCons (aC (.int 0)) aNil)))
    (sSeq (sWhile (aOr (aTest (aOp aGt (aVar 0) (aC (.int 0)))) (aOr (aTest (aOp aGt (aVar 1) (aC (.int 0)))) (aTest (aOp aGt (aVar 4) (aC (.int 0)))))) (sSeq (sPar 5 6 (aCons (aOp aSub (aVar 0) (aOp aMul (aOp aFDiv (aVar 0) (aVar 2)) (aVar 2))) (aCons (aOp aSub (aVar 1) (aOp aMul (aOp aFDiv (aVar 1) (aVar 2)) (aVar 2))) aNil)))
    (sSeq (sAsg (aCall cInt (aCons (aOp aGe (aOp aAdd (aOp aAdd (aVar 5) (aVar 6)) (aVar 4)) (aVar 2)) aNil)) (agN 4))
    (sSeq (sDrop (aMeth mAppend (aVar 3) (aCons (aVar 4) aNil)))
    (sPar 0 1 (aCons (aOp aFDiv (aVar 0) (aVar 2)) (aCons (aOp aFDiv (aVar 1) (aVar 2)) aNil)))))))
    (sFrz 3 (sRet (aVar 3)))))
theorem sc_carries_in : FnScope ["one", "other", "base", "found", "carry", "first", "second"] ["one", "other", "base"] (defScope s_carries_in) := ⟨rfl, rfl, rfl, by decide +kernel, rfl, by decide +kernel, by decide +kernel⟩
theorem d_carries_in {P : Program} {w : World} {K : PySem.W.Frag} {mg : Str → Option Value} {base : Heap} (B : Bt K mg) (f : Addr) (cdv : Value) (A : Around) (outer : List Env) (s : Shared) (H : Hp) (E : XK) (hr : Room 0 (A.deeper (PyProof.Rows.envOfC "carries_in" (defScope s_carries_in) s.heap.objs.size f cdv))) :
    ASs (cxOf CX0 P w K mg base ["one", "other", "base", "found", "carry", "first", "second"] "carries_in" (defScope s_carries_in) f cdv A outer s H E).nox (defBody s_carries_in) (t_carries_in) := by
  have sc := sc_carries_in
  exact (ss_cons (as_par 3 4 (aa_cons (ae_lstM aa_nil) (aa_cons ae_int aa_nil)) rfl sc.nd)
      (ss_cons (as_while PassesOwn.never (aw_or (ab_cmp op_gt (ae_var 0) ae_int) (aw_or (ab_cmp op_gt (ae_var 1) ae_int) (aw_or1 (ab_cmp op_gt (ae_var 4) ae_int)))).ab (ss_cons (as_par 5 6 (aa_cons (ae_op op_sub (ae_var 0) (ae_op op_mul (ae_op op_fdiv (ae_var 0) (ae_var 2)) (ae_var 2))) (aa_cons (ae_op op_sub (ae_var 1) (ae_op op_mul (ae_op op_fdiv (ae_var 1) (ae_var 2)) (ae_var 2))) aa_nil)) rfl sc.nd)
      (ss_cons (as_set 4 (ae_ty call_int B.b_int (by decide +kernel) (aa_cons (ae_cmp op_ge (ae_op op_add (ae_op op_add (ae_var 5) (ae_var 6)) (ae_var 4)) (ae_var 2)) aa_nil)) sc.nd)
      (ss_cons (as_expr (ae_append (ae_var 3) (aa_cons (ae_var 4) aa_nil)))
      (ss_one (as_par 0 1 (aa_cons (ae_op op_fdiv (ae_var 0) (ae_var 2)) (aa_cons (ae_op op_fdiv (ae_var 1) (ae_var 2)) aa_nil)) rfl sc.nd))))))
      (ss_frz 3 (ss_one (as_ret (ae_var 3))))))
/-! carries: one 0, other 1, base 2 -/
abbrev s_carries : Stmt := topS 21
def t_carries (sp_need_whole sp_carries_in : List D → AH → DK → Prop) : ASt' :=
  (sSeq (sDrop (aCall sp_need_whole (aCons (aVar 0) (aCons (aC (.int 0)) (aCons (aC k_FAR_binomials) aNil)))))
    (sSeq (sDrop (aCall sp_need_whole (aCons (aVar 1) (aCons (aC (.int 0)) (aCons (aC k_FAR_binomials) aNil)))))
    (sSeq (sDrop (aCall sp_need_whole (aCons (aVar 2) (aCons (aC (.int 2)) (aCons (aC k_PRIMES) aNil)))))
    (sRet (aCall cTup (aCons (aCall sp_carries_in (aCons (aVar 0) (aCons (aVar 1) (aCons (aVar 2) aNil)))) aNil))))))
theorem sc_carries : FnScope ["one", "other", "base"] ["one", "other", "base"] (defScope s_carries) := ⟨rfl, rfl, rfl, by decide +kernel, rfl, by decide +kernel, by decide +kernel⟩
theorem d_carries {P : Program} {w : World} {K : PySem.W.Frag} {mg : Str → Option Value} {base : Heap} {sp_need_whole sp_carries_in : List D → AH → DK → Prop} (B : Bt K mg) (g_need_whole : AFn P w K mg base 2 "need_whole" sp_need_whole) (g_carries_in : AFn P w K mg base 1 "carries_in" sp_carries_in) (f : Addr) (cdv : Value) (A : Around) (outer : List Env) (s : Shared) (H : Hp) (E : XK) (hr : Room 2 (A.deeper (PyProof.Rows.envOfC "carries" (defScope s_carries) s.heap.objs.size f cdv))) :
    ASs (cxOf CX0 P w K mg base ["one", "other", "base"] "carries" (defScope s_carries) f cdv A outer s H E).nox (defBody s_carries) (t_carries sp_need_whole sp_carries_in) := by
  have sc := sc_carries
  exact (ss_cons (as_expr (ae_call g_need_whole (hr.mono (by decide)) (aa_cons (ae_var 0) (aa_cons ae_int (aa_cons (ae_glob B.c_FAR_binomials) aa_nil)))))
      (ss_cons (as_expr (ae_call g_need_whole (hr.mono (by decide)) (aa_cons (ae_var 1) (aa_cons ae_int (aa_cons (ae_glob B.c_FAR_binomials) aa_nil)))))
      (ss_cons (as_expr (ae_call g_need_whole (hr.mono (by decide)) (aa_cons (ae_var 2) (aa_cons ae_int (aa_cons (ae_glob B.c_PRIMES) aa_nil)))))
      (ss_one (as_ret (ae_ty call_tup B.b_tuple (by decide +kernel) (aa_cons (ae_call g_carries_in (hr.mono (by decide)) (aa_cons (ae_var 0) (aa_cons (ae_var 1) (aa_cons (ae_var 2) aa_nil)))) aa_nil)))))))
/-! turned_sum: base 0, number 1, line 2 -/
abbrev s_turned_sum : Stmt := topS 24
def t_turned_sum (sp_need_whole sp_digits_in sp_number_in : List D → AH → DK → Prop) : ASt' :=
  (sSeq (sDrop (aCall sp_need_whole (aCons (aVar 0) (aCons (aC (.int 2)) (aCons (aC k_BASE_digitmaps) aNil)))))
    (sSeq (sDrop (aCall sp_need_whole (aCons (aVar 1) (aCons (aC (.int 0)) (aCons (aOp aPow (aC (.int 10)) (aC (.int 30))) aNil)))))
    (sSeq (sAsg (aCall sp_digits_in (aCons (aVar 1) (aCons (aVar 0) aNil))) (agN 2))
    (sRet (aOp aAdd (aVar 1) (aCall sp_number_in (aCons (aRev (aVar 2)) (aCons (aVar 0) aNil))))))))
theorem sc_turned_sum : FnScope ["base", "number", "line"] ["base", "number"] (defScope s_turned_sum) := ⟨rfl, rfl, rfl, by decide +kernel, rfl, by decide +kernel, by decide +kernel⟩
theorem d_turned_sum {P : Program} {w : World} {K : PySem.W.Frag} {mg : Str → Option Value} {base : Heap} {sp_need_whole sp_digits_in sp_number_in : List D → AH → DK → Prop} (B : Bt K mg) (g_need_whole : AFn P w K mg base 2 "need_whole" sp_need_whole) (g_digits_in : AFn P w K mg base 1 "digits_in" sp_digits_in) (g_number_in : AFn P w K mg base 1 "number_in" sp_number_in) (f : Addr) (cdv : Value) (A : Around) (outer : List Env) (s : Shared) (H : Hp) (E : XK) (hr : Room 2 (A.deeper (PyProof.Rows.envOfC "turned_sum" (defScope s_turned_sum) s.heap.objs.size f cdv))) :
    ASs (cxOf CX0 P w K mg base ["base", "number", "line"] "turned_sum" (defScope s_turned_sum) f cdv A outer s H E).nox (defBody s_turned_sum) (t_turned_sum sp_need_whole sp_digits_in sp_number_in) := by
  have sc := sc_turned_sum
  exact (ss_cons (as_expr (ae_call g_need_whole (hr.mono (by decide)) (aa_cons (ae_var 0) (aa_cons ae_int (aa_cons (ae_glob B.c_BASE_digitmaps) aa_nil)))))
      (ss_cons (as_expr (ae_call g_need_whole (hr.mono (by decide)) (aa_cons (ae_var 1) (aa_cons ae_int (aa_cons (ae_op op_pow ae_int ae_int) aa_nil)))))
      (ss_cons (as_set 2 (ae_call g_digits_in (hr.mono (by decide)) (aa_cons (ae_var 1) (aa_cons (ae_var 0) aa_nil))) sc.nd)
      (ss_one (as_ret (ae_op op_add (ae_var 1) (ae_call g_number_in (hr.mono (by decide)) (aa_cons (ae_rev (ae_var 2)) (aa_cons (ae_var 0) aa_nil)))))))))
/-! is_mirrored: base 0, number 1, line 2 -/
abbrev s_is_mirrored : Stmt := topS 25
def t_is_mirrored (sp_need_whole sp_digits_in : List D → AH → DK → Prop) : ASt' :=
  (sSeq (sDrop (aCall sp_need_whole (aCons (aVar 0) (aCons (aC (.int 2)) (aCons (aC k_BASE_digitmaps) aNil)))))
    (sSeq (sDrop (aCall sp_need_whole (aCons (aVar 1) (aCons (aC (.int 0)) (aCons (aOp aPow (aC (.int 10)) (aC (.int 30))) aNil)))))
    (sSeq (sAsg (aCall sp_digits_in (aCons (aVar 1) (aCons (aVar 0) aNil))) (agN 2))
    (sRet (aOp aEq (aVar 2) (aRev (aVar 2)))))))
theorem sc_is_mirrored : FnScope ["base", "number", "line"] ["base", "number"] (defScope s_is_mirrored) := ⟨rfl, rfl, rfl, by decide +kernel, rfl, by decide +kernel, by decide +kernel⟩
theorem d_is_mirrored {P : Program} {w : World} {K : PySem.W.Frag} {mg : Str → Option Value} {base : Heap} {sp_need_whole sp_digits_in : List D → AH → DK → Prop} (B : Bt K mg) (g_need_whole : AFn P w K mg base 2 "need_whole" sp_need_whole) (g_digits_in : AFn P w K mg base 1 "digits_in" sp_digits_in) (f : Addr) (cdv : Value) (A : Around) (outer : List Env) (s : Shared) (H : Hp) (E : XK) (hr : Room 2 (A.deeper (PyProof.Rows.envOfC "is_mirrored" (defScope s_is_mirrored) s.heap.objs.size f cdv))) :
    ASs (cxOf CX0 P w K mg base ["base", "number", "line"] "is_mirrored" (defScope s_is_mirrored) f cdv A outer s H E).nox (defBody s_is_mirrored) (t_is_mirrored sp_need_whole sp_digits_in) := by
  have sc := sc_is_mirrored
  exact (ss_cons (as_expr (ae_call g_need_whole (hr.mono (by decide)) (aa_cons (ae_var 0) (aa_cons ae_int (aa_cons (ae_glob B.c_BASE_digitmaps) aa_nil)))))
      (ss_cons (as_expr (ae_call g_need_whole (hr.mono (by decide)) (aa_cons (ae_var 1) (aa_cons ae_int (aa_cons (ae_op op_pow ae_int ae_int) aa_nil)))))
      (ss_cons (as_set 2 (ae_call g_digits_in (hr.mono (by decide)) (aa_cons (ae_var 1) (aa_cons (ae_var 0) aa_nil))) sc.nd)
      (ss_one (as_ret (ae_cmp (op_eq hr.units) (ae_var 2) (ae_rev (ae_var 2))))))))
/-! digit_root: base 0, number 1, many 2 -/
abbrev s_digit_root : Stmt := topS 26
def t_digit_root (sp_need_whole sp_digits_in : List D → AH → DK → Prop) : ASt' :=
  (sSeq (sDrop (aCall sp_need_whole (aCons (aVar 0) (aCons (aC (.int 2)) (aCons (aC k_BASE_digitmaps) aNil)))))
    (sSeq (sDrop (aCall sp_need_whole (aCons (aVar 1) (aCons (aC (.int 0)) (aCons (aOp aPow (aC (.int 10)) (aC (.int 30))) aNil)))))
    (sSeq (sAsg (aC (.int 0)) (agN 2))
    (sSeq (sWhile (aTest (aOp aGe (aVar 1) (aVar 0))) (sPar 1 2 (aCons (aCall cSum (aCons (aCall sp_digits_in (aCons (aVar 1) (aCons (aVar 0) aNil))) aNil)) (aCons (aOp aAdd (aVar 2) (aC (.int 1))) aNil))))
    (sRet (aTup (aCons (aVar 1) (aCons (aVar 2) aNil))))))))
theorem sc_digit_root : FnScope ["base", "number", "many"] ["base", "number"] (defScope s_digit_root) := ⟨rfl, rfl, rfl, by decide +kernel, rfl, by decide +kernel, by decide +kernel⟩
theorem d_digit_root {P : Program} {w : World} {K : PySem.W.Frag} {mg : Str → Option Value} {base : Heap} {sp_need_whole sp_digits_in : List D → AH → DK → Prop} (B : Bt K mg) (g_need_whole : AFn P w K mg base 2 "need_whole" sp_need_whole) (g_digits_in : AFn P w K mg base 1 "digits_in" sp_digits_in) (f : Addr) (cdv : Value) (A : Around) (outer : List Env) (s : Shared) (H : Hp) (E : XK) (hr : Room 2 (A.deeper (PyProof.Rows.envOfC "digit_root" (defScope s_digit_root) s.heap.objs.size f cdv))) :
    ASs (cxOf CX0 P w K mg base ["base", "number", "many"] "digit_root" (defScope s_digit_root) f cdv A outer s H E).nox (defBody s_digit_root) (t_digit_root sp_need_whole sp_digits_in) := by
  have sc := sc_digit_root
  exact (ss_cons (as_expr (ae_call g_need_whole (hr.mono (by decide)) (aa_cons (ae_var 0) (aa_cons ae_int (aa_cons (ae_glob B.c_BASE_digitmaps) aa_nil)))))
      (ss_cons (as_expr (ae_call g_need_whole (hr.mono (by decide)) (aa_cons (ae_var 1) (aa_cons ae_int (aa_cons (ae_op op_pow ae_int ae_int) aa_nil)))))
      (ss_cons (as_set 2 ae_int sc.nd)
      (ss_cons (as_while PassesOwn.never (ab_cmp op_ge (ae_var 1) (ae_var 0)) (ss_one (as_par 1 2 (aa_cons (ae_bi (call_sum rfl) B.b_sum (by decide +kernel) (aa_cons (ae_call g_digits_in (hr.mono (by decide)) (aa_cons (ae_var 1) (aa_cons (ae_var 0) aa_nil))) aa_nil)) (aa_cons (ae_op op_add (ae_var 2) ae_int) aa_nil)) rfl sc.nd)))
      (ss_one (as_ret (ae_tup (aa_cons (ae_var 1) (aa_cons (ae_var 2) aa_nil)))))))))
/-! _law_cup: script 0, cell 1 -/
abbrev s_lw_cup : Stmt := topS 28
def t_lw_cup : ASt' :=
  (sSeq (sAsg (aCall cAbs (aCons (aOp aIx (aOp aAdd (aCall cLst (aCons (aVar 0) aNil)) (aLst (aCons (aC (.int 0)) aNil))) (aC (.int 0))) aNil)) (agN 1))
    (sRet (aLstM (aCons (aIf (aTest (aOp aGe (aVar 1) (aOp aPow (aC (.int 10)) (aC (.int 18))))) (aOp aFDiv (aVar 1) (aC (.int 1613))) (aC (.int 0))) (aCons (aOp aAdd (aOp aMod (aCall cInt (aCons (aOp aAdd (aOp aMul (aVar 1) (aC (.int 2665))) (aC (.int 11561))) aNil)) (aC (.int 2077510337))) (aC (.int 1633))) aNil)))))
theorem sc_lw_cup : FnScope ["script", "cell"] ["script"] (defScope s_lw_cup) := ⟨rfl, rfl, rfl, by decide +kernel, rfl, by decide +kernel, by decide +kernel⟩
theorem d_lw_cup {P : Program} {w : World} {K : PySem.W.Frag} {mg : Str → Option Value} {base : Heap} (B : Bt K mg) (f : Addr) (cdv : Value) (A : Around) (outer : List Env) (s : Shared) (H : Hp) (E : XK) (hr : Room 0 (A.deeper (PyProof.Rows.envOfC "_law_cup" (defScope s_lw_cup) s.heap.objs.size f cdv))) :
    ASs (cxOf CX0 P w K mg base ["script", "cell"] "_law_cup" (defScope s_lw_cup) f cdv A outer s H E).nox (defBody s_lw_cup) (t_lw_cup) := by
  have sc := sc_lw_cup
  exact (ss_cons (as_set 1 (ae_bi call_abs B.b_abs (by decide +kernel) (aa_cons (ae_ix (ae_op op_add (ae_ty call_lst B.b_list (by decide +kernel) (aa_cons (ae_var 0) aa_nil)) (ae_lst (aa_cons ae_int aa_nil))) ae_int) aa_nil)) sc.nd)
      (ss_one (as_ret (ae_lstM (aa_cons (ae_if (ab_cmp op_ge (ae_var 1) (ae_op op_pow ae_int ae_int)) (ae_op op_fdiv (ae_var 1) ae_int) ae_int) (aa_cons (ae_op op_add (ae_op op_mod (ae_ty call_int B.b_int (by decide +kernel) (aa_cons (ae_op op_add (ae_op op_mul (ae_var 1) ae_int) ae_int) aa_nil)) ae_int) ae_int) aa_nil))))))
/-! _law_roll: cup 0, many 1, found 2, deep 3 -/
abbrev s_lw_roll : Stmt := topS 29
def t_lw_roll : ASt' :=
  (sSeq (sIf (aTest (aOp aGt (aOp aIx (aVar 0) (aC (.int 0))) (aC (.int 0)))) (sSeq (sAsg (aOp aMod (aCall cInt (aCons (aOp aIx (aVar 0) (aC (.int 0))) aNil)) (aVar 1)) (agN 2))
    (sSeq (sAsg (aOp aFDiv (aOp aIx (aVar 0) (aC (.int 0))) (aVar 1)) (agS (aVar 0) (aC (.int 0))))
    (sRet (aVar 2)))) sNext)
    (sSeq (sAsg (aOp aMod (aCall cInt (aCons (aOp aAdd (aOp aMul (aOp aIx (aVar 0) (aC (.int 1))) (aC (.int 38243))) (aC (.int 12551))) aNil)) (aC (.int 2147483423))) (agS (aVar 0) (aC (.int 1))))
    (sSeq (sAsg (aOp aMod (aCall cInt (aCons (aOp aMul (aOp aIx (aVar 0) (aC (.int 1))) (aOp aAdd (aOp aIx (aVar 0) (aC (.int 1))) (aC (.int 2043)))) aNil)) (aC (.int 2147483587))) (agN 3))
    (sRet (aOp aMod (aCall cInt (aCons (aOp aFDiv (aVar 3) (aC (.int 2267))) aNil)) (aVar 1))))))
theorem sc_lw_roll : FnScope ["cup", "many", "found", "deep"] ["cup", "many"] (defScope s_lw_roll) := ⟨rfl, rfl, rfl, by decide +kernel, rfl, by decide +kernel, by decide +kernel⟩
theorem d_lw_roll {P : Program} {w : World} {K : PySem.W.Frag} {mg : Str → Option Value} {base : Heap} (B : Bt K mg) (f : Addr) (cdv : Value) (A : Around) (outer : List Env) (s : Shared) (H : Hp) (E : XK) (hr : Room 0 (A.deeper (PyProof.Rows.envOfC "_law_roll" (defScope s_lw_roll) s.heap.objs.size f cdv))) :
    ASs (cxOf CX0 P w K mg base ["cup", "many", "found", "deep"] "_law_roll" (defScope s_lw_roll) f cdv A outer s H E).nox (defBody s_lw_roll) (t_lw_roll) := by
  have sc := sc_lw_roll
  exact (ss_cons (as_if (ab_cmp op_gt (ae_ix (ae_var 0) ae_int) ae_int) (ss_cons (as_set 2 (ae_op op_mod (ae_ty call_int B.b_int (by decide +kernel) (aa_cons (ae_ix (ae_var 0) ae_int) aa_nil)) (ae_var 1)) sc.nd)
      (ss_cons (as_asg (ae_op op_fdiv (ae_ix (ae_var 0) ae_int) (ae_var 1)) (ag_sub (ae_var 0) ae_int))
      (ss_one (as_ret (ae_var 2))))) ss_nil)
      (ss_cons (as_asg (ae_op op_mod (ae_ty call_int B.b_int (by decide +kernel) (aa_cons (ae_op op_add (ae_op op_mul (ae_ix (ae_var 0) ae_int) ae_int) ae_int) aa_nil)) ae_int) (ag_sub (ae_var 0) ae_int))
      (ss_cons (as_set 3 (ae_op op_mod (ae_ty call_int B.b_int (by decide +kernel) (aa_cons (ae_op op_mul (ae_ix (ae_var 0) ae_int) (ae_op op_add (ae_ix (ae_var 0) ae_int) ae_int)) aa_nil)) ae_int) sc.nd)
      (ss_one (as_ret (ae_op op_mod (ae_ty call_int B.b_int (by decide +kernel) (aa_cons (ae_op op_fdiv (ae_var 3) ae_int) aa_nil)) (ae_var 1)))))))
/-! _law_some: cup 0, things 1 -/
abbrev s_lw_some : Stmt := topS 30
def t_lw_some (sp_lw_roll : List D → AH → DK → Prop) : ASt' :=
  (sRet (aOp aIx (aVar 1) (aCall sp_lw_roll (aCons (aVar 0) (aCons (aCall cLen (aCons (aVar 1) aNil)) aNil)))))
theorem sc_lw_some : FnScope ["cup", "things"] ["cup", "things"] (defScope s_lw_some) := ⟨rfl, rfl, rfl, by decide +kernel, rfl, by decide +kernel, by decide +kernel⟩
theorem d_lw_some {P : Program} {w : World} {K : PySem.W.Frag} {mg : Str → Option Value} {base : Heap} {sp_lw_roll : List D → AH → DK → Prop} (B : Bt K mg) (g_lw_roll : AFn P w K mg base 1 "_law_roll" sp_lw_roll) (f : Addr) (cdv : Value) (A : Around) (outer : List Env) (s : Shared) (H : Hp) (E : XK) (hr : Room 1 (A.deeper (PyProof.Rows.envOfC "_law_some" (defScope s_lw_some) s.heap.objs.size f cdv))) :
    ASs (cxOf CX0 P w K mg base ["cup", "things"] "_law_some" (defScope s_lw_some) f cdv A outer s H E).nox (defBody s_lw_some) (t_lw_some sp_lw_roll) := by
  have sc := sc_lw_some
  exact (ss_one (as_ret (ae_ix (ae_var 1) (ae_call g_lw_roll (hr.mono (by decide)) (aa_cons (ae_var 0) (aa_cons (ae_bi call_len B.b_len (by decide +kernel) (aa_cons (ae_var 1) aa_nil)) aa_nil))))))
/-! _law_same: told 0, due 1, at 2 -/
abbrev s_lw_same : Stmt := topS 31
def t_lw_same (sp_lw_same : List D → AH → DK → Prop) : ASt' :=
  (sSeq (sIf (aOr (aTruE (aIsI "tuple" (aVar 1))) (aTruE (aIsI "list" (aVar 1)))) (sSeq (sIf (aOr (aTest (aOp aNe (aIsI "tuple" (aVar 0)) (aIsI "tuple" (aVar 1)))) (aOr (aTest (aOp aNe (aIsI "list" (aVar 0)) (aIsI "list" (aVar 1)))) (aTest (aOp aNe (aCall cLen (aCons (aVar 0) aNil)) (aCall cLen (aCons (aVar 1) aNil)))))) (sRet (aC (.bl false))) sNext)
    (sRet (aOp aEq (aLc (iRange1 (aCons (aCall cLen (aCons (aVar 1) aNil)) aNil)) (agN 2) (aNot (aTruE (aCall sp_lw_same (aCons (aOp aIx (aVar 0) (aVar 2)) (aCons (aOp aIx (aVar 1) (aVar 2)) aNil))))) (aC (.int 1)) [2]) (aLst aNil)))) sNext)
    (sSeq (sIf (aTest (aOp aIs (aVar 1) (aC .non))) (sRet (aOp aIs (aVar 0) (aC .non))) sNext)
    (sSeq (sIf (aTruE (aIsI "bool" (aVar 1))) (sRet (aIf (aTruE (aVar 1)) (aOp aIs (aVar 0) (aC (.bl true))) (aOp aIs (aVar 0) (aC (.bl false))))) sNext)
    (sSeq (sIf (aTruE (aIsI "int" (aVar 1))) (sRet (aAndV (aIsI "int" (aVar 0)) (aAndV (aNotV (aIsI "bool" (aVar 0))) (aOp aEq (aCall cInt (aCons (aVar 0) aNil)) (aVar 1))))) sNext)
    sNever))))
theorem sc_lw_same : FnScope ["told", "due", "at"] ["told", "due"] (defScope s_lw_same) := ⟨rfl, rfl, rfl, by decide +kernel, rfl, by decide +kernel, by decide +kernel⟩
theorem d_lw_same {P : Program} {w : World} {K : PySem.W.Frag} {mg : Str → Option Value} {base : Heap} {sp_lw_same : List D → AH → DK → Prop} {k : Nat} (hk : 0 ≤ k) (B : Bt K mg) (g_lw_same : AFn P w K mg base k "_law_same" sp_lw_same) (f : Addr) (cdv : Value) (A : Around) (outer : List Env) (s : Shared) (H : Hp) (E : XK) (hr : Room k (A.deeper (PyProof.Rows.envOfC "_law_same" (defScope s_lw_same) s.heap.objs.size f cdv))) :
    ASs (cxOf CX0 P w K mg base ["told", "due", "at"] "_law_same" (defScope s_lw_same) f cdv A outer s H E).nox (defBody s_lw_same) (t_lw_same sp_lw_same) := by
  have sc := sc_lw_same
  exact (ss_cons (as_if (aw_or (ab_truth (ae_isi (ae_var 1) B.b_isinstance B.b_tuple (by decide +kernel) kit_tuple)) (aw_or1 (ab_truth (ae_isi (ae_var 1) B.b_isinstance B.b_list (by decide +kernel) kit_list)))).ab (ss_cons (as_if (aw_or (ab_cmp (op_ne hr.units) (ae_isi (ae_var 0) B.b_isinstance B.b_tuple (by decide +kernel) kit_tuple) (ae_isi (ae_var 1) B.b_isinstance B.b_tuple (by decide +kernel) kit_tuple)) (aw_or (ab_cmp (op_ne hr.units) (ae_isi (ae_var 0) B.b_isinstance B.b_list (by decide +kernel) kit_list) (ae_isi (ae_var 1) B.b_isinstance B.b_list (by decide +kernel) kit_list)) (aw_or1 (ab_cmp (op_ne hr.units) (ae_bi call_len B.b_len (by decide +kernel) (aa_cons (ae_var 0) aa_nil)) (ae_bi call_len B.b_len (by decide +kernel) (aa_cons (ae_var 1) aa_nil)))))).ab (ss_one (as_ret ae_bl)) ss_nil)
      (ss_one (as_ret (ae_cmp (op_eq hr.units) (ae_lc (own := [("at", 2)]) (sl := [2]) rfl sc.nd (ai_range1 B.b_range (aa_cons (ae_bi call_len B.b_len (by decide +kernel) (aa_cons (ae_var 1) aa_nil)) aa_nil)) (blkOk_by (N := ["told", "due", "at"]) (sc := defScope s_lw_same) (by decide +kernel)) (by decide) (fun _ _ _ _ _ => (ag_name 2 sc.nd)) (fun _ _ _ _ _ => (ats_one (ab_not (ab_truth (ae_call g_lw_same hr (aa_cons (ae_ix (ae_var 0) (ae_var 2)) (aa_cons (ae_ix (ae_var 1) (ae_var 2)) aa_nil))))))) (fun _ _ _ _ _ => ae_int)) (ae_lst aa_nil))))) ss_nil)
      (ss_cons (as_if (ab_cmp op_is (ae_var 1) ae_non) (ss_one (as_ret (ae_cmp op_is (ae_var 0) ae_non))) ss_nil)
      (ss_cons (as_if (ab_truth (ae_isi (ae_var 1) B.b_isinstance B.b_bool (by decide +kernel) kit_bool)) (ss_one (as_ret (ae_if (ab_truth (ae_var 1)) (ae_cmp op_is (ae_var 0) ae_bl) (ae_cmp op_is (ae_var 0) ae_bl)))) ss_nil)
      (ss_cons (as_if (ab_truth (ae_isi (ae_var 1) B.b_isinstance B.b_int (by decide +kernel) kit_int)) (ss_one (as_ret (ae_and (ae_isi (ae_var 0) B.b_isinstance B.b_int (by decide +kernel) kit_int) (ae_and (ae_not (ae_isi (ae_var 0) B.b_isinstance B.b_bool (by decide +kernel) kit_bool)) (ae_one (ae_cmp (op_eq hr.units) (ae_ty call_int B.b_int (by decide +kernel) (aa_cons (ae_var 0) aa_nil)) (ae_var 1))))))) ss_nil)
      (ss_one as_never)))))
/-! _law_great: cup 0, many 1, found 2, turn 3 -/
abbrev s_lw_great : Stmt := topS 32
def t_lw_great (sp_lw_roll : List D → AH → DK → Prop) : ASt' :=
  (sSeq (sAsg (aC (.int 0)) (agN 2))
    (sSeq (sFor (iRange1 (aCons (aOp aAdd (aCall sp_lw_roll (aCons (aVar 0) (aCons (aVar 1) aNil))) (aC (.int 1))) aNil)) (agN 3) (sAsg (aOp aAdd (aOp aMul (aC (.int 1000)) (aVar 2)) (aCall sp_lw_roll (aCons (aVar 0) (aCons (aC (.int 1000)) aNil)))) (agN 2)))
    (sRet (aVar 2))))
theorem sc_lw_great : FnScope ["cup", "many", "found", "turn"] ["cup", "many"] (defScope s_lw_great) := ⟨rfl, rfl, rfl, by decide +kernel, rfl, by decide +kernel, by decide +kernel⟩
theorem d_lw_great {P : Program} {w : World} {K : PySem.W.Frag} {mg : Str → Option Value} {base : Heap} {sp_lw_roll : List D → AH → DK → Prop} (B : Bt K mg) (g_lw_roll : AFn P w K mg base 1 "_law_roll" sp_lw_roll) (f : Addr) (cdv : Value) (A : Around) (outer : List Env) (s : Shared) (H : Hp) (E : XK) (hr : Room 1 (A.deeper (PyProof.Rows.envOfC "_law_great" (defScope s_lw_great) s.heap.objs.size f cdv))) :
    ASs (cxOf CX0 P w K mg base ["cup", "many", "found", "turn"] "_law_great" (defScope s_lw_great) f cdv A outer s H E).nox (defBody s_lw_great) (t_lw_great sp_lw_roll) := by
  have sc := sc_lw_great
  exact (ss_cons (as_set 2 ae_int sc.nd)
      (ss_cons (as_for PassesOwn.never rfl (ai_range1 B.b_range (aa_cons (ae_op op_add (ae_call g_lw_roll (hr.mono (by decide)) (aa_cons (ae_var 0) (aa_cons (ae_var 1) aa_nil))) ae_int) aa_nil)) (ag_name 3 sc.nd) (ss_one (as_set 2 (ae_op op_add (ae_op op_mul ae_int (ae_var 2)) (ae_call g_lw_roll (hr.mono (by decide)) (aa_cons (ae_var 0) (aa_cons ae_int aa_nil)))) sc.nd)))
      (ss_one (as_ret (ae_var 2)))))
/-! _law_grouped: line 0, size 1, base 2, found 3, rest 4, part 5, number 6, digit 7 -/
abbrev s_lw_grouped : Stmt := topS 33
def t_lw_grouped : ASt' :=
  (sSeq (sPar 3 4 (aCons (aLst aNil) (aCons (aCall cLst (aCons (aVar 0) aNil)) aNil)))
    (sSeq (sWhile (aTest (aOp aNe (aVar 4) (aLst aNil))) (sSeq (sPar 5 4 (aCons (aSl (aVar 4) (aPart (aNeg (aVar 1))) aNoPart) (aCons (aSl (aVar 4) aNoPart (aPart (aNeg (aVar 1)))) aNil)))
    (sSeq (sAsg (aC (.int 0)) (agN 6))
    (sSeq (sFor (iSeq (aVar 5)) (agN 7) (sAsg (aOp aAdd (aOp aMul (aVar 6) (aVar 2)) (aVar 7)) (agN 6)))
    (sAsg (aOp aAdd (aLst (aCons (aVar 6) aNil)) (aVar 3)) (agN 3))))))
    (sRet (aCall cTup (aCons (aVar 3) aNil)))))
theorem sc_lw_grouped : FnScope ["line", "size", "base", "found", "rest", "part", "number", "digit"] ["line", "size", "base"] (defScope s_lw_grouped) := ⟨rfl, rfl, rfl, by decide +kernel, rfl, by decide +kernel, by decide +kernel⟩
theorem d_lw_grouped {P : Program} {w : World} {K : PySem.W.Frag} {mg : Str → Option Value} {base : Heap} (B : Bt K mg) (f : Addr) (cdv : Value) (A : Around) (outer : List Env) (s : Shared) (H : Hp) (E : XK) (hr : Room 0 (A.deeper (PyProof.Rows.envOfC "_law_grouped" (defScope s_lw_grouped) s.heap.objs.size f cdv))) :
    ASs (cxOf CX0 P w K mg base ["line", "size", "base", "found", "rest", "part", "number", "digit"] "_law_grouped" (defScope s_lw_grouped) f cdv A outer s H E).nox (defBody s_lw_grouped) (t_lw_grouped) := by
  have sc := sc_lw_grouped
  exact (ss_cons (as_par 3 4 (aa_cons (ae_lst aa_nil) (aa_cons (ae_ty call_lst B.b_list (by decide +kernel) (aa_cons (ae_var 0) aa_nil)) aa_nil)) rfl sc.nd)
      (ss_cons (as_while PassesOwn.never (ab_cmp (op_ne hr.units) (ae_var 4) (ae_lst aa_nil)) (ss_cons (as_par 5 4 (aa_cons (ae_slice (ae_var 4) (ao_some (ae_neg (ae_var 1))) ao_none) (aa_cons (ae_slice (ae_var 4) ao_none (ao_some (ae_neg (ae_var 1)))) aa_nil)) rfl sc.nd)
      (ss_cons (as_set 6 ae_int sc.nd)
      (ss_cons (as_for PassesOwn.never rfl (ai_seq (ae_var 5)) (ag_name 7 sc.nd) (ss_one (as_set 6 (ae_op op_add (ae_op op_mul (ae_var 6) (ae_var 2)) (ae_var 7)) sc.nd)))
      (ss_one (as_set 3 (ae_op op_add (ae_lst (aa_cons (ae_var 6) aa_nil)) (ae_var 3)) sc.nd))))))
      (ss_one (as_ret (ae_ty call_tup B.b_tuple (by decide +kernel) (aa_cons (ae_var 3) aa_nil))))))
/-! _law_number_right: cup 0, number 1, base 2, line 3, digit 4, size 5, whole 6, back 7, turned 8, one 9, told 10 -/
abbrev s_lw_number_right : Stmt := topS 34
def t_lw_number_right (sp_digits sp_lw_roll sp_lw_same sp_are_digits sp_number_of sp_lw_grouped sp_is_mirrored sp_turned_sum : List D → AH → DK → Prop) : ASt' :=
  (sSeq (sPar 3 4 (aCons (aCall sp_digits (aCons (aVar 1) (aCons (aVar 2) aNil))) (aCons (aCall sp_lw_roll (aCons (aVar 0) (aCons (aVar 2) aNil))) aNil)))
    (sSeq (sIf (aNot (aTruE (aCall sp_lw_same (aCons (aLst (aCons (aCall sp_are_digits (aCons (aVar 2) (aCons (aVar 3) aNil))) (aCons (aCall sp_number_of (aCons (aVar 2) (aCons (aVar 3) aNil))) (aCons (aCall sp_are_digits (aCons (aVar 2) (aCons (aOp aAdd (aTup (aCons (aC (.int 0)) aNil)) (aVar 3)) aNil))) aNil)))) (aCons (aLst (aCons (aC (.bl true)) (aCons (aVar 1) (aCons (aC (.bl false)) aNil)))) aNil))))) (sRet (aC (.bl false))) sNext)
    (sSeq (sIf (aAnd (aTest (aOp aGt (aVar 1) (aC (.int 0)))) (aAnd (aTest (aOp aLt (aVar 1) (aOp aPow (aC (.int 10)) (aC (.int 27))))) (aNot (aTruE (aCall sp_lw_same (aCons (aCall sp_digits (aCons (aOp aAdd (aOp aMul (aVar 1) (aVar 2)) (aVar 4)) (aCons (aVar 2) aNil))) (aCons (aOp aAdd (aVar 3) (aTup (aCons (aVar 4) aNil))) aNil))))))) (sRet (aC (.bl false))) sNext)
    (sSeq (sIf (aAnd (aTest (aOp aGt (aVar 1) (aC (.int 0)))) (aNot (aTruE (aCall sp_lw_same (aCons (aCall sp_number_of (aCons (aVar 2) (aCons (aOp aAdd (aVar 3) (aSl (aVar 3) aNoPart (aPart (aC (.int 1))))) aNil))) (aCons (aOp aAdd (aOp aMul (aVar 1) (aVar 2)) (aOp aIx (aVar 3) (aC (.int 0)))) aNil)))))) (sRet (aC (.bl false))) sNext)
    (sSeq (sFor (iSeq (aTup (aCons (aC (.int 2)) (aCons (aC (.int 3)) aNil)))) (agN 5) (sSeq (sAsg (aIf (aTest (aOp aEq (aVar 5) (aC (.int 2)))) (aOp aMul (aVar 2) (aVar 2)) (aOp aMul (aOp aMul (aVar 2) (aVar 2)) (aVar 2))) (agN 6))
    (sIf (aAnd (aTest (aOp aLe (aVar 6) (aC (.int 36)))) (aNot (aTruE (aCall sp_lw_same (aCons (aCall sp_digits (aCons (aVar 1) (aCons (aVar 6) aNil))) (aCons (aCall sp_lw_grouped (aCons (aVar 3) (aCons (aVar 5) (aCons (aVar 2) aNil)))) aNil)))))) (sRet (aC (.bl false))) sNext)))
    (sSeq (sAsg (aRev (aVar 3)) (agN 7))
    (sSeq (sAsg (aC (.int 0)) (agN 8))
    (sSeq (sFor (iSeq (aVar 7)) (agN 9) (sAsg (aOp aAdd (aOp aMul (aVar 8) (aVar 2)) (aVar 9)) (agN 8)))
    (sSeq (sAsg (aLst (aCons (aCall sp_is_mirrored (aCons (aVar 2) (aCons (aVar 1) aNil))) (aCons (aCall sp_turned_sum (aCons (aVar 2) (aCons (aVar 1) aNil))) aNil))) (agN 10))
    (sRet (aCall sp_lw_same (aCons (aVar 10) (aCons (aLst (aCons (aOp aEq (aVar 7) (aVar 3)) (aCons (aOp aAdd (aVar 1) (aVar 8)) aNil))) aNil)))))))))))))
theorem sc_lw_number_right : FnScope ["cup", "number", "base", "line", "digit", "size", "whole", "back", "turned", "one", "told"] ["cup", "number", "base"] (defScope s_lw_number_right) := ⟨rfl, rfl, rfl, by decide +kernel, rfl, by decide +kernel, by decide +kernel⟩
theorem d_lw_number_right {P : Program} {w : World} {K : PySem.W.Frag} {mg : Str → Option Value} {base : Heap} {sp_digits sp_lw_roll sp_lw_same sp_are_digits sp_number_of sp_lw_grouped sp_is_mirrored sp_turned_sum : List D → AH → DK → Prop} (B : Bt K mg) (g_digits : AFn P w K mg base 3 "digits" sp_digits) (g_lw_roll : AFn P w K mg base 1 "_law_roll" sp_lw_roll) (g_lw_same : AFn P w K mg base 13 "_law_same" sp_lw_same) (g_are_digits : AFn P w K mg base 3 "are_digits" sp_are_digits) (g_number_of : AFn P w K mg base 3 "number_of" sp_number_of) (g_lw_grouped : AFn P w K mg base 1 "_law_grouped" sp_lw_grouped) (g_is_mirrored : AFn P w K mg base 3 "is_mirrored" sp_is_mirrored) (g_turned_sum : AFn P w K mg base 3 "turned_sum" sp_turned_sum) (f : Addr) (cdv : Value) (A : Around) (outer : List Env) (s : Shared) (H : Hp) (E : XK) (hr : Room 13 (A.deeper (PyProof.Rows.envOfC "_law_number_right" (defScope s_lw_number_right) s.heap.objs.size f cdv))) :
    ASs (cxOf CX0 P w K mg base ["cup", "number", "base", "line", "digit", "size", "whole", "back", "turned", "one", "told"] "_law_number_right" (defScope s_lw_number_right) f cdv A outer s H E).nox (defBody s_lw_number_right) (t_lw_number_right sp_digits sp_lw_roll sp_lw_same sp_are_digits sp_number_of sp_lw_grouped sp_is_mirrored sp_turned_sum) := by
  have sc := sc_lw_number_right
  exact (ss_cons (as_par 3 4 (aa_cons (ae_call g_digits (hr.mono (by decide)) (aa_cons (ae_var 1) (aa_cons (ae_var 2) aa_nil))) (aa_cons (ae_call g_lw_roll (hr.mono (by decide)) (aa_cons (ae_var 0) (aa_cons (ae_var 2) aa_nil))) aa_nil)) rfl sc.nd)
      (ss_cons (as_if (ab_not (ab_truth (ae_call g_lw_same (hr.mono (by decide)) (aa_cons (ae_lst (aa_cons (ae_call g_are_digits (hr.mono (by decide)) (aa_cons (ae_var 2) (aa_cons (ae_var 3) aa_nil))) (aa_cons (ae_call g_number_of (hr.mono (by decide)) (aa_cons (ae_var 2) (aa_cons (ae_var 3) aa_nil))) (aa_cons (ae_call g_are_digits (hr.mono (by decide)) (aa_cons (ae_var 2) (aa_cons (ae_op op_add (ae_tup (aa_cons ae_int aa_nil)) (ae_var 3)) aa_nil))) aa_nil)))) (aa_cons (ae_lst (aa_cons ae_bl (aa_cons (ae_var 1) (aa_cons ae_bl aa_nil)))) aa_nil))))) (ss_one (as_ret ae_bl)) ss_nil)
      (ss_cons (as_if (aw_and (ab_cmp op_gt (ae_var 1) ae_int) (aw_and (ab_cmp op_lt (ae_var 1) (ae_op op_pow ae_int ae_int)) (aw_and1 (ab_not (ab_truth (ae_call g_lw_same (hr.mono (by decide)) (aa_cons (ae_call g_digits (hr.mono (by decide)) (aa_cons (ae_op op_add (ae_op op_mul (ae_var 1) (ae_var 2)) (ae_var 4)) (aa_cons (ae_var 2) aa_nil))) (aa_cons (ae_op op_add (ae_var 3) (ae_tup (aa_cons (ae_var 4) aa_nil))) aa_nil)))))))).ab (ss_one (as_ret ae_bl)) ss_nil)
      (ss_cons (as_if (aw_and (ab_cmp op_gt (ae_var 1) ae_int) (aw_and1 (ab_not (ab_truth (ae_call g_lw_same (hr.mono (by decide)) (aa_cons (ae_call g_number_of (hr.mono (by decide)) (aa_cons (ae_var 2) (aa_cons (ae_op op_add (ae_var 3) (ae_slice (ae_var 3) ao_none (ao_some ae_int))) aa_nil))) (aa_cons (ae_op op_add (ae_op op_mul (ae_var 1) (ae_var 2)) (ae_ix (ae_var 3) ae_int)) aa_nil))))))).ab (ss_one (as_ret ae_bl)) ss_nil)
      (ss_cons (as_for PassesOwn.never rfl (ai_seq (ae_tup (aa_cons ae_int (aa_cons ae_int aa_nil)))) (ag_name 5 sc.nd) (ss_cons (as_set 6 (ae_if (ab_cmp (op_eq hr.units) (ae_var 5) ae_int) (ae_op op_mul (ae_var 2) (ae_var 2)) (ae_op op_mul (ae_op op_mul (ae_var 2) (ae_var 2)) (ae_var 2))) sc.nd)
      (ss_one (as_if (aw_and (ab_cmp op_le (ae_var 6) ae_int) (aw_and1 (ab_not (ab_truth (ae_call g_lw_same (hr.mono (by decide)) (aa_cons (ae_call g_digits (hr.mono (by decide)) (aa_cons (ae_var 1) (aa_cons (ae_var 6) aa_nil))) (aa_cons (ae_call g_lw_grouped (hr.mono (by decide)) (aa_cons (ae_var 3) (aa_cons (ae_var 5) (aa_cons (ae_var 2) aa_nil)))) aa_nil))))))).ab (ss_one (as_ret ae_bl)) ss_nil))))
      (ss_cons (as_set 7 (ae_rev (ae_var 3)) sc.nd)
      (ss_cons (as_set 8 ae_int sc.nd)
      (ss_cons (as_for PassesOwn.never rfl (ai_seq (ae_var 7)) (ag_name 9 sc.nd) (ss_one (as_set 8 (ae_op op_add (ae_op op_mul (ae_var 8) (ae_var 2)) (ae_var 9)) sc.nd)))
      (ss_cons (as_set 10 (ae_lst (aa_cons (ae_call g_is_mirrored (hr.mono (by decide)) (aa_cons (ae_var 2) (aa_cons (ae_var 1) aa_nil))) (aa_cons (ae_call g_turned_sum (hr.mono (by decide)) (aa_cons (ae_var 2) (aa_cons (ae_var 1) aa_nil))) aa_nil))) sc.nd)
      (ss_one (as_ret (ae_call g_lw_same (hr.mono (by decide)) (aa_cons (ae_var 10) (aa_cons (ae_lst (aa_cons (ae_cmp (op_eq hr.units) (ae_var 7) (ae_var 3)) (aa_cons (ae_op op_add (ae_var 1) (ae_var 8)) aa_nil))) aa_nil))))))))))))))
/-! _law_sums_right: one 0, other 1, base 2, line 3, sums 4, first 5, second 6, whole 7, ahead 8, at 9, carry 10, due 11, number 12 -/
abbrev s_lw_sums_right : Stmt := topS 35
def t_lw_sums_right (sp_carries sp_digits : List D → AH → DK → Prop) : ASt' :=
  (sSeq (sAsg (aCall sp_carries (aCons (aVar 0) (aCons (aVar 1) (aCons (aVar 2) aNil)))) (agN 3))
    (sSeq (sAsg (aLc (iSeq (aTup (aCons (aVar 0) (aCons (aVar 1) (aCons (aOp aAdd (aVar 0) (aVar 1)) aNil))))) (agN 12) aYes (aCall cSum (aCons (aCall sp_digits (aCons (aVar 12) (aCons (aVar 2) aNil))) aNil)) [12]) (agN 4))
    (sSeq (sIf (aOr (aTest (aOp aNe (aOp aSub (aOp aAdd (aOp aIx (aVar 4) (aC (.int 0))) (aOp aIx (aVar 4) (aC (.int 1)))) (aOp aIx (aVar 4) (aC (.int 2)))) (aOp aMul (aOp aSub (aVar 2) (aC (.int 1))) (aCall cSum (aCons (aVar 3) aNil))))) (aTest (aOp aNe (aCall sp_carries (aCons (aVar 1) (aCons (aVar 0) (aCons (aVar 2) aNil)))) (aVar 3)))) (sRet (aC (.bl false))) sNext)
    (sSeq (sAsg (aLc (iSeq (aTup (aCons (aVar 0) (aCons (aVar 1) (aCons (aOp aAdd (aVar 0) (aVar 1)) aNil))))) (agN 12) aYes (aRev (aCall sp_digits (aCons (aVar 12) (aCons (aVar 2) aNil)))) [12]) (agT 3 (agCons (agN 5) (agCons (agN 6) (agCons (agN 7) agNil)))))
    (sSeq (sAsg (aC (.int 0)) (agN 8))
    (sSeq (sFor (iEnumD (aVar 3)) (agT 2 (agCons (agN 9) (agCons (agN 10) agNil))) (sSeq (sAsg (aOp aSub (aOp aAdd (aOp aAdd (aIf (aTest (aOp aLt (aVar 9) (aCall cLen (aCons (aVar 5) aNil)))) (aOp aIx (aVar 5) (aVar 9)) (aC (.int 0))) (aIf (aTest (aOp aLt (aVar 9) (aCall cLen (aCons (aVar 6) aNil)))) (aOp aIx (aVar 6) (aVar 9)) (aC (.int 0)))) (aVar 8)) (aOp aMul (aVar 2) (aVar 10))) (agN 11))
    (sSeq (sIf (aTest (aOp aNe (aVar 11) (aIf (aTest (aOp aLt (aVar 9) (aCall cLen (aCons (aVar 7) aNil)))) (aOp aIx (aVar 7) (aVar 9)) (aC (.int 0))))) (sRet (aC (.bl false))) sNext)
    (sAsg (aVar 10) (agN 8)))))
    (sRet (aC (.bl true)))))))))
theorem sc_lw_sums_right : FnScope ["one", "other", "base", "line", "sums", "first", "second", "whole", "ahead", "at", "carry", "due", "number"] ["one", "other", "base"] (defScope s_lw_sums_right) := ⟨rfl, rfl, rfl, by decide +kernel, rfl, by decide +kernel, by decide +kernel⟩
theorem d_lw_sums_right {P : Program} {w : World} {K : PySem.W.Frag} {mg : Str → Option Value} {base : Heap} {sp_carries sp_digits : List D → AH → DK → Prop} (B : Bt K mg) (g_carries : AFn P w K mg base 3 "carries" sp_carries) (g_digits : AFn P w K mg base 3 "digits" sp_digits) (f : Addr) (cdv : Value) (A : Around) (outer : List Env) (s : Shared) (H : Hp) (E : XK) (hr : Room 3 (A.deeper (PyProof.Rows.envOfC "_law_sums_right" (defScope s_lw_sums_right) s.heap.objs.size f cdv))) :
    ASs (cxOf CX0 P w K mg base ["one", "other", "base", "line", "sums", "first", "second", "whole", "ahead", "at", "carry", "due", "number"] "_law_sums_right" (defScope s_lw_sums_right) f cdv A outer s H E).nox (defBody s_lw_sums_right) (t_lw_sums_right sp_carries sp_digits) := by
  have sc := sc_lw_sums_right
  exact (ss_cons (as_set 3 (ae_call g_carries (hr.mono (by decide)) (aa_cons (ae_var 0) (aa_cons (ae_var 1) (aa_cons (ae_var 2) aa_nil)))) sc.nd)
      (ss_cons (as_setLc 4 (own := [("number", 12)]) (sl := [12]) rfl sc.nd (ai_seq (ae_tup (aa_cons (ae_var 0) (aa_cons (ae_var 1) (aa_cons (ae_op op_add (ae_var 0) (ae_var 1)) aa_nil))))) (blkOk_by (N := ["one", "other", "base", "line", "sums", "first", "second", "whole", "ahead", "at", "carry", "due", "number"]) (sc := defScope s_lw_sums_right) (by decide +kernel)) (by decide) (fun _ _ _ _ _ => (ag_name 12 sc.nd)) (fun _ _ _ _ _ => ats_nil) (fun _ _ _ _ _ => (ae_bi (call_sum rfl) B.b_sum (by decide +kernel) (aa_cons (ae_call g_digits (hr.mono (by decide)) (aa_cons (ae_var 12) (aa_cons (ae_var 2) aa_nil))) aa_nil))) (sw_true rfl rfl rfl (by decide +kernel)))
      (ss_cons (as_if (aw_or (ab_cmp (op_ne hr.units) (ae_op op_sub (ae_op op_add (ae_ix (ae_var 4) ae_int) (ae_ix (ae_var 4) ae_int)) (ae_ix (ae_var 4) ae_int)) (ae_op op_mul (ae_op op_sub (ae_var 2) ae_int) (ae_bi (call_sum rfl) B.b_sum (by decide +kernel) (aa_cons (ae_var 3) aa_nil)))) (aw_or1 (ab_cmp (op_ne hr.units) (ae_call g_carries (hr.mono (by decide)) (aa_cons (ae_var 1) (aa_cons (ae_var 0) (aa_cons (ae_var 2) aa_nil)))) (ae_var 3)))).ab (ss_one (as_ret ae_bl)) ss_nil)
      (ss_cons (as_asg (ae_lc (own := [("number", 12)]) (sl := [12]) rfl sc.nd (ai_seq (ae_tup (aa_cons (ae_var 0) (aa_cons (ae_var 1) (aa_cons (ae_op op_add (ae_var 0) (ae_var 1)) aa_nil))))) (blkOk_by (N := ["one", "other", "base", "line", "sums", "first", "second", "whole", "ahead", "at", "carry", "due", "number"]) (sc := defScope s_lw_sums_right) (by decide +kernel)) (by decide) (fun _ _ _ _ _ => (ag_name 12 sc.nd)) (fun _ _ _ _ _ => ats_nil) (fun _ _ _ _ _ => (ae_rev (ae_call g_digits (hr.mono (by decide)) (aa_cons (ae_var 12) (aa_cons (ae_var 2) aa_nil)))))) (ag_tup rfl (ags_cons (ag_name 5 sc.nd) (ags_cons (ag_name 6 sc.nd) (ags_cons (ag_name 7 sc.nd) ags_nil)))))
      (ss_cons (as_set 8 ae_int sc.nd)
      (ss_cons (as_for PassesOwn.never rfl (ai_enum B.b_enumerate (ae_var 3)) (ag_tup rfl (ags_cons (ag_name 9 sc.nd) (ags_cons (ag_name 10 sc.nd) ags_nil))) (ss_cons (as_set 11 (ae_op op_sub (ae_op op_add (ae_op op_add (ae_if (ab_cmp op_lt (ae_var 9) (ae_bi call_len B.b_len (by decide +kernel) (aa_cons (ae_var 5) aa_nil))) (ae_ix (ae_var 5) (ae_var 9)) ae_int) (ae_if (ab_cmp op_lt (ae_var 9) (ae_bi call_len B.b_len (by decide +kernel) (aa_cons (ae_var 6) aa_nil))) (ae_ix (ae_var 6) (ae_var 9)) ae_int)) (ae_var 8)) (ae_op op_mul (ae_var 2) (ae_var 10))) sc.nd)
      (ss_cons (as_if (ab_cmp (op_ne hr.units) (ae_var 11) (ae_if (ab_cmp op_lt (ae_var 9) (ae_bi call_len B.b_len (by decide +kernel) (aa_cons (ae_var 7) aa_nil))) (ae_ix (ae_var 7) (ae_var 9)) ae_int)) (ss_one (as_ret ae_bl)) ss_nil)
      (ss_one (as_set 8 (ae_var 10) sc.nd)))))
      (ss_one (as_ret ae_bl))))))))
/-! _law_roots_right: number 0, base 1, root 2, many 3, due 4, here 5, steps 6, turn 7 -/
abbrev s_lw_roots_right : Stmt := topS 36
def t_lw_roots_right (sp_digit_root sp_digits sp_lw_same : List D → AH → DK → Prop) : ASt' :=
  (sSeq (sAsg (aCall sp_digit_root (aCons (aVar 1) (aCons (aVar 0) aNil))) (agT 2 (agCons (agN 2) (agCons (agN 3) agNil))))
    (sSeq (sAsg (aIf (aTest (aOp aEq (aVar 0) (aC (.int 0)))) (aC (.int 0)) (aOp aAdd (aC (.int 1)) (aOp aMod (aCall cInt (aCons (aOp aSub (aVar 0) (aC (.int 1))) aNil)) (aOp aSub (aVar 1) (aC (.int 1)))))) (agN 4))
    (sSeq (sPar 5 6 (aCons (aVar 0) (aCons (aC (.int 0)) aNil)))
    (sSeq (sFor (iRange1 (aCons (aC (.int 60)) aNil)) (agN 7) (sAsg (aIf (aTest (aOp aGe (aVar 5) (aVar 1))) (aTup (aCons (aCall cSum (aCons (aCall sp_digits (aCons (aVar 5) (aCons (aVar 1) aNil))) aNil)) (aCons (aOp aAdd (aVar 6) (aC (.int 1))) aNil))) (aTup (aCons (aVar 5) (aCons (aVar 6) aNil)))) (agT 2 (agCons (agN 5) (agCons (agN 6) agNil)))))
    (sRet (aAndV (aCall sp_lw_same (aCons (aLst (aCons (aVar 2) (aCons (aVar 3) aNil))) (aCons (aLst (aCons (aVar 4) (aCons (aVar 6) aNil))) aNil))) (aOp aEq (aVar 5) (aVar 4))))))))
theorem sc_lw_roots_right : FnScope ["number", "base", "root", "many", "due", "here", "steps", "turn"] ["number", "base"] (defScope s_lw_roots_right) := ⟨rfl, rfl, rfl, by decide +kernel, rfl, by decide +kernel, by decide +kernel⟩
theorem d_lw_roots_right {P : Program} {w : World} {K : PySem.W.Frag} {mg : Str → Option Value} {base : Heap} {sp_digit_root sp_digits sp_lw_same : List D → AH → DK → Prop} (B : Bt K mg) (g_digit_root : AFn P w K mg base 3 "digit_root" sp_digit_root) (g_digits : AFn P w K mg base 3 "digits" sp_digits) (g_lw_same : AFn P w K mg base 13 "_law_same" sp_lw_same) (f : Addr) (cdv : Value) (A : Around) (outer : List Env) (s : Shared) (H : Hp) (E : XK) (hr : Room 13 (A.deeper (PyProof.Rows.envOfC "_law_roots_right" (defScope s_lw_roots_right) s.heap.objs.size f cdv))) :
    ASs (cxOf CX0 P w K mg base ["number", "base", "root", "many", "due", "here", "steps", "turn"] "_law_roots_right" (defScope s_lw_roots_right) f cdv A outer s H E).nox (defBody s_lw_roots_right) (t_lw_roots_right sp_digit_root sp_digits sp_lw_same) := by
  have sc := sc_lw_roots_right
  exact (ss_cons (as_asg (ae_call g_digit_root (hr.mono (by decide)) (aa_cons (ae_var 1) (aa_cons (ae_var 0) aa_nil))) (ag_tup rfl (ags_cons (ag_name 2 sc.nd) (ags_cons (ag_name 3 sc.nd) ags_nil))))
      (ss_cons (as_set 4 (ae_if (ab_cmp (op_eq hr.units) (ae_var 0) ae_int) ae_int (ae_op op_add ae_int (ae_op op_mod (ae_ty call_int B.b_int (by decide +kernel) (aa_cons (ae_op op_sub (ae_var 0) ae_int) aa_nil)) (ae_op op_sub (ae_var 1) ae_int)))) sc.nd)
      (ss_cons (as_par 5 6 (aa_cons (ae_var 0) (aa_cons ae_int aa_nil)) rfl sc.nd)
      (ss_cons (as_for PassesOwn.never rfl (ai_range1 B.b_range (aa_cons ae_int aa_nil)) (ag_name 7 sc.nd) (ss_one (as_asg (ae_if (ab_cmp op_ge (ae_var 5) (ae_var 1)) (ae_tup (aa_cons (ae_bi (call_sum rfl) B.b_sum (by decide +kernel) (aa_cons (ae_call g_digits (hr.mono (by decide)) (aa_cons (ae_var 5) (aa_cons (ae_var 1) aa_nil))) aa_nil)) (aa_cons (ae_op op_add (ae_var 6) ae_int) aa_nil))) (ae_tup (aa_cons (ae_var 5) (aa_cons (ae_var 6) aa_nil)))) (ag_tup rfl (ags_cons (ag_name 5 sc.nd) (ags_cons (ag_name 6 sc.nd) ags_nil))))))
      (ss_one (as_ret (ae_and (ae_call g_lw_same (hr.mono (by decide)) (aa_cons (ae_lst (aa_cons (ae_var 2) (aa_cons (ae_var 3) aa_nil))) (aa_cons (ae_lst (aa_cons (ae_var 4) (aa_cons (ae_var 6) aa_nil))) aa_nil))) (ae_one (ae_cmp (op_eq hr.units) (ae_var 5) (ae_var 4))))))))))
/-! law: script 0, cup 1, turn 2, one 3, other 4, base 5, some 6 -/
abbrev s_law : Stmt := topS 37
def t_law (sp_lw_cup sp_lw_same sp_digits sp_carries sp_digit_root sp_lw_great sp_lw_some sp_lw_roll sp_lw_number_right sp_lw_sums_right sp_lw_roots_right : List D → AH → DK → Prop) : ASt' :=
  (sSeq (sAsg (aCall sp_lw_cup (aCons (aVar 0) aNil)) (agN 1))
    (sSeq (sIf (aNot (aTruE (aCall sp_lw_same (aCons (aLst (aCons (aCall sp_digits (aCons (aC (.int 255)) (aCons (aC (.int 16)) aNil))) (aCons (aCall sp_carries (aCons (aC (.int 95)) (aCons (aC (.int 7)) (aCons (aC (.int 10)) aNil)))) (aCons (aCall sp_digit_root (aCons (aC (.int 10)) (aCons (aC (.int 199)) aNil))) (aCons (aCall sp_digits (aCons (aC (.int 0)) (aCons (aC (.int 2)) aNil))) aNil))))) (aCons (aLst (aCons (aTup (aCons (aC (.int 15)) (aCons (aC (.int 15)) aNil))) (aCons (aTup (aCons (aC (.int 1)) (aCons (aC (.int 1)) (aCons (aC (.int 0)) aNil)))) (aCons (aTup (aCons (aC (.int 1)) (aCons (aC (.int 3)) aNil))) (aCons (aTup (aCons (aC (.int 0)) aNil)) aNil))))) aNil))))) (sRet (aC (.bl false))) sNext)
    (sSeq (sFor (iRange1 (aCons (aC (.int 12)) aNil)) (agN 2) (sSeq (sPar 3 4 (aCons (aCall sp_lw_great (aCons (aVar 1) (aCons (aC (.int 10)) aNil))) (aCons (aCall sp_lw_great (aCons (aVar 1) (aCons (aCall sp_lw_some (aCons (aVar 1) (aCons (aLst (aCons (aC (.int 1)) (aCons (aC (.int 9)) aNil))) aNil))) aNil))) aNil)))
    (sSeq (sAsg (aOp aAdd (aC (.int 2)) (aCall sp_lw_roll (aCons (aVar 1) (aCons (aC (.int 35)) aNil)))) (agN 5))
    (sSeq (sAsg (aIf (aTest (aOp aGt (aCall sp_lw_roll (aCons (aVar 1) (aCons (aC (.int 4)) aNil))) (aC (.int 0)))) (aTup (aCons (aOp aFDiv (aVar 3) (aC (.int 2))) (aCons (aOp aFDiv (aVar 4) (aC (.int 2))) aNil))) (aTup (aCons (aOp aSub (aVar 5) (aC (.int 1))) (aCons (aC (.int 1)) aNil)))) (agT 2 (agCons (agN 3) (agCons (agN 4) agNil))))
    (sFor (iSeq (aTup (aCons (aVar 5) (aCons (aOp aAdd (aC (.int 2)) (aCall sp_lw_roll (aCons (aVar 1) (aCons (aC (.int 5)) aNil)))) aNil)))) (agN 6) (sSeq (sIf (aOr (aNot (aTruE (aCall sp_lw_number_right (aCons (aVar 1) (aCons (aVar 3) (aCons (aVar 6) aNil)))))) (aNot (aTruE (aCall sp_lw_number_right (aCons (aVar 1) (aCons (aVar 4) (aCons (aVar 6) aNil))))))) (sRet (aC (.bl false))) sNext)
    (sIf (aOr (aNot (aTruE (aCall sp_lw_sums_right (aCons (aVar 3) (aCons (aVar 4) (aCons (aVar 6) aNil)))))) (aOr (aNot (aTruE (aCall sp_lw_roots_right (aCons (aVar 3) (aCons (aVar 6) aNil))))) (aNot (aTruE (aCall sp_lw_roots_right (aCons (aVar 4) (aCons (aVar 6) aNil))))))) (sRet (aC (.bl false))) sNext)))))))
    (sRet (aC (.bl true))))))
theorem sc_law : FnScope ["script", "cup", "turn", "one", "other", "base", "some"] ["script"] (defScope s_law) := ⟨rfl, rfl, rfl, by decide +kernel, rfl, by decide +kernel, by decide +kernel⟩
theorem d_law {P : Program} {w : World} {K : PySem.W.Frag} {mg : Str → Option Value} {base : Heap} {sp_lw_cup sp_lw_same sp_digits sp_carries sp_digit_root sp_lw_great sp_lw_some sp_lw_roll sp_lw_number_right sp_lw_sums_right sp_lw_roots_right : List D → AH → DK → Prop} (B : Bt K mg) (g_lw_cup : AFn P w K mg base 1 "_law_cup" sp_lw_cup) (g_lw_same : AFn P w K mg base 13 "_law_same" sp_lw_same) (g_digits : AFn P w K mg base 3 "digits" sp_digits) (g_carries : AFn P w K mg base 3 "carries" sp_carries) (g_digit_root : AFn P w K mg base 3 "digit_root" sp_digit_root) (g_lw_great : AFn P w K mg base 2 "_law_great" sp_lw_great) (g_lw_some : AFn P w K mg base 2 "_law_some" sp_lw_some) (g_lw_roll : AFn P w K mg base 1 "_law_roll" sp_lw_roll) (g_lw_number_right : AFn P w K mg base 14 "_law_number_right" sp_lw_number_right) (g_lw_sums_right : AFn P w K mg base 4 "_law_sums_right" sp_lw_sums_right) (g_lw_roots_right : AFn P w K mg base 14 "_law_roots_right" sp_lw_roots_right) (f : Addr) (cdv : Value) (A : Around) (outer : List Env) (s : Shared) (H : Hp) (E : XK) (hr : Room 14 (A.deeper (PyProof.Rows.envOfC "law" (defScope s_law) s.heap.objs.size f cdv))) :
    ASs (cxOf CX0 P w K mg base ["script", "cup", "turn", "one", "other", "base", "some"] "law" (defScope s_law) f cdv A outer s H E).nox (defBody s_law) (t_law sp_lw_cup sp_lw_same sp_digits sp_carries sp_digit_root sp_lw_great sp_lw_some sp_lw_roll sp_lw_number_right sp_lw_sums_right sp_lw_roots_right) := by
  have sc := sc_law
  exact (ss_cons (as_set 1 (ae_call g_lw_cup (hr.mono (by decide)) (aa_cons (ae_var 0) aa_nil)) sc.nd)
      (ss_cons (as_if (ab_not (ab_truth (ae_call g_lw_same (hr.mono (by decide)) (aa_cons (ae_lst (aa_cons (ae_call g_digits (hr.mono (by decide)) (aa_cons ae_int (aa_cons ae_int aa_nil))) (aa_cons (ae_call g_carries (hr.mono (by decide)) (aa_cons ae_int (aa_cons ae_int (aa_cons ae_int aa_nil)))) (aa_cons (ae_call g_digit_root (hr.mono (by decide)) (aa_cons ae_int (aa_cons ae_int aa_nil))) (aa_cons (ae_call g_digits (hr.mono (by decide)) (aa_cons ae_int (aa_cons ae_int aa_nil))) aa_nil))))) (aa_cons (ae_lst (aa_cons (ae_tup (aa_cons ae_int (aa_cons ae_int aa_nil))) (aa_cons (ae_tup (aa_cons ae_int (aa_cons ae_int (aa_cons ae_int aa_nil)))) (aa_cons (ae_tup (aa_cons ae_int (aa_cons ae_int aa_nil))) (aa_cons (ae_tup (aa_cons ae_int aa_nil)) aa_nil))))) aa_nil))))) (ss_one (as_ret ae_bl)) ss_nil)
      (ss_cons (as_for PassesOwn.never rfl (ai_range1 B.b_range (aa_cons ae_int aa_nil)) (ag_name 2 sc.nd) (ss_cons (as_par 3 4 (aa_cons (ae_call g_lw_great (hr.mono (by decide)) (aa_cons (ae_var 1) (aa_cons ae_int aa_nil))) (aa_cons (ae_call g_lw_great (hr.mono (by decide)) (aa_cons (ae_var 1) (aa_cons (ae_call g_lw_some (hr.mono (by decide)) (aa_cons (ae_var 1) (aa_cons (ae_lst (aa_cons ae_int (aa_cons ae_int aa_nil))) aa_nil))) aa_nil))) aa_nil)) rfl sc.nd)
      (ss_cons (as_set 5 (ae_op op_add ae_int (ae_call g_lw_roll (hr.mono (by decide)) (aa_cons (ae_var 1) (aa_cons ae_int aa_nil)))) sc.nd)
      (ss_cons (as_asg (ae_if (ab_cmp op_gt (ae_call g_lw_roll (hr.mono (by decide)) (aa_cons (ae_var 1) (aa_cons ae_int aa_nil))) ae_int) (ae_tup (aa_cons (ae_op op_fdiv (ae_var 3) ae_int) (aa_cons (ae_op op_fdiv (ae_var 4) ae_int) aa_nil))) (ae_tup (aa_cons (ae_op op_sub (ae_var 5) ae_int) (aa_cons ae_int aa_nil)))) (ag_tup rfl (ags_cons (ag_name 3 sc.nd) (ags_cons (ag_name 4 sc.nd) ags_nil))))
      (ss_one (as_for PassesOwn.never rfl (ai_seq (ae_tup (aa_cons (ae_var 5) (aa_cons (ae_op op_add ae_int (ae_call g_lw_roll (hr.mono (by decide)) (aa_cons (ae_var 1) (aa_cons ae_int aa_nil)))) aa_nil)))) (ag_name 6 sc.nd) (ss_cons (as_if (aw_or (ab_not (ab_truth (ae_call g_lw_number_right (hr.mono (by decide)) (aa_cons (ae_var 1) (aa_cons (ae_var 3) (aa_cons (ae_var 6) aa_nil)))))) (aw_or1 (ab_not (ab_truth (ae_call g_lw_number_right (hr.mono (by decide)) (aa_cons (ae_var 1) (aa_cons (ae_var 4) (aa_cons (ae_var 6) aa_nil)))))))).ab (ss_one (as_ret ae_bl)) ss_nil)
      (ss_one (as_if (aw_or (ab_not (ab_truth (ae_call g_lw_sums_right (hr.mono (by decide)) (aa_cons (ae_var 3) (aa_cons (ae_var 4) (aa_cons (ae_var 6) aa_nil)))))) (aw_or (ab_not (ab_truth (ae_call g_lw_roots_right (hr.mono (by decide)) (aa_cons (ae_var 3) (aa_cons (ae_var 6) aa_nil))))) (aw_or1 (ab_not (ab_truth (ae_call g_lw_roots_right (hr.mono (by decide)) (aa_cons (ae_var 4) (aa_cons (ae_var 6) aa_nil)))))))).ab (ss_one (as_ret ae_bl)) ss_nil)))))))))
      (ss_one (as_ret ae_bl)))))
end Wk

namespace Wk
open PySem PySem.Spec L2 Rk
abbrev sp_fits_whole := spFits
theorem m_fits_whole : MonL sp_fits_whole := spFits_mono
theorem l_fits_whole : ∀ ds A Q, sp_fits_whole ds A Q → ds.length = 3 := fun _ _ _ h => spFits_len h
theorem r_fits_whole : ∀ ds B (Q : DK), sp_fits_whole ds B Q → t_fits_whole  (rets Q) (startD 3 ds) B := r_fits
abbrev sp_is_tuple_of := spTupOf
theorem m_is_tuple_of : MonL sp_is_tuple_of := spTupOf_mono
theorem l_is_tuple_of : ∀ ds A Q, sp_is_tuple_of ds A Q → ds.length = 3 := fun _ _ _ h => spTupOf_len h
theorem r_is_tuple_of : ∀ ds B (Q : DK), sp_is_tuple_of ds B Q → t_is_tuple_of  (rets Q) (startD 3 ds) B := r_tupOf
abbrev sp_need_whole := spNeedW
theorem m_need_whole : MonL sp_need_whole := spNeedW_mono
theorem l_need_whole : ∀ ds A Q, sp_need_whole ds A Q → ds.length = 3 := fun _ _ _ h => spNeedW_len h
theorem r_need_whole : ∀ ds B (Q : DK), sp_need_whole ds B Q → t_need_whole sp_fits_whole (rets Q) (startD 3 ds) B := r_needW
abbrev sp_lw_cup := spCup
theorem m_lw_cup : MonL sp_lw_cup := spCup_mono
theorem l_lw_cup : ∀ ds A Q, sp_lw_cup ds A Q → ds.length = 1 := fun _ _ _ ⟨_, h, _⟩ => by rw [h]; rfl
theorem r_lw_cup : ∀ ds B (Q : DK), sp_lw_cup ds B Q → t_lw_cup (rets Q) (startD 2 ds) B := r_cup (c1 := 1613) (c2 := 2665) (c3 := 11561) (c4 := 2077510337) (c5 := 1633) (by decide) (by decide) (by decide) (by decide) (by decide)
abbrev sp_lw_roll := spRoll
theorem m_lw_roll : MonL sp_lw_roll := spRoll_mono
theorem l_lw_roll : ∀ ds A Q, sp_lw_roll ds A Q → ds.length = 2 := fun _ _ _ h => spRoll_len h
theorem r_lw_roll : ∀ ds B (Q : DK), sp_lw_roll ds B Q → t_lw_roll (rets Q) (startD 4 ds) B := r_roll (c1 := 38243) (c2 := 12551) (c3 := 2147483423) (c4 := 2043) (c5 := 2147483587) (c6 := 2267) (by decide) (by decide) (by decide) (by decide) (by decide)
abbrev sp_lw_some := spSome
theorem m_lw_some : MonL sp_lw_some := spSome_mono
theorem l_lw_some : ∀ ds A Q, sp_lw_some ds A Q → ds.length = 2 := fun _ _ _ h => spSome_len h
theorem r_lw_some : ∀ ds B (Q : DK), sp_lw_some ds B Q → t_lw_some spRoll (rets Q) (startD 2 ds) B := r_some
abbrev sp_lw_same := spSame 7
end Wk
namespace Wk
open PySem PySem.Spec L2 Rk
def idB (b : Bool) : Bool := b
theorem dec_id {p : Prop} [Decidable p] : decide p = idB (decide p) := rfl
theorem eq2 {a b c d : Int} : eqD (.tup [.int a, .int b]) (.tup [.int c, .int d]) = decide (a = c ∧ b = d) := by simp [eqD, eqDs, Bool.decide_and]
local macro_rules | `(tactic| walk_at "wh") => `(tactic| conv => whnf)
local macro_rules | `(tactic| walk_at "side") => `(tactic| first | (with_reducible assumption) | omega | (refine ⟨?_, ?_, ?_⟩ <;> first | with_reducible assumption | omega) | exact rfl | (unfold Dvs; omega) | (unfold Fac; omega) | exact Nat.le_of_ble_eq_true rfl | (show okD _ _ = true ∧ okD _ _ = true; exact ⟨rfl, rfl⟩) | exact ⟨_, _, rfl, aupd_same⟩ | (refine ⟨?_, ?_⟩ <;> first | with_reducible assumption | with_reducible rfl | rfl | omega | decide | (simp; done)) | (refine ⟨?_, ?_, ?_⟩ <;> with_reducible assumption) | decide | (simp; done) | (simp; omega))
local macro_rules | `(tactic| walk_at "tt") => `(tactic| first | exact decide_eq_true (by omega) | ((fail_if_success rw [dec_id]); exact rfl) | (simp only [Bool.and_eq_true, Bool.or_eq_true, Bool.and_eq_false_iff, Bool.or_eq_false_iff, Bool.not_eq_true', Bool.not_eq_false', decide_eq_true_eq, decide_eq_false_iff_not] <;> omega) | (simp; done))
local macro_rules | `(tactic| walk_at "ff") => `(tactic| first | exact decide_eq_false (by omega) | ((fail_if_success rw [dec_id]); exact rfl) | (simp only [Bool.and_eq_true, Bool.or_eq_true, Bool.and_eq_false_iff, Bool.or_eq_false_iff, Bool.not_eq_true', Bool.not_eq_false', decide_eq_true_eq, decide_eq_false_iff_not] <;> omega) | (simp; done))
local macro_rules | `(tactic| walk_at "step") => `(tactic| (first | rw [eq2] | refine br_yes (by walk_at "tt") ?_ | refine br_no (by walk_at "ff") ?_ | refine ⟨_, aupd_same, ?_⟩ | refine ⟨_, _, _, rfl, rfl, by assumption, ?_⟩ | refine ⟨_, _, _, rfl, aupd_aupd, by assumption, ?_⟩ | refine And.intro (by walk_at "side") ?_))
local macro_rules | `(tactic| walk_at "run") => `(tactic| ((conv => whnf); repeat (walk_at "step"; conv => whnf)))
def pI (l : List Nat) : List D := l.map fun (d : Nat) => D.int (d : Int)
theorem okD_ints (l : List Nat) : okD 20 (.lst (pI l)) = true := by
  unfold okD pI
  induction l with
  | nil => rfl
  | cons d l ih => simpa [okDs, okD] using ih
theorem eqD_nil (l : List Nat) : eqD (.lst (pI l)) (.lst []) = decide (l = []) := by
  cases l <;> simp [pI, eqD, eqDs]
theorem mod_int {n b : Nat} : (n : Int) - (n : Int) / (b : Int) * (b : Int) = ((n % b : Nat) : Int) := by
  have := Int.emod_def (n : Int) (b : Int)
  rw [Int.mul_comm] at this
  rw [← this]
  rfl
theorem pow_lt {k n : Nat} (h : 2 ^ k ≤ n) (hn : n ≤ 1000000000000000000000000000000) : k ≤ 100 := by
  refine Classical.byContradiction fun c => ?_
  have : 2 ^ 101 ≤ 2 ^ k := Nat.pow_le_pow_right (by decide) (by omega)
  have e : (2 : Nat) ^ 101 = 2535301200456458802993406410752 := by decide
  omega
def sp_digits_in : List D → AH → DK → Prop
  | [.int n, .int b], A, Q => ((0 ≤ n ∧ n ≤ 1000000000000000000000000000000) ∧ 2 ≤ b ∧ b ≤ 100000) ∧ Q (.lst (pI (MD.ls b.toNat n.toNat).reverse)) A
  | _, _, _ => False
theorem m_digits_in : MonL sp_digits_in := fun ds A Q Q' k h => by
  unfold sp_digits_in at h ⊢
  split at h <;> first | exact h.elim | exact k _ _ h | exact ⟨h.1, k _ _ h.2⟩ | exact ⟨h.choose, h.choose_spec.1, k _ _ h.choose_spec.2⟩ | exact fun x0 => k _ _ (h x0) | exact ⟨h.1, fun x0 => k _ _ (h.2 x0)⟩ | exact fun x0 x1 => k _ _ (h x0 x1) | exact ⟨h.1, fun x0 x1 => k _ _ (h.2 x0 x1)⟩ | exact fun x0 x1 x2 => k _ _ (h x0 x1 x2) | exact ⟨h.1, fun x0 x1 x2 => k _ _ (h.2 x0 x1 x2)⟩ | exact fun x0 x1 x2 x3 => k _ _ (h x0 x1 x2 x3) | exact ⟨h.1, fun x0 x1 x2 x3 => k _ _ (h.2 x0 x1 x2 x3)⟩ | exact fun x0 x1 x2 x3 x4 => k _ _ (h x0 x1 x2 x3 x4) | exact ⟨h.1, fun x0 x1 x2 x3 x4 => k _ _ (h.2 x0 x1 x2 x3 x4)⟩ | exact fun x0 x1 x2 x3 x4 x5 => k _ _ (h x0 x1 x2 x3 x4 x5) | exact ⟨h.1, fun x0 x1 x2 x3 x4 x5 => k _ _ (h.2 x0 x1 x2 x3 x4 x5)⟩ | exact fun x0 x1 x2 x3 x4 x5 x6 => k _ _ (h x0 x1 x2 x3 x4 x5 x6) | exact ⟨h.1, fun x0 x1 x2 x3 x4 x5 x6 => k _ _ (h.2 x0 x1 x2 x3 x4 x5 x6)⟩ | exact fun x0 x1 x2 x3 x4 x5 x6 x7 => k _ _ (h x0 x1 x2 x3 x4 x5 x6 x7) | exact ⟨h.1, fun x0 x1 x2 x3 x4 x5 x6 x7 => k _ _ (h.2 x0 x1 x2 x3 x4 x5 x6 x7)⟩ | exact fun x0 x1 x2 x3 x4 x5 x6 x7 x8 => k _ _ (h x0 x1 x2 x3 x4 x5 x6 x7 x8) | exact ⟨h.1, fun x0 x1 x2 x3 x4 x5 x6 x7 x8 => k _ _ (h.2 x0 x1 x2 x3 x4 x5 x6 x7 x8)⟩
theorem l_digits_in : ∀ ds A Q, sp_digits_in ds A Q → ds.length = 2 := fun ds A Q h => by
  unfold sp_digits_in at h
  split at h <;> first | rfl | exact h.elim
theorem r_digits_in : ∀ ds B (Q : DK), sp_digits_in ds B Q → t_digits_in (rets Q) (startD 3 ds) B := by
  intro ds B Q h
  unfold sp_digits_in at h
  split at h <;> first | exact h.elim | skip
  rename_i n b
  unfold t_digits_in
  obtain ⟨⟨hn, hb⟩, h⟩ := h
  obtain ⟨n, rfl⟩ : ∃ k : Nat, n = (k : Int) := ⟨n.toNat, by omega⟩
  obtain ⟨b, rfl⟩ : ∃ k : Nat, b = (k : Int) := ⟨b.toNat, by omega⟩
  rw [Int.toNat_natCast, Int.toNat_natCast] at h
  have hb2 : 2 ≤ b := by omega
  walk_at "run"
  intro p hp
  walk_at "run"
  refine while_st (α := Nat × List Nat) (fun s => [some (.int s.1), some (.int b), some (.ref p)]) (fun s => aupd B p (.lst (pI s.2)))
    (fun s => s.2 ++ (if s.2 = [] then MD.ls b s.1 else MD.dg b s.1) = MD.ls b n ∧ (s.1 = 0 ∨ 2 ^ s.2.length * s.1 ≤ n) ∧ s.2.length ≤ 101) (fun s => if s.2 = [] then s.1 + 1 else s.1) (n, []) rfl rfl ⟨rfl, .inr (by simp), by simp⟩ ?_
  rintro ⟨m, l⟩ ⟨w1, w2, w3⟩
  dsimp only at w1 w2 w3 ⊢
  have go : (0 < m ∨ l = []) → ∃ m', m' < (if l = [] then m + 1 else m) ∧ ∃ y : Nat × List Nat, m' = (if y.2 = [] then y.1 + 1 else y.1) ∧ y = (m / b, l ++ [m % b]) ∧ (y.2 ++ (if y.2 = [] then MD.ls b y.1 else MD.dg b y.1) = MD.ls b n ∧ (y.1 = 0 ∨ 2 ^ y.2.length * y.1 ≤ n) ∧ y.2.length ≤ 101) := by
    intro g
    have ne : l ++ [m % b] ≠ [] := by simp
    refine ⟨m / b, ?_, (m / b, l ++ [m % b]), by rw [if_neg ne], rfl, ?_, ?_, ?_⟩
    · split
      · have := Nat.div_le_self m b
        omega
      · next c => exact Nat.div_lt_self (g.resolve_right c) hb2
    · dsimp only
      rw [if_neg ne, List.append_assoc, ← w1]
      congr 1
      split
      · by_cases c : m < b
        · rw [MD.ls_small hb2 c, Nat.mod_eq_of_lt c, Nat.div_eq_of_lt c, MD.dg_zero]
          rfl
        · rw [MD.ls_step hb2 (by omega)]
          have : 0 < m / b := Nat.div_pos (by omega) (by omega)
          unfold MD.ls
          rw [if_neg (by omega)]
          rfl
      · next c => rw [MD.dg_pos hb2 (g.resolve_right c)]; rfl
    · dsimp only
      rcases w2 with w2 | w2
      · left
        rw [w2, Nat.zero_div]
      · right
        rw [List.length_append]
        show 2 ^ (l.length + 1) * (m / b) ≤ n
        have k1 : 2 * (m / b) ≤ m := Nat.le_trans (Nat.mul_le_mul_right _ hb2) (Nat.mul_div_le m b)
        have k2 : 2 ^ l.length * (2 * (m / b)) ≤ 2 ^ l.length * m := Nat.mul_le_mul_left _ k1
        rw [Nat.pow_succ, Nat.mul_assoc]
        omega
    · dsimp only
      rw [List.length_append]
      show l.length + 1 ≤ 101
      by_cases c : l = []
      · subst c; decide
      · have m0 := g.resolve_right c
        have w2 : 2 ^ l.length * m ≤ n := w2.resolve_left (by omega)
        have : 2 ^ l.length * 1 ≤ 2 ^ l.length * m := Nat.mul_le_mul_left _ m0
        have := pow_lt (k := l.length) (n := n) (by omega) (by omega)
        omega
  have okl := okD_ints l
  have len : (pI l).length ≤ 1000000 := by unfold pI; rw [List.length_map]; omega
  have turn : ∀ (x : Int), x = (m : Int) - (m : Int) / (b : Int) * (b : Int) → aupd (aupd B p (.lst (pI l))) p (.lst (pI l ++ [.int x])) = aupd B p (.lst (pI (l ++ [m % b]))) := by
    rintro x rfl
    rw [aupd_aupd, mod_int]
    unfold pI
    rw [List.map_append]
    rfl
  walk_at "run"
  refine br_dec (fun g => ?_) (fun g => ?_)
  · obtain ⟨m', h1, y, h2, rfl, h3⟩ := go (.inl (by omega))
    walk_at "run"
    exact ⟨m', h1, _, h2, rfl, turn _ rfl, h3⟩
  · have m0 : m = 0 := by omega
    walk_at "run"
    rw [eqD_nil]
    by_cases c : l = []
    · obtain ⟨m', h1, y, h2, rfl, h3⟩ := go (.inr c)
      walk_at "run"
      exact ⟨m', h1, _, h2, rfl, turn _ rfl, h3⟩
    · rw [if_neg c, m0, MD.dg_zero, List.append_nil] at w1
      walk_at "run"
      have e : (pI l).reverse = pI (MD.ls b n).reverse := by
        rw [← w1]
        unfold pI
        rw [List.map_reverse]
      rw [e]
      exact ret_same h
def isI (ds : List D) : Prop := ∀ d ∈ ds, ∃ i : Int, d = .int i
def nbD (b : Int) (ds : List D) : Int := ds.foldl (fun a d => match d with | .int i => b * a + i | _ => a) 0
theorem isI_pI (l : List Nat) : isI (pI l) := by
  intro d hd
  unfold pI at hd
  rw [List.mem_map] at hd
  obtain ⟨x, _, rfl⟩ := hd
  exact ⟨_, rfl⟩
theorem nbD_pI (b : Nat) (l : List Nat) : nbD (b : Int) (pI l) = (MD.nb b l : Int) := by
  unfold nbD MD.nb pI
  rw [List.foldl_map]
  suffices ∀ (l : List Nat) (x : Nat), l.foldl (fun (a : Int) (d : Nat) => (b : Int) * a + (d : Int)) (x : Int) = ((l.foldl (fun a d => b * a + d) x : Nat) : Int) from this l 0
  intro l
  induction l with
  | nil => intro x; rfl
  | cons d l ih =>
    intro x
    rw [List.foldl_cons, List.foldl_cons, ← ih]
    congr 1
def sp_number_in : List D → AH → DK → Prop
  | [.lst ds, .int b], A, Q => (isI ds ∧ -100000 ≤ b ∧ b ≤ 100000) ∧ Q (.int (nbD b ds)) A
  | [.tup ds, .int b], A, Q => (isI ds ∧ -100000 ≤ b ∧ b ≤ 100000) ∧ Q (.int (nbD b ds)) A
  | _, _, _ => False
theorem m_number_in : MonL sp_number_in := fun ds A Q Q' k h => by
  unfold sp_number_in at h ⊢
  split at h <;> first | exact h.elim | exact k _ _ h | exact ⟨h.1, k _ _ h.2⟩ | exact ⟨h.choose, h.choose_spec.1, k _ _ h.choose_spec.2⟩ | exact fun x0 => k _ _ (h x0) | exact ⟨h.1, fun x0 => k _ _ (h.2 x0)⟩ | exact fun x0 x1 => k _ _ (h x0 x1) | exact ⟨h.1, fun x0 x1 => k _ _ (h.2 x0 x1)⟩ | exact fun x0 x1 x2 => k _ _ (h x0 x1 x2) | exact ⟨h.1, fun x0 x1 x2 => k _ _ (h.2 x0 x1 x2)⟩ | exact fun x0 x1 x2 x3 => k _ _ (h x0 x1 x2 x3) | exact ⟨h.1, fun x0 x1 x2 x3 => k _ _ (h.2 x0 x1 x2 x3)⟩ | exact fun x0 x1 x2 x3 x4 => k _ _ (h x0 x1 x2 x3 x4) | exact ⟨h.1, fun x0 x1 x2 x3 x4 => k _ _ (h.2 x0 x1 x2 x3 x4)⟩ | exact fun x0 x1 x2 x3 x4 x5 => k _ _ (h x0 x1 x2 x3 x4 x5) | exact ⟨h.1, fun x0 x1 x2 x3 x4 x5 => k _ _ (h.2 x0 x1 x2 x3 x4 x5)⟩ | exact fun x0 x1 x2 x3 x4 x5 x6 => k _ _ (h x0 x1 x2 x3 x4 x5 x6) | exact ⟨h.1, fun x0 x1 x2 x3 x4 x5 x6 => k _ _ (h.2 x0 x1 x2 x3 x4 x5 x6)⟩ | exact fun x0 x1 x2 x3 x4 x5 x6 x7 => k _ _ (h x0 x1 x2 x3 x4 x5 x6 x7) | exact ⟨h.1, fun x0 x1 x2 x3 x4 x5 x6 x7 => k _ _ (h.2 x0 x1 x2 x3 x4 x5 x6 x7)⟩ | exact fun x0 x1 x2 x3 x4 x5 x6 x7 x8 => k _ _ (h x0 x1 x2 x3 x4 x5 x6 x7 x8) | exact ⟨h.1, fun x0 x1 x2 x3 x4 x5 x6 x7 x8 => k _ _ (h.2 x0 x1 x2 x3 x4 x5 x6 x7 x8)⟩
theorem l_number_in : ∀ ds A Q, sp_number_in ds A Q → ds.length = 2 := fun ds A Q h => by
  unfold sp_number_in at h
  split at h <;> first | rfl | exact h.elim
theorem nb_take {b : Int} {ds : List D} {i : Nat} {x : Int} (h : ds[i]? = some (.int x)) : nbD b (ds.take (i + 1)) = b * nbD b (ds.take i) + x := by
  unfold nbD
  rw [List.take_succ, h, List.foldl_append]
  rfl
theorem r_number_in : ∀ ds B (Q : DK), sp_number_in ds B Q → t_number_in (rets Q) (startD 4 ds) B := by
  intro ds B Q h
  unfold sp_number_in at h
  split at h <;> first | exact h.elim | skip
  all_goals
    rename_i l b
    unfold t_number_in
    obtain ⟨⟨hi, hb⟩, h⟩ := h
    walk_at "run"
    refine for_st (α := Nat × Option D) (fun s => [some _, some (.int b), some (.int (nbD b (l.take s.1))), s.2]) (fun _ => B) (fun i s => s.1 = i) (0, none) rfl rfl rfl ?_ ?_
    · rintro i d ⟨j, o⟩ hd w
      dsimp only at w ⊢
      subst w
      obtain ⟨x, rfl⟩ := hi d (List.mem_of_getElem? hd)
      walk_at "run"
      refine ⟨(j + 1, some (.int x)), ?_, rfl, rfl⟩
      rw [nb_take hd]
      rfl
    · rintro ⟨j, o⟩ w
      dsimp only at w ⊢
      subst w
      rw [List.take_length]
      walk_at "run"
      exact ret_same h
abbrev Nb (n b : Int) : Prop := (0 ≤ n ∧ n ≤ 1000000000000000000000000000000) ∧ 2 ≤ b ∧ b ≤ 36
def sp_digits : List D → AH → DK → Prop
  | [.int n, .int b], A, Q => ((0 ≤ n ∧ n ≤ 1000000000000000000000000000000) ∧ 2 ≤ b ∧ b ≤ 36) ∧ Q (.tup (pI (MD.ls b.toNat n.toNat).reverse)) A
  | _, _, _ => False
theorem m_digits : MonL sp_digits := fun ds A Q Q' k h => by
  unfold sp_digits at h ⊢
  split at h <;> first | exact h.elim | exact k _ _ h | exact ⟨h.1, k _ _ h.2⟩ | exact ⟨h.choose, h.choose_spec.1, k _ _ h.choose_spec.2⟩ | exact fun x0 => k _ _ (h x0) | exact ⟨h.1, fun x0 => k _ _ (h.2 x0)⟩ | exact fun x0 x1 => k _ _ (h x0 x1) | exact ⟨h.1, fun x0 x1 => k _ _ (h.2 x0 x1)⟩ | exact fun x0 x1 x2 => k _ _ (h x0 x1 x2) | exact ⟨h.1, fun x0 x1 x2 => k _ _ (h.2 x0 x1 x2)⟩ | exact fun x0 x1 x2 x3 => k _ _ (h x0 x1 x2 x3) | exact ⟨h.1, fun x0 x1 x2 x3 => k _ _ (h.2 x0 x1 x2 x3)⟩ | exact fun x0 x1 x2 x3 x4 => k _ _ (h x0 x1 x2 x3 x4) | exact ⟨h.1, fun x0 x1 x2 x3 x4 => k _ _ (h.2 x0 x1 x2 x3 x4)⟩ | exact fun x0 x1 x2 x3 x4 x5 => k _ _ (h x0 x1 x2 x3 x4 x5) | exact ⟨h.1, fun x0 x1 x2 x3 x4 x5 => k _ _ (h.2 x0 x1 x2 x3 x4 x5)⟩ | exact fun x0 x1 x2 x3 x4 x5 x6 => k _ _ (h x0 x1 x2 x3 x4 x5 x6) | exact ⟨h.1, fun x0 x1 x2 x3 x4 x5 x6 => k _ _ (h.2 x0 x1 x2 x3 x4 x5 x6)⟩ | exact fun x0 x1 x2 x3 x4 x5 x6 x7 => k _ _ (h x0 x1 x2 x3 x4 x5 x6 x7) | exact ⟨h.1, fun x0 x1 x2 x3 x4 x5 x6 x7 => k _ _ (h.2 x0 x1 x2 x3 x4 x5 x6 x7)⟩ | exact fun x0 x1 x2 x3 x4 x5 x6 x7 x8 => k _ _ (h x0 x1 x2 x3 x4 x5 x6 x7 x8) | exact ⟨h.1, fun x0 x1 x2 x3 x4 x5 x6 x7 x8 => k _ _ (h.2 x0 x1 x2 x3 x4 x5 x6 x7 x8)⟩
theorem l_digits : ∀ ds A Q, sp_digits ds A Q → ds.length = 2 := fun ds A Q h => by
  unfold sp_digits at h
  split at h <;> first | rfl | exact h.elim
theorem r_digits : ∀ ds B (Q : DK), sp_digits ds B Q → t_digits sp_need_whole sp_digits_in (rets Q) (startD 2 ds) B := by
  intro ds B Q h
  unfold sp_digits at h
  split at h <;> first | exact h.elim | skip
  rename_i n b
  unfold t_digits
  obtain ⟨⟨hn, hb⟩, h⟩ := h
  walk_at "run"
  exact ret_same h
theorem pI_rev (l : List Nat) : (pI l).reverse = pI l.reverse := by
  unfold pI
  rw [List.map_reverse]
theorem eqDs_pI : ∀ (a b : List Nat), eqDs (pI a) (pI b) = decide (a = b)
  | [], [] => by simp [pI, eqDs]
  | [], _ :: _ => by simp [pI, eqDs]
  | _ :: _, [] => by simp [pI, eqDs]
  | x :: a, y :: b => by
    have ih := eqDs_pI a b
    unfold pI at ih ⊢
    rw [List.map_cons, List.map_cons]
    show (decide ((x : Int) = (y : Int)) && eqDs (a.map fun (d : Nat) => D.int (d : Int)) (b.map fun (d : Nat) => D.int (d : Int))) = _
    rw [ih, ← Bool.decide_and, decide_eq_decide, List.cons.injEq, Int.natCast_inj]
theorem eqD_lst (a b : List Nat) : eqD (.lst (pI a)) (.lst (pI b)) = decide (a = b) := by
  unfold eqD
  exact eqDs_pI a b
def sp_turned_sum : List D → AH → DK → Prop
  | [.int b, .int n], A, Q => ((0 ≤ n ∧ n ≤ 1000000000000000000000000000000) ∧ 2 ≤ b ∧ b ≤ 36) ∧ Q (.int (n + (MD.nb b.toNat (MD.ls b.toNat n.toNat) : Int))) A
  | _, _, _ => False
theorem m_turned_sum : MonL sp_turned_sum := fun ds A Q Q' k h => by
  unfold sp_turned_sum at h ⊢
  split at h <;> first | exact h.elim | exact k _ _ h | exact ⟨h.1, k _ _ h.2⟩ | exact ⟨h.choose, h.choose_spec.1, k _ _ h.choose_spec.2⟩ | exact fun x0 => k _ _ (h x0) | exact ⟨h.1, fun x0 => k _ _ (h.2 x0)⟩ | exact fun x0 x1 => k _ _ (h x0 x1) | exact ⟨h.1, fun x0 x1 => k _ _ (h.2 x0 x1)⟩ | exact fun x0 x1 x2 => k _ _ (h x0 x1 x2) | exact ⟨h.1, fun x0 x1 x2 => k _ _ (h.2 x0 x1 x2)⟩ | exact fun x0 x1 x2 x3 => k _ _ (h x0 x1 x2 x3) | exact ⟨h.1, fun x0 x1 x2 x3 => k _ _ (h.2 x0 x1 x2 x3)⟩ | exact fun x0 x1 x2 x3 x4 => k _ _ (h x0 x1 x2 x3 x4) | exact ⟨h.1, fun x0 x1 x2 x3 x4 => k _ _ (h.2 x0 x1 x2 x3 x4)⟩ | exact fun x0 x1 x2 x3 x4 x5 => k _ _ (h x0 x1 x2 x3 x4 x5) | exact ⟨h.1, fun x0 x1 x2 x3 x4 x5 => k _ _ (h.2 x0 x1 x2 x3 x4 x5)⟩ | exact fun x0 x1 x2 x3 x4 x5 x6 => k _ _ (h x0 x1 x2 x3 x4 x5 x6) | exact ⟨h.1, fun x0 x1 x2 x3 x4 x5 x6 => k _ _ (h.2 x0 x1 x2 x3 x4 x5 x6)⟩ | exact fun x0 x1 x2 x3 x4 x5 x6 x7 => k _ _ (h x0 x1 x2 x3 x4 x5 x6 x7) | exact ⟨h.1, fun x0 x1 x2 x3 x4 x5 x6 x7 => k _ _ (h.2 x0 x1 x2 x3 x4 x5 x6 x7)⟩ | exact fun x0 x1 x2 x3 x4 x5 x6 x7 x8 => k _ _ (h x0 x1 x2 x3 x4 x5 x6 x7 x8) | exact ⟨h.1, fun x0 x1 x2 x3 x4 x5 x6 x7 x8 => k _ _ (h.2 x0 x1 x2 x3 x4 x5 x6 x7 x8)⟩
theorem l_turned_sum : ∀ ds A Q, sp_turned_sum ds A Q → ds.length = 2 := fun ds A Q h => by
  unfold sp_turned_sum at h
  split at h <;> first | rfl | exact h.elim
theorem r_turned_sum : ∀ ds B (Q : DK), sp_turned_sum ds B Q → t_turned_sum sp_need_whole sp_digits_in sp_number_in (rets Q) (startD 3 ds) B := by
  intro ds B Q h
  unfold sp_turned_sum at h
  split at h <;> first | exact h.elim | skip
  rename_i b n
  unfold t_turned_sum
  obtain ⟨⟨hn, hb⟩, h⟩ := h
  obtain ⟨b, rfl⟩ : ∃ k : Nat, b = (k : Int) := ⟨b.toNat, by omega⟩
  rw [Int.toNat_natCast] at h
  walk_at "run"
  rw [Int.toNat_natCast, pI_rev, List.reverse_reverse]
  have hi := isI_pI (MD.ls b n.toNat)
  walk_at "run"
  rw [nbD_pI]
  exact ret_same h
def sp_is_mirrored : List D → AH → DK → Prop
  | [.int b, .int n], A, Q => ((0 ≤ n ∧ n ≤ 1000000000000000000000000000000) ∧ 2 ≤ b ∧ b ≤ 36) ∧ Q (.bl (decide ((MD.ls b.toNat n.toNat).reverse = MD.ls b.toNat n.toNat))) A
  | _, _, _ => False
theorem m_is_mirrored : MonL sp_is_mirrored := fun ds A Q Q' k h => by
  unfold sp_is_mirrored at h ⊢
  split at h <;> first | exact h.elim | exact k _ _ h | exact ⟨h.1, k _ _ h.2⟩ | exact ⟨h.choose, h.choose_spec.1, k _ _ h.choose_spec.2⟩ | exact fun x0 => k _ _ (h x0) | exact ⟨h.1, fun x0 => k _ _ (h.2 x0)⟩ | exact fun x0 x1 => k _ _ (h x0 x1) | exact ⟨h.1, fun x0 x1 => k _ _ (h.2 x0 x1)⟩ | exact fun x0 x1 x2 => k _ _ (h x0 x1 x2) | exact ⟨h.1, fun x0 x1 x2 => k _ _ (h.2 x0 x1 x2)⟩ | exact fun x0 x1 x2 x3 => k _ _ (h x0 x1 x2 x3) | exact ⟨h.1, fun x0 x1 x2 x3 => k _ _ (h.2 x0 x1 x2 x3)⟩ | exact fun x0 x1 x2 x3 x4 => k _ _ (h x0 x1 x2 x3 x4) | exact ⟨h.1, fun x0 x1 x2 x3 x4 => k _ _ (h.2 x0 x1 x2 x3 x4)⟩ | exact fun x0 x1 x2 x3 x4 x5 => k _ _ (h x0 x1 x2 x3 x4 x5) | exact ⟨h.1, fun x0 x1 x2 x3 x4 x5 => k _ _ (h.2 x0 x1 x2 x3 x4 x5)⟩ | exact fun x0 x1 x2 x3 x4 x5 x6 => k _ _ (h x0 x1 x2 x3 x4 x5 x6) | exact ⟨h.1, fun x0 x1 x2 x3 x4 x5 x6 => k _ _ (h.2 x0 x1 x2 x3 x4 x5 x6)⟩ | exact fun x0 x1 x2 x3 x4 x5 x6 x7 => k _ _ (h x0 x1 x2 x3 x4 x5 x6 x7) | exact ⟨h.1, fun x0 x1 x2 x3 x4 x5 x6 x7 => k _ _ (h.2 x0 x1 x2 x3 x4 x5 x6 x7)⟩ | exact fun x0 x1 x2 x3 x4 x5 x6 x7 x8 => k _ _ (h x0 x1 x2 x3 x4 x5 x6 x7 x8) | exact ⟨h.1, fun x0 x1 x2 x3 x4 x5 x6 x7 x8 => k _ _ (h.2 x0 x1 x2 x3 x4 x5 x6 x7 x8)⟩
theorem l_is_mirrored : ∀ ds A Q, sp_is_mirrored ds A Q → ds.length = 2 := fun ds A Q h => by
  unfold sp_is_mirrored at h
  split at h <;> first | rfl | exact h.elim
theorem r_is_mirrored : ∀ ds B (Q : DK), sp_is_mirrored ds B Q → t_is_mirrored sp_need_whole sp_digits_in (rets Q) (startD 3 ds) B := by
  intro ds B Q h
  unfold sp_is_mirrored at h
  split at h <;> first | exact h.elim | skip
  rename_i b n
  unfold t_is_mirrored
  obtain ⟨⟨hn, hb⟩, h⟩ := h
  walk_at "run"
  rw [pI_rev, List.reverse_reverse]
  refine And.intro ⟨okD_ints _, okD_ints _⟩ ?_
  rw [eqD_lst]
  exact ret_same h
def sp_carries_in : List D → AH → DK → Prop
  | [.int x, .int y, .int b], A, Q => ((0 ≤ x ∧ x ≤ 1000000000000000000000000000000) ∧ (0 ≤ y ∧ y ≤ 1000000000000000000000000000000) ∧ 2 ≤ b ∧ b ≤ 1000) ∧ Q (.lst (pI (MD.car b.toNat x.toNat y.toNat 0))) A
  | _, _, _ => False
theorem m_carries_in : MonL sp_carries_in := fun ds A Q Q' k h => by
  unfold sp_carries_in at h ⊢
  split at h <;> first | exact h.elim | exact k _ _ h | exact ⟨h.1, k _ _ h.2⟩ | exact ⟨h.choose, h.choose_spec.1, k _ _ h.choose_spec.2⟩ | exact fun x0 => k _ _ (h x0) | exact ⟨h.1, fun x0 => k _ _ (h.2 x0)⟩ | exact fun x0 x1 => k _ _ (h x0 x1) | exact ⟨h.1, fun x0 x1 => k _ _ (h.2 x0 x1)⟩ | exact fun x0 x1 x2 => k _ _ (h x0 x1 x2) | exact ⟨h.1, fun x0 x1 x2 => k _ _ (h.2 x0 x1 x2)⟩ | exact fun x0 x1 x2 x3 => k _ _ (h x0 x1 x2 x3) | exact ⟨h.1, fun x0 x1 x2 x3 => k _ _ (h.2 x0 x1 x2 x3)⟩ | exact fun x0 x1 x2 x3 x4 => k _ _ (h x0 x1 x2 x3 x4) | exact ⟨h.1, fun x0 x1 x2 x3 x4 => k _ _ (h.2 x0 x1 x2 x3 x4)⟩ | exact fun x0 x1 x2 x3 x4 x5 => k _ _ (h x0 x1 x2 x3 x4 x5) | exact ⟨h.1, fun x0 x1 x2 x3 x4 x5 => k _ _ (h.2 x0 x1 x2 x3 x4 x5)⟩ | exact fun x0 x1 x2 x3 x4 x5 x6 => k _ _ (h x0 x1 x2 x3 x4 x5 x6) | exact ⟨h.1, fun x0 x1 x2 x3 x4 x5 x6 => k _ _ (h.2 x0 x1 x2 x3 x4 x5 x6)⟩ | exact fun x0 x1 x2 x3 x4 x5 x6 x7 => k _ _ (h x0 x1 x2 x3 x4 x5 x6 x7) | exact ⟨h.1, fun x0 x1 x2 x3 x4 x5 x6 x7 => k _ _ (h.2 x0 x1 x2 x3 x4 x5 x6 x7)⟩ | exact fun x0 x1 x2 x3 x4 x5 x6 x7 x8 => k _ _ (h x0 x1 x2 x3 x4 x5 x6 x7 x8) | exact ⟨h.1, fun x0 x1 x2 x3 x4 x5 x6 x7 x8 => k _ _ (h.2 x0 x1 x2 x3 x4 x5 x6 x7 x8)⟩
theorem l_carries_in : ∀ ds A Q, sp_carries_in ds A Q → ds.length = 3 := fun ds A Q h => by
  unfold sp_carries_in at h
  split at h <;> first | rfl | exact h.elim
structure Ca where
  (x y c : Nat) (l : List Nat) (o1 o2 : Option D)
theorem pow_lt2 {k n : Nat} (h : 2 ^ k ≤ n) (hn : n ≤ 2000000000000000000000000000000) : k ≤ 101 := by
  refine Classical.byContradiction fun c => ?_
  have : 2 ^ 102 ≤ 2 ^ k := Nat.pow_le_pow_right (by decide) (by omega)
  have e : (2 : Nat) ^ 102 = 5070602400912917605986812821504 := by decide
  omega
theorem r_carries_in : ∀ ds B (Q : DK), sp_carries_in ds B Q → t_carries_in (rets Q) (startD 7 ds) B := by
  intro ds B Q h
  unfold sp_carries_in at h
  split at h <;> first | exact h.elim | skip
  rename_i x y b
  unfold t_carries_in
  obtain ⟨⟨hx, hy, hb⟩, h⟩ := h
  obtain ⟨x, rfl⟩ : ∃ k : Nat, x = (k : Int) := ⟨x.toNat, by omega⟩
  obtain ⟨y, rfl⟩ : ∃ k : Nat, y = (k : Int) := ⟨y.toNat, by omega⟩
  obtain ⟨b, rfl⟩ : ∃ k : Nat, b = (k : Int) := ⟨b.toNat, by omega⟩
  rw [Int.toNat_natCast, Int.toNat_natCast, Int.toNat_natCast] at h
  have hb2 : 2 ≤ b := by omega
  walk_at "run"
  intro p hp
  walk_at "run"
  refine while_st (α := Ca) (fun s => [some (.int s.x), some (.int s.y), some (.int b), some (.ref p), some (.int s.c), s.o1, s.o2]) (fun s => aupd B p (.lst (pI s.l)))
    (fun s => s.l ++ MD.car b s.x s.y s.c = MD.car b x y 0 ∧ s.c ≤ 1 ∧ 2 ^ s.l.length * (s.x + s.y) ≤ x + y ∧ s.l.length ≤ 103 ∧ (¬ (s.x = 0 ∧ s.y = 0 ∧ s.c = 0) → s.l.length ≤ 102)) (fun s => MD.mc s.x s.y s.c) ⟨x, y, 0, [], none, none⟩ rfl rfl ⟨rfl, Nat.zero_le _, by simp, by simp, fun _ => by simp⟩ ?_
  rintro ⟨x', y', c, l, o1, o2⟩ ⟨w1, w2, w3, w4, w5⟩
  dsimp only at w1 w2 w3 w4 w5 ⊢
  have len : (pI l).length ≤ 1000000 := by unfold pI; rw [List.length_map]; omega
  by_cases e : x' = 0 ∧ y' = 0 ∧ c = 0
  · obtain ⟨rfl, rfl, rfl⟩ := e
    rw [MD.car_end, List.append_nil] at w1
    rw [← w1] at h
    walk_at "run"
    exact ret_same h
  · have stp := MD.car_step hb2 w2 e
    have lt := MD.mc_lt hb2 w2 e
    have cl := MD.cy_le b x' y' c
    have k1 : 2 * (x' / b) ≤ x' := Nat.le_trans (Nat.mul_le_mul_right _ hb2) (Nat.mul_div_le x' b)
    have k2 : 2 * (y' / b) ≤ y' := Nat.le_trans (Nat.mul_le_mul_right _ hb2) (Nat.mul_div_le y' b)
    have w3' : 2 ^ (l.length + 1) * (x' / b + y' / b) ≤ x + y := by
      have : 2 ^ l.length * (2 * (x' / b + y' / b)) ≤ 2 ^ l.length * (x' + y') := Nat.mul_le_mul_left _ (by omega)
      rw [Nat.pow_succ, Nat.mul_assoc]
      omega
    have w6 : l.length + 1 ≤ 103 := by have := w5 e; omega
    have w7 : ¬ (x' / b = 0 ∧ y' / b = 0 ∧ MD.cy b x' y' c = 0) → l.length + 1 ≤ 102 := by
      intro g
      by_cases z : x' + y' = 0
      · exfalso
        have hx0 : x' = 0 := by omega
        have hy0 : y' = 0 := by omega
        subst hx0 hy0
        refine g ⟨Nat.zero_div _, Nat.zero_div _, ?_⟩
        unfold MD.cy
        rw [if_neg]
        rw [Nat.zero_mod]
        omega
      · have : 2 ^ l.length * 1 ≤ 2 ^ l.length * (x' + y') := Nat.mul_le_mul_left _ (by omega)
        have := pow_lt2 (k := l.length) (n := x + y) (by omega) (by omega)
        omega
    have cond : (0 < (x' : Int)) ∨ (0 < (y' : Int)) ∨ (0 < (c : Int)) := by omega
    have fin : (l ++ [MD.cy b x' y' c]) ++ MD.car b (x' / b) (y' / b) (MD.cy b x' y' c) = MD.car b x y 0 := by rw [← w1, stp]; simp
    have turn : ∀ (z : Int), z = (if (decide ((b : Int) ≤ (x' : Int) - (x' : Int) / (b : Int) * (b : Int) + ((y' : Int) - (y' : Int) / (b : Int) * (b : Int)) + (c : Int))) = true then 1 else 0) → z = (MD.cy b x' y' c : Int) := by
      rintro z rfl
      rw [mod_int, mod_int]
      unfold MD.cy
      by_cases g : b ≤ x' % b + y' % b + c
      · rw [if_pos g, if_pos (decide_eq_true (by omega))]; rfl
      · rw [if_neg g, if_neg (by rw [decide_eq_true_eq]; omega)]; rfl
    have heap : aupd (aupd B p (.lst (pI l))) p (.lst (pI l ++ [.int (MD.cy b x' y' c : Int)])) = aupd B p (.lst (pI (l ++ [MD.cy b x' y' c]))) := by
      rw [aupd_aupd]
      unfold pI
      rw [List.map_append]
      rfl
    have ln1 : (l ++ [MD.cy b x' y' c]).length = l.length + 1 := by simp
    have zt := turn _ rfl
    have done : ∀ (u1 u2 : D), ∃ m', m' < MD.mc x' y' c ∧ ∃ s : Ca, m' = MD.mc s.x s.y s.c ∧ [some (.int ((x' : Int) / (b : Int))), some (.int ((y' : Int) / (b : Int))), some (.int (b : Int)), some (.ref p), some (.int (if (decide ((b : Int) ≤ (x' : Int) - (x' : Int) / (b : Int) * (b : Int) + ((y' : Int) - (y' : Int) / (b : Int) * (b : Int)) + (c : Int))) = true then 1 else 0)), some u1, some u2] = [some (.int s.x), some (.int s.y), some (.int b), some (.ref p), some (.int s.c), s.o1, s.o2] ∧
        aupd (aupd B p (.lst (pI l))) p (.lst (pI l ++ [.int (if (decide ((b : Int) ≤ (x' : Int) - (x' : Int) / (b : Int) * (b : Int) + ((y' : Int) - (y' : Int) / (b : Int) * (b : Int)) + (c : Int))) = true then 1 else 0)])) = aupd B p (.lst (pI s.l)) ∧ (s.l ++ MD.car b s.x s.y s.c = MD.car b x y 0 ∧ s.c ≤ 1 ∧ 2 ^ s.l.length * (s.x + s.y) ≤ x + y ∧ s.l.length ≤ 103 ∧ (¬ (s.x = 0 ∧ s.y = 0 ∧ s.c = 0) → s.l.length ≤ 102)) := by
      intro u1 u2
      rw [zt]
      exact ⟨_, lt, ⟨x' / b, y' / b, MD.cy b x' y' c, l ++ [MD.cy b x' y' c], some u1, some u2⟩, rfl, rfl, heap, fin, cl, by rw [ln1]; exact w3', by rw [ln1]; exact w6, by rw [ln1]; exact w7⟩
    by_cases q1 : 0 < (x' : Int)
    · walk_at "run"
      exact done _ _
    by_cases q2 : 0 < (y' : Int)
    · walk_at "run"
      exact done _ _
    · walk_at "run"
      exact done _ _
def sp_carries : List D → AH → DK → Prop
  | [.int x, .int y, .int b], A, Q => ((0 ≤ x ∧ x ≤ 1000000000000000000000000000000) ∧ (0 ≤ y ∧ y ≤ 1000000000000000000000000000000) ∧ 2 ≤ b ∧ b ≤ 1000) ∧ Q (.tup (pI (MD.car b.toNat x.toNat y.toNat 0))) A
  | _, _, _ => False
theorem m_carries : MonL sp_carries := fun ds A Q Q' k h => by
  unfold sp_carries at h ⊢
  split at h <;> first | exact h.elim | exact k _ _ h | exact ⟨h.1, k _ _ h.2⟩ | exact ⟨h.choose, h.choose_spec.1, k _ _ h.choose_spec.2⟩ | exact fun x0 => k _ _ (h x0) | exact ⟨h.1, fun x0 => k _ _ (h.2 x0)⟩ | exact fun x0 x1 => k _ _ (h x0 x1) | exact ⟨h.1, fun x0 x1 => k _ _ (h.2 x0 x1)⟩ | exact fun x0 x1 x2 => k _ _ (h x0 x1 x2) | exact ⟨h.1, fun x0 x1 x2 => k _ _ (h.2 x0 x1 x2)⟩ | exact fun x0 x1 x2 x3 => k _ _ (h x0 x1 x2 x3) | exact ⟨h.1, fun x0 x1 x2 x3 => k _ _ (h.2 x0 x1 x2 x3)⟩ | exact fun x0 x1 x2 x3 x4 => k _ _ (h x0 x1 x2 x3 x4) | exact ⟨h.1, fun x0 x1 x2 x3 x4 => k _ _ (h.2 x0 x1 x2 x3 x4)⟩ | exact fun x0 x1 x2 x3 x4 x5 => k _ _ (h x0 x1 x2 x3 x4 x5) | exact ⟨h.1, fun x0 x1 x2 x3 x4 x5 => k _ _ (h.2 x0 x1 x2 x3 x4 x5)⟩ | exact fun x0 x1 x2 x3 x4 x5 x6 => k _ _ (h x0 x1 x2 x3 x4 x5 x6) | exact ⟨h.1, fun x0 x1 x2 x3 x4 x5 x6 => k _ _ (h.2 x0 x1 x2 x3 x4 x5 x6)⟩ | exact fun x0 x1 x2 x3 x4 x5 x6 x7 => k _ _ (h x0 x1 x2 x3 x4 x5 x6 x7) | exact ⟨h.1, fun x0 x1 x2 x3 x4 x5 x6 x7 => k _ _ (h.2 x0 x1 x2 x3 x4 x5 x6 x7)⟩ | exact fun x0 x1 x2 x3 x4 x5 x6 x7 x8 => k _ _ (h x0 x1 x2 x3 x4 x5 x6 x7 x8) | exact ⟨h.1, fun x0 x1 x2 x3 x4 x5 x6 x7 x8 => k _ _ (h.2 x0 x1 x2 x3 x4 x5 x6 x7 x8)⟩
theorem l_carries : ∀ ds A Q, sp_carries ds A Q → ds.length = 3 := fun ds A Q h => by
  unfold sp_carries at h
  split at h <;> first | rfl | exact h.elim
theorem r_carries : ∀ ds B (Q : DK), sp_carries ds B Q → t_carries sp_need_whole sp_carries_in (rets Q) (startD 3 ds) B := by
  intro ds B Q h
  unfold sp_carries at h
  split at h <;> first | exact h.elim | skip
  rename_i x y b
  unfold t_carries
  obtain ⟨⟨hx, hy, hb⟩, h⟩ := h
  walk_at "run"
  exact ret_same h
/-- told of a row of digits -/
def Dgs (b : Int) (l : List Nat) : Prop := (1 ≤ l.length ∧ l.length ≤ 200) ∧ (∀ d ∈ l, (d : Int) < b) ∧ 2 ≤ b ∧ b ≤ 36
def sp_fits_digits : List D → AH → DK → Prop
  | [.int b, .tup ds], A, Q => ∃ l : List Nat, (ds = pI l ∧ Dgs b l) ∧ Q (.bl (decide (l.length = 1) || decide (0 < l.headD 0))) A
  | _, _, _ => False
theorem m_fits_digits : MonL sp_fits_digits := fun ds A Q Q' k h => by
  unfold sp_fits_digits at h ⊢
  split at h <;> first | exact h.elim | exact k _ _ h | exact ⟨h.1, k _ _ h.2⟩ | exact ⟨h.choose, h.choose_spec.1, k _ _ h.choose_spec.2⟩ | exact fun x0 => k _ _ (h x0) | exact ⟨h.1, fun x0 => k _ _ (h.2 x0)⟩ | exact fun x0 x1 => k _ _ (h x0 x1) | exact ⟨h.1, fun x0 x1 => k _ _ (h.2 x0 x1)⟩ | exact fun x0 x1 x2 => k _ _ (h x0 x1 x2) | exact ⟨h.1, fun x0 x1 x2 => k _ _ (h.2 x0 x1 x2)⟩ | exact fun x0 x1 x2 x3 => k _ _ (h x0 x1 x2 x3) | exact ⟨h.1, fun x0 x1 x2 x3 => k _ _ (h.2 x0 x1 x2 x3)⟩ | exact fun x0 x1 x2 x3 x4 => k _ _ (h x0 x1 x2 x3 x4) | exact ⟨h.1, fun x0 x1 x2 x3 x4 => k _ _ (h.2 x0 x1 x2 x3 x4)⟩ | exact fun x0 x1 x2 x3 x4 x5 => k _ _ (h x0 x1 x2 x3 x4 x5) | exact ⟨h.1, fun x0 x1 x2 x3 x4 x5 => k _ _ (h.2 x0 x1 x2 x3 x4 x5)⟩ | exact fun x0 x1 x2 x3 x4 x5 x6 => k _ _ (h x0 x1 x2 x3 x4 x5 x6) | exact ⟨h.1, fun x0 x1 x2 x3 x4 x5 x6 => k _ _ (h.2 x0 x1 x2 x3 x4 x5 x6)⟩ | exact fun x0 x1 x2 x3 x4 x5 x6 x7 => k _ _ (h x0 x1 x2 x3 x4 x5 x6 x7) | exact ⟨h.1, fun x0 x1 x2 x3 x4 x5 x6 x7 => k _ _ (h.2 x0 x1 x2 x3 x4 x5 x6 x7)⟩ | exact fun x0 x1 x2 x3 x4 x5 x6 x7 x8 => k _ _ (h x0 x1 x2 x3 x4 x5 x6 x7 x8) | exact ⟨h.1, fun x0 x1 x2 x3 x4 x5 x6 x7 x8 => k _ _ (h.2 x0 x1 x2 x3 x4 x5 x6 x7 x8)⟩
theorem l_fits_digits : ∀ ds A Q, sp_fits_digits ds A Q → ds.length = 2 := fun ds A Q h => by
  unfold sp_fits_digits at h
  split at h <;> first | rfl | exact h.elim
theorem r_fits_digits : ∀ ds B (Q : DK), sp_fits_digits ds B Q → t_fits_digits sp_is_tuple_of sp_fits_whole (rets Q) (startD 3 ds) B := by
  intro ds B Q h
  unfold sp_fits_digits at h
  split at h <;> first | exact h.elim | skip
  rename_i b ds
  unfold t_fits_digits
  obtain ⟨l, ⟨rfl, ⟨hl, hd, hb⟩⟩, h⟩ := h
  have len : (pI l).length = l.length := by unfold pI; rw [List.length_map]
  walk_at "run"
  refine lc_map (fun _ => .bl true) (by rw [len]; omega) ?_ ?_
  · intro d hdm A Q' h'
    unfold pI at hdm
    rw [List.mem_map] at hdm
    obtain ⟨x, hx, rfl⟩ := hdm
    have xb := hd x hx
    walk_at "run"
    have e : (decide (0 ≤ (x : Int)) && decide ((x : Int) ≤ b - 1)) = true := by
      simp only [Bool.and_eq_true, decide_eq_true_eq]; omega
    rw [e]
    exact h'
  · intro p hp
    have bs : bools? ((pI l).map fun _ => D.bl true) = some ((pI l).map fun _ => true) := bools?_map (fun _ => true) (pI l)
    have al : ((pI l).map fun _ => true).all id = true := by simp
    walk_at "run"
    rw [bs]
    walk_at "run"
    cases l with
    | nil => exact absurd hl.1 (by decide)
    | cons x l =>
      rw [len]
      refine br_dec (fun g => ?_) (fun g => ?_)
      · walk_at "run"
        have e : decide ((x :: l).length = 1) = true := decide_eq_true (by omega)
        rw [e, Bool.true_or] at h
        rw [decide_eq_true g]
        exact ret_same h
      · walk_at "run"
        have e : decide ((x :: l).length = 1) = false := decide_eq_false (by omega)
        rw [e, Bool.false_or] at h
        have e2 : decide (0 < (x : Int)) = decide (0 < (x :: l).headD 0) := decide_eq_decide.mpr (by simp)
        rw [e2]
        exact ret_same h
abbrev sp_are_digits := sp_fits_digits
theorem m_are_digits : MonL sp_are_digits := m_fits_digits
theorem l_are_digits : ∀ ds A Q, sp_are_digits ds A Q → ds.length = 2 := l_fits_digits
theorem r_are_digits : ∀ ds B (Q : DK), sp_are_digits ds B Q → t_are_digits sp_need_whole sp_fits_digits (rets Q) (startD 2 ds) B := by
  intro ds B Q h
  unfold sp_are_digits sp_fits_digits at h
  split at h <;> first | exact h.elim | skip
  rename_i b ds
  unfold t_are_digits
  obtain ⟨l, ⟨rfl, dg⟩, h⟩ := h
  have hb := dg.2.2
  walk_at "run"
  refine ⟨l, ⟨rfl, dg⟩, ?_⟩
  exact ret_same h
def sp_number_of : List D → AH → DK → Prop
  | [.int b, .tup ds], A, Q => ∃ l : List Nat, (ds = pI l ∧ Dgs b l ∧ (l.length = 1 ∨ 0 < l.headD 0)) ∧ Q (.int (MD.nb b.toNat l : Int)) A
  | _, _, _ => False
theorem m_number_of : MonL sp_number_of := fun ds A Q Q' k h => by
  unfold sp_number_of at h ⊢
  split at h <;> first | exact h.elim | exact k _ _ h | exact ⟨h.1, k _ _ h.2⟩ | exact ⟨h.choose, h.choose_spec.1, k _ _ h.choose_spec.2⟩ | exact fun x0 => k _ _ (h x0) | exact ⟨h.1, fun x0 => k _ _ (h.2 x0)⟩ | exact fun x0 x1 => k _ _ (h x0 x1) | exact ⟨h.1, fun x0 x1 => k _ _ (h.2 x0 x1)⟩ | exact fun x0 x1 x2 => k _ _ (h x0 x1 x2) | exact ⟨h.1, fun x0 x1 x2 => k _ _ (h.2 x0 x1 x2)⟩ | exact fun x0 x1 x2 x3 => k _ _ (h x0 x1 x2 x3) | exact ⟨h.1, fun x0 x1 x2 x3 => k _ _ (h.2 x0 x1 x2 x3)⟩ | exact fun x0 x1 x2 x3 x4 => k _ _ (h x0 x1 x2 x3 x4) | exact ⟨h.1, fun x0 x1 x2 x3 x4 => k _ _ (h.2 x0 x1 x2 x3 x4)⟩ | exact fun x0 x1 x2 x3 x4 x5 => k _ _ (h x0 x1 x2 x3 x4 x5) | exact ⟨h.1, fun x0 x1 x2 x3 x4 x5 => k _ _ (h.2 x0 x1 x2 x3 x4 x5)⟩ | exact fun x0 x1 x2 x3 x4 x5 x6 => k _ _ (h x0 x1 x2 x3 x4 x5 x6) | exact ⟨h.1, fun x0 x1 x2 x3 x4 x5 x6 => k _ _ (h.2 x0 x1 x2 x3 x4 x5 x6)⟩ | exact fun x0 x1 x2 x3 x4 x5 x6 x7 => k _ _ (h x0 x1 x2 x3 x4 x5 x6 x7) | exact ⟨h.1, fun x0 x1 x2 x3 x4 x5 x6 x7 => k _ _ (h.2 x0 x1 x2 x3 x4 x5 x6 x7)⟩ | exact fun x0 x1 x2 x3 x4 x5 x6 x7 x8 => k _ _ (h x0 x1 x2 x3 x4 x5 x6 x7 x8) | exact ⟨h.1, fun x0 x1 x2 x3 x4 x5 x6 x7 x8 => k _ _ (h.2 x0 x1 x2 x3 x4 x5 x6 x7 x8)⟩
theorem l_number_of : ∀ ds A Q, sp_number_of ds A Q → ds.length = 2 := fun ds A Q h => by
  unfold sp_number_of at h
  split at h <;> first | rfl | exact h.elim
theorem r_number_of : ∀ ds B (Q : DK), sp_number_of ds B Q → t_number_of sp_need_whole sp_fits_digits sp_number_in (rets Q) (startD 2 ds) B := by
  intro ds B Q h
  unfold sp_number_of at h
  split at h <;> first | exact h.elim | skip
  rename_i b ds
  unfold t_number_of
  obtain ⟨l, ⟨rfl, dg, hl⟩, h⟩ := h
  have hb := dg.2.2
  obtain ⟨b, rfl⟩ : ∃ k : Nat, b = (k : Int) := ⟨b.toNat, by omega⟩
  rw [Int.toNat_natCast] at h
  have hi := isI_pI l
  have e : (decide (l.length = 1) || decide (0 < l.headD 0)) = true := by
    rcases hl with g | g
    · rw [decide_eq_true g]; rfl
    · rw [decide_eq_true g, Bool.or_true]
  walk_at "run"
  refine ⟨l, ⟨rfl, dg⟩, ?_⟩
  rw [e]
  walk_at "run"
  rw [nbD_pI]
  exact ret_same h

theorem br_shr {k : Bool} {p q : Prop} (h : q) (hp : k = true → q → p) : br k p q := by
  cases k with
  | true => exact br_t (hp rfl h)
  | false => exact br_f h
theorem ints?_pI (l : List Nat) : ints? (pI l) = some (l.map fun (d : Nat) => (d : Int)) := ints?_map (fun (d : Nat) => (d : Int)) l
theorem sum_pI (l : List Nat) : (l.map fun (d : Nat) => (d : Int)).sum = (l.sum : Int) := by
  induction l with
  | nil => rfl
  | cons d l ih => rw [List.map_cons, List.sum_cons, List.sum_cons, ih]; omega
theorem len_pI (l : List Nat) : (pI l).length = l.length := by unfold pI; rw [List.length_map]
theorem get_pI (l : List Nat) (i : Nat) : (pI l)[i]? = l[i]?.map fun (d : Nat) => D.int (d : Int) := by unfold pI; rw [List.getElem?_map]
theorem lim100 {n : Nat} (h : (n : Int) ≤ 1000000000000000000000000000000) : n < 2 ^ 100 := by
  have e : (2 : Nat) ^ 100 = 1267650600228229401496703205376 := by decide
  omega
def sp_digit_root : List D → AH → DK → Prop
  | [.int b, .int n], A, Q => ((0 ≤ n ∧ n ≤ 1000000000000000000000000000000) ∧ 2 ≤ b ∧ b ≤ 36) ∧ Q (.tup [.int ((MD.it b.toNat 60 (n.toNat, 0)).1 : Int), .int ((MD.it b.toNat 60 (n.toNat, 0)).2 : Int)]) A
  | _, _, _ => False
theorem m_digit_root : MonL sp_digit_root := fun ds A Q Q' k h => by
  unfold sp_digit_root at h ⊢
  split at h <;> first | exact h.elim | exact k _ _ h | exact ⟨h.1, k _ _ h.2⟩ | exact ⟨h.choose, h.choose_spec.1, k _ _ h.choose_spec.2⟩ | exact fun x0 => k _ _ (h x0) | exact ⟨h.1, fun x0 => k _ _ (h.2 x0)⟩ | exact fun x0 x1 => k _ _ (h x0 x1) | exact ⟨h.1, fun x0 x1 => k _ _ (h.2 x0 x1)⟩ | exact fun x0 x1 x2 => k _ _ (h x0 x1 x2) | exact ⟨h.1, fun x0 x1 x2 => k _ _ (h.2 x0 x1 x2)⟩ | exact fun x0 x1 x2 x3 => k _ _ (h x0 x1 x2 x3) | exact ⟨h.1, fun x0 x1 x2 x3 => k _ _ (h.2 x0 x1 x2 x3)⟩ | exact fun x0 x1 x2 x3 x4 => k _ _ (h x0 x1 x2 x3 x4) | exact ⟨h.1, fun x0 x1 x2 x3 x4 => k _ _ (h.2 x0 x1 x2 x3 x4)⟩ | exact fun x0 x1 x2 x3 x4 x5 => k _ _ (h x0 x1 x2 x3 x4 x5) | exact ⟨h.1, fun x0 x1 x2 x3 x4 x5 => k _ _ (h.2 x0 x1 x2 x3 x4 x5)⟩ | exact fun x0 x1 x2 x3 x4 x5 x6 => k _ _ (h x0 x1 x2 x3 x4 x5 x6) | exact ⟨h.1, fun x0 x1 x2 x3 x4 x5 x6 => k _ _ (h.2 x0 x1 x2 x3 x4 x5 x6)⟩ | exact fun x0 x1 x2 x3 x4 x5 x6 x7 => k _ _ (h x0 x1 x2 x3 x4 x5 x6 x7) | exact ⟨h.1, fun x0 x1 x2 x3 x4 x5 x6 x7 => k _ _ (h.2 x0 x1 x2 x3 x4 x5 x6 x7)⟩ | exact fun x0 x1 x2 x3 x4 x5 x6 x7 x8 => k _ _ (h x0 x1 x2 x3 x4 x5 x6 x7 x8) | exact ⟨h.1, fun x0 x1 x2 x3 x4 x5 x6 x7 x8 => k _ _ (h.2 x0 x1 x2 x3 x4 x5 x6 x7 x8)⟩
theorem l_digit_root : ∀ ds A Q, sp_digit_root ds A Q → ds.length = 2 := fun ds A Q h => by
  unfold sp_digit_root at h
  split at h <;> first | rfl | exact h.elim
theorem r_digit_root : ∀ ds B (Q : DK), sp_digit_root ds B Q → t_digit_root sp_need_whole sp_digits_in (rets Q) (startD 3 ds) B := by
  intro ds B Q h
  unfold sp_digit_root at h
  split at h <;> first | exact h.elim | skip
  rename_i b n
  unfold t_digit_root
  obtain ⟨⟨hn, hb⟩, h⟩ := h
  obtain ⟨n, rfl⟩ : ∃ k : Nat, n = (k : Int) := ⟨n.toNat, by omega⟩
  obtain ⟨b, rfl⟩ : ∃ k : Nat, b = (k : Int) := ⟨b.toNat, by omega⟩
  rw [Int.toNat_natCast, Int.toNat_natCast] at h
  have hb2 : 2 ≤ b := by omega
  walk_at "run"
  refine while_st (α := Nat × Nat × Nat) (fun s => [some (.int b), some (.int s.1), some (.int s.2.1)]) (fun _ => B) (fun s => (s.1, s.2.1) = MD.it b s.2.2 (n, 0) ∧ s.1 ≤ n) (fun s => s.1) (n, 0, 0) rfl rfl ⟨rfl, Nat.le_refl _⟩ ?_
  rintro ⟨h', m, k⟩ ⟨w1, w2⟩
  dsimp only at w1 w2 ⊢
  by_cases c : b ≤ h'
  · walk_at "run"
    rw [Int.toNat_natCast, Int.toNat_natCast, ints?_pI]
    walk_at "run"
    rw [sum_pI, List.sum_reverse]
    have lt := MD.ds_lt hb2 c
    refine ⟨(MD.ls b h').sum, lt, ((MD.ls b h').sum, m + 1, k + 1), rfl, rfl, rfl, ?_, by dsimp only; omega⟩
    show _ = MD.st b (MD.it b k (n, 0))
    rw [← w1]
    unfold MD.st
    rw [if_pos c]
  · walk_at "run"
    have e : MD.it b 60 (n, 0) = (h', m) := by
      rw [w1]
      refine MD.it_same (MD.it_60 hb2 (by omega) (lim100 hn.2)) ?_
      rw [← w1]
      show h' < b
      omega
    rw [e] at h
    exact ret_same h
def sp_lw_great : List D → AH → DK → Prop
  | [.ref p, .int m], A, Q => (Cup A p ∧ 1 ≤ m ∧ m ≤ 10) ∧ ∀ r A', 0 ≤ r → r < 1000000000000000000000000000000 → Cup A' p → Oth A A' p → Q (.int r) A'
  | _, _, _ => False
theorem m_lw_great : MonL sp_lw_great := fun ds A Q Q' k h => by
  unfold sp_lw_great at h ⊢
  split at h <;> first | exact h.elim | exact k _ _ h | exact ⟨h.1, k _ _ h.2⟩ | exact ⟨h.choose, h.choose_spec.1, k _ _ h.choose_spec.2⟩ | exact fun x0 => k _ _ (h x0) | exact ⟨h.1, fun x0 => k _ _ (h.2 x0)⟩ | exact fun x0 x1 => k _ _ (h x0 x1) | exact ⟨h.1, fun x0 x1 => k _ _ (h.2 x0 x1)⟩ | exact fun x0 x1 x2 => k _ _ (h x0 x1 x2) | exact ⟨h.1, fun x0 x1 x2 => k _ _ (h.2 x0 x1 x2)⟩ | exact fun x0 x1 x2 x3 => k _ _ (h x0 x1 x2 x3) | exact ⟨h.1, fun x0 x1 x2 x3 => k _ _ (h.2 x0 x1 x2 x3)⟩ | exact fun x0 x1 x2 x3 x4 => k _ _ (h x0 x1 x2 x3 x4) | exact ⟨h.1, fun x0 x1 x2 x3 x4 => k _ _ (h.2 x0 x1 x2 x3 x4)⟩ | exact fun x0 x1 x2 x3 x4 x5 => k _ _ (h x0 x1 x2 x3 x4 x5) | exact ⟨h.1, fun x0 x1 x2 x3 x4 x5 => k _ _ (h.2 x0 x1 x2 x3 x4 x5)⟩ | exact fun x0 x1 x2 x3 x4 x5 x6 => k _ _ (h x0 x1 x2 x3 x4 x5 x6) | exact ⟨h.1, fun x0 x1 x2 x3 x4 x5 x6 => k _ _ (h.2 x0 x1 x2 x3 x4 x5 x6)⟩ | exact fun x0 x1 x2 x3 x4 x5 x6 x7 => k _ _ (h x0 x1 x2 x3 x4 x5 x6 x7) | exact ⟨h.1, fun x0 x1 x2 x3 x4 x5 x6 x7 => k _ _ (h.2 x0 x1 x2 x3 x4 x5 x6 x7)⟩ | exact fun x0 x1 x2 x3 x4 x5 x6 x7 x8 => k _ _ (h x0 x1 x2 x3 x4 x5 x6 x7 x8) | exact ⟨h.1, fun x0 x1 x2 x3 x4 x5 x6 x7 x8 => k _ _ (h.2 x0 x1 x2 x3 x4 x5 x6 x7 x8)⟩
theorem l_lw_great : ∀ ds A Q, sp_lw_great ds A Q → ds.length = 2 := fun ds A Q h => by
  unfold sp_lw_great at h
  split at h <;> first | rfl | exact h.elim
theorem pow1000 {i : Nat} (h : i ≤ 10) : (1000 : Int) ^ i ≤ 1000000000000000000000000000000 ∧ 0 < (1000 : Int) ^ i := by
  have e : i = 0 ∨ i = 1 ∨ i = 2 ∨ i = 3 ∨ i = 4 ∨ i = 5 ∨ i = 6 ∨ i = 7 ∨ i = 8 ∨ i = 9 ∨ i = 10 := by omega
  rcases e with rfl | rfl | rfl | rfl | rfl | rfl | rfl | rfl | rfl | rfl | rfl <;> decide
theorem r_lw_great : ∀ ds B (Q : DK), sp_lw_great ds B Q → t_lw_great sp_lw_roll (rets Q) (startD 4 ds) B := by
  intro ds B Q h
  unfold sp_lw_great at h
  split at h <;> first | exact h.elim | skip
  rename_i p m
  unfold t_lw_great
  obtain ⟨⟨c0, hm⟩, h⟩ := h
  walk_at "run"
  intro r A1 r0 r1 c1 o1
  walk_at "run"
  refine for_rg (α := AH × Int × Option D) (fun s => [some (.ref p), some (.int m), some (.int s.2.1), s.2.2]) (fun s => s.1) (fun i s => Cup s.1 p ∧ Oth B s.1 p ∧ 0 ≤ s.2.1 ∧ s.2.1 < 1000 ^ i) (A1, 0, none) rfl rfl ⟨c1, o1, (by decide : (0 : Int) ≤ 0), (by decide : (0 : Int) < 1)⟩ ?_ ?_
  · rintro i ⟨A2, x, u⟩ hi ⟨c2, o2, x0, x1⟩
    dsimp only at c2 o2 x0 x1 ⊢
    walk_at "run"
    intro s A3 s0 s1 c3 o3
    walk_at "run"
    refine ⟨(A3, 1000 * x + s, some _), rfl, rfl, c3, o2.trans o3, by dsimp only; omega, ?_⟩
    dsimp only
    rw [Int.pow_succ]
    omega
  · rintro ⟨A2, x, u⟩ ⟨c2, o2, x0, x1⟩
    dsimp only at c2 o2 x0 x1 ⊢
    have := pow1000 (i := (r + 1).toNat) (by omega)
    walk_at "run"
    exact ret_same (h _ _ x0 (by omega) c2 o2)
theorem cut_end (ds : List D) (k : Nat) (hk : 0 < k) : cutD ds (some (-(k : Int))) none = ds.drop (ds.length - k) ∧ cutD ds none (some (-(k : Int))) = ds.take (ds.length - k) := by
  unfold cutD
  have e1 : HT.sIx ds.length 0 (some (-(k : Int))) = ds.length - k := by
    show (if -(k : Int) < 0 then (-(k : Int) + (ds.length : Int)).toNat else _) = _
    rw [if_pos (by omega)]
    omega
  have e2 : HT.sIx ds.length ds.length (some (-(k : Int))) = ds.length - k := by
    show (if -(k : Int) < 0 then (-(k : Int) + (ds.length : Int)).toNat else _) = _
    rw [if_pos (by omega)]
    omega
  rw [HT.sIx_none, HT.sIx_none, e1, e2]
  refine ⟨?_, ?_⟩
  · rw [List.take_of_length_le (by rw [List.length_drop]; omega)]
  · rw [List.drop_zero, Nat.sub_zero]
def sp_lw_grouped : List D → AH → DK → Prop
  | [.tup ds, .int s, .int b], A, Q => ∃ (l : List Nat) (k c : Nat), (ds = pI l.reverse ∧ s = (k : Int) ∧ b = (c : Int) ∧ 1 ≤ k ∧ k ≤ 10 ∧ 2 ≤ c ∧ c ≤ 36 ∧ l.length ≤ 1000) ∧ Q (.tup (pI (MD.gr k c l).reverse)) A
  | _, _, _ => False
theorem m_lw_grouped : MonL sp_lw_grouped := fun ds A Q Q' k h => by
  unfold sp_lw_grouped at h ⊢
  split at h <;> first | exact h.elim | (obtain ⟨l, s, c, h1, h2⟩ := h; exact ⟨l, s, c, h1, k _ _ h2⟩)
theorem l_lw_grouped : ∀ ds A Q, sp_lw_grouped ds A Q → ds.length = 3 := fun ds A Q h => by
  unfold sp_lw_grouped at h
  split at h <;> first | rfl | exact h.elim
structure Gr where
  (l g : List Nat) (o5 o6 o7 : Option D)
theorem nb_pI {b : Nat} {p : List Nat} {i x : Nat} (h : p[i]? = some x) : MD.nb b (p.take (i + 1)) = b * MD.nb b (p.take i) + x := by
  rw [List.take_succ, h]
  exact MD.nb_append b _ x
theorem pI_get {p : List Nat} {i : Nat} {d : D} (h : (pI p)[i]? = some d) : ∃ x, p[i]? = some x ∧ d = .int (x : Int) := by
  rw [get_pI] at h
  cases e : p[i]? with
  | none => rw [e] at h; cases h
  | some x => rw [e] at h; exact ⟨x, rfl, (Option.some.inj h).symm⟩
theorem r_lw_grouped : ∀ ds B (Q : DK), sp_lw_grouped ds B Q → t_lw_grouped (rets Q) (startD 8 ds) B := by
  intro ds B Q h
  unfold sp_lw_grouped at h
  split at h <;> first | exact h.elim | skip
  rename_i ds s b
  unfold t_lw_grouped
  obtain ⟨l, k, c, ⟨rfl, rfl, rfl, hk, hk2, hc, hc2, hl⟩, h⟩ := h
  walk_at "run"
  refine while_st (α := Gr) (fun s => [some (.tup (pI l.reverse)), some (.int (k : Int)), some (.int (c : Int)), some (.lst (pI s.g.reverse)), some (.lst (pI s.l.reverse)), s.o5, s.o6, s.o7]) (fun _ => B)
    (fun s => s.g ++ MD.gr k c s.l = MD.gr k c l ∧ s.l.length ≤ l.length ∧ s.g.length + s.l.length ≤ l.length) (fun s => s.l.length) ⟨l, [], none, none, none⟩ rfl rfl ⟨rfl, Nat.le_refl _, by simp⟩ ?_
  rintro ⟨m, g, o5, o6, o7⟩ ⟨w1, w2, w3⟩
  dsimp only at w1 w2 w3 ⊢
  have ok1 := okD_ints m.reverse
  walk_at "run"
  rw [eqD_nil]
  by_cases e : m = []
  · subst e
    walk_at "run"
    rw [MD.gr_nil, List.append_nil] at w1
    rw [w1]
    exact ret_same h
  · have ml : 0 < m.length := List.length_pos_iff.mpr e
    have ne : m.reverse ≠ [] := by simpa using e
    rw [decide_eq_false ne]
    have lr : (pI m.reverse).length = m.length := by rw [len_pI, List.length_reverse]
    have c1 : cutD (pI m.reverse) (some (-(k : Int))) none = pI (m.take k).reverse := by
      rw [(cut_end _ k hk).1, lr]
      unfold pI
      rw [← List.map_drop, List.reverse_take]
    have c2 : cutD (pI m.reverse) none (some (-(k : Int))) = pI (m.drop k).reverse := by
      rw [(cut_end _ k hk).2, lr]
      unfold pI
      rw [← List.map_take, List.reverse_drop]
    walk_at "run"
    rw [c1, c2]
    refine for_st (α := Nat × Option D) (fun s => [some (.tup (pI l.reverse)), some (.int (k : Int)), some (.int (c : Int)), some (.lst (pI g.reverse)), some (.lst (pI (m.drop k).reverse)), some (.lst (pI (m.take k).reverse)), some (.int (MD.nb c ((m.take k).reverse.take s.1) : Int)), s.2]) (fun _ => B) (fun i s => s.1 = i) (0, o7) rfl rfl rfl ?_ ?_
    · rintro i d ⟨j, o⟩ hd w
      dsimp only at w ⊢
      subst w
      obtain ⟨x, hx, rfl⟩ := pI_get hd
      walk_at "run"
      refine ⟨(j + 1, some (.int x)), ?_, rfl, rfl⟩
      dsimp only
      rw [nb_pI hx, Int.natCast_add, Int.natCast_mul, Int.mul_comm (c : Int)]
      rfl
    · rintro ⟨j, o⟩ w
      dsimp only at w ⊢
      subst w
      rw [len_pI, List.take_length, MD.nb_rev]
      have lg : (pI g.reverse).length = g.length := by rw [len_pI, List.length_reverse]
      walk_at "run"
      refine ⟨(m.drop k).length, by rw [List.length_drop]; omega, ⟨m.drop k, g ++ [MD.ln c (m.take k)], some (.lst (pI (m.take k).reverse)), some (.int (MD.ln c (m.take k) : Int)), o⟩, rfl, ?_, rfl, ?_, ?_, ?_⟩
      · dsimp only
        rw [List.reverse_append]
        rfl
      · dsimp only
        rw [List.append_assoc, ← w1, MD.gr_step hk e]
        rfl
      · dsimp only
        rw [List.length_drop]; omega
      · dsimp only
        rw [List.length_drop, List.length_append]
        show g.length + 1 + (m.length - k) ≤ l.length
        omega

theorem ls_ok {b : Nat} (hb : 2 ≤ b) (hb2 : b ≤ 36) {n : Nat} (h : (n : Int) ≤ 1000000000000000000000000000000) : (1 ≤ (MD.ls b n).length ∧ (MD.ls b n).length ≤ 100) ∧ (∀ d ∈ (MD.ls b n).reverse, (d : Int) < (b : Int)) ∧ ((MD.ls b n).reverse.length = 1 ∨ 0 < (MD.ls b n).reverse.headD 0) ∧ MD.nb b (MD.ls b n).reverse = n := by
  refine ⟨?_, ?_, ?_, ?_⟩
  · by_cases c : n = 0
    · subst c; exact ⟨Nat.le_refl _, (by decide : 1 ≤ 100)⟩
    · have e : MD.ls b n = MD.dg b n := by unfold MD.ls; rw [if_neg c]
      rw [e]
      exact ⟨List.length_pos_iff.mpr (MD.dg_ne hb (by omega)), MD.ls_len hb 100 n (lim100 h)⟩
  · intro d hd
    have := MD.ls_lt hb n d (List.mem_reverse.mp hd)
    omega
  · by_cases c : n = 0
    · subst c; exact .inl rfl
    · right
      have e : MD.ls b n = MD.dg b n := by unfold MD.ls; rw [if_neg c]
      rw [e, List.headD_eq_head?_getD, List.head?_reverse]
      cases g : (MD.dg b n).getLast? with
      | none => exact absurd (List.getLast?_eq_none_iff.mp g) (MD.dg_ne hb (by omega))
      | some d => exact MD.dg_last hb n (by omega) d g
  · rw [MD.nb_rev, MD.ln_ls hb]
def sp_lw_number_right : List D → AH → DK → Prop
  | [.ref p, .int n, .int b], A, Q => (Cup A p ∧ (0 ≤ n ∧ n < 1000000000000000000000000000000) ∧ 2 ≤ b ∧ b ≤ 36) ∧ ∀ A', Cup A' p → Oth A A' p → Q (.bl true) A'
  | _, _, _ => False
theorem m_lw_number_right : MonL sp_lw_number_right := fun ds A Q Q' k h => by
  unfold sp_lw_number_right at h ⊢
  split at h <;> first | exact h.elim | exact k _ _ h | exact ⟨h.1, k _ _ h.2⟩ | exact ⟨h.choose, h.choose_spec.1, k _ _ h.choose_spec.2⟩ | exact fun x0 => k _ _ (h x0) | exact ⟨h.1, fun x0 => k _ _ (h.2 x0)⟩ | exact fun x0 x1 => k _ _ (h x0 x1) | exact ⟨h.1, fun x0 x1 => k _ _ (h.2 x0 x1)⟩ | exact fun x0 x1 x2 => k _ _ (h x0 x1 x2) | exact ⟨h.1, fun x0 x1 x2 => k _ _ (h.2 x0 x1 x2)⟩ | exact fun x0 x1 x2 x3 => k _ _ (h x0 x1 x2 x3) | exact ⟨h.1, fun x0 x1 x2 x3 => k _ _ (h.2 x0 x1 x2 x3)⟩ | exact fun x0 x1 x2 x3 x4 => k _ _ (h x0 x1 x2 x3 x4) | exact ⟨h.1, fun x0 x1 x2 x3 x4 => k _ _ (h.2 x0 x1 x2 x3 x4)⟩ | exact fun x0 x1 x2 x3 x4 x5 => k _ _ (h x0 x1 x2 x3 x4 x5) | exact ⟨h.1, fun x0 x1 x2 x3 x4 x5 => k _ _ (h.2 x0 x1 x2 x3 x4 x5)⟩ | exact fun x0 x1 x2 x3 x4 x5 x6 => k _ _ (h x0 x1 x2 x3 x4 x5 x6) | exact ⟨h.1, fun x0 x1 x2 x3 x4 x5 x6 => k _ _ (h.2 x0 x1 x2 x3 x4 x5 x6)⟩ | exact fun x0 x1 x2 x3 x4 x5 x6 x7 => k _ _ (h x0 x1 x2 x3 x4 x5 x6 x7) | exact ⟨h.1, fun x0 x1 x2 x3 x4 x5 x6 x7 => k _ _ (h.2 x0 x1 x2 x3 x4 x5 x6 x7)⟩ | exact fun x0 x1 x2 x3 x4 x5 x6 x7 x8 => k _ _ (h x0 x1 x2 x3 x4 x5 x6 x7 x8) | exact ⟨h.1, fun x0 x1 x2 x3 x4 x5 x6 x7 x8 => k _ _ (h.2 x0 x1 x2 x3 x4 x5 x6 x7 x8)⟩
theorem l_lw_number_right : ∀ ds A Q, sp_lw_number_right ds A Q → ds.length = 3 := fun ds A Q h => by
  unfold sp_lw_number_right at h
  split at h <;> first | rfl | exact h.elim
theorem pI_cons (d : Nat) (l : List Nat) : D.int (d : Int) :: pI l = pI (d :: l) := rfl
theorem pI_snoc (l : List Nat) (d : Nat) : pI l ++ [D.int (d : Int)] = pI (l ++ [d]) := by unfold pI; rw [List.map_append]; rfl
theorem plD_pI (k : Nat) (l : List Nat) (h : l.length ≤ 1000000) : plD (k + 1) (.tup (pI l)) = true := by
  have a : ∀ l : List Nat, plDs k (pI l) = true := by
    intro l
    induction l with
    | nil => cases k <;> rfl
    | cons d l ih =>
      show (plD k (.int d) && plDs k (pI l)) = true
      rw [ih]
      cases k <;> rfl
  show (decide ((pI l).length ≤ 1000000) && plDs k (pI l)) = true
  rw [a, len_pI, decide_eq_true h]
  rfl
theorem okD_intsT (l : List Nat) : okD 20 (.tup (pI l)) = true := okD_ints l
theorem r_lw_number_right : ∀ ds B (Q : DK), sp_lw_number_right ds B Q → t_lw_number_right sp_digits sp_lw_roll sp_lw_same sp_are_digits sp_number_of sp_lw_grouped sp_is_mirrored sp_turned_sum (rets Q) (startD 11 ds) B := by
  intro ds B Q h
  unfold sp_lw_number_right at h
  split at h <;> first | exact h.elim | skip
  rename_i p n b
  unfold t_lw_number_right
  obtain ⟨⟨c0, hn, hb⟩, h⟩ := h
  obtain ⟨n, rfl⟩ : ∃ k : Nat, n = (k : Int) := ⟨n.toNat, by omega⟩
  obtain ⟨b, rfl⟩ : ∃ k : Nat, b = (k : Int) := ⟨b.toNat, by omega⟩
  have hb2 : 2 ≤ b := by omega
  have hn2 : (n : Int) ≤ 1000000000000000000000000000000 := by omega
  obtain ⟨⟨len1, len2⟩, dig, hd, val⟩ := ls_ok hb2 (by omega) hn2
  have lenr : (MD.ls b n).reverse.length = (MD.ls b n).length := List.length_reverse
  have lenp : (pI (MD.ls b n).reverse).length = (MD.ls b n).length := by rw [len_pI, lenr]
  walk_at "run"
  rw [Int.toNat_natCast, Int.toNat_natCast]
  intro dg A1 d0 d1 c1 o1
  walk_at "run"
  refine ⟨(MD.ls b n).reverse, ⟨rfl, ⟨by omega, dig, by omega⟩⟩, ?_⟩
  have e1 : (decide ((MD.ls b n).reverse.length = 1) || decide (0 < (MD.ls b n).reverse.headD 0)) = true := by
    rcases hd with g | g
    · rw [decide_eq_true g]; rfl
    · rw [decide_eq_true g, Bool.or_true]
  rw [e1]
  walk_at "run"
  refine ⟨(MD.ls b n).reverse, ⟨rfl, ⟨by omega, dig, by omega⟩, hd⟩, ?_⟩
  rw [Int.toNat_natCast, val]
  walk_at "run"
  refine ⟨0 :: (MD.ls b n).reverse, ⟨rfl, ⟨by rw [List.length_cons]; omega, ?_, by omega⟩⟩, ?_⟩
  · intro d hd
    rcases List.mem_cons.mp hd with rfl | hd
    · omega
    · exact dig d hd
  have e2 : (decide ((0 :: (MD.ls b n).reverse).length = 1) || decide (0 < (0 :: (MD.ls b n).reverse).headD 0)) = false := by
    rw [decide_eq_false (by rw [List.length_cons]; omega), decide_eq_false (by simp)]
    rfl
  rw [e2]
  walk_at "run"
  obtain ⟨dg, rfl⟩ : ∃ k : Nat, dg = (k : Int) := ⟨dg.toNat, by omega⟩
  have nb1 : (n : Int) * (b : Int) ≤ 36 * (n : Int) := by
    rw [Int.mul_comm]
    exact Int.mul_le_mul_of_nonneg_right (by omega) (by omega)
  have nb0 : 0 ≤ (n : Int) * (b : Int) := Int.mul_nonneg (by omega) (by omega)
  have hdl : (MD.ls b n).reverse.headD 0 ∈ (MD.ls b n).reverse := by
    cases e : (MD.ls b n).reverse with
    | nil => rw [e] at lenr; simp at lenr; omega
    | cons x l => simp
  have hdb := dig _ hdl
  have ix0 : ixD (pI (MD.ls b n).reverse) 0 = some (.int ((MD.ls b n).reverse.headD 0 : Nat)) := by
    cases e : (MD.ls b n).reverse with
    | nil => rw [e] at lenr; simp at lenr; omega
    | cons x l => rfl
  have cut1 : cutD (pI (MD.ls b n).reverse) none (some 1) = [.int ((MD.ls b n).reverse.headD 0 : Nat)] := by
    cases e : (MD.ls b n).reverse with
    | nil => rw [e] at lenr; simp at lenr; omega
    | cons x l =>
      unfold cutD
      have e1 : HT.sIx (pI (x :: l)).length (pI (x :: l)).length (some 1) = 1 := by
        show HT.sIx (pI (x :: l)).length (pI (x :: l)).length (some ((1 : Nat) : Int)) = 1
        rw [HT.sIx_nat, len_pI, List.length_cons]
        omega
      rw [HT.sIx_none, e1]
      rfl
  refine br_shr ?_ (fun g q => ?_)
  rotate_left
  · have gn : 0 < n := by have := of_decide_eq_true g; omega
    walk_at "run"
    refine br_dec (fun g2 => ?_) (fun _ => q)
    have g3 : (n : Int) < 1000000000000000000000000000 := g2
    walk_at "run"
    refine ⟨⟨?_, ?_⟩, q⟩
    · have e3 : ((n : Int) * (b : Int) + (dg : Int)).toNat = n * b + dg := by
        rw [← Int.natCast_mul, ← Int.natCast_add, Int.toNat_natCast]
      have e4 : MD.ls b (n * b + dg) = dg :: MD.ls b n := by
        have : 0 < n * b := Nat.mul_pos gn (by omega)
        unfold MD.ls
        rw [if_neg (by omega), if_neg (by omega), MD.dg_push hb2 (by omega) gn]
      rw [e3, Int.toNat_natCast, e4, List.reverse_cons, pI_snoc]
    · rw [pI_snoc]
      refine plD_pI _ _ ?_
      rw [List.length_append]
      show (MD.ls b n).reverse.length + 1 ≤ _
      omega
  walk_at "run"
  refine br_shr ?_ (fun g q => ?_)
  rotate_left
  · have gn : 0 < n := by have := of_decide_eq_true g; omega
    walk_at "run"
    rw [cut1]
    walk_at "run"
    refine ⟨(MD.ls b n).reverse ++ [(MD.ls b n).reverse.headD 0], ⟨pI_snoc _ _, ⟨by rw [List.length_append]; show 1 ≤ (MD.ls b n).reverse.length + 1 ∧ (MD.ls b n).reverse.length + 1 ≤ 200; omega, ?_, by omega⟩, ?_⟩, ?_⟩
    · intro d hd
      rcases List.mem_append.mp hd with hd | hd
      · exact dig d hd
      · rw [List.mem_singleton.mp hd]; exact hdb
    · right
      have hz : 0 < (MD.ls b n).reverse.headD 0 := by
        rcases hd with c | c
        · have e : MD.ls b n = MD.dg b n := by unfold MD.ls; rw [if_neg (by omega)]
          rw [e, List.headD_eq_head?_getD, List.head?_reverse]
          cases g : (MD.dg b n).getLast? with
          | none => exact absurd (List.getLast?_eq_none_iff.mp g) (MD.dg_ne hb2 (by omega))
          | some d => exact MD.dg_last hb2 n (by omega) d g
        · exact c
      cases e : (MD.ls b n).reverse with
      | nil => rw [e] at lenr; simp at lenr; omega
      | cons x l => rw [e] at hz; exact hz
    · walk_at "run"
      refine optK_of ix0 ?_
      walk_at "run"
      refine ⟨⟨?_, rfl⟩, q⟩
      rw [Int.toNat_natCast, MD.nb_append, val]
      congr 1
      rw [Int.natCast_add, Int.natCast_mul, Int.mul_comm]
  walk_at "run"
  refine for_st (α := Option D × Option D) (fun s => [some (.ref p), some (.int (n : Int)), some (.int (b : Int)), some (.tup (pI (MD.ls b n).reverse)), some (.int (dg : Int)), s.1, s.2, none, none, none, none]) (fun _ => A1) (fun _ _ => True) (none, none) rfl rfl trivial ?_ ?_
  · rintro i d ⟨u5, u6⟩ hd _
    dsimp only
    have gsame : ∀ s : Nat, 1 ≤ s → s ≤ 10 → D.tup (pI (MD.ls (((b ^ s : Nat) : Int)).toNat (n : Int).toNat).reverse) = D.tup (pI (MD.gr s b (MD.ls b n)).reverse) := by
      intro s hs _
      rw [Int.toNat_natCast, Int.toNat_natCast, MD.gr_ls hb2 hs]
    have dd : d = .int 2 ∨ d = .int 3 := by
      have := List.mem_of_getElem? hd
      simpa using this
    have b4 : 2 * 2 ≤ (b : Int) * (b : Int) := Int.mul_le_mul (by omega) (by omega) (by decide) (by omega)
    have b8 : 2 * 2 * 2 ≤ (b : Int) * (b : Int) * (b : Int) := Int.mul_le_mul b4 (by omega) (by decide) (by omega)
    have e2 : (b : Int) * (b : Int) = ((b ^ 2 : Nat) : Int) := by rw [Nat.pow_succ, Nat.pow_succ, Nat.pow_zero, Nat.one_mul, Int.natCast_mul]
    have e3 : (b : Int) * (b : Int) * (b : Int) = ((b ^ 3 : Nat) : Int) := by rw [e2, Nat.pow_succ _ 2, Int.natCast_mul]
    have glen : ∀ s, 1 ≤ s → (MD.gr s b (MD.ls b n)).reverse.length ≤ 1000000 := by
      intro s hs
      rw [MD.gr_ls hb2 hs, List.length_reverse]
      have p1 : 2 ≤ b ^ s := Nat.le_trans hb2 (by
        have := Nat.pow_le_pow_right (show 0 < b by omega) hs
        rwa [Nat.pow_one] at this)
      have := MD.ls_len p1 100 n (lim100 hn2)
      unfold MD.ls
      split
      · decide
      · omega
    rcases dd with rfl | rfl
    · walk_at "run"
      refine br_dec (fun g2 => ?_) (fun _ => br_f ⟨(some _, some _), rfl, rfl, trivial⟩)
      walk_at "run"
      refine ⟨MD.ls b n, 2, b, ⟨rfl, rfl, rfl, by omega, by omega, hb2, by omega, by omega⟩, ?_⟩
      rw [e2, gsame 2 (by omega) (by omega)]
      walk_at "run"
      refine ⟨⟨rfl, plD_pI _ _ (glen 2 (by omega))⟩, ?_⟩
      walk_at "run"
      exact ⟨(some _, some _), rfl, rfl, trivial⟩
    · walk_at "run"
      refine br_dec (fun g2 => ?_) (fun _ => br_f ⟨(some _, some _), rfl, rfl, trivial⟩)
      walk_at "run"
      refine ⟨MD.ls b n, 3, b, ⟨rfl, rfl, rfl, by omega, by omega, hb2, by omega, by omega⟩, ?_⟩
      rw [e3, gsame 3 (by omega) (by omega)]
      walk_at "run"
      refine ⟨⟨rfl, plD_pI _ _ (glen 3 (by omega))⟩, ?_⟩
      walk_at "run"
      exact ⟨(some _, some _), rfl, rfl, trivial⟩
  · rintro ⟨u5, u6⟩ _
    dsimp only
    walk_at "run"
    rw [pI_rev, List.reverse_reverse]
    refine for_st (α := Nat × Option D) (fun s => [some (.ref p), some (.int (n : Int)), some (.int (b : Int)), some (.tup (pI (MD.ls b n).reverse)), some (.int (dg : Int)), u5, u6, some (.tup (pI (MD.ls b n))), some (.int (MD.nb b ((MD.ls b n).take s.1) : Int)), s.2, none]) (fun _ => A1) (fun i s => s.1 = i) (0, none) rfl rfl rfl ?_ ?_
    · rintro i d ⟨j, o⟩ hd w
      dsimp only at w ⊢
      subst w
      obtain ⟨x, hx, rfl⟩ := pI_get hd
      walk_at "run"
      refine ⟨(j + 1, some (.int x)), ?_, rfl, rfl⟩
      dsimp only
      rw [nb_pI hx, Int.natCast_add, Int.natCast_mul, Int.mul_comm (b : Int)]
      rfl
    · rintro ⟨j, o⟩ w
      dsimp only at w ⊢
      subst w
      rw [len_pI, List.take_length]
      have ok1 := okD_intsT (MD.ls b n)
      have ok2 := okD_intsT (MD.ls b n).reverse
      walk_at "run"
      rw [Int.toNat_natCast, Int.toNat_natCast]
      have e5 : eqD (.tup (pI (MD.ls b n))) (.tup (pI (MD.ls b n).reverse)) = decide ((MD.ls b n).reverse = MD.ls b n) := by
        have := eqDs_pI (MD.ls b n) (MD.ls b n).reverse
        show eqDs _ _ = _
        rw [this, decide_eq_decide]
        exact ⟨Eq.symm, Eq.symm⟩
      rw [e5]
      refine ⟨⟨rfl, rfl⟩, ?_⟩
      exact ret_same (h _ c1 o1)

def sp_lw_sums_right : List D → AH → DK → Prop
  | [.int x, .int y, .int b], A, Q => (0 ≤ x ∧ 0 ≤ y ∧ x + y ≤ 1000000000000000000000000000000 ∧ 2 ≤ b ∧ b ≤ 36) ∧ Q (.bl true) A
  | _, _, _ => False
theorem m_lw_sums_right : MonL sp_lw_sums_right := fun ds A Q Q' k h => by
  unfold sp_lw_sums_right at h ⊢
  split at h <;> first | exact h.elim | exact k _ _ h | exact ⟨h.1, k _ _ h.2⟩ | exact ⟨h.choose, h.choose_spec.1, k _ _ h.choose_spec.2⟩ | exact fun x0 => k _ _ (h x0) | exact ⟨h.1, fun x0 => k _ _ (h.2 x0)⟩ | exact fun x0 x1 => k _ _ (h x0 x1) | exact ⟨h.1, fun x0 x1 => k _ _ (h.2 x0 x1)⟩ | exact fun x0 x1 x2 => k _ _ (h x0 x1 x2) | exact ⟨h.1, fun x0 x1 x2 => k _ _ (h.2 x0 x1 x2)⟩ | exact fun x0 x1 x2 x3 => k _ _ (h x0 x1 x2 x3) | exact ⟨h.1, fun x0 x1 x2 x3 => k _ _ (h.2 x0 x1 x2 x3)⟩ | exact fun x0 x1 x2 x3 x4 => k _ _ (h x0 x1 x2 x3 x4) | exact ⟨h.1, fun x0 x1 x2 x3 x4 => k _ _ (h.2 x0 x1 x2 x3 x4)⟩ | exact fun x0 x1 x2 x3 x4 x5 => k _ _ (h x0 x1 x2 x3 x4 x5) | exact ⟨h.1, fun x0 x1 x2 x3 x4 x5 => k _ _ (h.2 x0 x1 x2 x3 x4 x5)⟩ | exact fun x0 x1 x2 x3 x4 x5 x6 => k _ _ (h x0 x1 x2 x3 x4 x5 x6) | exact ⟨h.1, fun x0 x1 x2 x3 x4 x5 x6 => k _ _ (h.2 x0 x1 x2 x3 x4 x5 x6)⟩ | exact fun x0 x1 x2 x3 x4 x5 x6 x7 => k _ _ (h x0 x1 x2 x3 x4 x5 x6 x7) | exact ⟨h.1, fun x0 x1 x2 x3 x4 x5 x6 x7 => k _ _ (h.2 x0 x1 x2 x3 x4 x5 x6 x7)⟩ | exact fun x0 x1 x2 x3 x4 x5 x6 x7 x8 => k _ _ (h x0 x1 x2 x3 x4 x5 x6 x7 x8) | exact ⟨h.1, fun x0 x1 x2 x3 x4 x5 x6 x7 x8 => k _ _ (h.2 x0 x1 x2 x3 x4 x5 x6 x7 x8)⟩
theorem l_lw_sums_right : ∀ ds A Q, sp_lw_sums_right ds A Q → ds.length = 3 := fun ds A Q h => by
  unfold sp_lw_sums_right at h
  split at h <;> first | rfl | exact h.elim
theorem ret_digit (b n i : Nat) (hb : 2 ≤ b) {Q : D → Prop} (h : Q (.int ((n / b ^ i % b : Nat) : Int))) : br (decide ((i : Int) < ((pI (MD.ls b n)).length : Int))) (optK (ixD (pI (MD.ls b n)) (i : Int)) Q) (Q (.int 0)) := by
  have e := MD.ls_at hb i n
  rw [← e] at h
  refine br_dec (fun g => ?_) (fun g => ?_)
  · have hi : i < (MD.ls b n).length := by rw [len_pI] at g; omega
    have ge : (MD.ls b n)[i]? = some (MD.ls b n)[i] := List.getElem?_eq_getElem hi
    refine optK_of (ixD_nat (d := .int ((MD.ls b n)[i] : Int)) (by rw [get_pI, ge]; rfl)) ?_
    rw [ge] at h
    exact h
  · have hi : ¬ i < (MD.ls b n).length := by rw [len_pI] at g; omega
    rw [List.getElem?_eq_none (by omega)] at h
    exact h
theorem r_lw_sums_right : ∀ ds B (Q : DK), sp_lw_sums_right ds B Q → t_lw_sums_right sp_carries sp_digits (rets Q) (startD 13 ds) B := by
  intro ds B Q h
  unfold sp_lw_sums_right at h
  split at h <;> first | exact h.elim | skip
  rename_i x y b
  unfold t_lw_sums_right
  obtain ⟨⟨hx, hy, hxy, hb⟩, h⟩ := h
  obtain ⟨x, rfl⟩ : ∃ k : Nat, x = (k : Int) := ⟨x.toNat, by omega⟩
  obtain ⟨y, rfl⟩ : ∃ k : Nat, y = (k : Int) := ⟨y.toNat, by omega⟩
  obtain ⟨b, rfl⟩ : ∃ k : Nat, b = (k : Int) := ⟨b.toNat, by omega⟩
  have hb2 : 2 ≤ b := by omega
  walk_at "run"
  rw [Int.toNat_natCast, Int.toNat_natCast, Int.toNat_natCast]
  refine lc_map (fun d => match d with | .int i => .int ((MD.ls b i.toNat).sum : Nat) | _ => .non) (show 3 ≤ 1000000 by decide) ?_ ?_
  · intro d hd A Q' h'
    have dd : d = .int (x : Int) ∨ d = .int (y : Int) ∨ d = .int ((x : Int) + (y : Int)) := by simpa using hd
    rcases dd with rfl | rfl | rfl
    all_goals
      dsimp only at h'
      walk_at "run"
      rw [Int.toNat_natCast, ints?_pI]
      walk_at "run"
      rw [sum_pI, List.sum_reverse]
      exact h'
  intro p hp
  have key := MD.sum_carries (x := x) (y := y) hb2
  have exy : ((x : Int) + (y : Int)).toNat = x + y := by omega
  walk_at "run"
  rw [ints?_pI]
  walk_at "run"
  rw [sum_pI, exy, Int.toNat_natCast, Int.toNat_natCast]
  have kz : ((MD.ls b x).sum : Int) + ((MD.ls b y).sum : Int) - ((MD.ls b (x + y)).sum : Int) = ((b : Int) - 1) * ((MD.car b x y 0).sum : Int) := by
    have e : ((b : Int) - 1) = ((b - 1 : Nat) : Int) := by omega
    rw [e, ← Int.natCast_mul]
    omega
  have okc := okD_intsT (MD.car b x y 0)
  have okc2 := okD_intsT (MD.car b y x 0)
  refine br_no (by rw [decide_eq_true kz]; rfl) ?_
  walk_at "run"
  have ec : (D.tup (pI (MD.car (b : Int).toNat (y : Int).toNat (x : Int).toNat 0))) = .tup (pI (MD.car b x y 0)) := by
    rw [Int.toNat_natCast, Int.toNat_natCast, Int.toNat_natCast, MD.car_comm]
  rw [ec]
  refine And.intro ⟨okc, okc⟩ ?_
  have ee : eqD (.tup (pI (MD.car b x y 0))) (.tup (pI (MD.car b x y 0))) = true := by
    show eqDs _ _ = _
    rw [eqDs_pI, decide_eq_true rfl]
  rw [ee]
  walk_at "run"
  refine lc_map (fun d => match d with | .int i => .tup (pI (MD.ls b i.toNat)) | _ => .non) (show 3 ≤ 1000000 by decide) ?_ ?_
  · intro d hd A Q' h'
    have dd : d = .int (x : Int) ∨ d = .int (y : Int) ∨ d = .int ((x : Int) + (y : Int)) := by simpa using hd
    rcases dd with rfl | rfl | rfl
    all_goals
      dsimp only at h'
      walk_at "run"
      rw [Int.toNat_natCast, pI_rev, List.reverse_reverse]
      exact h'
  intro p2 hp2
  walk_at "run"
  refine for_st (α := Int × Option D × Option D × Option D) (fun s => [some (.int x), some (.int y), some (.int b), some (.tup (pI (MD.car b x y 0))), some _, some (.tup (pI (MD.ls b x))), some (.tup (pI (MD.ls b y))), some (.tup (pI (MD.ls b (x + y)))), some (.int s.1), s.2.1, s.2.2.1, s.2.2.2, none]) (fun _ => B)
    (fun i s => s.1 = (((x + y) / b ^ i - x / b ^ i - y / b ^ i : Nat) : Int)) (0, none, none, none) rfl rfl ?_ ?_ ?_
  · dsimp only
    rw [Nat.pow_zero, Nat.div_one, Nat.div_one, Nat.div_one]
    omega
  · rintro i d ⟨a, o9, o10, o11⟩ hd w
    dsimp only at w ⊢
    subst w
    obtain ⟨z, hz, rfl⟩ := enumD_get hd
    obtain ⟨c, hc, rfl⟩ := pI_get hz
    obtain ⟨k1, k2, k3, k4⟩ := MD.car_at hb2 i x y 0 (by decide) c hc
    rw [Nat.add_zero] at k1 k2 k3 k4
    walk_at "run"
    refine ret_digit b x i hb2 ?_
    walk_at "run"
    refine ret_digit b y i hb2 ?_
    walk_at "run"
    refine ret_digit b (x + y) i hb2 ?_
    have l1 := MD.cy_div (x := x / b ^ i) (y := y / b ^ i) hb2 k2
    rw [← k3, ← k1] at l1
    have l2 : (((x + y) / b ^ i % b : Nat) : Int) + (b : Int) * (c : Int) = ((x / b ^ i % b : Nat) : Int) + ((y / b ^ i % b : Nat) : Int) + (((x + y) / b ^ i - x / b ^ i - y / b ^ i : Nat) : Int) := by
      rw [← Int.natCast_mul, ← Int.natCast_add, ← Int.natCast_add, ← Int.natCast_add, l1.2]
    have l3 : ((x / b ^ i % b : Nat) : Int) + ((y / b ^ i % b : Nat) : Int) + (((x + y) / b ^ i - x / b ^ i - y / b ^ i : Nat) : Int) - (b : Int) * (c : Int) = (((x + y) / b ^ i % b : Nat) : Int) := by omega
    rw [l3]
    walk_at "run"
    exact ⟨((c : Int), some _, some _, some _), rfl, rfl, by dsimp only; rw [k4]⟩
  · rintro ⟨a, o9, o10, o11⟩ _
    dsimp only
    walk_at "run"
    exact ret_same h
def sp_lw_roots_right : List D → AH → DK → Prop
  | [.int n, .int b], A, Q => ((0 ≤ n ∧ n ≤ 1000000000000000000000000000000) ∧ 2 ≤ b ∧ b ≤ 36) ∧ Q (.bl true) A
  | _, _, _ => False
theorem m_lw_roots_right : MonL sp_lw_roots_right := fun ds A Q Q' k h => by
  unfold sp_lw_roots_right at h ⊢
  split at h <;> first | exact h.elim | exact k _ _ h | exact ⟨h.1, k _ _ h.2⟩ | exact ⟨h.choose, h.choose_spec.1, k _ _ h.choose_spec.2⟩ | exact fun x0 => k _ _ (h x0) | exact ⟨h.1, fun x0 => k _ _ (h.2 x0)⟩ | exact fun x0 x1 => k _ _ (h x0 x1) | exact ⟨h.1, fun x0 x1 => k _ _ (h.2 x0 x1)⟩ | exact fun x0 x1 x2 => k _ _ (h x0 x1 x2) | exact ⟨h.1, fun x0 x1 x2 => k _ _ (h.2 x0 x1 x2)⟩ | exact fun x0 x1 x2 x3 => k _ _ (h x0 x1 x2 x3) | exact ⟨h.1, fun x0 x1 x2 x3 => k _ _ (h.2 x0 x1 x2 x3)⟩ | exact fun x0 x1 x2 x3 x4 => k _ _ (h x0 x1 x2 x3 x4) | exact ⟨h.1, fun x0 x1 x2 x3 x4 => k _ _ (h.2 x0 x1 x2 x3 x4)⟩ | exact fun x0 x1 x2 x3 x4 x5 => k _ _ (h x0 x1 x2 x3 x4 x5) | exact ⟨h.1, fun x0 x1 x2 x3 x4 x5 => k _ _ (h.2 x0 x1 x2 x3 x4 x5)⟩ | exact fun x0 x1 x2 x3 x4 x5 x6 => k _ _ (h x0 x1 x2 x3 x4 x5 x6) | exact ⟨h.1, fun x0 x1 x2 x3 x4 x5 x6 => k _ _ (h.2 x0 x1 x2 x3 x4 x5 x6)⟩ | exact fun x0 x1 x2 x3 x4 x5 x6 x7 => k _ _ (h x0 x1 x2 x3 x4 x5 x6 x7) | exact ⟨h.1, fun x0 x1 x2 x3 x4 x5 x6 x7 => k _ _ (h.2 x0 x1 x2 x3 x4 x5 x6 x7)⟩ | exact fun x0 x1 x2 x3 x4 x5 x6 x7 x8 => k _ _ (h x0 x1 x2 x3 x4 x5 x6 x7 x8) | exact ⟨h.1, fun x0 x1 x2 x3 x4 x5 x6 x7 x8 => k _ _ (h.2 x0 x1 x2 x3 x4 x5 x6 x7 x8)⟩
theorem l_lw_roots_right : ∀ ds A Q, sp_lw_roots_right ds A Q → ds.length = 2 := fun ds A Q h => by
  unfold sp_lw_roots_right at h
  split at h <;> first | rfl | exact h.elim
theorem r_lw_roots_right : ∀ ds B (Q : DK), sp_lw_roots_right ds B Q → t_lw_roots_right sp_digit_root sp_digits sp_lw_same (rets Q) (startD 8 ds) B := by
  intro ds B Q h
  unfold sp_lw_roots_right at h
  split at h <;> first | exact h.elim | skip
  rename_i n b
  unfold t_lw_roots_right
  obtain ⟨⟨hn, hb⟩, h⟩ := h
  obtain ⟨n, rfl⟩ : ∃ k : Nat, n = (k : Int) := ⟨n.toNat, by omega⟩
  obtain ⟨b, rfl⟩ : ∃ k : Nat, b = (k : Int) := ⟨b.toNat, by omega⟩
  have hb2 : 2 ≤ b := by omega
  have rt := MD.root_eq hb2 (by omega) (lim100 hn.2)
  walk_at "run"
  have e0 : (n : Int) = 0 → ((MD.it b 60 (n, 0)).1 : Int) = 0 := fun g => by
    rw [rt, if_pos (by omega)]
    rfl
  have e1 : ¬ (n : Int) = 0 → ((MD.it b 60 (n, 0)).1 : Int) = 1 + ((n : Int) - 1) % ((b : Int) - 1) := fun g => by
    rw [rt, if_neg (by omega)]
    have h1 : (n : Int) - 1 = ((n - 1 : Nat) : Int) := by omega
    have h2 : (b : Int) - 1 = ((b - 1 : Nat) : Int) := by omega
    rw [h1, h2, ← Int.natCast_emod]
    omega
  have sml : ∀ k, (MD.it b k (n, 0)).1 ≤ n := fun k => (MD.it_mod hb2 n 0 k).2.2
  refine br_dec (fun g => ?_) (fun g => ?_)
  all_goals
    first | have ev := e0 g | have ev := e1 g
    walk_at "run"
    refine for_rg (α := Nat × Option D) (fun s => [some (.int n), some (.int b), some _, some _, some _, some (.int ((MD.it b s.1 (n, 0)).1 : Int)), some (.int ((MD.it b s.1 (n, 0)).2 : Int)), s.2]) (fun _ => B) (fun i s => s.1 = i) (0, none) rfl rfl rfl ?_ ?_
    · rintro i ⟨j, o⟩ hi w
      dsimp only at w ⊢
      subst w
      have sl := sml j
      by_cases c : b ≤ (MD.it b j (n, 0)).1
      · have st : MD.it b (j + 1) (n, 0) = ((MD.ls b (MD.it b j (n, 0)).1).sum, (MD.it b j (n, 0)).2 + 1) := by
          show MD.st b _ = _
          unfold MD.st
          rw [if_pos c]
        walk_at "run"
        rw [ints?_pI]
        walk_at "run"
        rw [sum_pI, List.sum_reverse]
        refine ⟨(j + 1, some (.int (0 + (j : Int)))), ?_, rfl, rfl⟩
        dsimp only
        rw [st]
        rfl
      · have st : MD.it b (j + 1) (n, 0) = MD.it b j (n, 0) := by
          show MD.st b _ = _
          unfold MD.st
          rw [if_neg c]
        walk_at "run"
        refine ⟨(j + 1, some (.int (0 + (j : Int)))), ?_, rfl, rfl⟩
        dsimp only
        rw [st]
        rfl
    · rintro ⟨j, o⟩ w
      dsimp only at w ⊢
      subst w
      walk_at "run"
      refine And.intro ⟨?_, rfl⟩ ?_
      · show D.lst [D.int ((MD.it b 60 (n, 0)).1 : Int), _] = _
        rw [ev]
        rfl
      · walk_at "run"
        rw [show ((MD.it b (Int.toNat 60) (n, 0)).1 : Int) = _ from ev]
        walk_at "run"
        first
          | (rw [decide_eq_true rfl]; exact ret_same h)
          | exact ret_same h
theorem r_law : ∀ ds B (Q : DK), spLaw ds B Q → t_law sp_lw_cup sp_lw_same sp_digits sp_carries sp_digit_root sp_lw_great sp_lw_some sp_lw_roll sp_lw_number_right sp_lw_sums_right sp_lw_roots_right (rets Q) (startD 7 ds) B := by
  intro ds B Q h
  obtain ⟨ns, rfl, hl, h⟩ := h
  unfold t_law
  walk_at "run"
  refine ⟨ns, rfl, hl, fun p A1 hp c1 o1 => ?_⟩
  walk_at "run"
  refine for_rg (α := AH × Option D × Option D × Option D × Option D × Option D) (fun s => [some (.scr ns), some (.ref p), s.2.1, s.2.2.1, s.2.2.2.1, s.2.2.2.2.1, s.2.2.2.2.2]) (fun s => s.1) (fun _ s => Cup s.1 p) (A1, none, none, none, none, none) rfl rfl c1 ?_ ?_
  · rintro i ⟨A2, u2, u3, u4, u5, u6⟩ hi c2
    dsimp only at c2 ⊢
    walk_at "run"
    intro one A3 one0 one1 c3 o3
    walk_at "run"
    intro d A4 hd c4 o4
    have hd : ∃ m : Int, d = .int m ∧ 1 ≤ m ∧ m ≤ 10 := by
      simp at hd
      rcases hd with rfl | rfl <;> exact ⟨_, rfl, by decide, by decide⟩
    obtain ⟨m, rfl, hm⟩ := hd
    walk_at "run"
    intro oth A5 oth0 oth1 c5 o5
    walk_at "run"
    intro bs A6 bs0 bs1 c6 o6
    walk_at "run"
    intro k A7 k0 k1 c7 o7
    walk_at "run"
    have main : ∀ (x y : Int), 0 ≤ x → 0 ≤ y → x < 1000000000000000000000000000000 → y < 1000000000000000000000000000000 → x + y ≤ 1000000000000000000000000000000 → ∀ E : AEnds, (∀ σ A, ((∃ u, σ = [some (.scr ns), some (.ref p), some (.int (0 + (i : Int))), some (.int x), some (.int y), some (.int (2 + bs)), u]) ∧ Cup A p) → E.nx σ A) →
        ∀ (f : Int) (A8 : AH), 0 ≤ f → f < 5 → Cup A8 p → forI (agN 6) (sSeq (sIf (aOr (aNot (aTruE (aCall sp_lw_number_right (aCons (aVar 1) (aCons (aVar 3) (aCons (aVar 6) aNil)))))) (aNot (aTruE (aCall sp_lw_number_right (aCons (aVar 1) (aCons (aVar 4) (aCons (aVar 6) aNil))))))) (sRet (aC (.bl false))) sNext)
          (sIf (aOr (aNot (aTruE (aCall sp_lw_sums_right (aCons (aVar 3) (aCons (aVar 4) (aCons (aVar 6) aNil)))))) (aOr (aNot (aTruE (aCall sp_lw_roots_right (aCons (aVar 3) (aCons (aVar 6) aNil))))) (aNot (aTruE (aCall sp_lw_roots_right (aCons (aVar 4) (aCons (aVar 6) aNil))))))) (sRet (aC (.bl false))) sNext)) E none [.int (2 + bs), .int (2 + f)] [some (.scr ns), some (.ref p), some (.int (0 + (i : Int))), some (.int x), some (.int y), some (.int (2 + bs)), u6] A8 := by
      intro x y x0 y0 x1 y1 xy E hE f A8 f0 f1 c8
      refine for_st (α := AH × Option D) (fun s => [some (.scr ns), some (.ref p), some (.int (0 + (i : Int))), some (.int x), some (.int y), some (.int (2 + bs)), s.2]) (fun s => s.1) (fun _ s => Cup s.1 p) (A8, u6) rfl rfl c8 ?_ ?_
      · rintro j d ⟨A9, v⟩ hd c9
        dsimp only at c9 ⊢
        have dd : ∃ b : Int, d = .int b ∧ 2 ≤ b ∧ b ≤ 36 := by
          have := List.mem_of_getElem? hd
          simp at this
          rcases this with rfl | rfl
          · exact ⟨_, rfl, by omega, by omega⟩
          · exact ⟨_, rfl, by omega, by omega⟩
        obtain ⟨b, rfl, b0, b1⟩ := dd
        walk_at "run"
        intro A10 c10 o10
        walk_at "run"
        intro A11 c11 o11
        walk_at "run"
        exact ⟨(A11, some (.int b)), rfl, rfl, c11⟩
      · rintro ⟨A9, v⟩ c9
        exact hE _ _ ⟨⟨v, rfl⟩, c9⟩
    refine br_dec (fun _ => ?_) (fun _ => ?_)
    · walk_at "run"
      intro f A8 f0 f1 c8 o8
      walk_at "run"
      refine main _ _ (by omega) (by omega) (by omega) (by omega) (by omega) _ ?_ f A8 f0 f1 c8
      rintro σ A ⟨⟨u, rfl⟩, c⟩
      exact ⟨(A, _, _, _, _, _), rfl, rfl, c⟩
    · walk_at "run"
      intro f A8 f0 f1 c8 o8
      walk_at "run"
      refine main _ _ (by omega) (by omega) (by omega) (by omega) (by omega) _ ?_ f A8 f0 f1 c8
      rintro σ A ⟨⟨u, rfl⟩, c⟩
      exact ⟨(A, _, _, _, _, _), rfl, rfl, c⟩
  · rintro ⟨A2, u2, u3, u4, u5, u6⟩ c2
    walk_at "run"
    exact ret_same (h _)
end Wk

namespace Wk
open PySem PySem.Spec L2 Rk
structure Df (K : PySem.W.Frag) (mg : Str → Option Value) : Prop where
  bt : Bt K mg
  f_fits_whole : Def K mg "fits_whole" s_fits_whole ["value", "low", "high"]
  f_is_tuple_of : Def K mg "is_tuple_of" s_is_tuple_of ["value", "least", "most"]
  f_need_whole : Def K mg "need_whole" s_need_whole ["value", "low", "high"]
  f_digits_in : Def K mg "digits_in" s_digits_in ["number", "base"]
  f_number_in : Def K mg "number_in" s_number_in ["digits", "base"]
  f_fits_digits : Def K mg "fits_digits" s_fits_digits ["base", "value"]
  f_digits : Def K mg "digits" s_digits ["number", "base"]
  f_are_digits : Def K mg "are_digits" s_are_digits ["base", "value"]
  f_number_of : Def K mg "number_of" s_number_of ["base", "value"]
  f_carries_in : Def K mg "carries_in" s_carries_in ["one", "other", "base"]
  f_carries : Def K mg "carries" s_carries ["one", "other", "base"]
  f_turned_sum : Def K mg "turned_sum" s_turned_sum ["base", "number"]
  f_is_mirrored : Def K mg "is_mirrored" s_is_mirrored ["base", "number"]
  f_digit_root : Def K mg "digit_root" s_digit_root ["base", "number"]
  f_lw_cup : Def K mg "_law_cup" s_lw_cup ["script"]
  f_lw_roll : Def K mg "_law_roll" s_lw_roll ["cup", "many"]
  f_lw_some : Def K mg "_law_some" s_lw_some ["cup", "things"]
  f_lw_same : Def K mg "_law_same" s_lw_same ["told", "due"]
  f_lw_great : Def K mg "_law_great" s_lw_great ["cup", "many"]
  f_lw_grouped : Def K mg "_law_grouped" s_lw_grouped ["line", "size", "base"]
  f_lw_number_right : Def K mg "_law_number_right" s_lw_number_right ["cup", "number", "base"]
  f_lw_sums_right : Def K mg "_law_sums_right" s_lw_sums_right ["one", "other", "base"]
  f_lw_roots_right : Def K mg "_law_roots_right" s_lw_roots_right ["number", "base"]
theorem df_mk {K : PySem.W.Frag} {h : Heap} {mg : Str → Option Value} (X : K.In h) (G : h.Ns mainGlobals mg)
    (x_fits_whole : DefIn K "fits_whole" s_fits_whole)
    (x_is_tuple_of : DefIn K "is_tuple_of" s_is_tuple_of)
    (x_need_whole : DefIn K "need_whole" s_need_whole)
    (x_digits_in : DefIn K "digits_in" s_digits_in)
    (x_number_in : DefIn K "number_in" s_number_in)
    (x_fits_digits : DefIn K "fits_digits" s_fits_digits)
    (x_digits : DefIn K "digits" s_digits)
    (x_are_digits : DefIn K "are_digits" s_are_digits)
    (x_number_of : DefIn K "number_of" s_number_of)
    (x_carries_in : DefIn K "carries_in" s_carries_in)
    (x_carries : DefIn K "carries" s_carries)
    (x_turned_sum : DefIn K "turned_sum" s_turned_sum)
    (x_is_mirrored : DefIn K "is_mirrored" s_is_mirrored)
    (x_digit_root : DefIn K "digit_root" s_digit_root)
    (x_lw_cup : DefIn K "_law_cup" s_lw_cup)
    (x_lw_roll : DefIn K "_law_roll" s_lw_roll)
    (x_lw_some : DefIn K "_law_some" s_lw_some)
    (x_lw_same : DefIn K "_law_same" s_lw_same)
    (x_lw_great : DefIn K "_law_great" s_lw_great)
    (x_lw_grouped : DefIn K "_law_grouped" s_lw_grouped)
    (x_lw_number_right : DefIn K "_law_number_right" s_lw_number_right)
    (x_lw_sums_right : DefIn K "_law_sums_right" s_lw_sums_right)
    (x_lw_roots_right : DefIn K "_law_roots_right" s_lw_roots_right)
    (z_abs : PySem.W.nsIn K mainGlobals "abs" = some none)
    (z_all : PySem.W.nsIn K mainGlobals "all" = some none)
    (z_bool : PySem.W.nsIn K mainGlobals "bool" = some none)
    (z_enumerate : PySem.W.nsIn K mainGlobals "enumerate" = some none)
    (z_int : PySem.W.nsIn K mainGlobals "int" = some none)
    (z_isinstance : PySem.W.nsIn K mainGlobals "isinstance" = some none)
    (z_len : PySem.W.nsIn K mainGlobals "len" = some none)
    (z_list : PySem.W.nsIn K mainGlobals "list" = some none)
    (z_range : PySem.W.nsIn K mainGlobals "range" = some none)
    (z_sum : PySem.W.nsIn K mainGlobals "sum" = some none)
    (z_tuple : PySem.W.nsIn K mainGlobals "tuple" = some none)
    (y_DIGITS : GlobD K mg "DIGITS" k_DIGITS)
    (y_FAR_numbers : GlobD K mg "FAR_numbers" k_FAR_numbers)
    (y_BASE_numbers : GlobD K mg "BASE_numbers" k_BASE_numbers)
    (y_FAR_binomials : GlobD K mg "FAR_binomials" k_FAR_binomials)
    (y_PRIMES : GlobD K mg "PRIMES" k_PRIMES)
    (y_BASE_digitmaps : GlobD K mg "BASE_digitmaps" k_BASE_digitmaps)
    : Df K mg := by
  refine ⟨⟨PySem.W.mg_none_of X G z_abs, PySem.W.mg_none_of X G z_all, PySem.W.mg_none_of X G z_bool, PySem.W.mg_none_of X G z_enumerate, PySem.W.mg_none_of X G z_int, PySem.W.mg_none_of X G z_isinstance, PySem.W.mg_none_of X G z_len, PySem.W.mg_none_of X G z_list, PySem.W.mg_none_of X G z_range, PySem.W.mg_none_of X G z_sum, PySem.W.mg_none_of X G z_tuple, y_DIGITS, y_FAR_numbers, y_BASE_numbers, y_FAR_binomials, y_PRIMES, y_BASE_digitmaps⟩, x_fits_whole.def X G fun _ _ _ _ _ _ us hl => match us, hl with | [_, _, _], _ => rfl, x_is_tuple_of.def X G fun _ _ _ _ _ _ us hl => match us, hl with | [_, _, _], _ => rfl, x_need_whole.def X G fun _ _ _ _ _ _ us hl => match us, hl with | [_, _, _], _ => rfl, x_digits_in.def X G fun _ _ _ _ _ _ us hl => match us, hl with | [_, _], _ => rfl, x_number_in.def X G fun _ _ _ _ _ _ us hl => match us, hl with | [_, _], _ => rfl, x_fits_digits.def X G fun _ _ _ _ _ _ us hl => match us, hl with | [_, _], _ => rfl, x_digits.def X G fun _ _ _ _ _ _ us hl => match us, hl with | [_, _], _ => rfl, x_are_digits.def X G fun _ _ _ _ _ _ us hl => match us, hl with | [_, _], _ => rfl, x_number_of.def X G fun _ _ _ _ _ _ us hl => match us, hl with | [_, _], _ => rfl, x_carries_in.def X G fun _ _ _ _ _ _ us hl => match us, hl with | [_, _, _], _ => rfl, x_carries.def X G fun _ _ _ _ _ _ us hl => match us, hl with | [_, _, _], _ => rfl, x_turned_sum.def X G fun _ _ _ _ _ _ us hl => match us, hl with | [_, _], _ => rfl, x_is_mirrored.def X G fun _ _ _ _ _ _ us hl => match us, hl with | [_, _], _ => rfl, x_digit_root.def X G fun _ _ _ _ _ _ us hl => match us, hl with | [_, _], _ => rfl, x_lw_cup.def X G fun _ _ _ _ _ _ us hl => match us, hl with | [_], _ => rfl, x_lw_roll.def X G fun _ _ _ _ _ _ us hl => match us, hl with | [_, _], _ => rfl, x_lw_some.def X G fun _ _ _ _ _ _ us hl => match us, hl with | [_, _], _ => rfl, x_lw_same.def X G fun _ _ _ _ _ _ us hl => match us, hl with | [_, _], _ => rfl, x_lw_great.def X G fun _ _ _ _ _ _ us hl => match us, hl with | [_, _], _ => rfl, x_lw_grouped.def X G fun _ _ _ _ _ _ us hl => match us, hl with | [_, _, _], _ => rfl, x_lw_number_right.def X G fun _ _ _ _ _ _ us hl => match us, hl with | [_, _, _], _ => rfl, x_lw_sums_right.def X G fun _ _ _ _ _ _ us hl => match us, hl with | [_, _, _], _ => rfl, x_lw_roots_right.def X G fun _ _ _ _ _ _ us hl => match us, hl with | [_, _], _ => rfl⟩
section
variable {P : Program} {w : World} {K : PySem.W.Frag} {mg : Str → Option Value} {base : Heap}
theorem ok_fits_whole (T : Df K mg) : AFn P w K mg base 1 "fits_whole" sp_fits_whole := T.f_fits_whole.ok sc_fits_whole m_fits_whole l_fits_whole fun f cdv A outer s H E hr => ⟨_, d_fits_whole T.bt  f cdv A outer s H E hr, r_fits_whole⟩
theorem ok_is_tuple_of (T : Df K mg) : AFn P w K mg base 1 "is_tuple_of" sp_is_tuple_of := T.f_is_tuple_of.ok sc_is_tuple_of m_is_tuple_of l_is_tuple_of fun f cdv A outer s H E hr => ⟨_, d_is_tuple_of T.bt  f cdv A outer s H E hr, r_is_tuple_of⟩
theorem ok_digits_in (T : Df K mg) : AFn P w K mg base 1 "digits_in" sp_digits_in := T.f_digits_in.ok sc_digits_in m_digits_in l_digits_in fun f cdv A outer s H E hr => ⟨_, d_digits_in T.bt  f cdv A outer s H E hr, r_digits_in⟩
theorem ok_number_in (T : Df K mg) : AFn P w K mg base 1 "number_in" sp_number_in := T.f_number_in.ok sc_number_in m_number_in l_number_in fun f cdv A outer s H E hr => ⟨_, d_number_in T.bt  f cdv A outer s H E hr, r_number_in⟩
theorem ok_carries_in (T : Df K mg) : AFn P w K mg base 1 "carries_in" sp_carries_in := T.f_carries_in.ok sc_carries_in m_carries_in l_carries_in fun f cdv A outer s H E hr => ⟨_, d_carries_in T.bt  f cdv A outer s H E hr, r_carries_in⟩
theorem ok_lw_cup (T : Df K mg) : AFn P w K mg base 1 "_law_cup" sp_lw_cup := T.f_lw_cup.ok sc_lw_cup m_lw_cup l_lw_cup fun f cdv A outer s H E hr => ⟨_, d_lw_cup T.bt  f cdv A outer s H E hr, r_lw_cup⟩
theorem ok_lw_roll (T : Df K mg) : AFn P w K mg base 1 "_law_roll" sp_lw_roll := T.f_lw_roll.ok sc_lw_roll m_lw_roll l_lw_roll fun f cdv A outer s H E hr => ⟨_, d_lw_roll T.bt  f cdv A outer s H E hr, r_lw_roll⟩
theorem ok_lw_grouped (T : Df K mg) : AFn P w K mg base 1 "_law_grouped" sp_lw_grouped := T.f_lw_grouped.ok sc_lw_grouped m_lw_grouped l_lw_grouped fun f cdv A outer s H E hr => ⟨_, d_lw_grouped T.bt  f cdv A outer s H E hr, r_lw_grouped⟩
theorem ok_need_whole (T : Df K mg) : AFn P w K mg base 2 "need_whole" sp_need_whole := T.f_need_whole.ok sc_need_whole m_need_whole l_need_whole fun f cdv A outer s H E hr => ⟨_, d_need_whole T.bt (ok_fits_whole T) f cdv A outer s H E hr, r_need_whole⟩
theorem ok_fits_digits (T : Df K mg) : AFn P w K mg base 2 "fits_digits" sp_fits_digits := T.f_fits_digits.ok sc_fits_digits m_fits_digits l_fits_digits fun f cdv A outer s H E hr => ⟨_, d_fits_digits T.bt (ok_is_tuple_of T) (ok_fits_whole T) f cdv A outer s H E hr, r_fits_digits⟩
theorem ok_lw_some (T : Df K mg) : AFn P w K mg base 2 "_law_some" sp_lw_some := T.f_lw_some.ok sc_lw_some m_lw_some l_lw_some fun f cdv A outer s H E hr => ⟨_, d_lw_some T.bt (ok_lw_roll T) f cdv A outer s H E hr, r_lw_some⟩
theorem ok_lw_great (T : Df K mg) : AFn P w K mg base 2 "_law_great" sp_lw_great := T.f_lw_great.ok sc_lw_great m_lw_great l_lw_great fun f cdv A outer s H E hr => ⟨_, d_lw_great T.bt (ok_lw_roll T) f cdv A outer s H E hr, r_lw_great⟩
theorem ok_digits (T : Df K mg) : AFn P w K mg base 3 "digits" sp_digits := T.f_digits.ok sc_digits m_digits l_digits fun f cdv A outer s H E hr => ⟨_, d_digits T.bt (ok_need_whole T) (ok_digits_in T) f cdv A outer s H E hr, r_digits⟩
theorem ok_are_digits (T : Df K mg) : AFn P w K mg base 3 "are_digits" sp_are_digits := T.f_are_digits.ok sc_are_digits m_are_digits l_are_digits fun f cdv A outer s H E hr => ⟨_, d_are_digits T.bt (ok_need_whole T) (ok_fits_digits T) f cdv A outer s H E hr, r_are_digits⟩
theorem ok_number_of (T : Df K mg) : AFn P w K mg base 3 "number_of" sp_number_of := T.f_number_of.ok sc_number_of m_number_of l_number_of fun f cdv A outer s H E hr => ⟨_, d_number_of T.bt (ok_need_whole T) (ok_fits_digits T) (ok_number_in T) f cdv A outer s H E hr, r_number_of⟩
theorem ok_carries (T : Df K mg) : AFn P w K mg base 3 "carries" sp_carries := T.f_carries.ok sc_carries m_carries l_carries fun f cdv A outer s H E hr => ⟨_, d_carries T.bt (ok_need_whole T) (ok_carries_in T) f cdv A outer s H E hr, r_carries⟩
theorem ok_turned_sum (T : Df K mg) : AFn P w K mg base 3 "turned_sum" sp_turned_sum := T.f_turned_sum.ok sc_turned_sum m_turned_sum l_turned_sum fun f cdv A outer s H E hr => ⟨_, d_turned_sum T.bt (ok_need_whole T) (ok_digits_in T) (ok_number_in T) f cdv A outer s H E hr, r_turned_sum⟩
theorem ok_is_mirrored (T : Df K mg) : AFn P w K mg base 3 "is_mirrored" sp_is_mirrored := T.f_is_mirrored.ok sc_is_mirrored m_is_mirrored l_is_mirrored fun f cdv A outer s H E hr => ⟨_, d_is_mirrored T.bt (ok_need_whole T) (ok_digits_in T) f cdv A outer s H E hr, r_is_mirrored⟩
theorem ok_digit_root (T : Df K mg) : AFn P w K mg base 3 "digit_root" sp_digit_root := T.f_digit_root.ok sc_digit_root m_digit_root l_digit_root fun f cdv A outer s H E hr => ⟨_, d_digit_root T.bt (ok_need_whole T) (ok_digits_in T) f cdv A outer s H E hr, r_digit_root⟩
theorem ok_lw_sums_right (T : Df K mg) : AFn P w K mg base 4 "_law_sums_right" sp_lw_sums_right := T.f_lw_sums_right.ok sc_lw_sums_right m_lw_sums_right l_lw_sums_right fun f cdv A outer s H E hr => ⟨_, d_lw_sums_right T.bt (ok_carries T) (ok_digits T) f cdv A outer s H E hr, r_lw_sums_right⟩
theorem ok_lw_same (T : Df K mg) : AFn P w K mg base 13 "_law_same" sp_lw_same := (same_fn T.f_lw_same rfl sc_lw_same (fun k sp g f cdv A outer s H E hr => d_lw_same (Nat.zero_le k) T.bt g f cdv A outer s H E hr) 7).le (by decide)
theorem ok_lw_number_right (T : Df K mg) : AFn P w K mg base 14 "_law_number_right" sp_lw_number_right := T.f_lw_number_right.ok sc_lw_number_right m_lw_number_right l_lw_number_right fun f cdv A outer s H E hr => ⟨_, d_lw_number_right T.bt (ok_digits T) (ok_lw_roll T) (ok_lw_same T) (ok_are_digits T) (ok_number_of T) (ok_lw_grouped T) (ok_is_mirrored T) (ok_turned_sum T) f cdv A outer s H E hr, r_lw_number_right⟩
theorem ok_lw_roots_right (T : Df K mg) : AFn P w K mg base 14 "_law_roots_right" sp_lw_roots_right := T.f_lw_roots_right.ok sc_lw_roots_right m_lw_roots_right l_lw_roots_right fun f cdv A outer s H E hr => ⟨_, d_lw_roots_right T.bt (ok_digit_root T) (ok_digits T) (ok_lw_same T) f cdv A outer s H E hr, r_lw_roots_right⟩
theorem law_all {f : Addr} {fd : FuncData} (T : Df K mg) (F : Fun K "law" "law" s_law f fd) : FnOk P w K mg base CX0 15 f fd ["script"] (fun vs H Q _ => liftL K spLaw vs H Q) := law_fn F sc_law fun f cdv A outer s H E hr => ⟨_, d_law T.bt (ok_lw_cup T) (ok_lw_same T) (ok_digits T) (ok_carries T) (ok_digit_root T) (ok_lw_great T) (ok_lw_some T) (ok_lw_roll T) (ok_lw_number_right T) (ok_lw_sums_right T) (ok_lw_roots_right T) f cdv A outer s H E hr, r_law⟩
end
end Wk
open PySem PySem.W PyProof.Rows
set_option maxRecDepth 100000 in
set_option maxHeartbeats 0 in
theorem PySem.Challenge.cw_reckonloft_k02_whole_digits_by_groups_an_holds : PySem.Challenge.rw_reckonloft_k02_whole_digits_by_groups_an.Holds := by
  w_on; o_law; k_head; (case hw => w_witness2)
  k_fill
  refine Rk.law_walk (l := PySem.Challenge.rw_reckonloft_k02_whole_digits_by_groups_an) (st := Wk.s_law) (k := 15) rfl rfl ⟨rfl, by decide, by decide⟩ rfl (fun w h Y => PySem.W.kIn_of Y) (fun _ _ _ _ _ _ _ => rfl) ?D ?F
  case D =>
    intro w
    refine' Rk.defIn ?a ?l ?c ?k; (case a => k_is); (case l => k_is); (case c => k_is); (case k => k_is)
  case F =>
    intro w mg h base KX G f fd F
    refine Wk.law_all ?T F
    refine Wk.df_mk KX G ?x0 ?x1 ?x2 ?x3 ?x4 ?x5 ?x6 ?x7 ?x8 ?x9 ?x10 ?x11 ?x12 ?x13 ?x14 ?x15 ?x16 ?x17 ?x18 ?x19 ?x20 ?x21 ?x22 ?z0 ?z1 ?z2 ?z3 ?z4 ?z5 ?z6 ?z7 ?z8 ?z9 ?z10 ?y0 ?y1 ?y2 ?y3 ?y4 ?y5
    case x0 => (refine' Rk.defIn ?a ?l ?c ?k; (case a => k_is); (case l => k_is); (case c => k_is); (case k => k_is))
    case x1 => (refine' Rk.defIn ?a ?l ?c ?k; (case a => k_is); (case l => k_is); (case c => k_is); (case k => k_is))
    case x2 => (refine' Rk.defIn ?a ?l ?c ?k; (case a => k_is); (case l => k_is); (case c => k_is); (case k => k_is))
    case x3 => (refine' Rk.defIn ?a ?l ?c ?k; (case a => k_is); (case l => k_is); (case c => k_is); (case k => k_is))
    case x4 => (refine' Rk.defIn ?a ?l ?c ?k; (case a => k_is); (case l => k_is); (case c => k_is); (case k => k_is))
    case x5 => (refine' Rk.defIn ?a ?l ?c ?k; (case a => k_is); (case l => k_is); (case c => k_is); (case k => k_is))
    case x6 => (refine' Rk.defIn ?a ?l ?c ?k; (case a => k_is); (case l => k_is); (case c => k_is); (case k => k_is))
    case x7 => (refine' Rk.defIn ?a ?l ?c ?k; (case a => k_is); (case l => k_is); (case c => k_is); (case k => k_is))
    case x8 => (refine' Rk.defIn ?a ?l ?c ?k; (case a => k_is); (case l => k_is); (case c => k_is); (case k => k_is))
    case x9 => (refine' Rk.defIn ?a ?l ?c ?k; (case a => k_is); (case l => k_is); (case c => k_is); (case k => k_is))
    case x10 => (refine' Rk.defIn ?a ?l ?c ?k; (case a => k_is); (case l => k_is); (case c => k_is); (case k => k_is))
    case x11 => (refine' Rk.defIn ?a ?l ?c ?k; (case a => k_is); (case l => k_is); (case c => k_is); (case k => k_is))
    case x12 => (refine' Rk.defIn ?a ?l ?c ?k; (case a => k_is); (case l => k_is); (case c => k_is); (case k => k_is))
    case x13 => (refine' Rk.defIn ?a ?l ?c ?k; (case a => k_is); (case l => k_is); (case c => k_is); (case k => k_is))
    case x14 => (refine' Rk.defIn ?a ?l ?c ?k; (case a => k_is); (case l => k_is); (case c => k_is); (case k => k_is))
    case x15 => (refine' Rk.defIn ?a ?l ?c ?k; (case a => k_is); (case l => k_is); (case c => k_is); (case k => k_is))
    case x16 => (refine' Rk.defIn ?a ?l ?c ?k; (case a => k_is); (case l => k_is); (case c => k_is); (case k => k_is))
    case x17 => (refine' Rk.defIn ?a ?l ?c ?k; (case a => k_is); (case l => k_is); (case c => k_is); (case k => k_is))
    case x18 => (refine' Rk.defIn ?a ?l ?c ?k; (case a => k_is); (case l => k_is); (case c => k_is); (case k => k_is))
    case x19 => (refine' Rk.defIn ?a ?l ?c ?k; (case a => k_is); (case l => k_is); (case c => k_is); (case k => k_is))
    case x20 => (refine' Rk.defIn ?a ?l ?c ?k; (case a => k_is); (case l => k_is); (case c => k_is); (case k => k_is))
    case x21 => (refine' Rk.defIn ?a ?l ?c ?k; (case a => k_is); (case l => k_is); (case c => k_is); (case k => k_is))
    case x22 => (refine' Rk.defIn ?a ?l ?c ?k; (case a => k_is); (case l => k_is); (case c => k_is); (case k => k_is))
    case z0 => k_is
    case z1 => k_is
    case z2 => k_is
    case z3 => k_is
    case z4 => k_is
    case z5 => k_is
    case z6 => k_is
    case z7 => k_is
    case z8 => k_is
    case z9 => k_is
    case z10 => k_is
    case y0 => (refine' Rk.globD_int KX G ?a; (case a => k_is))
    case y1 => (refine' Rk.globD_int KX G ?a; (case a => k_is))
    case y2 => (refine' Rk.globD_int KX G ?a; (case a => k_is))
    case y3 => (refine' Rk.globD_int KX G ?a; (case a => k_is))
    case y4 => (refine' Rk.globD_int KX G ?a; (case a => k_is))
    case y5 => (refine' Rk.globD_int KX G ?a; (case a => k_is))
