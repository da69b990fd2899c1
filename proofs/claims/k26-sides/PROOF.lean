import PyProof.Rows.All
import Wide.All
import OpenK.AllK
import Wide.FinOn
import HandS.ForMost
import HandS.ForExc
import HandS.Walk
import HandS.Flow
import HandS.CallSlots
import HandS.Style
import HandS.TryOnly
import HandS.Wide
import HandS.TupAny
import HandS.IsInst
import HandS.Deep
import HandS.More
import HandS.Zip
import HandS.Dict
import HandS.Small
import HandS.Iter
import HandS.List
import HandS.SortInts
import HandS.Text
import HandS.Conv
import PySem.Challenge.RW_newsways_k26_neighbours_and_sides
set_option Elab.async false
set_option linter.all false
set_option maxRecDepth 100000
set_option maxHeartbeats 4000000
/-! N2: a second layer over the hand layer: values as plain data (a tuple is its content), a partial store for what may change. -/
namespace N2
open PySem PySem.Spec PyProof.Rows L2

/-! ### data -/
inductive D where
  | non | bl (b : Bool) | int (i : Int) | str (x : Str) | ty (n : String) | ref (a : Addr) | tup (xs : List D) | scr (xs : List D)
inductive MO where
  | lst (xs : List D)
  | dK (kvs : List (Key × D))
  | fz (o : Obj) (kvs : List (Key × D))
  | ins (C dx : Addr) (fs : List (Str × D))
  | iset (S : Int → Bool) (n : Nat)
abbrev MP := Addr → Option MO
def updM (M : MP) (a : Addr) (o : MO) : MP := fun b => if b = a then some o else M b
theorem updM_same {M : MP} {a : Addr} {o : MO} : updM M a o a = some o := by unfold updM; rw [if_pos rfl]
theorem updM_ne {M : MP} {a b : Addr} {o : MO} (h : b ≠ a) : updM M a o b = M b := by unfold updM; rw [if_neg h]
theorem updM_updM {M : MP} {a : Addr} {o u : MO} : updM (updM M a o) a u = updM M a u := by
  funext b; unfold updM; split <;> rfl

/-- a list that nobody writes (the script) -/
def SqI (K : PySem.W.Frag) (H : Hp) (a : Addr) (xs : List V) : Prop := (∃ o, H a = some (.frz o (.lst xs))) ∨
    ∃ (o : Obj) (its : Array Value) (n : Nat), K.lookup a = some o ∧ o.cls = .type "list" ∧ o.dict = none ∧ o.data = .seq its n ∧ its.size ≤ sizeLine ∧ Vals xs its.toList
theorem SqI.l {K : PySem.W.Frag} {H : Hp} {a : Addr} {xs : List V} (h : SqI K H a xs) : SqL K H a xs := by
  rcases h with ⟨o, h⟩ | h
  · exact .inl (.inr ⟨o, h⟩)
  · exact .inr h
def Tk (K : PySem.W.Frag) (H H' : Hp) : Prop := (∀ a xs, SqT K H a xs → SqT K H' a xs) ∧ ∀ a xs, SqI K H a xs → SqI K H' a xs
def NI (H : Hp) (p : Addr) : Prop := (∀ ys, ¬ Rd H p (.tup ys)) ∧ ∀ o ys, H p ≠ some (.frz o (.lst ys))
mutual
def Rep (K : PySem.W.Frag) (H : Hp) : D → V → Prop
  | .non, v => v = .non
  | .bl b, v => v = .bl b
  | .int i, v => v = .int i
  | .str x, v => v = .str x
  | .ty n, v => v = .ty n
  | .ref a, v => v = .ref a
  | .tup ds, v => ∃ a vs, v = .ref a ∧ SqT K H a vs ∧ Reps K H ds vs
  | .scr ds, v => ∃ a vs, v = .ref a ∧ SqI K H a vs ∧ Reps K H ds vs
def Reps (K : PySem.W.Frag) (H : Hp) : List D → List V → Prop
  | [], vs => vs = []
  | d :: ds, vs => ∃ v r, vs = v :: r ∧ Rep K H d v ∧ Reps K H ds r
end
def KVs {κ : Type} (K : PySem.W.Frag) (H : Hp) : List (κ × D) → List (κ × V) → Prop
  | [], vs => vs = []
  | p :: ds, vs => ∃ v r, vs = (p.1, v) :: r ∧ Rep K H p.2 v ∧ KVs K H ds r
def RepO (K : PySem.W.Frag) (H : Hp) (a : Addr) : MO → Prop
  | .lst ds => ∃ vs, H a = some (.lst vs) ∧ Reps K H ds vs
  | .dK kvs => ∃ vs, H a = some (.dK vs) ∧ KVs K H kvs vs
  | .fz o kvs => ∃ vs, H a = some (.frz o (.dK vs)) ∧ KVs K H kvs vs
  | .ins C dx fs => ∃ vs, H a = some (.ins C dx vs) ∧ KVs K H fs vs
  | .iset S n => H a = some (.set S n)
def RelM (K : PySem.W.Frag) (M : MP) (H : Hp) : Prop := ∀ a o, M a = some o → RepO K H a o
abbrev St2 := List (Option D)
def RelS (K : PySem.W.Frag) (H : Hp) (ρ : St2) (σ : L2.St) : Prop := σ.length = ρ.length ∧ ∀ (i : Nat) (d : D), ρ[i]? = some (some d) → ∃ v, σ[i]? = some (some v) ∧ Rep K H d v

/-- what a step of code may do -/
structure Stp (K : PySem.W.Frag) (H : Hp) (M : MP) (H' : Hp) (M' : MP) : Prop where
  frm : ∀ a o, H a = some o → M a = none → H' a = some o
  dom : ∀ a, H a ≠ none → H' a ≠ none
  new : ∀ a, M' a ≠ none → M a ≠ none ∨ H a = none
  tk : Tk K H H'

section
variable {K : PySem.W.Frag} {H H' H1 H2 : Hp} {M M' M1 M2 : MP}
mutual
theorem Rep.mono (h : Tk K H H') : ∀ (d : D) (v : V), Rep K H d v → Rep K H' d v
  | .non, _, r => by simpa only [Rep] using r
  | .bl _, _, r => by simpa only [Rep] using r
  | .int _, _, r => by simpa only [Rep] using r
  | .str _, _, r => by simpa only [Rep] using r
  | .ty _, _, r => by simpa only [Rep] using r
  | .ref _, _, r => by simpa only [Rep] using r
  | .tup ds, v, r => by
    simp only [Rep] at r ⊢
    obtain ⟨a, vs, e, t, q⟩ := r
    exact ⟨a, vs, e, h.1 a vs t, Reps.mono h ds vs q⟩
  | .scr ds, v, r => by
    simp only [Rep] at r ⊢
    obtain ⟨a, vs, e, t, q⟩ := r
    exact ⟨a, vs, e, h.2 a vs t, Reps.mono h ds vs q⟩
theorem Reps.mono (h : Tk K H H') : ∀ (ds : List D) (vs : List V), Reps K H ds vs → Reps K H' ds vs
  | [], _, r => by simpa only [Reps] using r
  | d :: ds, vs, r => by
    simp only [Reps] at r ⊢
    obtain ⟨v, q, e, r1, r2⟩ := r
    exact ⟨v, q, e, Rep.mono h d v r1, Reps.mono h ds q r2⟩
end
theorem KVs.mono {κ : Type} (h : Tk K H H') : ∀ (ds : List (κ × D)) (vs : List (κ × V)), KVs K H ds vs → KVs K H' ds vs
  | [], _, r => by simpa only [KVs] using r
  | d :: ds, vs, r => by
    simp only [KVs] at r ⊢
    obtain ⟨v, q, e, r1, r2⟩ := r
    exact ⟨v, q, e, Rep.mono h _ v r1, KVs.mono h ds q r2⟩
theorem Tk.refl : Tk K H H := ⟨fun _ _ h => h, fun _ _ h => h⟩
theorem Tk.trans (a : Tk K H H1) (b : Tk K H1 H2) : Tk K H H2 := ⟨fun x xs h => b.1 x xs (a.1 x xs h), fun x xs h => b.2 x xs (a.2 x xs h)⟩
theorem Stp.refl : Stp K H M H M := ⟨fun _ _ h _ => h, fun _ h => h, fun _ h => .inl h, .refl⟩
theorem Stp.trans (a : Stp K H M H1 M1) (b : Stp K H1 M1 H2 M2) : Stp K H M H2 M2 := by
  have n1 : ∀ x o, H x = some o → M x = none → M1 x = none := fun x o e m => by
    cases q : M1 x with
    | none => rfl
    | some u =>
      rcases a.new x (by rw [q]; exact fun z => by cases z) with z | z
      · exact absurd m z
      · rw [e] at z; cases z
  refine ⟨fun x o e m => b.frm x o (a.frm x o e m) (n1 x o e m), fun x h => b.dom x (a.dom x h), fun x h => ?_, a.tk.trans b.tk⟩
  rcases b.new x h with z | z
  · exact a.new x z
  · refine .inr ?_
    cases q : H x with
    | none => rfl
    | some o => exact absurd z (a.dom x (by rw [q]; exact fun z => by cases z))
theorem Stp.rep (s : Stp K H M H1 M1) {d : D} {v : V} (r : Rep K H d v) : Rep K H1 d v := Rep.mono s.tk d v r
theorem Stp.reps (s : Stp K H M H1 M1) {d : List D} {v : List V} (r : Reps K H d v) : Reps K H1 d v := Reps.mono s.tk d v r
theorem Stp.kvs {κ : Type} (s : Stp K H M H1 M1) {d : List (κ × D)} {v : List (κ × V)} (r : KVs K H d v) : KVs K H1 d v := KVs.mono s.tk d v r
theorem Stp.rels (s : Stp K H M H1 M1) {ρ : St2} {σ : L2.St} (r : RelS K H ρ σ) : RelS K H1 ρ σ := ⟨r.1, fun i d e => by
  obtain ⟨v, e1, r1⟩ := r.2 i d e
  exact ⟨v, e1, s.rep r1⟩⟩
/-- forgetting -/
theorem Stp.drop (s : Stp K H M H1 M1) (h : ∀ a o, M2 a = some o → M1 a = some o) : Stp K H M H1 M2 := ⟨s.frm, s.dom, fun a q => s.new a (by
  cases e : M2 a with
  | none => exact absurd e q
  | some o => rw [h a o e]; exact fun z => by cases z), s.tk⟩
theorem RelM.drop (r : RelM K M H) (h : ∀ a o, M2 a = some o → M a = some o) : RelM K M2 H := fun a o e => r a o (h a o e)
theorem RelM.free (r : RelM K M H) {p : Addr} (h : H p = none) : M p = none := by
  cases e : M p with
  | none => rfl
  | some o =>
    have q := r p o e
    cases o with
    | lst ds => obtain ⟨vs, z, _⟩ := q; rw [h] at z; cases z
    | dK kvs => obtain ⟨vs, z, _⟩ := q; rw [h] at z; cases z
    | fz o kvs => obtain ⟨vs, z, _⟩ := q; rw [h] at z; cases z
    | ins C dx fs => obtain ⟨vs, z, _⟩ := q; rw [h] at z; cases z
    | iset S n => have z : H p = some (.set S n) := q; rw [h] at z; cases z
/-- what stands at an address of the store is no tuple -/
theorem RelM.notTup (r : RelM K M H) {p : Addr} {o : MO} (h : M p = some o) : NI H p := by
  have q := r p o h
  refine ⟨fun xs => ?_, fun ob ys z => ?_⟩
  · rintro (z | ⟨ob, z⟩)
    all_goals
      cases o with
      | lst ds => obtain ⟨vs, y, _⟩ := q; rw [z] at y; cases y
      | dK kvs => obtain ⟨vs, y, _⟩ := q; rw [z] at y; cases y
      | fz o kvs => obtain ⟨vs, y, _⟩ := q; rw [z] at y; cases y
      | ins C dx fs => obtain ⟨vs, y, _⟩ := q; rw [z] at y; cases y
      | iset S n => have y : H p = some (.set S n) := q; rw [z] at y; cases y
  · cases o with
    | lst ds => obtain ⟨vs, y, _⟩ := q; rw [z] at y; cases y
    | dK kvs => obtain ⟨vs, y, _⟩ := q; rw [z] at y; cases y
    | fz o kvs => obtain ⟨vs, y, _⟩ := q; rw [z] at y; cases y
    | ins C dx fs => obtain ⟨vs, y, _⟩ := q; rw [z] at y; cases y
    | iset S n => have y : H p = some (.set S n) := q; rw [z] at y; cases y
theorem sqT_upd {p : Addr} {o : HO} (hp : NI H p) : Tk K H (upd H p o) := by
  refine ⟨fun a xs h => ?_, fun a xs h => ?_⟩
  · rcases h with (h | ⟨ob, h⟩) | h
    · exact .inl (.inl (by rw [upd_ne (show a ≠ p from fun z => hp.1 xs (.inl (by rw [← z]; exact h)))]; exact h))
    · exact .inl (.inr ⟨ob, by rw [upd_ne (show a ≠ p from fun z => hp.1 xs (.inr ⟨ob, by rw [← z]; exact h⟩))]; exact h⟩)
    · exact .inr h
  · rcases h with ⟨ob, h⟩ | h
    · exact .inl ⟨ob, by rw [upd_ne (show a ≠ p from fun z => hp.2 ob xs (by rw [← z]; exact h))]; exact h⟩
    · exact .inr h
theorem RepO.mono {a : Addr} {o : MO} (h : Tk K H H') (e : H' a = H a) (r : RepO K H a o) : RepO K H' a o := by
  cases o with
  | lst ds => obtain ⟨vs, z, q⟩ := r; exact ⟨vs, e.trans z, Reps.mono h _ _ q⟩
  | dK kvs => obtain ⟨vs, z, q⟩ := r; exact ⟨vs, e.trans z, KVs.mono h _ _ q⟩
  | fz ob kvs => obtain ⟨vs, z, q⟩ := r; exact ⟨vs, e.trans z, KVs.mono h _ _ q⟩
  | ins C dx fs => obtain ⟨vs, z, q⟩ := r; exact ⟨vs, e.trans z, KVs.mono h _ _ q⟩
  | iset S n => exact e.trans r
/-- an object is written at p, where no tuple stood -/
theorem RelM.put (r : RelM K M H) {p : Addr} {o : HO} {mo : MO} (hp : NI H p) (ro : RepO K (upd H p o) p mo) : RelM K (updM M p mo) (upd H p o) := fun a u e => by
  by_cases q : a = p
  · subst q; rw [updM_same] at e; cases e; exact ro
  · rw [updM_ne q] at e
    exact RepO.mono (sqT_upd hp) (upd_ne q) (r a u e)
theorem Stp.put (r : RelM K M H) {p : Addr} {o : HO} {mo : MO} (hp : NI H p) (hm : M p ≠ none ∨ H p = none) : Stp K H M (upd H p o) (updM M p mo) := by
  refine ⟨fun a u e m => ?_, fun a e => ?_, fun a e => ?_, sqT_upd hp⟩
  · have ne : a ≠ p := fun z => by
      subst z
      rcases hm with z | z
      · exact z m
      · rw [e] at z; cases z
    rw [upd_ne ne]; exact e
  · by_cases q : a = p
    · subst q; rw [upd_same]; exact fun z => by cases z
    · rw [upd_ne q]; exact e
  · by_cases q : a = p
    · subst q; exact hm
    · rw [updM_ne q] at e; exact .inl e
theorem notRd_of_none {p : Addr} (h : H p = none) : NI H p := by
  refine ⟨fun ys => ?_, fun o ys z => ?_⟩
  · rintro (z | ⟨o, z⟩) <;> (rw [h] at z; cases z)
  · rw [h] at z; cases z
/-- a new tuple: the store is as it was -/
theorem Stp.tupNew {p : Addr} {vs : List V} (h : H p = none) : Stp K H M (upd H p (.tup vs)) M :=
  ⟨fun a u e _ => by rw [upd_ne (ne_of_none e h)]; exact e, fun a e => by
    by_cases q : a = p
    · subst q; rw [upd_same]; exact fun z => by cases z
    · rw [upd_ne q]; exact e, fun a e => .inl e, sqT_upd (notRd_of_none h)⟩
theorem RelM.tupNew (r : RelM K M H) {p : Addr} {vs : List V} (h : H p = none) : RelM K M (upd H p (.tup vs)) := fun a u e => by
  have ne : a ≠ p := fun z => by
    subst z
    rw [r.free h] at e; cases e
  exact RepO.mono (sqT_upd (notRd_of_none h)) (upd_ne ne) (r a u e)
end
end N2


namespace N2
open PySem PySem.Spec PyProof.Rows L2

/-! ### readings over data -/
abbrev VK2 := D → MP → Prop
abbrev XK2 := Value → St2 → MP → Prop
abbrev TE2 := XK2 → St2 → MP → VK2 → Prop
abbrev TT2 := XK2 → St2 → MP → (Bool → MP → Prop) → Prop
abbrev TA2 := XK2 → St2 → MP → (List D → MP → Prop) → Prop
structure Ends2 where
  nx : St2 → MP → Prop
  rt : VK2
  bk : St2 → MP → Prop
  ct : St2 → MP → Prop
  ex : XK2
abbrev TS2 := Ends2 → St2 → MP → Prop

/-- what is wished of an exception, from here on -/
def XRel (K : PySem.W.Frag) (W : WX) (H : Hp) (M : MP) (E : XK2) : Prop := ∀ c ρ σ H' M', Stp K H M H' M' → RelS K H' ρ σ → RelM K M' H' → E c ρ M' → W c none σ H'
theorem XRel.step {K : PySem.W.Frag} {W : WX} {H H1 : Hp} {M M1 : MP} {E : XK2} (x : XRel K W H M E) (s : Stp K H M H1 M1) : XRel K W H1 M1 E := fun c ρ σ H' M' s' => x c ρ σ H' M' (s.trans s')
def VRel (K : PySem.W.Frag) (H : Hp) (M : MP) (Q2 : VK2) (Q : VK) : Prop := ∀ v H' d M', Stp K H M H' M' → Rep K H' d v → RelM K M' H' → Q2 d M' → Q v H'
theorem VRel.step {K : PySem.W.Frag} {H H1 : Hp} {M M1 : MP} {Q2 : VK2} {Q : VK} (x : VRel K H M Q2 Q) (s : Stp K H M H1 M1) : VRel K H1 M1 Q2 Q := fun v H' d M' s' => x v H' d M' (s.trans s')
def BRel (K : PySem.W.Frag) (H : Hp) (M : MP) (Q2 : Bool → MP → Prop) (Q : Bool → Hp → Prop) : Prop := ∀ b H' M', Stp K H M H' M' → RelM K M' H' → Q2 b M' → Q b H'
def ARel (K : PySem.W.Frag) (H : Hp) (M : MP) (Q2 : List D → MP → Prop) (Q : List V → Hp → Prop) : Prop := ∀ vs H' ds M', Stp K H M H' M' → Reps K H' ds vs → RelM K M' H' → Q2 ds M' → Q vs H'
def SRel (K : PySem.W.Frag) (H : Hp) (M : MP) (Q2 : St2 → MP → Prop) (Q : L2.St → Hp → Prop) : Prop := ∀ ρ σ H' M', Stp K H M H' M' → RelS K H' ρ σ → RelM K M' H' → Q2 ρ M' → Q σ H'
theorem BRel.step {K : PySem.W.Frag} {H H1 : Hp} {M M1 : MP} {Q2 : Bool → MP → Prop} {Q : Bool → Hp → Prop} (x : BRel K H M Q2 Q) (s : Stp K H M H1 M1) : BRel K H1 M1 Q2 Q := fun v H' M' s' => x v H' M' (s.trans s')
theorem ARel.step {K : PySem.W.Frag} {H H1 : Hp} {M M1 : MP} {Q2 : List D → MP → Prop} {Q : List V → Hp → Prop} (x : ARel K H M Q2 Q) (s : Stp K H M H1 M1) : ARel K H1 M1 Q2 Q := fun v H' d M' s' => x v H' d M' (s.trans s')
theorem SRel.step {K : PySem.W.Frag} {H H1 : Hp} {M M1 : MP} {Q2 : St2 → MP → Prop} {Q : L2.St → Hp → Prop} (x : SRel K H M Q2 Q) (s : Stp K H M H1 M1) : SRel K H1 M1 Q2 Q := fun v H' d M' s' => x v H' d M' (s.trans s')

structure EndsRel (K : PySem.W.Frag) (W : WX) (H : Hp) (M : MP) (D2 : Ends2) (D : Ends) : Prop where
  nx : SRel K H M D2.nx D.nx
  rt : VRel K H M D2.rt D.rt
  bk : SRel K H M D2.bk D.bk
  ct : SRel K H M D2.ct D.ct
  ex : XRel K W H M D2.ex
theorem EndsRel.step {K : PySem.W.Frag} {W : WX} {H H1 : Hp} {M M1 : MP} {D2 : Ends2} {D : Ends} (x : EndsRel K W H M D2 D) (s : Stp K H M H1 M1) : EndsRel K W H1 M1 D2 D :=
  ⟨x.nx.step s, x.rt.step s, x.bk.step s, x.ct.step s, x.ex.step s⟩

def liftE (K : PySem.W.Frag) (W : WX) (t : TE2) : TE := fun σ H Q => ∃ ρ M Q2 E2, RelS K H ρ σ ∧ RelM K M H ∧ t E2 ρ M Q2 ∧ VRel K H M Q2 Q ∧ XRel K W H M E2
def liftT (K : PySem.W.Frag) (W : WX) (t : TT2) : TT := fun σ H Q => ∃ ρ M Q2 E2, RelS K H ρ σ ∧ RelM K M H ∧ t E2 ρ M Q2 ∧ BRel K H M Q2 Q ∧ XRel K W H M E2
def liftA (K : PySem.W.Frag) (W : WX) (t : TA2) : TA := fun σ H Q => ∃ ρ M Q2 E2, RelS K H ρ σ ∧ RelM K M H ∧ t E2 ρ M Q2 ∧ ARel K H M Q2 Q ∧ XRel K W H M E2
def liftS (K : PySem.W.Frag) (W : WX) (t : TS2) : TS := fun D σ H => ∃ ρ M D2, RelS K H ρ σ ∧ RelM K M H ∧ t D2 ρ M ∧ EndsRel K W H M D2 D

section
variable {X : Cx} {W : WX}
abbrev PE2 (X : Cx) (W : WX) (e : Expr) (t : TE2) : Prop := PE X e (liftE X.K W t)
abbrev PT2 (X : Cx) (W : WX) (e : Expr) (t : TT2) : Prop := PT X e (liftT X.K W t)
abbrev PW2 (X : Cx) (W : WX) (e : Expr) (t : TT2) : Prop := PW X e (liftT X.K W t)
abbrev PA2 (X : Cx) (W : WX) (es : List Expr) (t : TA2) : Prop := PA X es (liftA X.K W t)
abbrev PS2 (X : Cx) (W : WX) (st : Stmt) (t : TS2) : Prop := PS X st (liftS X.K W t)
abbrev PSs2 (X : Cx) (W : WX) (st : List Stmt) (t : TS2) : Prop := PSs X st (liftS X.K W t)
theorem pe_imp {e : Expr} {t t' : TE} (h : PE X e t) (hi : ∀ σ H Q, t' σ H Q → t σ H Q) : PE X e t' := ⟨fun pins s σ H Q I hw => h.run pins s σ H Q I (hi σ H Q hw)⟩
theorem pt_imp {e : Expr} {t t' : TT} (h : PT X e t) (hi : ∀ σ H Q, t' σ H Q → t σ H Q) : PT X e t' := ⟨fun pins s σ H Q I hw => h.run pins s σ H Q I (hi σ H Q hw)⟩
theorem pw_imp {e : Expr} {t t' : TT} (h : PW X e t) (hi : ∀ σ H Q, t' σ H Q → t σ H Q) : PW X e t' := ⟨fun wh pins s σ H Q I hw => h.run wh pins s σ H Q I (hi σ H Q hw)⟩
theorem pa_imp {e : List Expr} {t t' : TA} (h : PA X e t) (hi : ∀ σ H Q, t' σ H Q → t σ H Q) : PA X e t' := ⟨fun po pins s σ H Q I hw => h.run po pins s σ H Q I (hi σ H Q hw)⟩
theorem ps_imp {e : Stmt} {t t' : TS} (h : PS X e t) (hi : ∀ D σ H, t' D σ H → t D σ H) : PS X e t' := ⟨fun pins s σ H D I hw => h.run pins s σ H D I (hi D σ H hw)⟩
theorem pss_imp {e : List Stmt} {t t' : TS} (h : PSs X e t) (hi : ∀ D σ H, t' D σ H → t D σ H) : PSs X e t' := ⟨fun pins s σ H D I hw => h.run pins s σ H D I (hi D σ H hw)⟩

/-! ### names, constants -/
def v2 (i : Nat) : TE2 := fun _ ρ M Q => ∃ d, ρ[i]? = some (some d) ∧ Q d M
def c2 (d : D) : TE2 := fun _ _ M Q => Q d M
theorem pv2 (i : Nat) {x : Str} {pos : Pos} (hN : X.N[i]? = some x := by rfl) (hv : Vis X.env.scope x := by first | exact Or.inl rfl | exact Or.inr (Or.inl rfl) | exact Or.inr (Or.inr rfl)) (hd : (x == ("__debug__" : Str)) = false := by decide)
    (hcd : (x == ("__classdict__" : Str)) = false := by decide) : PE2 X W (.Name x pos) (v2 i) := pe_imp (pv i hN hv hd hcd) fun σ H Q ⟨ρ, M, Q2, E2, rs, rm, ⟨d, e, q⟩, vr, _⟩ => by
  obtain ⟨v, e1, r⟩ := rs.2 i d e
  exact ⟨v, e1, vr v H d M .refl r rm q⟩
/-- a constant by its data -/
theorem pc2 {e : Expr} {v : V} {d : D} (h : PE X e (tC v)) (hr : ∀ H, Rep X.K H d v) : PE2 X W e (c2 d) := pe_imp h fun σ H Q ⟨ρ, M, Q2, E2, rs, rm, q, vr, _⟩ => vr v H d M .refl (hr H) rm q
theorem pint2 {i j pos} : PE2 X W (.Constant (.int i) j pos) (c2 (.int i)) := pc2 pe_int fun _ => rfl
theorem pbl2 {b j pos} : PE2 X W (.Constant (.bool b) j pos) (c2 (.bl b)) := pc2 pe_bl fun _ => rfl
theorem pnon2 {j pos} : PE2 X W (.Constant .none j pos) (c2 .non) := pc2 pe_non fun _ => rfl
theorem pstr2 {x j pos} : PE2 X W (.Constant (.str x) j pos) (c2 (.str x)) := pc2 pe_str fun _ => rfl
/-- a module's constant: a number, a text; a class -/
theorem pglob2 {x : Str} {v : V} {d : D} {u : Value} {pos : Pos} (hg : Gl X x) (hm : X.mg x = some u) (r : RelV v u) (hr : ∀ H, Rep X.K H d v) (hd : (x == ("__debug__" : Str)) = false := by decide) : PE2 X W (.Name x pos) (c2 d) := pc2 (pe_glob hg hm r hd) hr
theorem pty2 {x : Str} {n : String} {pos : Pos} (hg : Gl X x) (hm : X.mg x = none) (hv : bootBuiltins x = some (.type n)) (hn : x ≠ "__name__" := by decide) (hd : (x == ("__debug__" : Str)) = false := by decide) : PE2 X W (.Name x pos) (c2 (.ty n)) := pc2 (pe_bltn (v := V.ty n) (u := Value.type n) hg hm hv rfl hn hd) fun _ => rfl

/-! ### operators by values -/
abbrev R22 := D → D → MP → VK2 → Prop
def op2 (r : R22) (ta tb : TE2) : TE2 := fun E ρ M Q => ta E ρ M fun x M1 => tb E ρ M1 fun y M2 => r x y M2 Q
def un2 (r : D → MP → VK2 → Prop) (ta : TE2) : TE2 := fun E ρ M Q => ta E ρ M fun x M1 => r x M1 Q
def OpRel (K : PySem.W.Frag) (r : R2) (r2 : R22) : Prop := ∀ x y d e H M Q Q2, Rep K H d x → Rep K H e y → RelM K M H → r2 d e M Q2 → VRel K H M Q2 Q → r x y H Q
def UnRel (K : PySem.W.Frag) (r : V → Hp → VK → Prop) (r2 : D → MP → VK2 → Prop) : Prop := ∀ x d H M Q Q2, Rep K H d x → RelM K M H → r2 d M Q2 → VRel K H M Q2 Q → r x H Q
variable {a b e : Expr} {ta tb te : TE2} {pos : Pos}
/-- two in a row -/
theorem lift2 {K : PySem.W.Frag} {σ : L2.St} {H : Hp} {ρ : St2} {M : MP} {E : XK2} {R : D → D → MP → Prop} {Q : V → V → Hp → Prop} (rs : RelS K H ρ σ) (rm : RelM K M H) (xr : XRel K W H M E)
    (h : ta E ρ M fun x M1 => tb E ρ M1 fun y M2 => R x y M2)
    (k : ∀ x y d e H2 M2, Stp K H M H2 M2 → Rep K H2 d x → Rep K H2 e y → RelM K M2 H2 → R d e M2 → Q x y H2) :
    liftE K W ta σ H fun x H1 => liftE K W tb σ H1 fun y H2 => Q x y H2 :=
  ⟨ρ, M, _, E, rs, rm, h, fun x H1 d M1 s1 r1 m1 q1 => ⟨ρ, M1, _, E, s1.rels rs, m1, q1, fun y H2 e M2 s2 r2 m2 q2 => k x y d e H2 M2 (s1.trans s2) (s2.rep r1) r2 m2 q2, xr.step s1⟩, xr⟩
theorem pop2 {op : Operator} {r : R2} {r2 : R22} (ho : OpR X (binaryOp op) r) (hr : OpRel X.K r r2) (ha : PE2 X W a ta) (hb : PE2 X W b tb) : PE2 X W (.BinOp a op b pos) (op2 r2 ta tb) :=
  pe_imp (pe_op ho ha hb) fun σ H Q ⟨ρ, M, Q2, E2, rs, rm, q, vr, xr⟩ => lift2 rs rm xr q fun x y d e H2 M2 s rx ry m q2 => hr x y d e H2 M2 Q Q2 rx ry m q2 (vr.step s)
theorem pun2 {op : UnaryOp} {r : V → Hp → VK → Prop} {r2 : D → MP → VK2 → Prop} (ho : UnR X (unaryOp op) r) (hr : UnRel X.K r r2) (ha : PE2 X W a ta) : PE2 X W (.UnaryOp op a pos) (un2 r2 ta) :=
  pe_imp (pe_un ho ha) fun σ H Q ⟨ρ, M, Q2, E2, rs, rm, q, vr, xr⟩ => ⟨ρ, M, _, E2, rs, rm, q, fun x H1 d M1 s1 r1 m1 q1 => hr x d H1 M1 Q Q2 r1 m1 q1 (vr.step s1), xr⟩
theorem pcmp2 {op : CmpOp} {r : R2} {r2 : R22} (ho : OpR X (compareOp op) r) (hr : OpRel X.K r r2) (ha : PE2 X W a ta) (hb : PE2 X W b tb) (hm : behindInMarks op b = false) : PE2 X W (.Compare a [op] [b] pos) (op2 r2 ta tb) :=
  pe_imp (pe_cmpR ho ha hb hm) fun σ H Q ⟨ρ, M, Q2, E2, rs, rm, q, vr, xr⟩ => lift2 rs rm xr q fun x y d e H2 M2 s rx ry m q2 => hr x y d e H2 M2 Q Q2 rx ry m q2 (vr.step s)
theorem pix2 {r : R2} {r2 : R22} (ho : IxR X r) (hr : OpRel X.K r r2) (ha : PE2 X W a ta) (hb : PE2 X W b tb) (hs : PlainIx b) : PE2 X W (.Subscript a b pos) (op2 r2 ta tb) :=
  pe_imp (pe_ix ho ha hb hs) fun σ H Q ⟨ρ, M, Q2, E2, rs, rm, q, vr, xr⟩ => lift2 rs rm xr q fun x y d e H2 M2 s rx ry m q2 => hr x y d e H2 M2 Q Q2 rx ry m q2 (vr.step s)

/-! ### tests -/
/-- a value that is a bool, as a test -/
def kB (Q : Bool → MP → Prop) : VK2 := fun x M1 => match x with | .bl k => Q k M1 | _ => False
def bt2 (t : TE2) : TT2 := fun E ρ M Q => t E ρ M (kB Q)
def truD (M : MP) : D → Option Bool
  | .non => some false
  | .bl b => some b
  | .int i => some (i != 0)
  | .str x => if x.length ≤ sizeLine then some ((x.length : Int) != 0) else none
  | .tup xs => some (!xs.isEmpty)
  | .scr xs => some (!xs.isEmpty)
  | .ref a => match M a with
    | some (.lst xs) => some (!xs.isEmpty)
    | some (.dK kvs) => some (!kvs.isEmpty)
    | _ => none
  | _ => none
/-- any value's truth -/
def kTr (Q : Bool → MP → Prop) : VK2 := fun x M1 => match truD M1 x with | some k => Q k M1 | none => False
def tr2 (t : TE2) : TT2 := fun E ρ M Q => t E ρ M (kTr Q)
theorem isEmpty_reps {K : PySem.W.Frag} {H : Hp} {ds : List D} {vs : List V} (r : Reps K H ds vs) : vs.isEmpty = ds.isEmpty := by
  cases ds with
  | nil => simp only [Reps] at r; rw [r]; rfl
  | cons d ds => simp only [Reps] at r; obtain ⟨v, q, e, _⟩ := r; rw [e]; rfl
theorem isEmpty_kvs {κ : Type} {K : PySem.W.Frag} {H : Hp} {ds : List (κ × D)} {vs : List (κ × V)} (r : KVs K H ds vs) : vs.isEmpty = ds.isEmpty := by
  cases ds with
  | nil => simp only [KVs] at r; rw [r]; rfl
  | cons d ds => simp only [KVs] at r; obtain ⟨v, q, e, _⟩ := r; rw [e]; rfl
theorem tru_of {K : PySem.W.Frag} {H : Hp} {M : MP} {d : D} {x : V} {k : Bool} (r : Rep K H d x) (rm : RelM K M H) (h : truD M d = some k) : TruV K x H k := by
  cases d with
  | non => cases r; cases h; rfl
  | bl b => cases r; cases h; rfl
  | int i => cases r; cases h; rfl
  | str z =>
    cases r
    have h' : (if z.length ≤ sizeLine then some ((z.length : Int) != 0) else none) = some k := h
    by_cases hz : z.length ≤ sizeLine
    · rw [if_pos hz] at h'; cases h'; exact ⟨hz, rfl⟩
    · rw [if_neg hz] at h'; cases h'
  | ty n => cases h
  | tup ds =>
    simp only [Rep] at r
    obtain ⟨a, vs, rfl, t, q⟩ := r
    cases h
    exact .inr (.inl ⟨vs, t, by rw [isEmpty_reps q]⟩)
  | scr ds =>
    simp only [Rep] at r
    obtain ⟨a, vs, rfl, t, q⟩ := r
    cases h
    exact .inl ⟨vs, t.l, by rw [isEmpty_reps q]⟩
  | ref a =>
    cases r
    have h' : (match M a with
      | some (.lst xs) => some (!xs.isEmpty)
        | some (.dK kvs) => some (!kvs.isEmpty)
      | _ => none) = some k := h
    clear h
    split at h'
    · rename_i xs e; cases h'
      obtain ⟨vs, z, q⟩ := rm _ _ e
      exact .inl ⟨vs, .of z, by rw [isEmpty_reps q]⟩
    · rename_i xs e; cases h'
      obtain ⟨vs, z, q⟩ := rm _ _ e
      exact .inr (.inr ⟨vs, z, by rw [isEmpty_kvs q]⟩)
    · cases h'
theorem ptr2 (ha : PE2 X W a ta) (he : ∀ whole, isTrue a X.env whole = (do let v ← whole; standAt a.pos; holding [v] (truthy v))) : PT2 X W a (tr2 ta) :=
  pt_imp (pt_truth ha he) fun σ H Q ⟨ρ, M, Q2, E2, rs, rm, q, vr, xr⟩ => ⟨ρ, M, _, E2, rs, rm, q, fun x H1 d M1 s1 r1 m1 q1 => by
    unfold kTr at q1
    cases e : truD M1 d with
    | none => rw [e] at q1; exact q1.elim
    | some k => rw [e] at q1; exact ⟨k, tru_of r1 m1 e, vr k H1 M1 s1 m1 q1⟩, xr⟩
theorem ptcmp2 {op : CmpOp} {r : R2} {r2 : R22} (ho : OpR X (compareOp op) r) (hr : OpRel X.K r r2) (ha : PE2 X W a ta) (hb : PE2 X W b tb) (hm : behindInMarks op b = false) : PT2 X W (.Compare a [op] [b] pos) (bt2 (op2 r2 ta tb)) :=
  pt_imp (pt_cmpR ho ha hb hm) fun σ H Q ⟨ρ, M, Q2, E2, rs, rm, q, vr, xr⟩ => lift2 (Q := fun x y H2 => r x y H2 fun z H3 => ∃ k, z = .bl k ∧ Q k H3) rs rm xr q fun x y d e H2 M2 s rx ry m q2 =>
    hr x y d e H2 M2 _ _ rx ry m q2 fun v H3 d3 M3 s3 r3 m3 q3 => by
      cases d3 with
      | bl k => exact ⟨k, r3, vr k H3 M3 (s.trans s3) m3 q3⟩
      | _ => exact q3.elim
def and2 (t u : TT2) : TT2 := fun E ρ M Q => t E ρ M fun c M1 => if c = true then u E ρ M1 Q else Q false M1
def or2 (t u : TT2) : TT2 := fun E ρ M Q => t E ρ M fun c M1 => if c = true then Q true M1 else u E ρ M1 Q
def not2 (t : TT2) : TT2 := fun E ρ M Q => t E ρ M fun c M1 => Q (!c) M1
variable {tA tB : TT2} {rest : List Expr}
theorem pand2 (ha : PT2 X W a tA) (hb : PW2 X W (.BoolOp .And (b :: rest) pos) tB) : PW2 X W (.BoolOp .And (a :: b :: rest) pos) (and2 tA tB) :=
  pw_imp (pw_and ha hb) fun σ H Q ⟨ρ, M, Q2, E2, rs, rm, q, vr, xr⟩ => ⟨ρ, M, _, E2, rs, rm, q, fun c H1 M1 s1 m1 q1 => by
    cases c with
    | true => exact ⟨ρ, M1, _, E2, s1.rels rs, m1, q1, vr.step s1, xr.step s1⟩
    | false => exact vr false H1 M1 s1 m1 q1, xr⟩
theorem por2 (ha : PT2 X W a tA) (hb : PW2 X W (.BoolOp .Or (b :: rest) pos) tB) : PW2 X W (.BoolOp .Or (a :: b :: rest) pos) (or2 tA tB) :=
  pw_imp (pw_or ha hb) fun σ H Q ⟨ρ, M, Q2, E2, rs, rm, q, vr, xr⟩ => ⟨ρ, M, _, E2, rs, rm, q, fun c H1 M1 s1 m1 q1 => by
    cases c with
    | false => exact ⟨ρ, M1, _, E2, s1.rels rs, m1, q1, vr.step s1, xr.step s1⟩
    | true => exact vr true H1 M1 s1 m1 q1, xr⟩
theorem pand1 (ha : PT2 X W a tA) : PW2 X W (.BoolOp .And [a] pos) tA := pw_and1 ha
theorem por1 (ha : PT2 X W a tA) : PW2 X W (.BoolOp .Or [a] pos) tA := pw_or1 ha
theorem pnot2 (ha : PT2 X W a tA) : PT2 X W (.UnaryOp .Not a pos) (not2 tA) :=
  pt_imp (pt_not ha) fun σ H Q ⟨ρ, M, Q2, E2, rs, rm, q, vr, xr⟩ => ⟨ρ, M, _, E2, rs, rm, q, fun c H1 M1 s1 m1 q1 => vr (!c) H1 M1 s1 m1 q1, xr⟩
/-- and, or, not as values -/
def kAnd (R : MP → Prop) (Q : VK2) : VK2 := fun x M1 => match truD M1 x with | some true => R M1 | some false => Q x M1 | none => False
def kOr (R : MP → Prop) (Q : VK2) : VK2 := fun x M1 => match truD M1 x with | some true => Q x M1 | some false => R M1 | none => False
def kNot (Q : VK2) : VK2 := fun x M1 => match truD M1 x with | some k => Q (.bl (!k)) M1 | none => False
def andv2 (ta tb : TE2) : TE2 := fun E ρ M Q => ta E ρ M (kAnd (fun M1 => tb E ρ M1 Q) Q)
def orv2 (ta tb : TE2) : TE2 := fun E ρ M Q => ta E ρ M (kOr (fun M1 => tb E ρ M1 Q) Q)
def notv2 (ta : TE2) : TE2 := fun E ρ M Q => ta E ρ M (kNot Q)
theorem pandv2 (ha : PE2 X W a ta) (hb : PE2 X W (.BoolOp .And (b :: rest) pos) tb) : PE2 X W (.BoolOp .And (a :: b :: rest) pos) (andv2 ta tb) :=
  pe_imp (pe_andT ha hb) fun σ H Q ⟨ρ, M, Q2, E2, rs, rm, q, vr, xr⟩ => ⟨ρ, M, _, E2, rs, rm, q, fun x H1 d M1 s1 r1 m1 q1 => by
    unfold kAnd at q1
    cases e : truD M1 d with
    | none => rw [e] at q1; exact q1.elim
    | some k =>
      rw [e] at q1
      cases k with
      | true => exact ⟨true, tru_of r1 m1 e, ⟨ρ, M1, _, E2, s1.rels rs, m1, q1, vr.step s1, xr.step s1⟩⟩
      | false => exact ⟨false, tru_of r1 m1 e, vr x H1 d M1 s1 r1 m1 q1⟩, xr⟩
theorem porv2 (ha : PE2 X W a ta) (hb : PE2 X W (.BoolOp .Or (b :: rest) pos) tb) : PE2 X W (.BoolOp .Or (a :: b :: rest) pos) (orv2 ta tb) :=
  pe_imp (pe_orT ha hb) fun σ H Q ⟨ρ, M, Q2, E2, rs, rm, q, vr, xr⟩ => ⟨ρ, M, _, E2, rs, rm, q, fun x H1 d M1 s1 r1 m1 q1 => by
    unfold kOr at q1
    cases e : truD M1 d with
    | none => rw [e] at q1; exact q1.elim
    | some k =>
      rw [e] at q1
      cases k with
      | false => exact ⟨false, tru_of r1 m1 e, ⟨ρ, M1, _, E2, s1.rels rs, m1, q1, vr.step s1, xr.step s1⟩⟩
      | true => exact ⟨true, tru_of r1 m1 e, vr x H1 d M1 s1 r1 m1 q1⟩, xr⟩
theorem pone2 {op} (h : PE2 X W a ta) : PE2 X W (.BoolOp op [a] pos) ta := pe_one h
theorem pnotv2 (ha : PE2 X W a ta) : PE2 X W (.UnaryOp .Not a pos) (notv2 ta) :=
  pe_imp (pe_notT ha) fun σ H Q ⟨ρ, M, Q2, E2, rs, rm, q, vr, xr⟩ => ⟨ρ, M, _, E2, rs, rm, q, fun x H1 d M1 s1 r1 m1 q1 => by
    unfold kNot at q1
    cases e : truD M1 d with
    | none => rw [e] at q1; exact q1.elim
    | some k => rw [e] at q1; exact ⟨k, tru_of r1 m1 e, vr (.bl (!k)) H1 (.bl (!k)) M1 s1 rfl m1 q1⟩, xr⟩
def ife2 (t : TT2) (ta tb : TE2) : TE2 := fun E ρ M Q => t E ρ M fun c M1 => if c = true then ta E ρ M1 Q else tb E ρ M1 Q
theorem pife2 {c : Expr} (hc : PT2 X W c tA) (ha : PE2 X W a ta) (hb : PE2 X W b tb) : PE2 X W (.IfExp c a b pos) (ife2 tA ta tb) :=
  pe_imp (pe_ifExp hc ha hb) fun σ H Q ⟨ρ, M, Q2, E2, rs, rm, q, vr, xr⟩ => ⟨ρ, M, _, E2, rs, rm, q, fun c H1 M1 s1 m1 q1 => by
    cases c with
    | false => exact ⟨ρ, M1, _, E2, s1.rels rs, m1, q1, vr.step s1, xr.step s1⟩
    | true => exact ⟨ρ, M1, _, E2, s1.rels rs, m1, q1, vr.step s1, xr.step s1⟩, xr⟩

/-! ### argument lists, displays -/
def nil2 : TA2 := fun _ _ M Q => Q [] M
def cons2 (ta : TE2) (t : TA2) : TA2 := fun E ρ M Q => ta E ρ M fun x M1 => t E ρ M1 fun xs M2 => Q (x :: xs) M2
variable {es : List Expr} {t : TA2}
theorem pnil2 : PA2 X W [] nil2 := pa_imp pa_nil fun σ H Q ⟨ρ, M, Q2, E2, rs, rm, q, vr, xr⟩ => vr [] H [] M .refl rfl rm q
theorem pcons2 (ha : PE2 X W e te) (hr : PA2 X W es t) (hs : starEach (e :: es) X.env = (false, eval e X.env) :: starEach es X.env := by rfl) : PA2 X W (e :: es) (cons2 te t) :=
  pa_imp (pa_cons ha hr hs) fun σ H Q ⟨ρ, M, Q2, E2, rs, rm, q, vr, xr⟩ => ⟨ρ, M, _, E2, rs, rm, q, fun x H1 d M1 s1 r1 m1 q1 =>
    ⟨ρ, M1, _, E2, s1.rels rs, m1, q1, fun xs H2 ds M2 s2 r2 m2 q2 => vr (x :: xs) H2 (d :: ds) M2 (s1.trans s2) ⟨x, xs, rfl, s2.rep r1, r2⟩ m2 q2, xr.step s1⟩, xr⟩
theorem Reps.length {K : PySem.W.Frag} {H : Hp} : ∀ {ds : List D} {vs : List V}, Reps K H ds vs → vs.length = ds.length
  | [], _, r => by simp only [Reps] at r; rw [r]; rfl
  | d :: ds, _, r => by
    simp only [Reps] at r
    obtain ⟨v, q, e, _, r2⟩ := r
    rw [e, List.length_cons, List.length_cons, Reps.length r2]
theorem KVs.length {κ : Type} {K : PySem.W.Frag} {H : Hp} : ∀ {ds : List (κ × D)} {vs : List (κ × V)}, KVs K H ds vs → vs.length = ds.length
  | [], _, r => by simp only [KVs] at r; rw [r]; rfl
  | d :: ds, _, r => by
    simp only [KVs] at r
    obtain ⟨v, q, e, _, r2⟩ := r
    rw [e, List.length_cons, List.length_cons, KVs.length r2]
def tup2 (t : TA2) : TE2 := fun E ρ M Q => t E ρ M fun xs M1 => xs.length ≤ sizeLine ∧ Q (.tup xs) M1
def lst2 (t : TA2) : TE2 := fun E ρ M Q => t E ρ M fun xs M1 => xs.length ≤ sizeLine ∧ ∀ p, M1 p = none → Q (.ref p) (updM M1 p (.lst xs))
theorem VRel.tup {K : PySem.W.Frag} {H : Hp} {M : MP} {Q2 : VK2} {Q : VK} {vs : List V} {ds : List D} (vr : VRel K H M Q2 Q) (rm : RelM K M H) (r : Reps K H ds vs) (q : Q2 (.tup ds) M) {p : Addr} (hp : H p = none) : Q (.ref p) (upd H p (.tup vs)) :=
  vr _ _ (.tup ds) M (.tupNew hp) ⟨p, vs, rfl, .of upd_same, (Stp.tupNew (M := M) hp).reps r⟩ (rm.tupNew hp) q
theorem VRel.lst {K : PySem.W.Frag} {H : Hp} {M : MP} {Q2 : VK2} {Q : VK} {vs : List V} {ds : List D} (vr : VRel K H M Q2 Q) (rm : RelM K M H) (r : Reps K H ds vs) (q : ∀ p, M p = none → Q2 (.ref p) (updM M p (.lst ds))) {p : Addr} (hp : H p = none) : Q (.ref p) (upd H p (.lst vs)) := by
  have s : Stp K H M (upd H p (.lst vs)) (updM M p (.lst ds)) := .put rm (notRd_of_none hp) (.inr hp)
  exact vr _ _ (.ref p) _ s rfl (rm.put (notRd_of_none hp) ⟨vs, upd_same, s.reps r⟩) (q p (rm.free hp))
theorem ptup2 {x1} (h : PA2 X W es t) : PE2 X W (.Tuple es x1 pos) (tup2 t) :=
  pe_imp (pe_tup h) fun σ H Q ⟨ρ, M, Q2, E2, rs, rm, q, vr, xr⟩ => ⟨ρ, M, _, E2, rs, rm, q, fun vs H1 ds M1 s1 r1 m1 q1 => ⟨by rw [r1.length]; exact q1.1, fun p hp => (vr.step s1).tup m1 r1 q1.2 hp⟩, xr⟩
theorem plst2 (h : PA2 X W es t) : PE2 X W (.List es pos) (lst2 t) :=
  pe_imp (pe_lst h) fun σ H Q ⟨ρ, M, Q2, E2, rs, rm, q, vr, xr⟩ => ⟨ρ, M, _, E2, rs, rm, q, fun vs H1 ds M1 s1 r1 m1 q1 => ⟨by rw [r1.length]; exact q1.1, fun p hp => (vr.step s1).lst m1 r1 q1.2 hp⟩, xr⟩

/-! ### calls of built-ins -/
abbrev RC2 := List D → MP → VK2 → Prop
def call2 (r : RC2) (t : TA2) : TE2 := fun E ρ M Q => t E ρ M fun ds M1 => r ds M1 Q
def CallRel (K : PySem.W.Frag) (r : List V → Hp → VK → Prop) (r2 : RC2) : Prop := ∀ xs ds H M Q Q2, Reps K H ds xs → RelM K M H → r2 ds M Q2 → VRel K H M Q2 Q → r xs H Q
theorem pcallB2 {x : Str} {id : String} {p : Pos} {r : List V → Hp → VK → Prop} {r2 : RC2} (hc : CallR X (.builtin id) r) (hr : CallRel X.K r r2) (hg : Gl X x) (hm : X.mg x = none) (hv : bootBuiltins x = some (.builtin id)) (ha : PA2 X W (e :: es) t)
    (hn : x ≠ "__name__" := by decide) (hdb : (x == ("__debug__" : Str)) = false := by decide)
    (he : starEach (e :: es) X.env = (false, eval e X.env) :: starEach es X.env := by rfl) (hpl : (backTo pos (starEach es X.env)).any (·.1) = false := by rfl) : PE2 X W (.Call (.Name x p) (e :: es) [] pos) (call2 r2 t) :=
  pe_imp (pe_callB hc hg hm hv ha hn hdb he hpl) fun σ H Q ⟨ρ, M, Q2, E2, rs, rm, q, vr, xr⟩ => ⟨ρ, M, _, E2, rs, rm, q, fun vs H1 ds M1 s1 r1 m1 q1 => hr vs ds H1 M1 Q Q2 r1 m1 q1 (vr.step s1), xr⟩
theorem pcallT2 {x : Str} {T : String} {p : Pos} {r : List V → Hp → VK → Prop} {r2 : RC2} (hc : CallR X (.type T) r) (hr : CallRel X.K r r2) (hg : Gl X x) (hm : X.mg x = none) (hv : bootBuiltins x = some (.type T)) (ha : PA2 X W (e :: es) t)
    (hn : x ≠ "__name__" := by decide) (hdb : (x == ("__debug__" : Str)) = false := by decide)
    (he : starEach (e :: es) X.env = (false, eval e X.env) :: starEach es X.env := by rfl) (hpl : (backTo pos (starEach es X.env)).any (·.1) = false := by rfl) : PE2 X W (.Call (.Name x p) (e :: es) [] pos) (call2 r2 t) :=
  pe_imp (pe_callTy hc hg hm hv ha hn hdb he hpl) fun σ H Q ⟨ρ, M, Q2, E2, rs, rm, q, vr, xr⟩ => ⟨ρ, M, _, E2, rs, rm, q, fun vs H1 ds M1 s1 r1 m1 q1 => hr vs ds H1 M1 Q Q2 r1 m1 q1 (vr.step s1), xr⟩

/-! ### calls of defs -/
abbrev Sp2 := List D → MP → VK2 → (Value → MP → Prop) → Prop
def spOf (K : PySem.W.Frag) (sp : Sp2) : Sp := fun vs H Q E => ∃ ds M Q2 E2, Reps K H ds vs ∧ RelM K M H ∧ sp ds M Q2 E2 ∧ VRel K H M Q2 Q ∧ ∀ c H' M', Stp K H M H' M' → RelM K M' H' → E2 c M' → E c none H'
def fn2 (sp : Sp2) (dvs : List D) (t : TA2) : TE2 := fun E ρ M Q => t E ρ M fun ds M1 => sp (ds ++ dvs) M1 Q fun c M' => E c ρ M'
theorem Reps.append {K : PySem.W.Frag} {H : Hp} {es : List D} {ws : List V} (s : Reps K H es ws) : ∀ {ds : List D} {vs : List V}, Reps K H ds vs → Reps K H (ds ++ es) (vs ++ ws)
  | [], _, r => by simp only [Reps] at r; subst r; exact s
  | d :: ds, _, r => by
    simp only [Reps] at r
    obtain ⟨v, q, rfl, r1, r2⟩ := r
    exact ⟨v, q ++ ws, rfl, r1, Reps.append s r2⟩
/-- a def as the module knows it -/
structure Fn2 (P : Program) (w : World) (K : PySem.W.Frag) (mg : Str → Option Value) (base : Heap) (k : Nat) (x : Str) (sp : Sp2) (dvs : List D) : Prop where
  ex : ∃ (f : Addr) (fd : FuncData) (ps : List Str) (ds : List Value) (vs : List V), FnOk P w K mg base (L2.CX P w) k f fd ps (spOf K sp) ∧ mg x = some (.ref f) ∧ PySem.W.keepIn K (.ref f) = true ∧ Binds K fd ps ds ∧ Vals vs ds ∧ ∀ H, Reps K H dvs vs
theorem pfn2 {k j : Nat} {x : Str} {sp : Sp2} {dvs : List D} {p : Pos} (tk : Takes X W) (c : Fn2 X.prog X.w X.K X.mg X.base k x sp dvs) (hr : Room j X.A) (hk : k ≤ j) (hg : Gl X x) (ha : PA2 X W (e :: es) t)
    (hdb : (x == ("__debug__" : Str)) = false := by decide) (he : starEach (e :: es) X.env = (false, eval e X.env) :: starEach es X.env := by rfl) (hpl : (backTo pos (starEach es X.env)).any (·.1) = false := by rfl) :
    PE2 X W (.Call (.Name x p) (e :: es) [] pos) (fn2 sp dvs t) := by
  obtain ⟨f, fd, ps, ds, vs, F, hm, kp, b, d, rd⟩ := c.ex
  refine pe_imp (pe_callSD (E := WE W) F (hr.mono hk) hg hm kp b d (fun σ => passAt tk σ) ha hdb he hpl) fun σ H Q ⟨ρ, M, Q2, E2, rs, rm, q, vr, xr⟩ => ?_
  refine ⟨ρ, M, _, E2, rs, rm, q, fun us H1 ds M1 s1 r1 m1 q1 => ?_, xr⟩
  exact ⟨ds ++ dvs, M1, Q2, _, (rd H1).append r1, m1, q1, vr.step s1, fun c H' M' s' m' e' => xr c ρ σ H' M' (s1.trans s') ((s1.trans s').rels rs) m' e'⟩
end
end N2


namespace N2
open PySem PySem.Spec PyProof.Rows L2

theorem RelS.set {K : PySem.W.Frag} {H : Hp} {ρ : St2} {σ : L2.St} (rs : RelS K H ρ σ) {d : D} {v : V} (r : Rep K H d v) (i : Nat) : RelS K H (ρ.set i (some d)) (σ.set i (some v)) := by
  refine ⟨by rw [List.length_set, List.length_set]; exact rs.1, fun j e h => ?_⟩
  by_cases q : i = j
  · subst q
    by_cases hl : i < ρ.length
    · rw [List.getElem?_set_self hl] at h
      cases h
      exact ⟨v, by rw [List.getElem?_set_self (by rw [rs.1]; exact hl)], r⟩
    · rw [List.getElem?_eq_none (by rw [List.length_set]; omega)] at h
      cases h
  · rw [List.getElem?_set_ne q] at h
    obtain ⟨w, e1, r1⟩ := rs.2 j e h
    exact ⟨w, by rw [List.getElem?_set_ne q]; exact e1, r1⟩
def wipe2 (ρ : St2) : List Nat → St2
  | [] => ρ
  | v :: vs => (wipe2 ρ vs).set v none
theorem RelS.wipe {K : PySem.W.Frag} {H : Hp} {ρ : St2} {σ : L2.St} (rs : RelS K H ρ σ) : ∀ vs : List Nat, RelS K H (wipe2 ρ vs) (L2.wipe σ vs)
  | [] => rs
  | i :: vs => by
    have h := RelS.wipe rs vs
    refine ⟨?_, fun j e q => ?_⟩
    · unfold wipe2 L2.wipe
      rw [List.length_set, List.length_set]; exact h.1
    · unfold wipe2 at q
      unfold L2.wipe
      by_cases z : i = j
      · subst z
        by_cases hl : i < (wipe2 ρ vs).length
        · rw [List.getElem?_set_self hl] at q; cases q
        · rw [List.getElem?_eq_none (by rw [List.length_set]; omega)] at q; cases q
      · rw [List.getElem?_set_ne z] at q
        obtain ⟨w, e1, r1⟩ := h.2 j e q
        exact ⟨w, by rw [List.getElem?_set_ne z]; exact e1, r1⟩
theorem wipe_set {σ : L2.St} {i : Nat} {x : Option V} : ∀ {vs : List Nat}, i ∈ vs → L2.wipe (σ.set i x) vs = L2.wipe σ vs
  | [], h => nomatch h
  | j :: vs, h => by
    unfold L2.wipe
    by_cases e : i ∈ vs
    · rw [wipe_set e]
    · have ij : i = j := by
        rcases List.mem_cons.mp h with z | z
        · exact z
        · exact absurd z e
      subst ij
      have com : ∀ ws : List Nat, i ∉ ws → L2.wipe (σ.set i x) ws = (L2.wipe σ ws).set i x := by
        intro ws
        induction ws with
        | nil => intro _; rfl
        | cons k ws ih =>
          intro hk
          unfold L2.wipe
          rw [ih (fun z => hk (List.mem_cons_of_mem _ z)), List.set_comm _ _ (fun z => hk (by rw [z]; exact List.mem_cons_self))]
      rw [com vs e, List.set_set]

section
variable {X : Cx} {W : WX} {st : Stmt} {rest : List Stmt} {t u : TS2} {e : Expr} {te : TE2} {pos : Pos}
def next2 : TS2 := fun D ρ M => D.nx ρ M
def seq2 (t u : TS2) : TS2 := fun D ρ M => t { D with nx := u D } ρ M
theorem pssnil2 : PSs2 X W [] next2 := pss_imp pss_nil fun D σ H ⟨ρ, M, D2, rs, rm, q, er⟩ => er.nx ρ σ H M .refl rs rm q
theorem psscons2 (h1 : PS2 X W st t) (h2 : PSs2 X W rest u) : PSs2 X W (st :: rest) (seq2 t u) :=
  pss_imp (pss_cons h1 h2) fun D σ H ⟨ρ, M, D2, rs, rm, q, er⟩ => ⟨ρ, M, _, rs, rm, q, ⟨fun ρ' σ' H' M' s' rs' rm' q' => ⟨ρ', M', D2, rs', rm', q', er.step s'⟩, er.rt, er.bk, er.ct, er.ex⟩⟩
theorem pss12 (h1 : PS2 X W st t) : PSs2 X W [st] (seq2 t next2) := psscons2 h1 pssnil2
theorem pspass2 : PS2 X W (.Pass pos) next2 := ps_imp ps_pass fun D σ H ⟨ρ, M, D2, rs, rm, q, er⟩ => er.nx ρ σ H M .refl rs rm q
def brk2 : TS2 := fun D ρ M => D.bk ρ M
def cont2 : TS2 := fun D ρ M => D.ct ρ M
theorem psbrk2 : PS2 X W (.Break pos) brk2 := ps_imp ps_break fun D σ H ⟨ρ, M, D2, rs, rm, q, er⟩ => er.bk ρ σ H M .refl rs rm q
theorem pscont2 : PS2 X W (.Continue pos) cont2 := ps_imp ps_continue fun D σ H ⟨ρ, M, D2, rs, rm, q, er⟩ => er.ct ρ σ H M .refl rs rm q
def drop2 (te : TE2) : TS2 := fun D ρ M => te D.ex ρ M fun _ M1 => D.nx ρ M1
theorem psexpr2 (he : PE2 X W e te) (hs : swapsWith e none pos.line X.env = pure false := by rfl) : PS2 X W (.Expr e pos) (drop2 te) :=
  ps_imp (ps_expr he hs) fun D σ H ⟨ρ, M, D2, rs, rm, q, er⟩ => ⟨ρ, M, _, D2.ex, rs, rm, q, fun v H1 d M1 s1 r1 m1 q1 => er.nx ρ σ H1 M1 s1 (s1.rels rs) m1 q1, er.ex⟩
def ret2 (te : TE2) : TS2 := fun D ρ M => te D.ex ρ M D.rt
theorem psret2 (he : PE2 X W e te) : PS2 X W (.Return (some e) pos) (ret2 te) :=
  ps_imp (ps_ret he) fun D σ H ⟨ρ, M, D2, rs, rm, q, er⟩ => ⟨ρ, M, _, D2.ex, rs, rm, q, er.rt, er.ex⟩
def retn2 : TS2 := fun D _ M => D.rt .non M
theorem psretn2 : PS2 X W (.Return none pos) retn2 := ps_imp ps_retN fun D σ H ⟨ρ, M, D2, rs, rm, q, er⟩ => er.rt .non H .non M .refl rfl rm q
def if2 (c : TT2) (t u : TS2) : TS2 := fun D ρ M => c D.ex ρ M fun b M1 => if b = true then t D ρ M1 else u D ρ M1
theorem psif2 {c : Expr} {a b : List Stmt} {tc : TT2} (hc : PT2 X W c tc) (ha : PSs2 X W a t) (hb : PSs2 X W b u) : PS2 X W (.If c a b pos) (if2 tc t u) :=
  ps_imp (ps_if hc ha hb) fun D σ H ⟨ρ, M, D2, rs, rm, q, er⟩ => ⟨ρ, M, _, D2.ex, rs, rm, q, fun b H1 M1 s1 m1 q1 => by
    cases b with
    | true => exact ⟨ρ, M1, D2, s1.rels rs, m1, q1, er.step s1⟩
    | false => exact ⟨ρ, M1, D2, s1.rels rs, m1, q1, er.step s1⟩, er.ex⟩

/-! ### targets: names and tuples of them -/
abbrev TG2 := D → St2 → MP → (St2 → MP → Prop) → Prop
abbrev TGs2 := List D → St2 → MP → (St2 → MP → Prop) → Prop
def OnlyAt (sl : List Nat) (σ σ' : L2.St) : Prop := ∀ vs : List Nat, (∀ i ∈ sl, i ∈ vs) → L2.wipe σ' vs = L2.wipe σ vs
def liftG (K : PySem.W.Frag) (sl : List Nat) (t : TG2) : TG := fun v σ H Q => ∃ d ρ M Q2, Rep K H d v ∧ RelS K H ρ σ ∧ RelM K M H ∧ t d ρ M Q2 ∧ ∀ ρ' σ', RelS K H ρ' σ' → OnlyAt sl σ σ' → Q2 ρ' M → Q σ' H
def liftGs (K : PySem.W.Frag) (sl : List Nat) (t : TGs2) : TGs := fun v σ H Q => ∃ d ρ M Q2, Reps K H d v ∧ RelS K H ρ σ ∧ RelM K M H ∧ t d ρ M Q2 ∧ ∀ ρ' σ', RelS K H ρ' σ' → OnlyAt sl σ σ' → Q2 ρ' M → Q σ' H
abbrev PG2 (X : Cx) (tg : Expr) (sl : List Nat) (t : TG2) : Prop := PG X tg (liftG X.K sl t)
abbrev PGs2 (X : Cx) (tg : List Expr) (sl : List Nat) (t : TGs2) : Prop := PGs X tg (liftGs X.K sl t)
theorem pg_imp {tg : Expr} {t t' : TG} (h : PG X tg t) (hi : ∀ v σ H Q, t' v σ H Q → t v σ H Q) : PG X tg t' := ⟨fun pins s σ H v u Q I r hw => h.run pins s σ H v u Q I r (hi _ _ _ _ hw)⟩
theorem pgs_imp {tg : List Expr} {t t' : TGs} (h : PGs X tg t) (hi : ∀ v σ H Q, t' v σ H Q → t v σ H Q) : PGs X tg t' := ⟨fun pins s σ H v u Q I r hw => h.run pins s σ H v u Q I r (hi _ _ _ _ hw)⟩
def gn2 (i : Nat) : TG2 := fun d ρ M Q => Q (ρ.set i (some d)) M
theorem pgn2 (i : Nat) {x : Str} (hN : X.N.Nodup) (hi : X.N[i]? = some x := by rfl) (hx : Loc X.env.scope x := by first | exact Or.inl rfl | exact Or.inr rfl) (hf : X.fn x = true ∨ X.env.scope.names.lookup x = some .local := by first | exact .inl rfl | exact .inr rfl | assumption) : PG2 X (.Name x pos) [i] (gn2 i) :=
  pg_imp (pg_name hN hi hx hf) fun v σ H Q ⟨d, ρ, M, Q2, r, rs, rm, q, k⟩ => k _ _ (rs.set r i) (fun vs hv => wipe_set (hv i List.mem_cons_self)) q
def gnil2 : TGs2 := fun ds ρ M Q => ds = [] ∧ Q ρ M
def gcons2 (t : TG2) (u : TGs2) : TGs2 := fun ds ρ M Q => match ds with | d :: r => t d ρ M fun ρ' M' => u r ρ' M' Q | [] => False
theorem pgnil2 : PGs2 X [] [] gnil2 := pgs_imp pgs_nil fun v σ H Q ⟨d, ρ, M, Q2, r, rs, rm, q, k⟩ => by
  obtain ⟨rfl, q⟩ := q
  exact ⟨r, k ρ σ rs (fun _ _ => rfl) q⟩
theorem pgcons2 {e : Expr} {es : List Expr} {sl sl' : List Nat} {t : TG2} {u : TGs2} (h1 : PG2 X e sl t) (h2 : PGs2 X es sl' u)
    (hs : (assignEach (e :: es) X.env).map (·.2) = assign e X.env :: (assignEach es X.env).map (·.2) := by rfl) : PGs2 X (e :: es) (sl ++ sl') (gcons2 t u) :=
  pgs_imp (pgs_cons h1 h2 hs) fun v σ H Q ⟨d, ρ, M, Q2, r, rs, rm, q, k⟩ => by
    cases d with
    | nil => exact q.elim
    | cons d ds =>
      obtain ⟨v, vr, rfl, r1, r2⟩ := r
      refine ⟨v, vr, rfl, d, ρ, M, _, r1, rs, rm, q, fun ρ' σ' rs' o1 q1 => ⟨ds, ρ', M, _, r2, rs', rm, q1, fun ρ2 σ2 rs2 o2 q2 => k ρ2 σ2 rs2 (fun vs hv => ?_) q2⟩⟩
      rw [o2 vs (fun i hi => hv i (List.mem_append_right _ hi)), o1 vs (fun i hi => hv i (List.mem_append_left _ hi))]
def gtup2 (n : Nat) (t : TGs2) : TG2 := fun d ρ M Q => match d with | .tup ds => ds.length = n ∧ t ds ρ M Q | .ref a => ∃ ds, M a = some (.lst ds) ∧ ds.length = n ∧ t ds ρ M Q | _ => False
theorem pg_or {tg : Expr} {t t' : TG} (h : PG X tg t) (h' : PG X tg t') : PG X tg (fun v σ H Q => t v σ H Q ∨ t' v σ H Q) := ⟨fun pins s σ H v u Q I r hw => hw.elim (h.run pins s σ H v u Q I r) (h'.run pins s σ H v u Q I r)⟩
theorem pgtup2 {es : List Expr} {k : Nat} {sl : List Nat} {t : TGs2} {n : Nat} (hc : X.calm = true) (h : PGs2 X es sl t)
    (hn : (assignEach es X.env).length = n := by rfl) (hst : (assignEach es X.env).findIdx? (·.1) = none := by rfl) : PG2 X (.Tuple es k pos) sl (gtup2 n t) :=
  pg_imp (pg_or (pg_tup hc h hn hst) (pg_lst hc h hn hst)) fun v σ H Q ⟨d, ρ, M, Q2, r, rs, rm, q, k⟩ => by
    cases d with
    | tup ds =>
      simp only [Rep] at r
      obtain ⟨a, vs, rfl, st, r2⟩ := r
      exact .inl ⟨a, vs, rfl, st, by rw [r2.length]; exact q.1, ds, ρ, M, Q2, r2, rs, rm, q.2, k⟩
    | ref a =>
      simp only [Rep] at r
      subst r
      obtain ⟨ds, hm, hl, q⟩ := q
      obtain ⟨vs, e, r2⟩ := rm _ _ hm
      exact .inr ⟨a, vs, rfl, .of e, by rw [r2.length]; exact hl, ds, ρ, M, Q2, r2, rs, rm, q, k⟩
    | _ => exact q.elim
def asg2 (te : TE2) (g : TG2) : TS2 := fun D ρ M => te D.ex ρ M fun x M1 => g x ρ M1 D.nx
theorem lift_asg {K : PySem.W.Frag} {sl : List Nat} {g : TG2} {D : Ends} {σ : L2.St} {H : Hp} {ρ : St2} {M : MP} {D2 : Ends2} (rs : RelS K H ρ σ) (rm : RelM K M H) (er : EndsRel K W H M D2 D) (q : asg2 te g D2 ρ M) :
    liftE K W te σ H fun x H1 => liftG K sl g x σ H1 D.nx :=
  ⟨ρ, M, _, D2.ex, rs, rm, q, fun v H1 d M1 s1 r1 m1 q1 => ⟨d, ρ, M1, _, r1, s1.rels rs, m1, q1, fun ρ' σ' rs' _ q2 => er.nx ρ' σ' H1 M1 s1 rs' m1 q2⟩, er.ex⟩
theorem psset2 (i : Nat) {x : Str} {pos' : Pos} (hN : X.N.Nodup) (he : PE2 X W e te) (hi : X.N[i]? = some x := by rfl) (hx : Loc X.env.scope x := by first | exact Or.inl rfl | exact Or.inr rfl) (hs : swapsWith e (some (.Name x pos')) pos.line X.env = pure false := by rfl) (hf : X.fn x = true ∨ X.env.scope.names.lookup x = some .local := by first | exact .inl rfl | exact .inr rfl | assumption) :
    PS2 X W (.Assign [.Name x pos'] e pos) (asg2 te (gn2 i)) :=
  ps_imp (ps_set hN hi hx he hs hf) fun D σ H ⟨ρ, M, D2, rs, rm, q, er⟩ =>
    ⟨ρ, M, _, D2.ex, rs, rm, q, fun v H1 d M1 s1 r1 m1 q1 => er.nx _ _ H1 M1 s1 ((s1.rels rs).set r1 i) m1 q1, er.ex⟩
theorem psasg2 {tg : Expr} {sl : List Nat} {g : TG2} (he : PE2 X W e te) (hg : PG2 X tg sl g) (hs : swapsWithSole [tg] e pos.line X.env = pure false := by rfl) (hw : swappedStores [tg] e X.env = pure none := by rfl)
    (h1 : (assignEach [tg] X.env).map (·.2) = [assign tg X.env] := by rfl) : PS2 X W (.Assign [tg] e pos) (asg2 te g) :=
  ps_imp (ps_asg he hg hs hw h1) fun D σ H ⟨ρ, M, D2, rs, rm, q, er⟩ => lift_asg rs rm er q
def kPar (i j : Nat) (ρ : St2) (Q : St2 → MP → Prop) : List D → MP → Prop := fun ds M1 => match ds with | [d, e] => Q ((ρ.set i (some d)).set j (some e)) M1 | _ => False
def par2 (i j : Nat) (ta : TA2) : TS2 := fun D ρ M => ta D.ex ρ M (kPar i j ρ D.nx)
theorem pspar2 (i j : Nat) {x y : Str} {a b : Expr} {ta : TA2} {px py pt : Pos} {kt k2 pt2} (hc : X.calm = true) (hN : X.N.Nodup) (ha : PA2 X W [a, b] ta) (hij : i ≠ j) (hi : X.N[i]? = some x := by rfl) (hj : X.N[j]? = some y := by rfl)
    (hx : X.env.scope.names.lookup x = some .local := by rfl) (hy : X.env.scope.names.lookup y = some .local := by rfl)
    (hw : swappedStores [.Tuple [.Name x px, .Name y py] kt pt] (.Tuple [a, b] k2 pt2) X.env = pure (some [x, y]) := by rfl)
    (hs : swapsWithSole [.Tuple [.Name x px, .Name y py] kt pt] (.Tuple [a, b] k2 pt2) pos.line X.env = pure false := by rfl) :
    PS2 X W (.Assign [.Tuple [.Name x px, .Name y py] kt pt] (.Tuple [a, b] k2 pt2) pos) (par2 i j ta) :=
  ps_imp (ps_par hc hN hi hj hij hx hy ha hw hs) fun D σ H ⟨ρ, M, D2, rs, rm, q, er⟩ => ⟨ρ, M, _, D2.ex, rs, rm, q, fun vs H1 ds M1 s1 r1 m1 q1 => by
    match ds, q1, r1 with
    | [d, e], q1, r1 =>
      obtain ⟨v, w, rfl, r2, r3⟩ := r1
      obtain ⟨v', w', rfl, r4, rfl⟩ := r3
      exact ⟨v, v', rfl, er.nx _ _ H1 M1 s1 (((s1.rels rs).set r2 i).set r4 j) m1 q1⟩, er.ex⟩
def kPar3 (i j l : Nat) (ρ : St2) (Q : St2 → MP → Prop) : List D → MP → Prop := fun ds M1 => match ds with | [d, e, f] => Q (((ρ.set i (some d)).set j (some e)).set l (some f)) M1 | _ => False
def par32 (i j l : Nat) (ta : TA2) : TS2 := fun D ρ M => ta D.ex ρ M (kPar3 i j l ρ D.nx)
theorem pspar32 (i j l : Nat) {x y z : Str} {a b c : Expr} {ta : TA2} {px py pz pt : Pos} {kt k2 pt2} (hc : X.calm = true) (hN : X.N.Nodup) (ha : PA2 X W [a, b, c] ta) (hij : i ≠ j) (hil : i ≠ l) (hjl : j ≠ l) (hi : X.N[i]? = some x := by rfl) (hj : X.N[j]? = some y := by rfl) (hl : X.N[l]? = some z := by rfl)
    (hx : X.env.scope.names.lookup x = some .local := by rfl) (hy : X.env.scope.names.lookup y = some .local := by rfl) (hz : X.env.scope.names.lookup z = some .local := by rfl)
    (hw : swappedStores [.Tuple [.Name x px, .Name y py, .Name z pz] kt pt] (.Tuple [a, b, c] k2 pt2) X.env = pure (some [x, y, z]) := by rfl)
    (hs : swapsWithSole [.Tuple [.Name x px, .Name y py, .Name z pz] kt pt] (.Tuple [a, b, c] k2 pt2) pos.line X.env = pure false := by rfl) :
    PS2 X W (.Assign [.Tuple [.Name x px, .Name y py, .Name z pz] kt pt] (.Tuple [a, b, c] k2 pt2) pos) (par32 i j l ta) :=
  ps_imp (ps_par3 hc hN hi hj hl hij hil hjl hx hy hz ha hw hs) fun D σ H ⟨ρ, M, D2, rs, rm, q, er⟩ => ⟨ρ, M, _, D2.ex, rs, rm, q, fun vs H1 ds M1 s1 r1 m1 q1 => by
    match ds, q1, r1 with
    | [d, e, f], q1, r1 =>
      obtain ⟨v, w, rfl, r2, r3⟩ := r1
      obtain ⟨v', w', rfl, r4, r5⟩ := r3
      obtain ⟨v'', w'', rfl, r6, rfl⟩ := r5
      exact ⟨v, v', v'', rfl, er.nx _ _ H1 M1 s1 ((((s1.rels rs).set r2 i).set r4 j).set r6 l) m1 q1⟩, er.ex⟩

/-! ### o[i] = v -/
abbrev TSet2 := D → D → D → MP → (MP → Prop) → Prop
def MRel (K : PySem.W.Frag) (H : Hp) (M : MP) (Q2 : MP → Prop) (Q : Hp → Prop) : Prop := ∀ H' M', Stp K H M H' M' → RelM K M' H' → Q2 M' → Q H'
def SetRel (K : PySem.W.Frag) (r : TSet) (r2 : TSet2) : Prop := ∀ o i v do_ di dv H M Q Q2, Rep K H do_ o → Rep K H di i → Rep K H dv v → RelM K M H → r2 do_ di dv M Q2 → MRel K H M Q2 Q → r o i v H Q
def sub2 (te to ti : TE2) (r : TSet2) : TS2 := fun D ρ M => te D.ex ρ M fun v M1 => to D.ex ρ M1 fun o M2 => ti D.ex ρ M2 fun i M3 => r o i v M3 fun M4 => D.nx ρ M4
theorem pssub2 {o i : Expr} {to ti : TE2} {t : TSet} {r : TSet2} {pos' : Pos} (he : PE2 X W e te) (ho : PE2 X W o to) (hi : PE2 X W i ti) (hp : PSet X t) (hr : SetRel X.K t r)
    (hs : swapsWithSole [.Subscript o i pos'] e pos.line X.env = pure false := by rfl) (hw : swappedStores [.Subscript o i pos'] e X.env = pure none := by rfl)
    (h1 : (assignEach [.Subscript o i pos'] X.env).map (·.2) = [assign (.Subscript o i pos') X.env] := by rfl)
    (ha : ∀ v, assign (.Subscript o i pos') X.env v = (do
      let ov ← holding [v] (eval o X.env)
      let iv ← holding [v, ov] (eval i X.env)
      standAt pos'
      holding [v, ov, iv] (setItem ov iv v)
      release [v, ov, iv] []) := by intro _; rfl) : PS2 X W (.Assign [.Subscript o i pos'] e pos) (sub2 te to ti r) :=
  ps_imp (ps_asg he (pg_sub ho hi hp ha) hs hw h1) fun D σ H ⟨ρ, M, D2, rs, rm, q, er⟩ =>
    ⟨ρ, M, _, D2.ex, rs, rm, q, fun v H1 d M1 s1 r1 m1 q1 => ⟨ρ, M1, _, D2.ex, s1.rels rs, m1, q1, fun vo H2 do_ M2 s2 r2 m2 q2 => ⟨ρ, M2, _, D2.ex, (s1.trans s2).rels rs, m2, q2, fun vi H3 di M3 s3 r3 m3 q3 =>
      hr vo vi v do_ di d H3 M3 _ _ (s3.rep r2) r3 ((s2.trans s3).rep r1) m3 q3 fun H4 M4 s4 m4 q4 => er.nx ρ σ H4 M4 (((s1.trans s2).trans s3).trans s4) ((((s1.trans s2).trans s3).trans s4).rels rs) m4 q4, (er.ex.step s1).step s2⟩, er.ex.step s1⟩, er.ex⟩

/-! ### while -/
def while2 (c : TT2) (tb : TS2) : TS2 := fun D ρ M => ∃ I : Nat → St2 → MP → Prop, (∃ m, I m ρ M) ∧ ∀ m ρ M, I m ρ M →
  c D.ex ρ M fun b M1 => if b = true then tb { D with nx := fun ρ' M' => ∃ m', m' < m ∧ I m' ρ' M', ct := fun ρ' M' => ∃ m', m' < m ∧ I m' ρ' M', bk := D.nx } ρ M1 else D.nx ρ M1
theorem pswhile2 {c : Expr} {body : List Stmt} {tc : TT2} {tb : TS2} (hp : PassesOwn (model X.prog X.w) X.A X.env X.xe) (hc : PT2 X W c tc) (hb : PSs2 X W body tb) : PS2 X W (.While c body [] pos) (while2 tc tb) :=
  ps_imp (ps_while hp hc hb) fun D σ H ⟨ρ, M, D2, rs, rm, ⟨I, ⟨m, h0⟩, turn⟩, er⟩ => by
    refine ⟨fun m σ' H' => ∃ ρ' M', RelS X.K H' ρ' σ' ∧ RelM X.K M' H' ∧ Stp X.K H M H' M' ∧ I m ρ' M', ⟨m, ρ, M, rs, rm, .refl, h0⟩, ?_⟩
    rintro m σ' H' ⟨ρ', M', rs', rm', s', hI⟩
    refine ⟨ρ', M', _, D2.ex, rs', rm', turn m ρ' M' hI, fun b H1 M1 s1 m1 q1 => ?_, er.ex.step s'⟩
    cases b with
    | false => exact er.nx ρ' σ' H1 M1 (s'.trans s1) (s1.rels rs') m1 q1
    | true =>
      refine ⟨fun σ2 H2 => ∃ m', m' < m ∧ ∃ ρ' M', RelS X.K H2 ρ' σ2 ∧ RelM X.K M' H2 ∧ Stp X.K H M H2 M' ∧ I m' ρ' M', fun σ2 H2 h => h, ρ', M1, _, s1.rels rs', m1, q1, ?_⟩
      have go : SRel X.K H1 M1 (fun ρ' M' => ∃ m', m' < m ∧ I m' ρ' M') (fun σ2 H2 => ∃ m', m' < m ∧ ∃ ρ' M', RelS X.K H2 ρ' σ2 ∧ RelM X.K M' H2 ∧ Stp X.K H M H2 M' ∧ I m' ρ' M') := fun ρ2 σ2 H2 M2 s2 rs2 rm2 ⟨m', hm, hI'⟩ =>
        ⟨m', hm, ρ2, M2, rs2, rm2, (s'.trans s1).trans s2, hI'⟩
      exact ⟨go, (er.step (s'.trans s1)).rt, (er.step (s'.trans s1)).nx, go, (er.step (s'.trans s1)).ex⟩

/-! ### what is walked -/
abbrev TI2 := XK2 → St2 → MP → (List D → (MP → Prop) → MP → Prop) → Prop
structure WalkR (K : PySem.W.Frag) (H₀ : Hp) (J : It) (ds : List D) (G : MP → Prop) : Prop where
  goes : ∀ i H M, i < ds.length → Tk K H₀ H → RelM K M H → G M → J.go i H
  stops : ∀ H M, Tk K H₀ H → RelM K M H → G M → J.stop ds.length H
  yields : ∀ i H M x H', i < ds.length → Tk K H₀ H → RelM K M H → G M → J.yld i H x H' → ∃ d, ds[i]? = some d ∧ Rep K H' d x ∧ Stp K H M H' M ∧ RelM K M H'
def liftI (K : PySem.W.Frag) (W : WX) (wi : TI2) : TI := fun σ H R => ∃ ρ M R2 E2, RelS K H ρ σ ∧ RelM K M H ∧ wi E2 ρ M R2 ∧ XRel K W H M E2 ∧ ∀ J H' ds G M', Stp K H M H' M' → RelM K M' H' → WalkR K H' J ds G → R2 ds G M' → R J H'
abbrev PI2 (X : Cx) (W : WX) (tg it : Expr) (wi : TI2) : Prop := PI X tg it (liftI X.K W wi)
theorem pi_imp {tg it : Expr} {t t' : TI} (h : PI X tg it t) (hi : ∀ σ H R, t' σ H R → t σ H R) : PI X tg it t' := ⟨fun pins s σ H R I hw => h.run pins s σ H R I (hi _ _ _ hw)⟩
def for2 (wi : TI2) (g : TG2) (tb : TS2) : TS2 := fun D ρ M => wi D.ex ρ M fun ds G M1 => ∃ I : Nat → St2 → MP → Prop, I 0 ρ M1 ∧ (∀ i ρ M, i ≤ ds.length → I i ρ M → G M) ∧
  (∀ i d ρ M, ds[i]? = some d → I i ρ M → g d ρ M fun ρ' M' => tb { D with nx := I (i + 1), ct := I (i + 1), bk := D.nx } ρ' M') ∧ ∀ ρ M, I ds.length ρ M → D.nx ρ M
theorem psfor2 {tg iter : Expr} {body : List Stmt} {wi : TI2} {g : TG2} {sl : List Nat} {tb : TS2} (hp : PassesOwn (model X.prog X.w) X.A X.env X.xe) (hc : X.calm = true) (hi : PI2 X W tg iter wi) (hg : PG2 X tg sl g) (hb : PSs2 X W body tb) (hs : ∀ x, foldedSetIterable iter X.env x = pure x := by intro _; rfl) : PS2 X W (.For tg iter body [] pos) (for2 wi g tb) :=
  ps_imp (ps_for hp hc hi hg hb hs) fun D σ H ⟨ρ, M, D2, rs, rm, q, er⟩ => by
    refine ⟨ρ, M, _, D2.ex, rs, rm, q, er.ex, fun J H1 ds G M1 s1 m1 wr ⟨I, h0, hG, turn, fin⟩ => ?_⟩
    refine ⟨fun i m σ' H' => m = ds.length - i ∧ i ≤ ds.length ∧ ∃ ρ' M', RelS X.K H' ρ' σ' ∧ RelM X.K M' H' ∧ Stp X.K H1 M1 H' M' ∧ I i ρ' M', ⟨_, rfl, Nat.zero_le _, ρ, M1, s1.rels rs, m1, .refl, h0⟩, ?_⟩
    rintro i m σ' H' ⟨rfl, hi, ρ', M', rs', rm', s', hI⟩
    have hg' := hG i ρ' M' hi hI
    by_cases hlt : i < ds.length
    · refine .inr ⟨wr.goes i H' M' hlt s'.tk rm' hg', fun σ2 H2 => ∃ ρ' M', RelS X.K H2 ρ' σ2 ∧ RelM X.K M' H2 ∧ Stp X.K H1 M1 H2 M' ∧ I (i + 1) ρ' M', fun σ2 H2 h => ⟨_, by omega, rfl, hlt, h⟩, fun x H2 y => ?_⟩
      obtain ⟨d, hd, r2, s2, m2⟩ := wr.yields i H' M' x H2 hlt s'.tk rm' hg' y
      refine ⟨d, ρ', M', _, r2, s2.rels rs', m2, turn i d ρ' M' hd hI, fun ρ3 σ3 rs3 _ q3 => ⟨ρ3, M', _, rs3, m2, q3, ?_⟩⟩
      have go : SRel X.K H2 M' (I (i + 1)) (fun σ2 H2 => ∃ ρ' M', RelS X.K H2 ρ' σ2 ∧ RelM X.K M' H2 ∧ Stp X.K H1 M1 H2 M' ∧ I (i + 1) ρ' M') := fun ρ4 σ4 H4 M4 s4 rs4 rm4 h4 => ⟨ρ4, M4, rs4, rm4, (s'.trans s2).trans s4, h4⟩
      have e2 := er.step ((s1.trans s').trans s2)
      exact ⟨go, e2.rt, e2.nx, go, e2.ex⟩
    · have e : i = ds.length := by omega
      subst e
      exact .inl ⟨wr.stops H' M' s'.tk rm' hg', er.nx ρ' σ' H' M' (s1.trans s') rs' rm' (fin ρ' M' hI)⟩

/-! ### list comprehensions -/
abbrev E00 : XK2 := fun _ _ _ => False
abbrev W00 : WX := fun _ _ _ _ => False
theorem XRel.none {K : PySem.W.Frag} {W : WX} {H : Hp} {M : MP} : XRel K W H M E00 := fun _ _ _ _ _ _ _ _ z => z.elim
def lc2 (wi : TI2) (g : TG2) (tt : TT2) (te : TE2) (vs : List Nat) : TE2 := fun E ρ M Q => wi E ρ M fun ds G M1 => ds.length ≤ sizeLine ∧ ∃ I : Nat → List D → MP → Prop, I 0 [] M1 ∧ (∀ i acc M, i ≤ ds.length → I i acc M → G M) ∧
  (∀ i d acc M, ds[i]? = some d → I i acc M → g d (wipe2 ρ vs) M fun ρ' M' => tt E00 ρ' M' fun b M'' => if b = true then te E00 ρ' M'' fun y M3 => I (i + 1) (acc ++ [y]) M3 else I (i + 1) acc M'') ∧
  ∀ acc M, acc.length ≤ ds.length → I ds.length acc M → ∀ p, M p = none → Q (.ref p) (updM M p (.lst acc))
theorem Reps.snoc {K : PySem.W.Frag} {H : Hp} {d : D} {v : V} (r : Rep K H d v) {ds : List D} {vs : List V} (s : Reps K H ds vs) : Reps K H (ds ++ [d]) (vs ++ [v]) := Reps.append (show Reps K H [d] [v] from ⟨v, [], rfl, r, rfl⟩) s
/-- an object beside the store -/
theorem Stp.hid {K : PySem.W.Frag} {H H1 : Hp} {M M1 : MP} {p : Addr} {o : HO} (s : Stp K H M H1 M1) (hp : H p = none) (ht : NI H1 p) : Stp K H M (upd H1 p o) M1 :=
  ⟨fun a u e m => by rw [upd_ne (ne_of_none e hp)]; exact s.frm a u e m, fun a h => by
    by_cases q : a = p
    · subst q; rw [upd_same]; exact fun z => by cases z
    · rw [upd_ne q]; exact s.dom a h, s.new, s.tk.trans (sqT_upd ht)⟩
theorem RelM.hid {K : PySem.W.Frag} {H : Hp} {M : MP} {p : Addr} {o : HO} (r : RelM K M H) (hm : M p = none) (ht : NI H p) : RelM K M (upd H p o) := fun a u e => by
  have ne : a ≠ p := fun z => by subst z; rw [hm] at e; cases e
  exact RepO.mono (sqT_upd ht) (upd_ne ne) (r a u e)
theorem lst_notTup {H : Hp} {p : Addr} {vs : List V} (h : H p = some (.lst vs)) : NI H p := by
  refine ⟨fun ys => ?_, fun o ys z => ?_⟩
  · rintro (z | ⟨o, z⟩) <;> (rw [h] at z; cases z)
  · rw [h] at z; cases z
theorem RelS.hid {K : PySem.W.Frag} {H : Hp} {ρ : St2} {σ : L2.St} {p : Addr} {o : HO} (r : RelS K H ρ σ) (ht : NI H p) : RelS K (upd H p o) ρ σ := ⟨r.1, fun i d e => by
  obtain ⟨v, e1, r1⟩ := r.2 i d e
  exact ⟨v, e1, Rep.mono (sqT_upd ht) d v r1⟩⟩
theorem tk_new {K : PySem.W.Frag} {H : Hp} {p : Addr} {o : HO} (ht : NI H p) : Tk K H (upd H p o) := sqT_upd ht
theorem lc_lift {K : PySem.W.Frag} {wi : TI2} {g : TG2} {sl : List Nat} {tt : TT2} {te : TE2} {vs : List Nat} {σ : L2.St} {H : Hp} {ρ : St2} {M : MP} {Q2 : VK2} {E2 : XK2} {Q : VK} (hsl : ∀ i ∈ sl, i ∈ vs) (rs : RelS K H ρ σ) (rm : RelM K M H) (q : lc2 wi g tt te vs E2 ρ M Q2) (vr : VRel K H M Q2 Q) (xr : XRel K W H M E2) :
    tLc (liftI K W wi) (liftG K sl g) (liftT K W00 tt) (liftE K W00 te) vs σ H Q := by
  refine ⟨ρ, M, _, E2, rs, rm, q, xr, fun J H1 ds G M1 s1 m1 wr ⟨hz, I, h0, hG, turn, fin⟩ => ?_⟩
  intro D hD
  have hMD : M1 D = none := m1.free hD
  refine ⟨fun i m H' => m = ds.length - i ∧ i ≤ ds.length ∧ ∃ acc2 accV M', RelM K M' H' ∧ H' D = some (.lst accV) ∧ Reps K H' acc2 accV ∧ M' D = none ∧ I i acc2 M' ∧ Stp K H1 M1 H' M' ∧ acc2.length ≤ i, ⟨_, rfl, Nat.zero_le _, [], [], M1, m1.hid hMD (notRd_of_none hD), upd_same, rfl, hMD, h0, Stp.hid .refl hD (notRd_of_none hD), Nat.le_refl _⟩, ?_⟩
  rintro i m H' ⟨rfl, hi, acc2, accV, M', rm', hD', ra, hMD', hI, s', hl⟩
  have hg' := hG i acc2 M' hi hI
  by_cases hlt : i < ds.length
  · refine .inr ⟨wr.goes i H' M' hlt s'.tk rm' hg', fun H2 => ∃ acc2 accV M', RelM K M' H2 ∧ H2 D = some (.lst accV) ∧ Reps K H2 acc2 accV ∧ M' D = none ∧ I (i + 1) acc2 M' ∧ Stp K H1 M1 H2 M' ∧ acc2.length ≤ i + 1, fun H2 h => ⟨_, by omega, rfl, hlt, h⟩, fun x H2 y => ?_⟩
    obtain ⟨d, hd, r2, s2, m2⟩ := wr.yields i H' M' x H2 hlt s'.tk rm' hg' y
    have keepD : ∀ {H4 : Hp} {M4 : MP}, Stp K H' M' H4 M4 → H4 D = some (.lst accV) ∧ M4 D = none := fun {H4 M4} s4 => by
      refine ⟨s4.frm D _ hD' hMD', ?_⟩
      cases e : M4 D with
      | none => rfl
      | some o =>
        rcases s4.new D (by rw [e]; exact fun z => by cases z) with z | z
        · exact absurd hMD' z
        · rw [hD'] at z; cases z
    refine ⟨d, wipe2 ρ vs, M', _, r2, RelS.wipe (((s1.trans s').trans s2).rels rs) vs, m2, turn i d acc2 M' hd hI, fun ρ3 σ3 rs3 o3 q3 => ⟨?_, ?_⟩⟩
    · have e := o3 vs hsl
      rw [e]
      clear e q3
      have ww : ∀ (us : List Nat), (∀ i ∈ us, i ∈ vs) → L2.wipe (L2.wipe σ us) vs = L2.wipe σ vs := by
        intro us
        induction us with
        | nil => intro _; rfl
        | cons k us ih =>
          intro hk
          show L2.wipe ((L2.wipe σ us).set k none) vs = _
          rw [wipe_set (hk k List.mem_cons_self), ih (fun i hi => hk i (List.mem_cons_of_mem _ hi))]
      exact ww vs fun _ h => h
    · refine ⟨ρ3, M', _, E00, rs3, m2, q3, fun b H3 M3 s3 m3 q4 => ?_, .none⟩
      cases b with
      | false =>
        have st := s2.trans s3
        obtain ⟨k1, k2⟩ := keepD st
        exact ⟨acc2, accV, M3, m3, k1, st.reps ra, k2, q4, s'.trans st, by omega⟩
      | true =>
        refine ⟨ρ3, M3, _, E00, s3.rels rs3, m3, q4, fun v H4 dv M4 s4 r4 m4 q5 => ?_, .none⟩
        have st := (s2.trans s3).trans s4
        obtain ⟨k1, k2⟩ := keepD st
        have ra4 := st.reps ra
        have nt := lst_notTup k1
        refine ⟨accV, k1, ?_, acc2 ++ [dv], accV ++ [v], M4, m4.hid k2 nt, upd_same, Reps.mono (tk_new nt) _ _ (Reps.snoc r4 ra4), k2, q5, Stp.hid (s'.trans st) hD nt, by rw [List.length_append, List.length_singleton]; omega⟩
        rw [ra.length]; omega
  · have e : i = ds.length := by omega
    subst e
    refine .inl ⟨wr.stops H' M' s'.tk rm' hg', ?_⟩
    refine vr (.ref D) H' (.ref D) (updM M' D (.lst acc2)) ?_ rfl ?_ (fin acc2 M' hl hI D hMD')
    · have st := s1.trans s'
      have hD0 : H D = none := by
        cases e : H D with
        | none => rfl
        | some o => exact absurd hD (s1.dom D (by rw [e]; exact fun z => by cases z))
      exact ⟨st.frm, st.dom, fun a h => by
        by_cases z : a = D
        · subst z; exact .inr hD0
        · rw [updM_ne z] at h; exact st.new a h, st.tk⟩
    · intro a o ea
      by_cases z : a = D
      · subst z; rw [updM_same] at ea; cases ea; exact ⟨accV, hD', ra⟩
      · rw [updM_ne z] at ea; exact rm' a o ea
theorem plc2 {elt tg iter : Expr} {ifs : List Expr} {scope : Scope} {own : List (Str × Nat)} {vs : List Nat} {wi : TI2} {g : TG2} {sl : List Nat} {tt : TT2} {te : TE2} (hc : X.calm = true) (hN : X.N.Nodup) (hi : PI2 X W tg iter wi) (ok : BlkOk X.N X.env.scope scope own)
    (hg : ∀ (s : Shared) (H : Hp) (C : Addr) (cl : List (Str × Addr)) (fp : List Addr), PG2 (X.blk s H scope (compEnvC scope cl C X.env) fp) tg sl g) (ht : ∀ (s : Shared) (H : Hp) (C : Addr) (cl : List (Str × Addr)) (fp : List Addr), PTs (X.blk s H scope (compEnvC scope cl C X.env) fp) ifs (liftT X.K W00 tt))
    (he : ∀ (s : Shared) (H : Hp) (C : Addr) (cl : List (Str × Addr)) (fp : List Addr), PE2 (X.blk s H scope (compEnvC scope cl C X.env) fp) W00 elt te) (hsl : ∀ i ∈ sl, i ∈ vs) (hvs : own.map (·.2) = vs := by rfl) (hs : ∀ x, foldedSetIterable iter X.env x = pure x := by intro _; rfl) :
    PE2 X W (.ListComp elt [⟨tg, iter, ifs, 0⟩] scope pos) (lc2 wi g tt te vs) := by
  subst hvs
  exact pe_imp (pe_lc hc hN hi ok hg ht he hs) fun σ H Q ⟨ρ, M, Q2, E2, rs, rm, q, vr, xr⟩ => lc_lift hsl rs rm q vr xr
theorem pssetlc2 (i : Nat) {y : Str} {py : Pos} {elt tg iter : Expr} {ifs : List Expr} {scope : Scope} {own : List (Str × Nat)} {vs : List Nat} {spos : Pos} {wi : TI2} {g : TG2} {sl : List Nat} {tt : TT2} {te : TE2} (hc : X.calm = true) (hN : X.N.Nodup) (hi : PI2 X W tg iter wi) (ok : BlkOk X.N X.env.scope scope own)
    (hg : ∀ (s : Shared) (H : Hp) (C : Addr) (cl : List (Str × Addr)) (fp : List Addr), PG2 (X.blk s H scope (compEnvC scope cl C X.env) fp) tg sl g) (ht : ∀ (s : Shared) (H : Hp) (C : Addr) (cl : List (Str × Addr)) (fp : List Addr), PTs (X.blk s H scope (compEnvC scope cl C X.env) fp) ifs (liftT X.K W00 tt))
    (he : ∀ (s : Shared) (H : Hp) (C : Addr) (cl : List (Str × Addr)) (fp : List Addr), PE2 (X.blk s H scope (compEnvC scope cl C X.env) fp) W00 elt te) (hsl : ∀ i ∈ sl, i ∈ vs)
    (hsw : swapsWith (.ListComp elt [⟨tg, iter, ifs, 0⟩] scope pos) (some (.Name y py)) spos.line X.env = pure true) (hy : X.N[i]? = some y := by rfl) (hyl : X.env.scope.names.lookup y = some .local := by rfl) (hvs : own.map (·.2) = vs := by rfl) (hs : ∀ x, foldedSetIterable iter X.env x = pure x := by intro _; rfl) :
    PS2 X W (.Assign [.Name y py] (.ListComp elt [⟨tg, iter, ifs, 0⟩] scope pos) spos) (asg2 (lc2 wi g tt te vs) (gn2 i)) := by
  subst hvs
  exact ps_imp (ps_setLc hc hN hy hyl hsw hi ok hg ht he hs) fun D σ H ⟨ρ, M, D2, rs, rm, q, er⟩ =>
    lc_lift (Q := fun x H1 => gName i x σ H1 D.nx) hsl rs rm q (fun v H1 d M1 s1 r1 m1 q1 => er.nx _ _ H1 M1 s1 ((s1.rels rs).set r1 i) m1 q1) er.ex
def yes2 : TT2 := fun _ _ M Q => Q true M
theorem ptsnil2 : PTs X [] (liftT X.K W yes2) := ⟨fun pins s σ H Q I ⟨ρ, M, Q2, E2, rs, rm, q, vr, xr⟩ => pts_nil.run pins s σ H Q I (vr true H M .refl rm q)⟩
theorem ptsone2 {c : Expr} {t : TT2} (h : PT2 X W c t) : PTs X [c] (liftT X.K W t) := pts_one h

/-! ### a def's body -/
def start2 (N : List Str) (ds : List D) : St2 := ds.map some ++ List.replicate (N.length - ds.length) none
theorem RelS.start {K : PySem.W.Frag} {H : Hp} {N : List Str} {ds : List D} {vs : List V} (r : Reps K H ds vs) : RelS K H (start2 N ds) (L2.start N vs) := by
  have aux : ∀ (ds : List D) (vs : List V) (m : Nat), Reps K H ds vs → RelS K H (ds.map some ++ List.replicate m none) (vs.map some ++ List.replicate m none) := by
    intro ds
    induction ds with
    | nil =>
      intro vs m r
      simp only [Reps] at r
      subst r
      refine ⟨by simp, fun i d h => ?_⟩
      simp only [List.map_nil, List.nil_append, List.getElem?_replicate] at h
      split at h <;> cases h
    | cons d ds ih =>
      intro vs m r
      simp only [Reps] at r
      obtain ⟨v, q, rfl, r1, r2⟩ := r
      have z := ih q m r2
      refine ⟨by simpa using z.1, fun i e h => ?_⟩
      cases i with
      | zero =>
        simp at h
        subst h
        exact ⟨v, by simp, r1⟩
      | succ i =>
        obtain ⟨w, e1, r3⟩ := z.2 i e (by simpa using h)
        exact ⟨w, by simpa using e1, r3⟩
  unfold start2 L2.start
  rw [r.length]
  exact aux ds vs _ r
/-- a smaller knowledge -/
def SubM (A B : MP) : Prop := ∀ a o, A a = some o → B a = some o
theorem SubM.refl (A : MP) : SubM A A := fun _ _ h => h
theorem SubM.trans {A B C : MP} (h : SubM A B) (k : SubM B C) : SubM A C := fun a o e => k a o (h a o e)
theorem SubM.upd {A B : MP} {p : Addr} {o : MO} (h : SubM A B) (hp : A p = none) : SubM A (updM B p o) := fun a u e => by
  rw [updM_ne (fun z => by rw [z, hp] at e; cases e)]; exact h a u e
theorem SubM.upd2 {A B : MP} {p : Addr} {o : MO} (h : SubM A B) : SubM (updM A p o) (updM B p o) := fun a u e => by
  by_cases q : a = p
  · subst q; rw [updM_same] at e ⊢; exact e
  · rw [updM_ne q] at e ⊢; exact h a u e
theorem SubM.put {A B : MP} {p : Addr} {o : MO} (h : SubM A B) (hp : B p = some o) : SubM (updM A p o) B := fun a u e => by
  by_cases q : a = p
  · subst q; rw [updM_same] at e; rw [hp]; exact e
  · rw [updM_ne q] at e; exact h a u e
theorem SubM.none {A B : MP} {p : Addr} (h : SubM A B) (hp : B p = none) : A p = none := by
  cases e : A p with
  | none => rfl
  | some o => rw [h p o e] at hp; cases hp
/-- a def's ends: at each the knowledge may be made smaller -/
abbrev endsOf (Q : VK2) (E : Value → MP → Prop) : Ends2 := { nx := fun _ M' => ∃ M2, SubM M2 M' ∧ Q .non M2, rt := fun d M' => ∃ M2, SubM M2 M' ∧ Q d M2, bk := fun _ _ => False, ct := fun _ _ => False, ex := fun c _ M' => ∃ M2, SubM M2 M' ∧ E c M2 }
abbrev WD (E : XK) : WX := fun cls d _ H => E cls d H
theorem fnok2 {P : Program} {w : World} {K : PySem.W.Frag} {mg : Str → Option Value} {base : Heap} {x qual : Str} {st : Stmt} {f : Addr} {fd : FuncData} {N ps : List Str} {k : Nat} {sp : Sp2} {t : TS2} (F : Fun K x qual st f fd) (S : FnScope N ps (defScope st))
    (len : ∀ ds M Q E, sp ds M Q E → ds.length = ps.length)
    (hb : ∀ (cdv : Value) (A : Around) (outer : List Env) (s : Shared) (H : Hp) (E : XK), Room k (A.deeper (envOfC qual (defScope st) s.heap.objs.size f cdv)) → PSs2 (cxOf (L2.CX P w) P w K mg base N qual (defScope st) f cdv A outer s H E) (WD E) (defBody st) t)
    (hv : ∀ ds M Q E, sp ds M Q E → t (endsOf Q E) (start2 N ds) M) : FnOk P w K mg base (L2.CX P w) (k + 1) f fd ps (spOf K sp) := by
  refine F.okX S (fun vs H Q E h => ?_) fun cdv A outer s H vs Q E hr h => ?_
  · obtain ⟨ds, M, Q2, E2, r, _, h, _⟩ := h
    rw [r.length]
    exact len ds M Q2 E2 h
  · obtain ⟨ds, M, Q2, E2, r, rm, h, vr, er⟩ := h
    refine ⟨_, hb cdv A outer s H E hr, start2 N ds, M, _, RelS.start r, rm, hv ds M Q2 E2 h, ?_⟩
    exact ⟨fun ρ σ H' M' s' _ m' ⟨M2, sb, q'⟩ => vr .non H' .non M2 (s'.drop sb) rfl (m'.drop sb) q', fun v H' d M' s' r' m' ⟨M2, sb, q'⟩ => vr v H' d M2 (s'.drop sb) r' (m'.drop sb) q', fun _ _ _ _ _ _ _ z => z.elim, fun _ _ _ _ _ _ _ z => z.elim, fun c ρ σ H' M' s' _ m' ⟨M2, sb, e'⟩ => er c H' M2 (s'.drop sb) (m'.drop sb) e'⟩
end
end N2


namespace N2
open PySem PySem.Spec PyProof.Rows L2

/-! ### data as the library's == has it -/
mutual
def pyD : D → PyData
  | .non => .none
  | .bl b => .bool b
  | .int i => .int i
  | .str x => .str x
  | .tup xs => .tuple (pyDs xs)
  | .ref _ => .none
  | .ty _ => .none
  | .scr _ => .none
def pyDs : List D → List PyData
  | [] => []
  | d :: ds => pyD d :: pyDs ds
end
mutual
def pureD : Nat → D → Bool
  | _, .non => true
  | _, .bl _ => true
  | _, .int _ => true
  | _, .str x => PyData.strOk x
  | 0, .tup _ => false
  | n + 1, .tup xs => pureDs n xs
  | _, .ref _ => false
  | _, .ty _ => false
  | _, .scr _ => false
def pureDs : Nat → List D → Bool
  | _, [] => true
  | n, d :: ds => pureD n d && pureDs n ds
end
mutual
theorem pure_can : ∀ (n : Nat) (d : D), pureD n d = true → (pyD d).canLay0 = true
  | _, .non, _ => by simp [pyD, PyData.canLay0]
  | _, .bl _, _ => by simp [pyD, PyData.canLay0]
  | _, .int _, _ => by simp [pyD, PyData.canLay0]
  | _, .str x, h => by simp only [pyD, PyData.canLay0]; simpa [pureD] using h
  | 0, .tup _, h => by simp [pureD] at h
  | n + 1, .tup xs, h => by simp only [pyD, PyData.canLay0]; exact pure_cans n xs (by simpa [pureD] using h)
  | _, .ref _, h => by simp [pureD] at h
  | _, .ty _, h => by simp [pureD] at h
  | _, .scr _, h => by simp [pureD] at h
theorem pure_cans : ∀ (n : Nat) (ds : List D), pureDs n ds = true → PyData.canLayAll0 (pyDs ds) = true
  | _, [], _ => by simp [pyDs, PyData.canLayAll0]
  | n, d :: ds, h => by
    simp only [pureDs, Bool.and_eq_true] at h
    simp only [pyDs, PyData.canLayAll0, Bool.and_eq_true]
    exact ⟨pure_can n d h.1, pure_cans n ds h.2⟩
end
mutual
theorem pure_depth : ∀ (n : Nat) (d : D), pureD n d = true → (pyD d).depth ≤ n
  | _, .non, _ => by simp [pyD, PyData.depth]
  | _, .bl _, _ => by simp [pyD, PyData.depth]
  | _, .int _, _ => by simp [pyD, PyData.depth]
  | _, .str x, h => by simp [pyD, PyData.depth]
  | 0, .tup _, h => by simp [pureD] at h
  | n + 1, .tup xs, h => by
    simp only [pyD, PyData.depth]
    have := pure_depths n xs (by simpa [pureD] using h)
    omega
  | _, .ref _, h => by simp [pureD] at h
  | _, .ty _, h => by simp [pureD] at h
  | _, .scr _, h => by simp [pureD] at h
theorem pure_depths : ∀ (n : Nat) (ds : List D), pureDs n ds = true → PyData.depthAll (pyDs ds) ≤ n
  | _, [], _ => by simp [pyDs, PyData.depthAll]
  | n, d :: ds, h => by
    simp only [pureDs, Bool.and_eq_true] at h
    simp only [pyDs, PyData.depthAll]
    have a := pure_depth n d h.1
    have b := pure_depths n ds h.2
    omega
end
theorem pure_shaped {n : Nat} (hn : n ≤ 64) {d : D} (h : pureD n d = true) : SeqAt.shaped (pyD d) = true := by
  unfold SeqAt.shaped
  rw [pure_can n d h, decide_eq_true (Nat.le_trans (pure_depth n d h) hn)]; rfl
theorem pures_shaped {n : Nat} (hn : n + 1 ≤ 64) {ds : List D} (h : pureDs n ds = true) : SeqAt.shaped (.list (pyDs ds)) = true := by
  unfold SeqAt.shaped
  have b := pure_depths n ds h
  rw [show (PyData.list (pyDs ds)).canLay0 = PyData.canLayAll0 (pyDs ds) by simp only [PyData.canLay0], pure_cans n ds h, decide_eq_true (by simp only [PyData.depth]; omega)]; rfl
mutual
def IsP (M : MP) : PyData → D → Prop
  | .none, d => d = .non
  | .bool b, d => d = .bl b
  | .int i, d => d = .int i
  | .str x, d => d = .str x
  | .tuple ps, d => ∃ ds, d = .tup ds ∧ IsPs M ps ds
  | .list ps, d => ∃ a ds, d = .ref a ∧ M a = some (.lst ds) ∧ IsPs M ps ds
  | .dict _, _ => False
def IsPs (M : MP) : List PyData → List D → Prop
  | [], ds => ds = []
  | p :: ps, ds => ∃ d r, ds = d :: r ∧ IsP M p d ∧ IsPs M ps r
end
mutual
theorem pure_isP {M : MP} : ∀ (n : Nat) (d : D), pureD n d = true → IsP M (pyD d) d
  | _, .non, _ => by simp [pyD, IsP]
  | _, .bl _, _ => by simp [pyD, IsP]
  | _, .int _, _ => by simp [pyD, IsP]
  | _, .str x, h => by simp [pyD, IsP]
  | 0, .tup _, h => by simp [pureD] at h
  | n + 1, .tup xs, h => by simp only [pyD, IsP]; exact ⟨xs, rfl, pure_isPs n xs (by simpa [pureD] using h)⟩
  | _, .ref _, h => by simp [pureD] at h
  | _, .ty _, h => by simp [pureD] at h
  | _, .scr _, h => by simp [pureD] at h
theorem pure_isPs {M : MP} : ∀ (n : Nat) (ds : List D), pureDs n ds = true → IsPs M (pyDs ds) ds
  | _, [], _ => by simp [pyDs, IsPs]
  | n, d :: ds, h => by
    simp only [pureDs, Bool.and_eq_true] at h
    simp only [pyDs, IsPs]
    exact ⟨d, ds, rfl, pure_isP n d h.1, pure_isPs n ds h.2⟩
end
section
variable {K : PySem.W.Frag} {H : Hp} {M : MP}
mutual
theorem dp_of (rm : RelM K M H) : ∀ (p : PyData) (d : D) (v : V), IsP M p d → Rep K H d v → Dp K H v p
  | .none, d, v, h, r => by simp only [IsP] at h; subst h; simp only [Rep] at r; subst r; exact .non
  | .bool b, d, v, h, r => by simp only [IsP] at h; subst h; simp only [Rep] at r; subst r; exact .bl b
  | .int b, d, v, h, r => by simp only [IsP] at h; subst h; simp only [Rep] at r; subst r; exact .int b
  | .str b, d, v, h, r => by simp only [IsP] at h; subst h; simp only [Rep] at r; subst r; exact .str b
  | .tuple ps, d, v, h, r => by
    simp only [IsP] at h
    obtain ⟨ds, rfl, hs⟩ := h
    simp only [Rep] at r
    obtain ⟨a, vs, rfl, t, rs⟩ := r
    exact .tup t (dps_of rm ps ds vs hs rs)
  | .list ps, d, v, h, r => by
    simp only [IsP] at h
    obtain ⟨a, ds, rfl, hm, hs⟩ := h
    simp only [Rep] at r
    subst r
    obtain ⟨vs, e, rs⟩ := rm _ _ hm
    exact .lst (.of e) (dps_of rm ps ds vs hs rs)
  | .dict _, d, v, h, r => by simp only [IsP] at h
theorem dps_of (rm : RelM K M H) : ∀ (ps : List PyData) (ds : List D) (vs : List V), IsPs M ps ds → Reps K H ds vs → DpAll K H vs ps
  | [], ds, vs, h, r => by simp only [IsPs] at h; subst h; simp only [Reps] at r; subst r; exact .nil
  | p :: ps, ds, vs, h, r => by
    simp only [IsPs] at h
    obtain ⟨d, q, rfl, h1, h2⟩ := h
    simp only [Reps] at r
    obtain ⟨v, w, rfl, r1, r2⟩ := r
    exact .cons (dp_of rm p d v h1 r1) (dps_of rm ps q w h2 r2)
end
end

/-! ### arithmetic -/
def bAdd : R22 := fun x y M Q => match x, y with
  | .int i, .int j => Q (.int (i + j)) M
  | .str a, .str b => a.length + b.length ≤ sizeLine ∧ Q (.str (a ++ b)) M
  | .tup xs, .tup ys => xs.length + ys.length ≤ sizeLine ∧ Q (.tup (xs ++ ys)) M
  | .ref a, .ref b => ∃ xs ys, M a = some (.lst xs) ∧ M b = some (.lst ys) ∧ xs.length + ys.length ≤ sizeLine ∧ ∀ p, M p = none → Q (.ref p) (updM M p (.lst (xs ++ ys)))
  | _, _ => False
def rAddA (K : PySem.W.Frag) : R2 := fun x y H Q => (∃ i j, x = .int i ∧ y = .int j ∧ Q (.int (i + j)) H) ∨ (∃ i j, x = .str i ∧ y = .str j ∧ i.length + j.length ≤ sizeLine ∧ Q (.str (i ++ j)) H) ∨ rCatA K x y H Q ∨ rCat x y H Q
section
variable {X : Cx} {K : PySem.W.Frag}
theorem op_addA : OpR X (binaryOp .Add) (rAddA X.K) := OpR.or op_add (OpR.or op_add_str (OpR.or op_catA op_cat))
theorem addRel : OpRel K (rAddA K) bAdd := by
  intro x y d e H M Q Q2 rx ry rm h vr
  match d, e, h with
  | .int i, .int j, h => cases rx; cases ry; exact .inl ⟨i, j, rfl, rfl, vr _ H (.int (i + j)) M .refl rfl rm h⟩
  | .str a, .str b, h => cases rx; cases ry; exact .inr (.inl ⟨a, b, rfl, rfl, h.1, vr _ H (.str (a ++ b)) M .refl rfl rm h.2⟩)
  | .tup xs, .tup ys, h =>
    simp only [Rep] at rx ry
    obtain ⟨a, vs, rfl, ta, ra⟩ := rx
    obtain ⟨b, ws, rfl, tb, rb⟩ := ry
    refine .inr (.inr (.inl ⟨a, b, vs, ws, rfl, rfl, ta, tb, by rw [ra.length, rb.length]; exact h.1, fun e => ?_, fun _ e => ?_, fun _ _ p hp => ?_⟩))
    · subst e
      have : xs = [] := by cases xs with | nil => rfl | cons d ds => simp only [Reps] at ra; obtain ⟨v, q, z, _⟩ := ra; cases z
      subst this
      exact vr _ H (.tup ys) M .refl ⟨b, ws, rfl, tb, rb⟩ rm h.2
    · subst e
      have : ys = [] := by cases ys with | nil => rfl | cons d ds => simp only [Reps] at rb; obtain ⟨v, q, z, _⟩ := rb; cases z
      subst this
      exact vr _ H (.tup xs) M .refl ⟨a, vs, rfl, ta, ra⟩ rm (by rw [← List.append_nil xs]; exact h.2)
    · exact vr.tup rm (Reps.append rb ra) h.2 hp
  | .ref a, .ref b, h =>
    cases rx; cases ry
    obtain ⟨xs, ys, ha, hb, hz, q⟩ := h
    obtain ⟨vs, e1, r1⟩ := rm _ _ ha
    obtain ⟨ws, e2, r2⟩ := rm _ _ hb
    exact .inr (.inr (.inr ⟨a, b, vs, ws, rfl, rfl, e1, e2, by rw [r1.length, r2.length]; exact hz, fun p hp => vr.lst rm (Reps.append r2 r1) q hp⟩))
def bInt2 (C : Int → Int → Prop) (g : Int → Int → Int) : R22 := fun x y M Q => match x, y with
  | .int i, .int j => C i j ∧ Q (.int (g i j)) M
  | _, _ => False
theorem intRel {C : Int → Int → Prop} {g : Int → Int → Int} : OpRel K (rI C fun i j => .int (g i j)) (bInt2 C g) := by
  intro x y d e H M Q Q2 rx ry rm h vr
  match d, e, h with
  | .int i, .int j, h => cases rx; cases ry; exact ⟨i, j, rfl, rfl, h.1, vr _ H (.int (g i j)) M .refl rfl rm h.2⟩
theorem op_subC : OpR X (binaryOp .Sub) (rI (fun _ _ => True) fun i j => .int (i - j)) := fun pins s σ H x y v u Q I rx ry ⟨i, j, e1, e2, _, q⟩ => op_sub pins s σ H x y v u Q I rx ry ⟨i, j, e1, e2, q⟩
def bSub : R22 := bInt2 (fun _ _ => True) fun i j => i - j
def bMod : R22 := bInt2 (fun _ j => 0 < j) fun i j => i % j
def bFdiv : R22 := bInt2 CDivW fun i j => i / j
/-- a power whose bits are told -/
def CPowW (i j : Int) : Prop := 0 ≤ j ∧ (Builtin.Int.intBits i : Int) * j ≤ 2 ^ 27
theorem op_powW : OpR X (binaryOp .Pow) (rI CPowW fun i j => .int (i ^ j.toNat)) := opI fun _ _ _ _ _ _ _ hc q => pow_int hc.1 hc.2 q
theorem cpow {i j : Int} (k : Nat) (h0 : 0 ≤ j) (h : i.natAbs < 2 ^ k) (h2 : (k : Int) * j ≤ 2 ^ 27) : CPowW i j := by
  refine ⟨h0, ?_⟩
  have := intBits_le h
  have : (Builtin.Int.intBits i : Int) * j ≤ (k : Int) * j := Int.mul_le_mul_of_nonneg_right (by omega) h0
  omega
def bPow : R22 := bInt2 CPowW fun i j => i ^ j.toNat
/-- a product: of numbers; a list some times -/
def CMulA (i j : Int) : Prop := CMul i j ∨ CMulW i j
def bMul : R22 := fun x y M Q => match x, y with
  | .int i, .int j => CMulA i j ∧ Q (.int (i * j)) M
  | .ref a, .int k => ∃ xs, M a = some (.lst xs) ∧ 0 ≤ k ∧ k < 2 ^ 63 ∧ xs.length * k.toNat ≤ sizeLine ∧ ∀ p, M p = none → Q (.ref p) (updM M p (.lst (List.replicate k.toNat xs).flatten))
  | _, _ => False
theorem op_mulA : OpR X (binaryOp .Mult) (fun x y H Q => rI CMul (fun i j => .int (i * j)) x y H Q ∨ rI CMulW (fun i j => .int (i * j)) x y H Q ∨ rRep x y H Q) := OpR.or op_mul (OpR.or op_mulW op_rep)
end
end N2


namespace N2
open PySem PySem.Spec PyProof.Rows L2
section
variable {X : Cx} {K : PySem.W.Frag} {H : Hp} {M : MP}
theorem reps_flatten : ∀ (n : Nat) {ds : List D} {vs : List V}, Reps K H ds vs → Reps K H (List.replicate n ds).flatten (List.replicate n vs).flatten
  | 0, _, _, _ => rfl
  | n + 1, ds, vs, r => by
    rw [List.replicate_succ, List.replicate_succ, List.flatten_cons, List.flatten_cons]
    exact Reps.append (reps_flatten n r) r
theorem mulRel : OpRel K (fun x y H Q => rI CMul (fun i j => .int (i * j)) x y H Q ∨ rI CMulW (fun i j => .int (i * j)) x y H Q ∨ rRep x y H Q) bMul := by
  intro x y d e H M Q Q2 rx ry rm h vr
  match d, e, h with
  | .int i, .int j, h =>
    cases rx; cases ry
    rcases h.1 with c | c
    · exact .inl ⟨i, j, rfl, rfl, c, vr _ H (.int (i * j)) M .refl rfl rm h.2⟩
    · exact .inr (.inl ⟨i, j, rfl, rfl, c, vr _ H (.int (i * j)) M .refl rfl rm h.2⟩)
  | .ref a, .int k, h =>
    cases rx; cases ry
    obtain ⟨xs, ha, h0, h1, hz, q⟩ := h
    obtain ⟨vs, e1, r1⟩ := rm _ _ ha
    exact .inr (.inr ⟨a, k, vs, rfl, rfl, e1, by omega, h1, by rw [r1.length]; exact hz, fun p hp => vr.lst rm (reps_flatten k.toNat r1) q hp⟩)
/-! ### == and != -/
def scalD : D → D → Option Bool
  | .non, .non => some true | .non, .int _ => some false | .int _, .non => some false | .non, .bl _ => some false | .bl _, .non => some false | .non, .str _ => some false | .str _, .non => some false
  | .int i, .int j => some (i == j) | .bl a, .bl b => some (a == b) | .str a, .str b => some (a == b)
  | .int _, .str _ => some false | .str _, .int _ => some false | .bl _, .str _ => some false | .str _, .bl _ => some false
  | _, _ => none
theorem scal_of {x y : V} {d e : D} {b : Bool} (rx : Rep K H d x) (ry : Rep K H e y) (h : scalD d e = some b) : scal x y = true ∧ decide (x = y) = b := by
  cases d <;> cases e <;> simp only [scalD] at h <;> first | (cases h; done) | skip
  all_goals
    simp only [Rep] at rx ry
    subst rx ry
    cases h
  all_goals first
    | exact ⟨rfl, dec_int⟩
    | exact ⟨rfl, dec_bl⟩
    | exact ⟨rfl, dec_str⟩
    | exact ⟨rfl, by simp⟩
def bEq : R22 := fun x y M Q => match scalD x y with
  | some b => Q (.bl b) M
  | none => ∃ p q, IsP M p x ∧ IsP M q y ∧ SeqAt.shaped p = true ∧ SeqAt.shaped q = true ∧ Q (.bl (PyData.eqv p q)) M
def bNe : R22 := fun x y M Q => bEq x y M fun v M' => match v with | .bl b => Q (.bl (!b)) M' | _ => False
theorem eqRel : OpRel K (fun x y H Q => rEq x y H Q ∨ rEqD K x y H Q) bEq := by
  intro x y d e H M Q Q2 rx ry rm h vr
  unfold bEq at h
  cases hs : scalD d e with
  | some b =>
    rw [hs] at h
    obtain ⟨h1, h2⟩ := scal_of rx ry hs
    exact .inl ⟨h1, by rw [h2]; exact vr _ H (.bl b) M .refl rfl rm h⟩
  | none =>
    rw [hs] at h
    obtain ⟨p, q, hp, hq, s1, s2, h⟩ := h
    exact .inr ⟨p, q, dp_of rm p d x hp rx, dp_of rm q e y hq ry, s1, s2, vr _ H (.bl _) M .refl rfl rm h⟩
theorem neRel : OpRel K (fun x y H Q => rNe x y H Q ∨ rNeD K x y H Q) bNe := by
  intro x y d e H M Q Q2 rx ry rm h vr
  unfold bNe bEq at h
  cases hs : scalD d e with
  | some b =>
    rw [hs] at h
    obtain ⟨h1, h2⟩ := scal_of rx ry hs
    exact .inl ⟨h1, by rw [h2]; exact vr _ H (.bl (!b)) M .refl rfl rm h⟩
  | none =>
    rw [hs] at h
    obtain ⟨p, q, hp, hq, s1, s2, h⟩ := h
    exact .inr ⟨p, q, dp_of rm p d x hp rx, dp_of rm q e y hq ry, s1, s2, vr _ H (.bl _) M .refl rfl rm h⟩
theorem op_eqA (hu : X.A.units + 64 < cLine) : OpR X (compareOp .Eq) (fun x y H Q => rEq x y H Q ∨ rEqD X.K x y H Q) := OpR.or op_eq (op_eqD hu)
theorem op_neA (hu : X.A.units + 64 < cLine) : OpR X (compareOp .NotEq) (fun x y H Q => rNe x y H Q ∨ rNeD X.K x y H Q) := OpR.or op_ne (op_neD hu)

/-! ### order -/
def bOrd (p : Int → Int → Bool) (q : List Nat → List Nat → Bool) : R22 := fun x y M Q => match x, y with
  | .int i, .int j => Q (.bl (p i j)) M
  | .str i, .str j => Q (.bl (q i.cps.toList j.cps.toList)) M
  | _, _ => False
theorem ordRel {p : Int → Int → Bool} {q : List Nat → List Nat → Bool} : OpRel K (fun x y H Q => rI0 (fun i j => .bl (p i j)) x y H Q ∨ ∃ i j, x = .str i ∧ y = .str j ∧ Q (.bl (q i.cps.toList j.cps.toList)) H) (bOrd p q) := by
  intro x y d e H M Q Q2 rx ry rm h vr
  match d, e, h with
  | .int i, .int j, h => cases rx; cases ry; exact .inl ⟨i, j, rfl, rfl, vr _ H (.bl _) M .refl rfl rm h⟩
  | .str i, .str j, h => cases rx; cases ry; exact .inr ⟨i, j, rfl, rfl, vr _ H (.bl _) M .refl rfl rm h⟩
abbrev bLt : R22 := bOrd (fun i j => decide (i < j)) fun i j => decide (i < j)
abbrev bLe : R22 := bOrd (fun i j => decide (i ≤ j)) fun i j => !decide (j < i)
abbrev bGt : R22 := bOrd (fun i j => decide (j < i)) fun i j => decide (j < i)
abbrev bGe : R22 := bOrd (fun i j => decide (j ≤ i)) fun i j => !decide (i < j)
theorem op_ltA : OpR X (compareOp .Lt) (fun x y H Q => rI0 (fun i j => .bl (decide (i < j))) x y H Q ∨ ∃ i j, x = .str i ∧ y = .str j ∧ Q (.bl (decide (i.cps.toList < j.cps.toList))) H) := OpR.or op_lt op_lt_str
theorem op_leA : OpR X (compareOp .LtE) (fun x y H Q => rI0 (fun i j => .bl (decide (i ≤ j))) x y H Q ∨ ∃ i j, x = .str i ∧ y = .str j ∧ Q (.bl (!decide (j.cps.toList < i.cps.toList))) H) := OpR.or op_le op_le_str
theorem op_gtA : OpR X (compareOp .Gt) (fun x y H Q => rI0 (fun i j => .bl (decide (j < i))) x y H Q ∨ ∃ i j, x = .str i ∧ y = .str j ∧ Q (.bl (decide (j.cps.toList < i.cps.toList))) H) := OpR.or op_gt op_gt_str
theorem op_geA : OpR X (compareOp .GtE) (fun x y H Q => rI0 (fun i j => .bl (decide (j ≤ i))) x y H Q ∨ ∃ i j, x = .str i ∧ y = .str j ∧ Q (.bl (!decide (i.cps.toList < j.cps.toList))) H) := OpR.or op_ge op_ge_str

/-! ### is None -/
def isNonD : D → Bool | .non => true | _ => false
theorem isNon_of {x : V} {d : D} (r : Rep K H d x) : decide (x = .non) = isNonD d := by
  cases d <;> simp only [Rep] at r
  case tup => obtain ⟨a, vs, rfl, _⟩ := r; rfl
  case scr => obtain ⟨a, vs, rfl, _⟩ := r; rfl
  all_goals (subst r; rfl)
def bIs : R22 := fun x y M Q => match y with | .non => Q (.bl (isNonD x)) M | _ => False
def bIsNot : R22 := fun x y M Q => match y with | .non => Q (.bl (!isNonD x)) M | _ => False
theorem isRel : OpRel K (fun x y H Q => y = .non ∧ Q (.bl (decide (x = .non))) H) bIs := by
  intro x y d e H M Q Q2 rx ry rm h vr
  match e, h with
  | .non, h => cases ry; exact ⟨rfl, by rw [isNon_of rx]; exact vr _ H (.bl _) M .refl rfl rm h⟩
theorem isNotRel : OpRel K (fun x y H Q => y = .non ∧ Q (.bl (!decide (x = .non))) H) bIsNot := by
  intro x y d e H M Q Q2 rx ry rm h vr
  match e, h with
  | .non, h => cases ry; exact ⟨rfl, by rw [isNon_of rx]; exact vr _ H (.bl _) M .refl rfl rm h⟩

/-! ### in: a sign of a text, an item of a list or a tuple -/
def bIn (neg : Bool) : R22 := fun x y M Q => match y with
  | .str z => ∃ c, x = .str ⟨#[c]⟩ ∧ Q (.bl (if neg then !decide (c ∈ z.cps.toList) else decide (c ∈ z.cps.toList))) M
  | .ref a => ∃ p ps, IsP M p x ∧ IsP M (.list ps) (.ref a) ∧ SeqAt.shaped p = true ∧ SeqAt.shaped (.list ps) = true ∧ Q (.bl (if neg then !(ps.any fun z => PyData.eqv z p) else ps.any fun z => PyData.eqv z p)) M
  | _ => False
theorem inRel : OpRel K (fun x y H Q => (∃ (c : Nat) (z : Str), x = .str ⟨#[c]⟩ ∧ y = .str z ∧ Q (.bl (decide (c ∈ z.cps.toList))) H) ∨ rInD K x y H Q) (bIn false) := by
  intro x y d e H M Q Q2 rx ry rm h vr
  match e, h with
  | .str z, ⟨c, ec, hq⟩ => subst ec; cases rx; cases ry; exact .inl ⟨c, z, rfl, rfl, vr _ H (.bl _) M .refl rfl rm hq⟩
  | .ref a, ⟨p, ps, h1, h2, s1, s2, h⟩ => exact .inr ⟨p, ps, dp_of rm p d x h1 rx, dp_of rm (.list ps) (.ref a) y h2 ry, s1, s2, vr _ H (.bl _) M .refl rfl rm h⟩
theorem notInRel : OpRel K (fun x y H Q => (∃ (c : Nat) (z : Str), x = .str ⟨#[c]⟩ ∧ y = .str z ∧ Q (.bl (!decide (c ∈ z.cps.toList))) H) ∨ rNotInD K x y H Q) (bIn true) := by
  intro x y d e H M Q Q2 rx ry rm h vr
  match e, h with
  | .str z, ⟨c, ec, hq⟩ => subst ec; cases rx; cases ry; exact .inl ⟨c, z, rfl, rfl, vr _ H (.bl _) M .refl rfl rm hq⟩
  | .ref a, ⟨p, ps, h1, h2, s1, s2, h⟩ => exact .inr ⟨p, ps, dp_of rm p d x h1 rx, dp_of rm (.list ps) (.ref a) y h2 ry, s1, s2, vr _ H (.bl _) M .refl rfl rm h⟩
theorem op_inA (hu : X.A.units + 65 < cLine) : OpR X (compareOp .In) (fun x y H Q => (∃ (c : Nat) (z : Str), x = .str ⟨#[c]⟩ ∧ y = .str z ∧ Q (.bl (decide (c ∈ z.cps.toList))) H) ∨ rInD X.K x y H Q) := OpR.or op_in_sign (op_inD hu)
theorem op_notInA (hu : X.A.units + 65 < cLine) : OpR X (compareOp .NotIn) (fun x y H Q => (∃ (c : Nat) (z : Str), x = .str ⟨#[c]⟩ ∧ y = .str z ∧ Q (.bl (!decide (c ∈ z.cps.toList))) H) ∨ rNotInD X.K x y H Q) := OpR.or op_notIn_sign (op_notInD hu)

/-! ### a[i] -/
theorem Reps.get : ∀ {ds : List D} {vs : List V} {i : Nat} {d : D}, Reps K H ds vs → ds[i]? = some d → ∃ v, vs[i]? = some v ∧ Rep K H d v
  | [], _, _, _, _, e => by simp at e
  | d :: ds, _, 0, _, r, e => by
    simp only [Reps] at r
    obtain ⟨v, q, rfl, r1, _⟩ := r
    cases e
    exact ⟨v, rfl, r1⟩
  | d :: ds, _, i + 1, _, r, e => by
    simp only [Reps] at r
    obtain ⟨v, q, rfl, _, r2⟩ := r
    obtain ⟨w, h1, h2⟩ := Reps.get (i := i) r2 (by simpa using e)
    exact ⟨w, by simpa using h1, h2⟩
theorem Reps.at {ds : List D} {vs : List V} {i : Int} {d : D} (r : Reps K H ds vs) (e : atI ds i = some d) : ∃ v, atI vs i = some v ∧ Rep K H d v := by
  unfold atI at e ⊢
  rw [r.length]
  cases h : ixN ds.length i with
  | none => rw [h] at e; cases e
  | some j => rw [h] at e; exact r.get e
def bIx : R22 := fun x y M Q => match y with
  | .int i => (match x with
    | .tup xs => ∃ d, atI xs i = some d ∧ Q d M
    | .scr xs => ∃ d, atI xs i = some d ∧ Q d M
    | .ref a => ∃ xs d, M a = some (.lst xs) ∧ atI xs i = some d ∧ Q d M
    | .str z => ∃ c, z.length ≤ sizeLine ∧ atI z.cps.toList i = some c ∧ Q (.str ⟨#[c]⟩) M
    | _ => False)
  | _ => False
theorem ixRel : OpRel K (rIx K) bIx := by
  intro x y d e H M Q Q2 rx ry rm h vr
  match e, d, h with
  | .int i, .tup xs, ⟨g, hg, h⟩ =>
    cases ry
    simp only [Rep] at rx
    obtain ⟨a, vs, rfl, t, rs⟩ := rx
    obtain ⟨v, h1, h2⟩ := rs.at hg
    exact .inr (.inl ⟨a, vs, i, v, rfl, rfl, t, h1, vr v H g M .refl h2 rm h⟩)
  | .int i, .ref a, ⟨xs, g, hm, hg, h⟩ =>
    cases rx; cases ry
    obtain ⟨vs, e1, rs⟩ := rm _ _ hm
    obtain ⟨v, h1, h2⟩ := rs.at hg
    exact .inl ⟨a, vs, i, v, rfl, rfl, .of e1, h1, vr v H g M .refl h2 rm h⟩
  | .int i, .scr xs, ⟨g, hg, h⟩ =>
    cases ry
    simp only [Rep] at rx
    obtain ⟨a, vs, rfl, t, rs⟩ := rx
    obtain ⟨v, h1, h2⟩ := rs.at hg
    exact .inl ⟨a, vs, i, v, rfl, rfl, t.l, h1, vr v H g M .refl h2 rm h⟩
  | .int i, .str z, ⟨c, hz, hc, h⟩ =>
    cases rx; cases ry
    exact .inr (.inr ⟨z, i, c, rfl, rfl, hz, hc, vr _ H (.str _) M .refl rfl rm h⟩)

/-! ### slices -/
abbrev TO2 := XK2 → St2 → MP → (Option Int → MP → Prop) → Prop
def liftO (K : PySem.W.Frag) (W : WX) (t : TO2) : TO := fun σ H Q => ∃ ρ M Q2 E2, RelS K H ρ σ ∧ RelM K M H ∧ t E2 ρ M Q2 ∧ (∀ o H' M', Stp K H M H' M' → RelM K M' H' → Q2 o M' → Q o H') ∧ XRel K W H M E2
abbrev PO2 (X : Cx) (W : WX) (e : Option Expr) (t : TO2) : Prop := PO X e (liftO X.K W t)
theorem po_imp {e : Option Expr} {t t' : TO} (h : PO X e t) (hi : ∀ σ H Q, t' σ H Q → t σ H Q) : PO X e t' := ⟨fun pins s σ H Q I hw => h.run pins s σ H Q I (hi σ H Q hw)⟩
def onone2 : TO2 := fun _ _ M Q => Q none M
def kO (Q : Option Int → MP → Prop) : VK2 := fun x M1 => match x with | .int i => Q (some i) M1 | _ => False
def osome2 (t : TE2) : TO2 := fun E ρ M Q => t E ρ M (kO Q)
theorem ponone2 {W : WX} : PO2 X W none onone2 := po_imp po_none fun σ H Q ⟨ρ, M, Q2, E2, rs, rm, q, vr, xr⟩ => vr none H M .refl rm q
theorem posome2 {W : WX} {e : Expr} {te : TE2} (h : PE2 X W e te) : PO2 X W (some e) (osome2 te) := po_imp (po_some h) fun σ H Q ⟨ρ, M, Q2, E2, rs, rm, q, vr, xr⟩ =>
  ⟨ρ, M, _, E2, rs, rm, q, fun v H1 d M1 s1 r1 m1 q1 => by
    match d, q1 with
    | .int i, q1 => cases r1; exact ⟨i, rfl, vr (some i) H1 M1 s1 m1 q1⟩, xr⟩
def cutD (xs : List D) (lo hi : Option Int) : List D := (xs.drop (HT.sIx xs.length 0 lo)).take (HT.sIx xs.length xs.length hi - HT.sIx xs.length 0 lo)
theorem Reps.take : ∀ {ds : List D} {vs : List V} (n : Nat), Reps K H ds vs → Reps K H (ds.take n) (vs.take n)
  | _, _, 0, _ => by rw [List.take_zero, List.take_zero]; rfl
  | [], _, n + 1, r => by simp only [Reps] at r; subst r; rfl
  | d :: ds, _, n + 1, r => by
    simp only [Reps] at r
    obtain ⟨v, q, rfl, r1, r2⟩ := r
    exact ⟨v, q.take n, rfl, r1, Reps.take n r2⟩
theorem Reps.drop : ∀ {ds : List D} {vs : List V} (n : Nat), Reps K H ds vs → Reps K H (ds.drop n) (vs.drop n)
  | _, _, 0, r => r
  | [], _, n + 1, r => by simp only [Reps] at r; subst r; rfl
  | d :: ds, _, n + 1, r => by
    simp only [Reps] at r
    obtain ⟨v, q, rfl, r1, r2⟩ := r
    exact Reps.drop n r2
theorem Reps.cut {ds : List D} {vs : List V} (lo hi : Option Int) (r : Reps K H ds vs) : Reps K H (cutD ds lo hi) (cutV vs lo hi) := by
  unfold cutD cutV
  rw [r.length]
  exact (r.drop _).take _
theorem cutD_whole {xs : List D} {lo hi : Option Int} (h : HT.sIx xs.length 0 lo = 0 ∧ HT.sIx xs.length xs.length hi = xs.length) : cutD xs lo hi = xs := by
  unfold cutD
  rw [h.1, h.2, List.drop_zero, Nat.sub_zero, List.take_length]
abbrev RSl2 := D → Option Int → Option Int → MP → VK2 → Prop
def bSl : RSl2 := fun x lo hi M Q => match x with
  | .tup xs => Q (.tup (cutD xs lo hi)) M
  | .scr xs => ∀ p, M p = none → Q (.ref p) (updM M p (.lst (cutD xs lo hi)))
  | .ref a => ∃ xs, M a = some (.lst xs) ∧ ∀ p, M p = none → Q (.ref p) (updM M p (.lst (cutD xs lo hi)))
  | .str z => z.length ≤ sizeLine ∧ Q (.str (cutS z lo hi)) M
  | _ => False
def sl2 (r : RSl2) (te : TE2) (tl th : TO2) : TE2 := fun E ρ M Q => te E ρ M fun x M1 => tl E ρ M1 fun l M2 => th E ρ M2 fun u M3 => r x l u M3 Q
def rSlAll (K : PySem.W.Frag) : V → Option Int → Option Int → Hp → VK → Prop := fun x lo hi H Q => rSlA K x lo hi H Q ∨ rSlL K x lo hi H Q ∨ rSlS x lo hi H Q
theorem sl_all : SlR X (rSlAll X.K) := SlR.or sl_tupA (SlR.or sl_list sl_str)
theorem psl2 {W : WX} {e : Expr} {te : TE2} {lo hi : Option Expr} {tl th : TO2} {pos p2 : Pos} (he : PE2 X W e te) (hl : PO2 X W lo tl) (hu : PO2 X W hi th) : PE2 X W (.Subscript e (.Slice lo hi none p2) pos) (sl2 bSl te tl th) :=
  pe_imp (pe_slice sl_all he hl hu) fun σ H Q ⟨ρ, M, Q2, E2, rs, rm, q, vr, xr⟩ => ⟨ρ, M, _, E2, rs, rm, q, fun x H1 d M1 s1 r1 m1 q1 => ⟨ρ, M1, _, E2, s1.rels rs, m1, q1, fun l H2 M2 s2 m2 q2 =>
    ⟨ρ, M2, _, E2, (s1.trans s2).rels rs, m2, q2, fun u H3 M3 s3 m3 q3 => by
      have r3 := (s2.trans s3).rep r1
      have vr3 := vr.step ((s1.trans s2).trans s3)
      match d, q3, r3 with
      | .tup xs, q3, r3 =>
        simp only [Rep] at r3
        obtain ⟨a, vs, rfl, t, rv⟩ := r3
        refine .inl ⟨a, vs, rfl, t, fun hw => ?_, fun _ p hp => vr3.tup m3 (rv.cut l u) q3 hp⟩
        rw [rv.length] at hw
        exact vr3 _ H3 (.tup (cutD xs l u)) M3 .refl (by rw [cutD_whole hw]; exact ⟨a, vs, rfl, t, rv⟩) m3 q3
      | .ref a, ⟨xs, hm, q3⟩, r3 =>
        cases r3
        obtain ⟨vs, e1, rv⟩ := m3 _ _ hm
        exact .inr (.inl ⟨a, vs, rfl, .of e1, fun p hp => vr3.lst m3 (rv.cut l u) q3 hp⟩)
      | .scr xs, q3, r3 =>
        simp only [Rep] at r3
        obtain ⟨a, vs, rfl, t, rv⟩ := r3
        exact .inr (.inl ⟨a, vs, rfl, t.l, fun p hp => vr3.lst m3 (rv.cut l u) q3 hp⟩)
      | .str z, q3, r3 =>
        cases r3
        exact .inr (.inr ⟨z, rfl, q3.1, vr3 _ H3 (.str (cutS z l u)) M3 .refl rfl m3 q3.2⟩), (xr.step s1).step s2⟩, xr.step s1⟩, xr⟩
theorem Reps.reverse : ∀ {ds : List D} {vs : List V}, Reps K H ds vs → Reps K H ds.reverse vs.reverse
  | [], _, r => by simp only [Reps] at r; subst r; rfl
  | d :: ds, _, r => by
    simp only [Reps] at r
    obtain ⟨v, q, rfl, r1, r2⟩ := r
    rw [List.reverse_cons, List.reverse_cons]
    exact Reps.snoc r1 (Reps.reverse r2)
/-- xs[::-1] -/
def kRev (Q : VK2) : VK2 := fun x M1 => match x with
  | .ref a => ∃ xs, M1 a = some (.lst xs) ∧ ∀ p, M1 p = none → Q (.ref p) (updM M1 p (.lst xs.reverse))
  | _ => False
def rev2 (te : TE2) : TE2 := fun E ρ M Q => te E ρ M (kRev Q)
theorem prev2 {W : WX} {e : Expr} {te : TE2} {k : Nat} {p1 p2 p3 pos : Pos} (he : PE2 X W e te) : PE2 X W (.Subscript e (.Slice none none (some (.UnaryOp .USub (.Constant (.int 1) k p1) p2)) p3) pos) (rev2 te) :=
  pe_imp (pe_revL he) fun σ H Q ⟨ρ, M, Q2, E2, rs, rm, q, vr, xr⟩ => ⟨ρ, M, _, E2, rs, rm, q, fun x H1 d M1 s1 r1 m1 q1 => by
    match d, q1, r1 with
    | .ref a, ⟨xs, hm, q1⟩, r1 =>
      cases r1
      obtain ⟨vs, e1, rv⟩ := m1 _ _ hm
      exact ⟨a, vs, rfl, .of e1, fun p hp => (vr.step s1).lst m1 rv.reverse q1 hp⟩, xr⟩
end
end N2


namespace N2
open PySem PySem.Spec PyProof.Rows L2
section
variable {X : Cx} {K : PySem.W.Frag} {H : Hp} {M : MP} {W : WX}
theorem Reps.set {d : D} {v : V} (rd : Rep K H d v) : ∀ {ds : List D} {vs : List V} (i : Nat), Reps K H ds vs → Reps K H (ds.set i d) (vs.set i v)
  | [], _, i, r => by simp only [Reps] at r; subst r; rfl
  | e :: ds, _, 0, r => by
    simp only [Reps] at r
    obtain ⟨w, q, rfl, r1, r2⟩ := r
    exact ⟨v, q, rfl, rd, r2⟩
  | e :: ds, _, i + 1, r => by
    simp only [Reps] at r
    obtain ⟨w, q, rfl, r1, r2⟩ := r
    exact ⟨w, q.set i v, rfl, r1, Reps.set rd i r2⟩
theorem Reps.erase : ∀ {ds : List D} {vs : List V} (i : Nat), Reps K H ds vs → Reps K H (ds.eraseIdx i) (vs.eraseIdx i)
  | [], _, i, r => by simp only [Reps] at r; subst r; rfl
  | e :: ds, _, 0, r => by
    simp only [Reps] at r
    obtain ⟨w, q, rfl, r1, r2⟩ := r
    exact r2
  | e :: ds, _, i + 1, r => by
    simp only [Reps] at r
    obtain ⟨w, q, rfl, r1, r2⟩ := r
    exact ⟨w, q.eraseIdx i, rfl, r1, Reps.erase i r2⟩
theorem Reps.dropLast : ∀ {ds : List D} {vs : List V}, Reps K H ds vs → Reps K H ds.dropLast vs.dropLast
  | [], _, r => by simp only [Reps] at r; subst r; rfl
  | [d], _, r => by
    simp only [Reps] at r
    obtain ⟨v, q, rfl, r1, rfl⟩ := r
    rfl
  | d :: e :: ds, _, r => by
    obtain ⟨v, q, rfl, r1, r2⟩ := r
    obtain ⟨v', q', rfl, r3, r4⟩ := r2
    exact ⟨v, (v' :: q').dropLast, rfl, r1, Reps.dropLast (ds := e :: ds) (vs := v' :: q') ⟨v', q', rfl, r3, r4⟩⟩
/-- the list at a is another one -/
theorem MRel.lst {Q2 : MP → Prop} {Q : Hp → Prop} (mr : MRel K H M Q2 Q) (rm : RelM K M H) {a : Addr} {xs ys : List D} {ws vs : List V} (hm : M a = some (.lst xs)) (e : H a = some (.lst vs)) (r : Reps K H ys ws) (q : Q2 (updM M a (.lst ys))) : Q (upd H a (.lst ws)) := by
  have nt := lst_notTup e
  have s : Stp K H M (upd H a (.lst ws)) (updM M a (.lst ys)) := .put rm nt (.inl (by rw [hm]; exact fun z => by cases z))
  exact mr _ _ s (rm.put nt ⟨ws, upd_same, s.reps r⟩) q
theorem VRel.mrel {Q2 : VK2} {Q : VK} {v : V} {d : D} (vr : VRel K H M Q2 Q) (hr : ∀ H', Rep K H' d v) : MRel K H M (Q2 d) (Q v) := fun H' M' s m q => vr v H' d M' s (hr H') m q
/-! ### xs[i] = v -/
def bSet : TSet2 := fun o i v M Q => match o, i with
  | .ref a, .int k => ∃ xs j, M a = some (.lst xs) ∧ ixN xs.length k = some j ∧ Q (updM M a (.lst (xs.set j v)))
  | _, _ => False
theorem setRel : SetRel K rSetL bSet := by
  intro o i v do_ di dv H M Q Q2 ro ri rv rm h mr
  match do_, di, h with
  | .ref a, .int k, ⟨xs, j, hm, hj, h⟩ =>
    cases ro; cases ri
    obtain ⟨vs, e, r⟩ := rm _ _ hm
    exact ⟨a, vs, k, j, rfl, rfl, e, by rw [r.length]; exact hj, mr.lst rm hm e (Reps.set rv j r) h⟩
/-! ### methods of lists -/
abbrev RMt2 := D → List D → MP → VK2 → Prop
def MtRel (K : PySem.W.Frag) (T : String) (r : V → List V → Hp → VK → Prop) (r2 : RMt2) : Prop := ∀ x d xs ds H M Q Q2, Rep K H d x → Reps K H ds xs → RelM K M H → r2 d ds M Q2 → VRel K H M Q2 Q → r x xs H Q
/-- of which type the receiver is -/
def tyD (M : MP) : D → String → Prop
  | .str _, T => T = "str"
  | .ref a, T => (T = "list" ∧ ∃ xs, M a = some (.lst xs)) ∨ (T = "dict" ∧ ∃ kvs, M a = some (.dK kvs)) ∨ (T = "set" ∧ ∃ S n, M a = some (.iset S n))
  | _, _ => False
theorem tyV_of {T : String} {d : D} {x : V} (rm : RelM K M H) (r : Rep K H d x) (h : tyD M d T) : tyV K T x H := by
  match d, h with
  | .str z, h => cases r; exact h
  | .ref a, h =>
    cases r
    rcases h with ⟨rfl, xs, h⟩ | ⟨rfl, kvs, h⟩ | ⟨rfl, S, n, h⟩
    · obtain ⟨vs, e, _⟩ := rm _ _ h
      exact .inl ⟨rfl, vs, .of e⟩
    · obtain ⟨vs, e, _⟩ := rm _ _ h
      exact .inr (.inr (.inl ⟨rfl, .inl ⟨vs, e⟩⟩))
    · exact .inr (.inr (.inr ⟨rfl, S, n, rm _ _ h⟩))
def meth2 (T : String) (r : RMt2) (to : TE2) (t : TA2) : TE2 := fun E ρ M Q => to E ρ M fun x M1 => tyD M1 x T ∧ t E ρ M1 fun ds M2 => r x ds M2 Q
def meth02 (T : String) (r : RMt2) (to : TE2) : TE2 := fun E ρ M Q => to E ρ M fun x M1 => tyD M1 x T ∧ r x [] M1 Q
variable {o e : Expr} {es : List Expr} {to : TE2} {t : TA2} {name : Str} {apos cpos : Pos} {T id : String} {r : V → List V → Hp → VK → Prop} {r2 : RMt2}
theorem pmeth02 (pa : PlainAttrs T) (slot : Slot T name id) (hty : typeOf (.builtin id) = pure (.type "method_descriptor")) (hm : MtR X id r) (hr : MtRel X.K T r r2) (ho : PE2 X W o to)
    (hbase : attributeBase o name X.env (eval o X.env) = eval o X.env := by rfl) (hline : (apos.endLine == cpos.line) = true := by rfl) : PE2 X W (.Call (.Attribute o name apos) [] [] cpos) (meth02 T r2 to) :=
  pe_imp (pe_bm0 pa slot hty hm ho hbase hline) fun σ H Q ⟨ρ, M, Q2, E2, rs, rm, q, vr, xr⟩ => ⟨ρ, M, _, E2, rs, rm, q, fun x H1 d M1 s1 r1 m1 q1 => ⟨tyV_of m1 r1 q1.1, hr x d [] [] H1 M1 Q Q2 r1 rfl m1 q1.2 (vr.step s1)⟩, xr⟩
theorem pmeth2 (pa : PlainAttrs T) (slot : Slot T name id) (hty : typeOf (.builtin id) = pure (.type "method_descriptor")) (hm : MtR X id r) (hr : MtRel X.K T r r2) (ho : PE2 X W o to) (ha : PA2 X W (e :: es) t)
    (hbase : attributeBase o name X.env (eval o X.env) = eval o X.env := by rfl)
    (hfew : ((backTo cpos (starEach (e :: es) X.env)).all (fun x => !x.1) && (backToKw cpos (keywordEach [] X.env)).all (fun x => x.1.isSome)
      && decide ((e :: es).length + ([] : List Keyword).length + (if ([] : List Keyword).isEmpty then 0 else 1) < 30)) = true := by rfl)
    (hline : (apos.endLine == cpos.line) = true := by rfl) (hs : starEach (e :: es) X.env = (false, eval e X.env) :: starEach es X.env := by rfl) (hplain : (backTo cpos (starEach es X.env)).any (·.1) = false := by rfl) : PE2 X W (.Call (.Attribute o name apos) (e :: es) [] cpos) (meth2 T r2 to t) :=
  pe_imp (pe_bm pa slot hty hm ho ha hbase hfew hline hs hplain) fun σ H Q ⟨ρ, M, Q2, E2, rs, rm, q, vr, xr⟩ => ⟨ρ, M, _, E2, rs, rm, q, fun x H1 d M1 s1 r1 m1 q1 => ⟨tyV_of m1 r1 q1.1, ρ, M1, _, E2, s1.rels rs, m1, q1.2, fun xs H2 ds M2 s2 r2' m2 q2 =>
    hr x d xs ds H2 M2 Q Q2 (s2.rep r1) r2' m2 q2 ((vr.step s1).step s2), xr.step s1⟩, xr⟩
def mAppend : RMt2 := fun x ds M Q => match x, ds with
  | .ref a, [d] => ∃ xs, M a = some (.lst xs) ∧ xs.length < sizeLine ∧ Q .non (updM M a (.lst (xs ++ [d])))
  | _, _ => False
theorem appendRel : MtRel K "list" rAppend mAppend := by
  intro x d xs ds H M Q Q2 rx rs rm h vr
  match d, ds, h with
  | .ref a, [d], ⟨ys, hm, hz, h⟩ =>
    cases rx
    obtain ⟨v, q, rfl, r1, rfl⟩ := rs
    obtain ⟨vs, e, r⟩ := rm _ _ hm
    exact ⟨a, vs, v, rfl, rfl, e, by rw [r.length]; exact hz, (VRel.mrel (v := .non) (d := .non) vr (fun _ => rfl)).lst rm hm e (Reps.snoc r1 r) h⟩
def mPop : RMt2 := fun x ds M Q => match x, ds with
  | .ref a, [] => ∃ xs d, M a = some (.lst xs) ∧ xs[xs.length - 1]? = some d ∧ Q d (updM M a (.lst xs.dropLast))
  | _, _ => False
theorem popRel : MtRel K "list" rPop mPop := by
  intro x d xs ds H M Q Q2 rx rs rm h vr
  match d, ds, h with
  | .ref a, [], ⟨ys, y, hm, hy, h⟩ =>
    cases rx
    simp only [Reps] at rs
    subst rs
    obtain ⟨vs, e, r⟩ := rm _ _ hm
    obtain ⟨v, h1, h2⟩ := r.get hy
    have nt := lst_notTup e
    have s : Stp K H M (upd H a (.lst vs.dropLast)) (updM M a (.lst ys.dropLast)) := .put rm nt (.inl (by rw [hm]; exact fun z => by cases z))
    exact ⟨a, vs, v, rfl, rfl, e, by rw [r.length]; exact h1, vr v _ y _ s (s.rep h2) (rm.put nt ⟨_, upd_same, s.reps r.dropLast⟩) h⟩
def mPopAt : RMt2 := fun x ds M Q => match x, ds with
  | .ref a, [.int i] => ∃ xs k d, M a = some (.lst xs) ∧ ixN xs.length i = some k ∧ xs.length ≤ sizeLine ∧ xs[k]? = some d ∧ Q d (updM M a (.lst (xs.eraseIdx k)))
  | _, _ => False
theorem popAtRel : MtRel K "list" rPopAt mPopAt := by
  intro x d xs ds H M Q Q2 rx rs rm h vr
  match d, ds, h with
  | .ref a, [.int i], ⟨ys, k, y, hm, hk, hz, hy, h⟩ =>
    cases rx
    obtain ⟨v, q, rfl, r1, rfl⟩ := rs
    cases r1
    obtain ⟨vs, e, r⟩ := rm _ _ hm
    obtain ⟨v, h1, h2⟩ := r.get hy
    have nt := lst_notTup e
    have s : Stp K H M (upd H a (.lst (vs.eraseIdx k))) (updM M a (.lst (ys.eraseIdx k))) := .put rm nt (.inl (by rw [hm]; exact fun z => by cases z))
    obtain ⟨g1, g2, g3, g4⟩ := ixN_seq hk
    have hl := line63
    exact ⟨a, vs, i, k, v, rfl, rfl, e, by omega, by omega, by rw [r.length]; exact g1, h1, vr v _ y _ s (s.rep h2) (rm.put nt ⟨_, upd_same, s.reps (r.erase k)⟩) h⟩
def mPopA : RMt2 := fun x ds M Q => match ds with | [] => mPop x ds M Q | _ => mPopAt x ds M Q
def mReverse : RMt2 := fun x ds M Q => match x, ds with
  | .ref a, [] => ∃ xs, M a = some (.lst xs) ∧ Q .non (updM M a (.lst xs.reverse))
  | _, _ => False
theorem reverseRel : MtRel K "list" rReverse mReverse := by
  intro x d xs ds H M Q Q2 rx rs rm h vr
  match d, ds, h with
  | .ref a, [], ⟨ys, hm, h⟩ =>
    cases rx
    simp only [Reps] at rs
    subst rs
    obtain ⟨vs, e, r⟩ := rm _ _ hm
    exact ⟨a, vs, rfl, rfl, e, (VRel.mrel (v := .non) (d := .non) vr (fun _ => rfl)).lst rm hm e r.reverse h⟩
def mClear : RMt2 := fun x ds M Q => match x, ds with
  | .ref a, [] => ∃ xs, M a = some (.lst xs) ∧ Q .non (updM M a (.lst []))
  | _, _ => False
theorem clearRel : MtRel K "list" rClear mClear := by
  intro x d xs ds H M Q Q2 rx rs rm h vr
  match d, ds, h with
  | .ref a, [], ⟨ys, hm, h⟩ =>
    cases rx
    simp only [Reps] at rs
    subst rs
    obtain ⟨vs, e, r⟩ := rm _ _ hm
    exact ⟨a, vs, rfl, rfl, e, (VRel.mrel (v := .non) (d := .non) vr (fun _ => rfl)).lst rm hm e (show Reps K H [] [] from rfl) h⟩
def mExtend : RMt2 := fun x ds M Q => match x, ds with
  | .ref a, [.ref b] => ∃ xs ys, M a = some (.lst xs) ∧ M b = some (.lst ys) ∧ xs.length + ys.length ≤ sizeLine ∧ Q .non (updM M a (.lst (xs ++ ys)))
  | _, _ => False
theorem extendRel : MtRel K "list" rExtend mExtend := by
  intro x d xs ds H M Q Q2 rx rs rm h vr
  match d, ds, h with
  | .ref a, [.ref b], ⟨ys, zs, hm, hb, hz, h⟩ =>
    cases rx
    obtain ⟨v, q, rfl, r1, rfl⟩ := rs
    cases r1
    obtain ⟨vs, e, r⟩ := rm _ _ hm
    obtain ⟨ws, e2, r2⟩ := rm _ _ hb
    exact ⟨a, b, vs, ws, rfl, rfl, e, e2, by rw [r.length, r2.length]; exact hz, (VRel.mrel (v := .non) (d := .non) vr (fun _ => rfl)).lst rm hm e (Reps.append r2 r) h⟩
def mInsert : RMt2 := fun x ds M Q => match x, ds with
  | .ref a, [.int i, d] => ∃ xs, M a = some (.lst xs) ∧ xs.length < sizeLine ∧ 0 ≤ i ∧ i < 2 ^ 63 ∧ Q .non (updM M a (.lst (xs.take i.toNat ++ [d] ++ xs.drop i.toNat)))
  | _, _ => False
def rInsert : V → List V → Hp → VK → Prop := fun x vs H Q => ∃ (l : Addr) (xs : List V) (i : Int) (y : V), x = .ref l ∧ vs = [.int i, y] ∧ H l = some (.lst xs) ∧ xs.length < sizeLine ∧ 0 ≤ i ∧ i < 2 ^ 63 ∧
    Q .non (upd H l (.lst (xs.take i.toNat ++ [y] ++ xs.drop i.toNat)))
theorem insertRel : MtRel K "list" rInsert mInsert := by
  intro x d xs ds H M Q Q2 rx rs rm h vr
  match d, ds, h with
  | .ref a, [.int i, d], ⟨ys, hm, hz, h0, h1, h⟩ =>
    cases rx
    obtain ⟨v, q, rfl, r1, r2⟩ := rs
    obtain ⟨w, q', rfl, r3, rfl⟩ := r2
    cases r1
    obtain ⟨vs, e, r⟩ := rm _ _ hm
    exact ⟨a, vs, i, w, rfl, rfl, e, by rw [r.length]; exact hz, h0, h1, (VRel.mrel (v := .non) (d := .non) vr (fun _ => rfl)).lst rm hm e (Reps.append (r.drop _) (Reps.snoc r3 (r.take _))) h⟩

/-! ### built-ins -/
def typeD (M : MP) : D → Option String
  | .non => some "NoneType" | .bl _ => some "bool" | .int _ => some "int" | .str _ => some "str" | .tup _ => some "tuple"
  | .ref a => (match M a with
    | some (.lst _) => some "list" | some (.dK _) => some "dict" | some (.fz _ _) => some "dict" | some (.iset _ _) => some "set" | _ => none)
  | .ty _ => none
  | .scr _ => some "list"
def tysL : List String := ["NoneType", "bool", "int", "str", "tuple", "list", "dict", "set"]
def isiT (t c : String) : Option Bool := if t ∈ tysL ∧ c ∈ tysL.tail then some (t == c || (t == "bool" && c == "int")) else none
theorem isiT_ok : ∀ t ∈ tysL, ∀ c ∈ tysL.tail, kitB t c = some (t == c || (t == "bool" && c == "int")) := by decide +kernel
theorem isi_kit {t c : String} {b : Bool} (h : isiT t c = some b) : kitB t c = some b := by
  unfold isiT at h
  by_cases q : t ∈ tysL ∧ c ∈ tysL.tail
  · rw [if_pos q] at h
    rw [isiT_ok t q.1 c q.2]; exact h
  · rw [if_neg q] at h; cases h
theorem typ_of {d : D} {x : V} {t : String} (rm : RelM K M H) (r : Rep K H d x) (h : typeD M d = some t) : TyX K H x (.type t) := by
  match d, h with
  | .non, h => cases r; cases h; exact .base .non
  | .bl b, h => cases r; cases h; exact .base (.bl b)
  | .int b, h => cases r; cases h; exact .base (.int b)
  | .str b, h => cases r; cases h; exact .base (.str b)
  | .tup ds, h =>
    simp only [Rep] at r
    obtain ⟨a, vs, rfl, tt, _⟩ := r
    cases h
    rcases tt with (z | ⟨o, z⟩) | ⟨o, its, n, z, hc, _⟩
    · exact .base (.tup z)
    · exact .fTuple z
    · exact .kTuple z hc
  | .scr ds, h =>
    simp only [Rep] at r
    obtain ⟨a, vs, rfl, tt, _⟩ := r
    cases h
    rcases tt with ⟨o, z⟩ | ⟨o, its, n, z, hc, _⟩
    · exact .base (.frz z)
    · exact .kList z hc
  | .ref a, h =>
    cases r
    have h' : (match M a with
      | some (.lst _) => some "list" | some (.dK _) => some "dict" | some (.fz _ _) => some "dict" | some (.iset _ _) => some "set" | _ => none) = some t := h
    clear h
    split at h'
    · rename_i e; cases h'; obtain ⟨vs, z, _⟩ := rm _ _ e; exact .base (.lst z)
    · rename_i e; cases h'; obtain ⟨vs, z, _⟩ := rm _ _ e; exact .base (.dK z)
    · rename_i e; cases h'; obtain ⟨vs, z, _⟩ := rm _ _ e; exact .fDict z
    · rename_i e; cases h'; exact .set (rm _ _ e)
    · cases h'
/-- isinstance(x, T), isinstance(x, (T, U)) of built-in types -/
def bIsi : RC2 := fun ds M Q => match ds with
  | [x, .ty c] => ∃ t b, typeD M x = some t ∧ isiT t c = some b ∧ Q (.bl b) M
  | [x, .tup [.ty c, .ty c']] => ∃ t b b', typeD M x = some t ∧ isiT t c = some b ∧ isiT t c' = some b' ∧ Q (.bl (b || b')) M
  | _ => False
/-- isinstance(x, (c1, c2, ..)), the tuple wherever it stands -/
def rIsiS (K : PySem.W.Frag) : List V → Hp → VK → Prop := fun xs H Q => ∃ (x : V) (tp : Addr) (cs : List V) (t : Value) (us : List Value) (b : Bool), xs = [x, .ref tp] ∧ SqT K H tp cs ∧ Paired ClsV cs us ∧ TyX K H x t ∧ PySem.W.kitAny K t us = some b ∧ Q (.bl b) H
theorem call_isiS : CallR X (.builtin "isinstance") (rIsiS X.K) := by
  intro pins s σ H xs us Q I r h
  obtain ⟨x, tp, cs, t, ws, b, rfl, hT, k, ty, e, q⟩ := h
  obtain ⟨u1, u2, rfl, r1, r2⟩ := vals2 r
  cases (show u2 = Value.ref tp from r2)
  obtain ⟨P, Z, p, hx⟩ := kit_of I r1 ty
  obtain ⟨its, rv, ⟨o, h1, h2, n, h3⟩, _⟩ := I.tuple hT
  have e3 := ClsV.all k rv
  subst e3
  obtain ⟨oc, od, dt, sl⟩ := o
  simp only at h2 h3
  subst h2 h3
  exact PySem.W.kia_tup Z I.kIn p h1 e hx fun tk => ⟨.bl b, H, I.tok tk, rfl, q⟩
def rIsiAll (K : PySem.W.Frag) : List V → Hp → VK → Prop := fun xs H Q => rIsi K xs H Q ∨ rIsiS K xs H Q
theorem call_isiA : CallR X (.builtin "isinstance") (rIsiAll X.K) := CallR.or call_isi call_isiS
theorem isiRel : CallRel K (rIsiAll K) bIsi := by
  intro xs ds H M Q Q2 rs rm h vr
  match ds, h with
  | [d, .ty c], ⟨t, b, ht, hb, h⟩ =>
    obtain ⟨v, q, rfl, r1, r2⟩ := rs
    obtain ⟨w, q', rfl, r3, rfl⟩ := r2
    cases r3
    exact .inl ⟨v, .ty c, .type t, .type c, b, rfl, .ty c, typ_of rm r1 ht, kit_ty (isi_kit hb), vr _ H (.bl b) M .refl rfl rm h⟩
  | [d, .tup [.ty c, .ty c']], ⟨t, b, b', ht, hb, hb', h⟩ =>
    obtain ⟨v, q, rfl, r1, r2⟩ := rs
    obtain ⟨w, q', rfl, r3, rfl⟩ := r2
    simp only [Rep, Reps] at r3
    obtain ⟨a, vs, rfl, t3, w1, q1, rfl, rfl, w2, q2, rfl, rfl, rfl⟩ := r3
    refine .inr ⟨v, a, [.ty c, .ty c'], .type t, [.type c, .type c'], b || b', rfl, t3, .cons (.ty c) (.cons (.ty c') .nil), typ_of rm r1 ht, ?_, vr _ H (.bl _) M .refl rfl rm h⟩
    refine kitAny_cons (kit_ty (isi_kit hb)) (fun e => ?_) (fun e => by rw [e]; rfl)
    rw [e, Bool.false_or]
    exact kitAny_cons (kit_ty (isi_kit hb')) (fun e => by rw [e]; exact kitAny_nil) (fun e => e)
/-- len -/
def bLen : RC2 := fun ds M Q => match ds with
  | [.tup xs] => Q (.int xs.length) M
  | [.str z] => z.length ≤ sizeLine ∧ Q (.int z.length) M
  | [.scr xs] => Q (.int xs.length) M
  | [.ref a] => (∃ xs, M a = some (.lst xs) ∧ Q (.int xs.length) M) ∨ ∃ kvs, (M a = some (.dK kvs) ∨ ∃ o, M a = some (.fz o kvs)) ∧ Q (.int kvs.length) M
  | _ => False
def rLenA (K : PySem.W.Frag) : List V → Hp → VK → Prop := fun xs H Q => (∃ x n, xs = [x] ∧ LenV K x H n ∧ Q (.int n) H) ∨ ∃ a kvs, xs = [.ref a] ∧ Rd H a (.dK kvs) ∧ Q (.int kvs.length) H
theorem call_lenDK : CallR X (.builtin "len") (fun xs H Q => ∃ a kvs, xs = [.ref a] ∧ Rd H a (.dK kvs) ∧ Q (.int kvs.length) H) := by
  intro pins s σ H xs us Q I r h
  obtain ⟨a, kvs, rfl, hd, q⟩ := h
  obtain ⟨u, rfl, rx⟩ := vals1 r
  cases rx
  exact d_len I hd fun t s' I' => ⟨.int _, H, I', ⟨_, rfl⟩, q⟩
theorem call_lenA : CallR X (.builtin "len") (rLenA X.K) := CallR.or call_len call_lenDK
theorem lenRel : CallRel K (rLenA K) bLen := by
  intro xs ds H M Q Q2 rs rm h vr
  match ds, h with
  | [.tup xs], h =>
    simp only [Reps, Rep] at rs
    obtain ⟨v, q, rfl, ⟨a, vs, rfl, t, r⟩, rfl⟩ := rs
    exact .inl ⟨_, vs.length, rfl, .inr ⟨vs, t, rfl⟩, by rw [r.length]; exact vr _ H (.int _) M .refl rfl rm h⟩
  | [.scr xs], h =>
    simp only [Reps, Rep] at rs
    obtain ⟨v, q, rfl, ⟨a, vs, rfl, t, r⟩, rfl⟩ := rs
    exact .inl ⟨_, vs.length, rfl, .inl ⟨vs, t.l, rfl⟩, by rw [r.length]; exact vr _ H (.int _) M .refl rfl rm h⟩
  | [.str z], h =>
    simp only [Reps, Rep] at rs
    obtain ⟨v, q, rfl, rfl, rfl⟩ := rs
    exact .inl ⟨_, z.length, rfl, ⟨h.1, rfl⟩, vr _ H (.int _) M .refl rfl rm h.2⟩
  | [.ref a], h =>
    simp only [Reps, Rep] at rs
    obtain ⟨v, q, rfl, rfl, rfl⟩ := rs
    rcases h with ⟨xs, hm, h⟩ | ⟨kvs, hm | ⟨o, hm⟩, h⟩
    · obtain ⟨vs, e, r⟩ := rm _ _ hm
      exact .inl ⟨_, vs.length, rfl, .inl ⟨vs, .of e, rfl⟩, by rw [r.length]; exact vr _ H (.int _) M .refl rfl rm h⟩
    · obtain ⟨vs, e, r⟩ := rm _ _ hm
      exact .inr ⟨a, vs, rfl, .inl e, by rw [r.length]; exact vr _ H (.int _) M .refl rfl rm h⟩
    · obtain ⟨vs, e, r⟩ := rm _ _ hm
      exact .inr ⟨a, vs, rfl, .inr ⟨o, e⟩, by rw [r.length]; exact vr _ H (.int _) M .refl rfl rm h⟩
/-- max(i, j), min(i, j) -/
def bMax : RC2 := fun ds M Q => match ds with | [.int i, .int j] => Q (.int (max i j)) M | _ => False
def bMin : RC2 := fun ds M Q => match ds with | [.int i, .int j] => Q (.int (min i j)) M | _ => False
theorem maxRel : CallRel K (fun xs H Q => ∃ i j, xs = [.int i, .int j] ∧ Q (.int (if j > i then j else i)) H) bMax := by
  intro xs ds H M Q Q2 rs rm h vr
  match ds, h with
  | [.int i, .int j], h =>
    obtain ⟨v, q, rfl, r1, r2⟩ := rs
    obtain ⟨w, q', rfl, r3, rfl⟩ := r2
    cases r1; cases r3
    refine ⟨i, j, rfl, ?_⟩
    have e : (if j > i then j else i) = max i j := by rw [Int.max_def]; split <;> split <;> omega
    rw [e]; exact vr _ H (.int _) M .refl rfl rm h
theorem minRel : CallRel K (fun xs H Q => ∃ i j, xs = [.int i, .int j] ∧ Q (.int (if j < i then j else i)) H) bMin := by
  intro xs ds H M Q Q2 rs rm h vr
  match ds, h with
  | [.int i, .int j], h =>
    obtain ⟨v, q, rfl, r1, r2⟩ := rs
    obtain ⟨w, q', rfl, r3, rfl⟩ := r2
    cases r1; cases r3
    refine ⟨i, j, rfl, ?_⟩
    have e : (if j < i then j else i) = min i j := by rw [Int.min_def]; split <;> split <;> omega
    rw [e]; exact vr _ H (.int _) M .refl rfl rm h
/-- int(i), int(b) -/
def bInt : RC2 := fun ds M Q => match ds with | [.int i] => Q (.int i) M | [.bl b] => Q (.int (if b then 1 else 0)) M | _ => False
theorem intcRel : CallRel K (fun xs H Q => (∃ i, xs = [.int i] ∧ Q (.int i) H) ∨ ∃ k, xs = [.bl k] ∧ Q (.int (if k then 1 else 0)) H) bInt := by
  intro xs ds H M Q Q2 rs rm h vr
  match ds, h with
  | [.int i], h =>
    obtain ⟨v, q, rfl, r1, rfl⟩ := rs
    cases r1
    exact .inl ⟨i, rfl, vr _ H (.int i) M .refl rfl rm h⟩
  | [.bl i], h =>
    obtain ⟨v, q, rfl, r1, rfl⟩ := rs
    cases r1
    exact .inr ⟨i, rfl, vr _ H (.int _) M .refl rfl rm h⟩
/-- list(xs), list(t); tuple(xs), tuple(t) -/
def bList : RC2 := fun ds M Q => match ds with
  | [.tup xs] => ∀ p, M p = none → Q (.ref p) (updM M p (.lst xs))
  | [.scr xs] => ∀ p, M p = none → Q (.ref p) (updM M p (.lst xs))
  | [.ref a] => ∃ xs, M a = some (.lst xs) ∧ ∀ p, M p = none → Q (.ref p) (updM M p (.lst xs))
  | _ => False
theorem listRel : CallRel K (fun xs H Q => ∃ p ys, xs = [.ref p] ∧ (SqL K H p ys ∨ SqT K H p ys) ∧ ∀ l, H l = none → Q (.ref l) (upd H l (.lst ys))) bList := by
  intro xs ds H M Q Q2 rs rm h vr
  match ds, h with
  | [.tup xs], h =>
    simp only [Reps, Rep] at rs
    obtain ⟨v, q, rfl, ⟨a, vs, rfl, t, r⟩, rfl⟩ := rs
    exact ⟨a, vs, rfl, .inr t, fun p hp => vr.lst rm r h hp⟩
  | [.ref a], ⟨xs, hm, h⟩ =>
    simp only [Reps, Rep] at rs
    obtain ⟨v, q, rfl, rfl, rfl⟩ := rs
    obtain ⟨vs, e, r⟩ := rm _ _ hm
    exact ⟨a, vs, rfl, .inl (.of e), fun p hp => vr.lst rm r h hp⟩
  | [.scr xs], h =>
    simp only [Reps, Rep] at rs
    obtain ⟨v, q, rfl, ⟨a, vs, rfl, t, r⟩, rfl⟩ := rs
    exact ⟨a, vs, rfl, .inl t.l, fun p hp => vr.lst rm r h hp⟩
def bTuple : RC2 := fun ds M Q => match ds with
  | [.tup xs] => Q (.tup xs) M
  | [.scr xs] => Q (.tup xs) M
  | [.ref a] => ∃ xs, M a = some (.lst xs) ∧ Q (.tup xs) M
  | _ => False
theorem tupleRel : CallRel K (fun xs H Q => ∃ p ys, xs = [.ref p] ∧ ((SqL K H p ys ∧ ∀ l, H l = none → Q (.ref l) (upd H l (.tup ys))) ∨ (SqT K H p ys ∧ Q (.ref p) H))) bTuple := by
  intro xs ds H M Q Q2 rs rm h vr
  match ds, h with
  | [.tup xs], h =>
    simp only [Reps, Rep] at rs
    obtain ⟨v, q, rfl, ⟨a, vs, rfl, t, r⟩, rfl⟩ := rs
    exact ⟨a, vs, rfl, .inr ⟨t, vr _ H (.tup xs) M .refl ⟨a, vs, rfl, t, r⟩ rm h⟩⟩
  | [.ref a], ⟨xs, hm, h⟩ =>
    simp only [Reps, Rep] at rs
    obtain ⟨v, q, rfl, rfl, rfl⟩ := rs
    obtain ⟨vs, e, r⟩ := rm _ _ hm
    exact ⟨a, vs, rfl, .inl ⟨.of e, fun p hp => vr.tup rm r h hp⟩⟩
  | [.scr xs], h =>
    simp only [Reps, Rep] at rs
    obtain ⟨v, q, rfl, ⟨a, vs, rfl, t, r⟩, rfl⟩ := rs
    exact ⟨a, vs, rfl, .inl ⟨t.l, fun p hp => vr.tup rm r h hp⟩⟩
/-- all, any of a list of truths -/
def bAll (f : List Bool → Bool) : RC2 := fun ds M Q => match ds with
  | [.ref a] => ∃ bs, M a = some (.lst (bs.map D.bl)) ∧ Q (.bl (f bs)) M
  | _ => False
theorem reps_bls : ∀ {bs : List Bool} {vs : List V}, Reps K H (bs.map D.bl) vs → vs = bs.map V.bl
  | [], _, r => by simpa [Reps] using r
  | b :: bs, _, r => by
    simp only [List.map_cons, Reps, Rep] at r
    obtain ⟨v, q, rfl, rfl, r2⟩ := r
    rw [reps_bls r2]; rfl
theorem reps_ints : ∀ {bs : List Int} {vs : List V}, Reps K H (bs.map D.int) vs → vs = bs.map V.int
  | [], _, r => by simpa [Reps] using r
  | b :: bs, _, r => by
    simp only [List.map_cons, Reps, Rep] at r
    obtain ⟨v, q, rfl, rfl, r2⟩ := r
    rw [reps_ints r2]; rfl
theorem reps_strs : ∀ {bs : List Str} {vs : List V}, Reps K H (bs.map D.str) vs → vs = bs.map V.str
  | [], _, r => by simpa [Reps] using r
  | b :: bs, _, r => by
    simp only [List.map_cons, Reps, Rep] at r
    obtain ⟨v, q, rfl, rfl, r2⟩ := r
    rw [reps_strs r2]; rfl
theorem rm_sql {a : Addr} {xs : List D} (rm : RelM K M H) (h : M a = some (.lst xs)) : ∃ vs, SqL K H a vs ∧ Reps K H xs vs := by
  obtain ⟨vs, e, r⟩ := rm _ _ h
  exact ⟨vs, .of e, r⟩
theorem allRel : CallRel K (rAll K) (bAll fun bs => bs.all _root_.id) := by
  intro xs ds H M Q Q2 rs rm h vr
  match ds, h with
  | [.ref a], ⟨bs, hm, h⟩ =>
    simp only [Reps, Rep] at rs
    obtain ⟨v, q, rfl, rfl, rfl⟩ := rs
    obtain ⟨vs, s, r⟩ := rm_sql rm hm
    rw [reps_bls r] at s
    exact ⟨a, bs, rfl, s, vr _ H (.bl _) M .refl rfl rm h⟩
theorem anyRel : CallRel K (rAny K) (bAll fun bs => bs.any _root_.id) := by
  intro xs ds H M Q Q2 rs rm h vr
  match ds, h with
  | [.ref a], ⟨bs, hm, h⟩ =>
    simp only [Reps, Rep] at rs
    obtain ⟨v, q, rfl, rfl, rfl⟩ := rs
    obtain ⟨vs, s, r⟩ := rm_sql rm hm
    rw [reps_bls r] at s
    exact ⟨a, bs, rfl, s, vr _ H (.bl _) M .refl rfl rm h⟩
/-- len(set(xs)), xs unlike numbers -/
def kLens (Q : VK2) : VK2 := fun x M1 => match x with
  | .ref a => ∃ ns : List Int, M1 a = some (.lst (ns.map D.int)) ∧ ns.Nodup ∧ ns.length ≤ 4000 ∧ Q (.int ns.length) M1
  | _ => False
def lens2 (te : TE2) : TE2 := fun E ρ M Q => te E ρ M (kLens Q)
theorem plens2 {a : Expr} {ta : TE2} {p p2 q pos : Pos} (hg : Gl X "len") (hm : X.mg "len" = none) (hg2 : Gl X "set") (hm2 : X.mg "set" = none) (ha : PE2 X W a ta) (hc : X.calm = true := by rfl)
    (na : starEach [a] X.env = (false, eval a X.env) :: starEach [] X.env := by rfl) : PE2 X W (.Call (.Name "len" p) [.Call (.Name "set" p2) [a] [] q] [] pos) (lens2 ta) :=
  pe_imp (RZ.pe_lenSetI hg hm hg2 hm2 ha hc na) fun σ H Q ⟨ρ, M, Q2, E2, rs, rm, q, vr, xr⟩ => ⟨ρ, M, _, E2, rs, rm, q, fun x H1 d M1 s1 r1 m1 q1 => by
    match d, q1, r1 with
    | .ref a, ⟨ns, hm, nd, hl, q1⟩, r1 =>
      cases r1
      obtain ⟨vs, s, r⟩ := rm_sql m1 hm
      rw [reps_ints r] at s
      exact ⟨a, ns, rfl, s, nd, hl, vr _ H1 (.int _) M1 s1 rfl m1 q1⟩, xr⟩

/-! ### what is walked -/
def kIl (R : List D → (MP → Prop) → MP → Prop) : VK2 := fun x M1 => match x with
  | .scr ds => R ds (fun _ => True) M1
  | .ref a => ∃ ds, M1 a = some (.lst ds) ∧ R ds (fun M => M a = some (.lst ds)) M1
  | _ => False
def ilist2 (te : TE2) : TI2 := fun E ρ M R => te E ρ M (kIl R)
def kIt (R : List D → (MP → Prop) → MP → Prop) : VK2 := fun x M1 => match x with
  | .tup ds => R ds (fun _ => True) M1
  | _ => False
def itup2 (te : TE2) : TI2 := fun E ρ M R => te E ρ M (kIt R)
def kIr1 (R : List D → (MP → Prop) → MP → Prop) : List D → MP → Prop := fun ds M1 => match ds with
  | [.int j] => -(2 ^ 62) ≤ j ∧ j < 2 ^ 62 ∧ R ((List.range j.toNat).map fun k => D.int (k : Nat)) (fun _ => True) M1
  | _ => False
def irng12 (ta : TA2) : TI2 := fun E ρ M R => ta E ρ M (kIr1 R)
def kIr2 (R : List D → (MP → Prop) → MP → Prop) : List D → MP → Prop := fun ds M1 => match ds with
  | [.int i, .int j] => (-(2 ^ 62) ≤ i ∧ i < 2 ^ 62 ∧ -(2 ^ 62) ≤ j ∧ j < 2 ^ 62) ∧ R ((List.range (j - i).toNat).map fun k => D.int (i + (k : Nat))) (fun _ => True) M1
  | _ => False
def irng22 (ta : TA2) : TI2 := fun E ρ M R => ta E ρ M (kIr2 R)
theorem walkR_at {J : It} {H₀ : Hp} {ds : List D} {G : MP → Prop} {GH : Hp → List V → Prop}
    (hgo : ∀ i H vs, i < vs.length → GH H vs → J.go i H) (hst : ∀ H vs, GH H vs → J.stop vs.length H) (hy : ∀ i H x H' vs, GH H vs → J.yld i H x H' → H' = H ∧ vs[i]? = some x)
    (hG : ∀ H M, Tk K H₀ H → RelM K M H → G M → ∃ vs, GH H vs ∧ Reps K H ds vs) : WalkR K H₀ J ds G := by
  refine ⟨fun i H M hi tk rm g => ?_, fun H M tk rm g => ?_, fun i H M x H' hi tk rm g y => ?_⟩
  · obtain ⟨vs, gh, r⟩ := hG H M tk rm g
    exact hgo i H vs (by rw [r.length]; exact hi) gh
  · obtain ⟨vs, gh, r⟩ := hG H M tk rm g
    rw [← r.length]
    exact hst H vs gh
  · obtain ⟨vs, gh, r⟩ := hG H M tk rm g
    obtain ⟨rfl, e⟩ := hy i H x H' vs gh y
    refine ⟨ds[i], by simp [hi], ?_, .refl, rm⟩
    obtain ⟨v, e1, r1⟩ := r.get (i := i) (d := ds[i]) (by simp [hi])
    rw [e] at e1; cases e1
    exact r1
theorem pilist2 {tg l : Expr} {tl : TE2} (hl : PE2 X W l tl) : PI2 X W tg l (ilist2 tl) :=
  pi_imp (pi_list hl) fun σ H R ⟨ρ, M, R2, E2, rs, rm, q, xr, k⟩ => ⟨ρ, M, _, E2, rs, rm, q, fun x H1 d M1 s1 r1 m1 q1 => by
    match d, q1, r1 with
    | .ref a, ⟨ds, hm, q1⟩, r1 =>
      cases r1
      obtain ⟨vs, s, r⟩ := rm_sql m1 hm
      refine ⟨a, rfl, ⟨vs, s⟩, k _ H1 ds _ M1 s1 m1 ?_ q1⟩
      exact walkR_at (GH := fun H vs => SqL X.K H a vs) (fun i H vs hi g => walk_list.goes i H hi g) (fun H vs g => walk_list.stops H g) (fun i H x H' vs g y => ⟨y.1, y.2 vs g⟩) fun H M tk rm g => rm_sql rm g
    | .scr ds, q1, r1 =>
      simp only [Rep] at r1
      obtain ⟨a, vs, rfl, t, r⟩ := r1
      refine ⟨a, rfl, ⟨vs, t.l⟩, k _ H1 ds _ M1 s1 m1 ?_ q1⟩
      exact walkR_at (GH := fun H vs => SqL X.K H a vs) (fun i H vs hi g => walk_list.goes i H hi g) (fun H vs g => walk_list.stops H g) (fun i H x H' vs g y => ⟨y.1, y.2 vs g⟩) fun H M tk rm g => ⟨vs, (tk.2 a vs t).l, Reps.mono tk _ _ r⟩, xr⟩
theorem pitup2 {tg l : Expr} {tl : TE2} (hl : PE2 X W l tl) : PI2 X W tg l (itup2 tl) :=
  pi_imp (pi_tup hl) fun σ H R ⟨ρ, M, R2, E2, rs, rm, q, xr, k⟩ => ⟨ρ, M, _, E2, rs, rm, q, fun x H1 d M1 s1 r1 m1 q1 => by
    match d, q1, r1 with
    | .tup ds, q1, r1 =>
      simp only [Rep] at r1
      obtain ⟨a, vs, rfl, t, r⟩ := r1
      refine ⟨a, rfl, ⟨vs, t⟩, k _ H1 ds _ M1 s1 m1 ?_ q1⟩
      exact walkR_at (GH := fun H vs => SqT X.K H a vs) (fun i H vs hi g => walk_tup.goes i H hi g) (fun H vs g => walk_tup.stops H g) (fun i H x H' vs g y => ⟨y.1, y.2 vs g⟩) fun H M tk rm g => ⟨vs, tk.1 a vs t, Reps.mono tk _ _ r⟩, xr⟩
theorem walkR_rng {lo : Int} {n : Nat} {H₀ : Hp} {ds : List D} (e : ds = (List.range n).map fun (k : Nat) => D.int (lo + (k : Int))) : WalkR K H₀ (Itr lo n) ds (fun _ => True) := by
  have hl : ds.length = n := by rw [e]; simp
  refine ⟨fun i H M hi _ _ _ => ?_, fun H M _ _ _ => ?_, fun i H M x H' hi _ rm _ y => ?_⟩
  · rw [hl] at hi; exact hi
  · rw [hl]; exact Nat.le_refl _
  · obtain ⟨rfl, rfl⟩ := y
    refine ⟨.int (lo + i), ?_, rfl, .refl, rm⟩
    rw [hl] at hi
    rw [e]
    simp [hi]
theorem pirng12 {tg a : Expr} {ta : TA2} {p pos : Pos} (hg : Gl X "range") (hm : X.mg "range" = none) (ha : PA2 X W [a] ta) (hs : starEach [a] X.env = [(false, eval a X.env)] := by rfl) : PI2 X W tg (.Call (.Name "range" p) [a] [] pos) (irng12 ta) :=
  pi_imp (pi_range1 hg hm ha hs) fun σ H R ⟨ρ, M, R2, E2, rs, rm, q, xr, k⟩ => ⟨ρ, M, _, E2, rs, rm, q, fun xs H1 ds M1 s1 r1 m1 q1 => by
    match ds, q1, r1 with
    | [.int j], ⟨h1, h2, q1⟩, r1 =>
      obtain ⟨v, q, rfl, r2, rfl⟩ := r1
      cases r2
      exact ⟨j, rfl, h1, h2, k _ H1 _ _ M1 s1 m1 (walkR_rng (by simp)) q1⟩, xr⟩
theorem pirng22 {tg a b : Expr} {ta : TA2} {p pos : Pos} (hg : Gl X "range") (hm : X.mg "range" = none) (ha : PA2 X W [a, b] ta) (hs : starEach [a, b] X.env = [(false, eval a X.env), (false, eval b X.env)] := by rfl) (hs2 : starEach [b] X.env = [(false, eval b X.env)] := by rfl) : PI2 X W tg (.Call (.Name "range" p) [a, b] [] pos) (irng22 ta) :=
  pi_imp (pi_range2 hg hm ha hs hs2) fun σ H R ⟨ρ, M, R2, E2, rs, rm, q, xr, k⟩ => ⟨ρ, M, _, E2, rs, rm, q, fun xs H1 ds M1 s1 r1 m1 q1 => by
    match ds, q1, r1 with
    | [.int i, .int j], ⟨h, q1⟩, r1 =>
      obtain ⟨v, q, rfl, r2, r3⟩ := r1
      obtain ⟨w, q', rfl, r4, rfl⟩ := r3
      cases r2; cases r4
      exact ⟨i, j, rfl, h, k _ H1 _ _ M1 s1 m1 (walkR_rng rfl) q1⟩, xr⟩
/-- enumerate(xs), zip(xs, ys) of lists: pairs -/
def kIe (R : List D → (MP → Prop) → MP → Prop) : List D → MP → Prop := fun xs M1 => match xs with
  | [.ref a] => ∃ ds, M1 a = some (.lst ds) ∧ R (ds.zipIdx.map fun p => D.tup [.int (p.2 : Nat), p.1]) (fun M => M a = some (.lst ds)) M1
  | _ => False
def ienum2 (ta : TA2) : TI2 := fun E ρ M R => ta E ρ M (kIe R)
def kIz (R : List D → (MP → Prop) → MP → Prop) : List D → MP → Prop := fun xs M1 => match xs with
  | [.ref a, .ref b] => ∃ ds es, M1 a = some (.lst ds) ∧ M1 b = some (.lst es) ∧ R ((ds.zip es).map fun p => D.tup [p.1, p.2]) (fun M => M a = some (.lst ds) ∧ M b = some (.lst es)) M1
  | _ => False
def izip2 (ta : TA2) : TI2 := fun E ρ M R => ta E ρ M (kIz R)
theorem pair_new {T : Addr} {x y : V} {d e : D} (rm : RelM K M H) (hT : H T = none) (rx : Rep K H d x) (ry : Rep K H e y) : Rep K (upd H T (.tup [x, y])) (.tup [d, e]) (.ref T) ∧ Stp K H M (upd H T (.tup [x, y])) M ∧ RelM K M (upd H T (.tup [x, y])) := by
  have s : Stp K H M (upd H T (.tup [x, y])) M := .tupNew hT
  exact ⟨⟨T, _, rfl, .of upd_same, x, [y], rfl, s.rep rx, y, [], rfl, s.rep ry, rfl⟩, s, rm.tupNew hT⟩
theorem pienum2 {e : Expr} {ta : TA2} {p pos tpos : Pos} {elts : List Expr} {kk : Nat} (hg : Gl X "enumerate") (hm : X.mg "enumerate" = none) (ha : PA2 X W [e] ta) (hs : starEach [e] X.env = [(false, eval e X.env)] := by rfl) : PI2 X W (.Tuple elts kk tpos) (.Call (.Name "enumerate" p) [e] [] pos) (ienum2 ta) :=
  pi_imp (pi_enum hg hm ha hs) fun σ H R ⟨ρ, M, R2, E2, rs, rm, q, xr, k⟩ => ⟨ρ, M, _, E2, rs, rm, q, fun xs H1 ds M1 s1 r1 m1 q1 => by
    match ds, q1, r1 with
    | [.ref a], ⟨ds, hm, q1⟩, r1 =>
      obtain ⟨v, q, rfl, r2, rfl⟩ := r1
      cases r2
      obtain ⟨vs, s, r⟩ := rm_sql m1 hm
      refine ⟨a, vs, rfl, s, k _ H1 _ _ M1 s1 m1 ?_ q1⟩
      refine ⟨fun i H M hi _ rm g => ?_, fun H M _ rm g => ?_, fun i H M x H' hi _ rm g y => ?_⟩
      · obtain ⟨vs, s, r⟩ := rm_sql rm g
        exact walk_enum.goes i H (by rw [r.length]; simpa using hi) s
      · obtain ⟨vs, s, r⟩ := rm_sql rm g
        have := (walk_enum (K := X.K)).stops H s
        rw [r.length] at this
        simpa using this
      · obtain ⟨vs, s, r⟩ := rm_sql rm g
        obtain ⟨T, x1, y1, rfl, hT, rfl, e1, e2⟩ := walk_enum.yields i H x H' (by rw [r.length]; simpa using hi) s y
        cases e1
        have hi' : i < ds.length := by simpa using hi
        obtain ⟨w, e3, r3⟩ := r.get (i := i) (d := ds[i]) (by simp [hi'])
        have e2 : vs[i]? = some y1 := e2
        rw [e2] at e3; cases e3
        obtain ⟨p1, p2, p3⟩ := pair_new (M := M) rm hT (show Rep X.K H (.int (i : Nat)) (.int (i : Nat)) from rfl) r3
        exact ⟨_, by simp [hi'], p1, p2, p3⟩, xr⟩
theorem pizip2 {e e2 : Expr} {ta : TA2} {p pos tpos : Pos} {elts : List Expr} {kk : Nat} (hg : Gl X "zip") (hm : X.mg "zip" = none) (ha : PA2 X W [e, e2] ta)
    (hs : starEach [e, e2] X.env = (false, eval e X.env) :: starEach [e2] X.env := by rfl) (hpl : (backTo pos (starEach [e2] X.env)).any (·.1) = false := by rfl) : PI2 X W (.Tuple elts kk tpos) (.Call (.Name "zip" p) [e, e2] [] pos) (izip2 ta) :=
  pi_imp (pi_zip hg hm ha hs hpl) fun σ H R ⟨ρ, M, R2, E2, rs, rm, q, xr, k⟩ => ⟨ρ, M, _, E2, rs, rm, q, fun xs H1 ds M1 s1 r1 m1 q1 => by
    match ds, q1, r1 with
    | [.ref a, .ref b], ⟨ds, es, hm, hm2, q1⟩, r1 =>
      obtain ⟨v, q, rfl, r2, r4⟩ := r1
      obtain ⟨w, q', rfl, r5, rfl⟩ := r4
      cases r2; cases r5
      obtain ⟨vs, s, r⟩ := rm_sql m1 hm
      obtain ⟨ws, s', r'⟩ := rm_sql m1 hm2
      refine ⟨a, b, vs, ws, rfl, s, s', k _ H1 _ _ M1 s1 m1 ?_ q1⟩
      refine ⟨fun i H M hi _ rm g => ?_, fun H M _ rm g => ?_, fun i H M x H' hi _ rm g y => ?_⟩
      · obtain ⟨vs, s, r⟩ := rm_sql rm g.1
        obtain ⟨ws, s', r'⟩ := rm_sql rm g.2
        exact (walk_zip rfl).goes i H (by rw [r.length, r'.length]; simpa using hi) ⟨s, s'⟩
      · obtain ⟨vs, s, r⟩ := rm_sql rm g.1
        obtain ⟨ws, s', r'⟩ := rm_sql rm g.2
        have := (walk_zip (K := X.K) rfl).stops H ⟨s, s'⟩
        rw [r.length, r'.length] at this
        simpa using this
      · obtain ⟨vs, s, r⟩ := rm_sql rm g.1
        obtain ⟨ws, s', r'⟩ := rm_sql rm g.2
        obtain ⟨T, x1, y1, rfl, hT, rfl, e1, e2⟩ := (walk_zip rfl).yields i H x H' (by rw [r.length, r'.length]; simpa using hi) ⟨s, s'⟩ y
        have hi1 : i < ds.length := by simp at hi; omega
        have hi2 : i < es.length := by simp at hi; omega
        obtain ⟨w, e3, r3⟩ := r.get (i := i) (d := ds[i]) (by simp [hi1])
        obtain ⟨w', e4, r4⟩ := r'.get (i := i) (d := es[i]) (by simp [hi2])
        have e1 : vs[i]? = some x1 := e1
        have e2 : ws[i]? = some y1 := e2
        rw [e1] at e3; cases e3
        rw [e2] at e4; cases e4
        obtain ⟨p1, p2, p3⟩ := pair_new (M := M) rm hT r3 r4
        exact ⟨_, by simp [List.getElem?_zip_eq_some, hi1, hi2], p1, p2, p3⟩, xr⟩
end
end N2


namespace N2
open PySem PySem.Spec PyProof.Rows L2
section
variable {X : Cx} {K : PySem.W.Frag} {H : Hp} {M : MP} {W : WX}
theorem hu1 {k : Nat} {A : Around} (r : Room k A) : A.units + 1 < cLine := by have := r.un; omega
theorem hu64 {k : Nat} {A : Around} (r : Room k A) : A.units + 64 < cLine := by have := r.un; omega
theorem hu65 {k : Nat} {A : Around} (r : Room k A) : A.units + 65 < cLine := by have := r.un; omega
def uNeg : D → MP → VK2 → Prop := fun x M Q => match x with | .int i => Q (.int (-i)) M | _ => False
theorem negRel : UnRel K (rU fun i => .int (-i)) uNeg := by
  intro x d H M Q Q2 r rm h vr
  match d, h with
  | .int i, h => cases r; exact ⟨i, rfl, vr _ H (.int _) M .refl rfl rm h⟩
/-- a module's number, a module's text -/
theorem pgi2 {x : Str} {n : Int} {pos : Pos} (hg : Gl X x) (h : ∃ t, X.mg x = some (.int n t)) (hd : (x == ("__debug__" : Str)) = false := by decide) : PE2 X W (.Name x pos) (c2 (.int n)) := by
  obtain ⟨t, e⟩ := h
  exact pglob2 (v := .int n) hg e ⟨t, rfl⟩ (fun _ => rfl) hd
theorem pgs2 {x : Str} {n : Str} {pos : Pos} (hg : Gl X x) (h : ∃ t, X.mg x = some (.str n t)) (hd : (x == ("__debug__" : Str)) = false := by decide) : PE2 X W (.Name x pos) (c2 (.str n)) := by
  obtain ⟨t, e⟩ := h
  exact pglob2 (v := .str n) hg e ⟨t, rfl⟩ (fun _ => rfl) hd
/-! ### raise X('..'), X an own class under NewsError, ValueError -/
structure ExC (K : PySem.W.Frag) (mg : Str → Option Value) (x : Str) (C : Addr) : Prop where
  g : mg x = some (.ref C)
  x : PySem.W.excIn K C [.type "ValueError", .type "Exception", .type "BaseException", .type "object"] "ValueError.__new__" = true
  k : PySem.W.keepIn K (.ref C) = true
  b : PySem.W.subIn K (.ref C) (.type "BaseException") = some true
  t : PySem.W.typeIn K (.ref C) = some (.type "type")
def raise2 (C : Addr) : TS2 := fun D ρ M => D.ex (.ref C) ρ M
theorem psraise2 {x m : Str} {C : Addr} {j : Nat} {p p2 pos pos' : Pos} (hc : X.calm = true) (tk : Takes X W) (c : ExC X.K X.mg x C) (hg : Gl X x) (hdb : (x == ("__debug__" : Str)) = false := by decide) :
    PS2 X W (.Raise (some (.Call (.Name x p) [.Constant (.str m) j p2] [] pos)) none pos') (raise2 C) :=
  ps_imp (ps_raise hc tk (pmk_own PySem.F.excBase_ValueError c.x c.g c.k (raises_own c.b c.t) hg hdb)) fun D σ H ⟨ρ, M, D2, rs, rm, q, er⟩ => er.ex (.ref C) ρ σ H M .refl rs rm q
/-- a def of the top: where it stands -/
structure FD (K : PySem.W.Frag) (mg : Str → Option Value) (x : Str) (st : Stmt) (ps : List Str) (f : Addr) (fd : FuncData) : Prop where
  fn : Fun K x x st f fd
  mgf : mg x = some (.ref f)
  bd : Binds K fd ps []
theorem FD.fn2 {P : Program} {w : World} {K : PySem.W.Frag} {mg : Str → Option Value} {base : Heap} {x : Str} {st : Stmt} {N ps : List Str} {k : Nat} {sp : Sp2} {t : TS2} {f : Addr} {fd : FuncData} (F : FD K mg x st ps f fd) (S : FnScope N ps (defScope st))
    (hb : ∀ (cdv : Value) (A : Around) (outer : List Env) (s : Shared) (H : Hp) (E : XK), Room k (A.deeper (envOfC x (defScope st) s.heap.objs.size f cdv)) → PSs2 (cxOf (L2.CX P w) P w K mg base N x (defScope st) f cdv A outer s H E) (WD E) (defBody st) t)
    (len : ∀ ds M Q E, sp ds M Q E → ds.length = ps.length)
    (hv : ∀ ds M Q E, sp ds M Q E → t (endsOf Q E) (start2 N ds) M) : Fn2 P w K mg base (k + 1) x sp [] :=
  ⟨f, fd, ps, [], [], fnok2 F.fn S len hb hv, F.mgf, F.fn.kp, F.bd, .nil, fun _ => rfl⟩
end
/-! ### the law's end -/
/-- the law's promise: of each script it tells True -/
def lawSp : Sp2 := fun ds M Q _ => ∃ ns : List Int, ds = [.scr (ns.map D.int)] ∧ ns.length ≤ 63 ∧ ∀ M', Q (.bl true) M'
theorem walk2 {l : PySem.W.OpenLaw} {k : Nat} {q : Program} {loose : List Str} {XP : (Str → Option Value) → Heap → Prop} {YP : World → Heap → Prop} {d : DefRec} {K : Params → PySem.W.Frag} {sp : Sp2}
    (hn : l.most = some 63) (hdf : d.params.defaults = []) (hr : Room k callerA)
    (hY : ∀ (w : World) (h : Heap), YP w h → (K w.params).In h)
    (F : ∀ (w : World) (mg : Str → Option Value) (fa : Addr) (h : Heap), (K w.params).In h → h.Ns mainGlobals mg → mg d.name = some (.ref fa) →
      ∃ fd : FuncData, (∀ (s : Shared) (u : Value), BindsTo s fd ⟨[u], []⟩ [("script", u)]) ∧
        ∀ base : Heap, (K w.params).In base → base.Ns mainGlobals mg → FnOk l.prog w (K w.params) mg base (L2.CX l.prog w) k fa fd ["script"] (spOf (K w.params) sp))
    (hsp : ∀ ns : List Int, ns.length ≤ 63 → sp [.scr (ns.map D.int)] (fun _ => none) (fun d _ => d = .bl true) fun _ _ => False) :
    PySem.W.WalkO q loose XP YP l.row.toRowW d [] (fun f vs => PySem.call f vs) :=
  L2.walk_of (n := 63) (k := k) (x := "script") (CX := fun w => L2.CX l.prog w) (sp := fun w => spOf (K w.params) sp) hn (by decide) hdf hr hY F
    (fun w H a ns hl hO hS => by
      have hI : SqI (K w.params) H a (ns.map V.int) := by
        rcases hS with (h | ⟨o, h⟩) | h
        · rcases hO a with z | ⟨ob, xs, z⟩ <;> (rw [h] at z; cases z)
        · exact .inl ⟨o, h⟩
        · exact .inr h
      have rep : ∀ ns : List Int, Reps (K w.params) H (ns.map D.int) (ns.map V.int) := by
        intro ns
        induction ns with
        | nil => rfl
        | cons n ns ih => exact ⟨_, _, rfl, rfl, ih⟩
      refine ⟨[.scr (ns.map D.int)], fun _ => none, _, _, ⟨_, [], rfl, ⟨a, _, rfl, hI, rep ns⟩, rfl⟩, fun _ _ z => (by cases z), hsp ns hl, ?_, fun c H1 M1 _ _ z => False.elim z⟩
      intro v H' d M' _ r _ e
      subst e
      exact r)
    fun w H s e s1 z => by
      obtain ⟨_, _, _, _, _, _, _, _, _, _, _, _, z⟩ := z
      exact False.elim z
end N2


namespace N2
open PySem PySem.Spec PyProof.Rows L2
section
variable {E : XK2} {ρ : St2} {M : MP} {D0 : Ends2} {ta tb te to : TE2} {t u : TS2} {tt tu : TT2} {al : TA2} {Q : VK2} {QB : Bool → MP → Prop} {QA : List D → MP → Prop} {QS : St2 → MP → Prop} {QO : Option Int → MP → Prop} {d x y : D} {b : Bool} {a : Addr} {xs ys : List D} {i j : Int} {R : MP → Prop}
/-! ### one step each: what the reading of a construct comes to -/
theorem w_seq (h : t { D0 with nx := u D0 } ρ M) : seq2 t u D0 ρ M := h
theorem w_next (h : D0.nx ρ M) : next2 D0 ρ M := h
theorem w_brk (h : D0.bk ρ M) : brk2 D0 ρ M := h
theorem w_cont (h : D0.ct ρ M) : cont2 D0 ρ M := h
theorem w_drop (h : te D0.ex ρ M fun _ M1 => D0.nx ρ M1) : drop2 te D0 ρ M := h
theorem w_ret (h : te D0.ex ρ M D0.rt) : ret2 te D0 ρ M := h
theorem w_retn (h : D0.rt .non M) : retn2 D0 ρ M := h
theorem w_if (h : tt D0.ex ρ M fun b M1 => if b = true then t D0 ρ M1 else u D0 ρ M1) : if2 tt t u D0 ρ M := h
theorem w_asg {g : TG2} (h : te D0.ex ρ M fun x M1 => g x ρ M1 D0.nx) : asg2 te g D0 ρ M := h
theorem w_gn {k : Nat} (h : QS (ρ.set k (some d)) M) : gn2 k d ρ M QS := h
theorem w_gtup {k : Nat} {g : TGs2} (hl : xs.length = k) (h : g xs ρ M QS) : gtup2 k g (.tup xs) ρ M QS := ⟨hl, h⟩
theorem w_gtupL {k : Nat} {g : TGs2} (e : M a = some (.lst xs)) (hl : xs.length = k) (h : g xs ρ M QS) : gtup2 k g (.ref a) ρ M QS := ⟨xs, e, hl, h⟩
theorem w_gcons {g : TG2} {gs : TGs2} (h : g d ρ M fun ρ' M' => gs xs ρ' M' QS) : gcons2 g gs (d :: xs) ρ M QS := h
theorem w_gnil (h : QS ρ M) : gnil2 [] ρ M QS := ⟨rfl, h⟩
theorem w_par {k l : Nat} (h : al D0.ex ρ M (kPar k l ρ D0.nx)) : par2 k l al D0 ρ M := h
theorem w_kPar {k l : Nat} (h : QS ((ρ.set k (some x)).set l (some y)) M) : kPar k l ρ QS [x, y] M := h
theorem w_par3 {k l m : Nat} (h : al D0.ex ρ M (kPar3 k l m ρ D0.nx)) : par32 k l m al D0 ρ M := h
theorem w_kPar3 {k l m : Nat} (h : QS (((ρ.set k (some x)).set l (some y)).set m (some d)) M) : kPar3 k l m ρ QS [x, y, d] M := h
theorem w_sub {ti : TE2} {r : TSet2} (h : te D0.ex ρ M fun v M1 => to D0.ex ρ M1 fun o M2 => ti D0.ex ρ M2 fun i M3 => r o i v M3 fun M4 => D0.nx ρ M4) : sub2 te to ti r D0 ρ M := h
theorem w_raise {C : Addr} (h : D0.ex (.ref C) ρ M) : raise2 C D0 ρ M := h
theorem w_v {k : Nat} (e : ρ[k]? = some (some d)) (h : Q d M) : v2 k E ρ M Q := ⟨d, e, h⟩
theorem w_c (h : Q d M) : c2 d E ρ M Q := h
theorem w_op {r : R22} (h : ta E ρ M fun x M1 => tb E ρ M1 fun y M2 => r x y M2 Q) : op2 r ta tb E ρ M Q := h
theorem w_un {r : D → MP → VK2 → Prop} (h : ta E ρ M fun x M1 => r x M1 Q) : un2 r ta E ρ M Q := h
theorem w_neg (h : Q (.int (-i)) M) : uNeg (.int i) M Q := h
theorem w_bt (h : te E ρ M (kB QB)) : bt2 te E ρ M QB := h
theorem w_kB (h : QB b M) : kB QB (.bl b) M := h
theorem w_tr (h : te E ρ M (kTr QB)) : tr2 te E ρ M QB := h
theorem w_kTr (e : truD M d = some b) (h : QB b M) : kTr QB d M := by unfold kTr; rw [e]; exact h
theorem w_kTrB (h : QB b M) : kTr QB (.bl b) M := h
theorem w_kTrN (h : QB false M) : kTr QB .non M := h
theorem w_kTrI (h : QB (i != 0) M) : kTr QB (.int i) M := h
theorem w_kTrT (h : QB (!xs.isEmpty) M) : kTr QB (.tup xs) M := h
theorem w_kTrL (e : M a = some (.lst xs)) (h : QB (!xs.isEmpty) M) : kTr QB (.ref a) M := w_kTr (by simp only [truD, e]) h
theorem w_and (h : tt E ρ M fun c M1 => if c = true then tu E ρ M1 QB else QB false M1) : and2 tt tu E ρ M QB := h
theorem w_or (h : tt E ρ M fun c M1 => if c = true then QB true M1 else tu E ρ M1 QB) : or2 tt tu E ρ M QB := h
theorem w_not (h : tt E ρ M fun c M1 => QB (!c) M1) : not2 tt E ρ M QB := h
theorem w_andv (h : ta E ρ M (kAnd (fun M1 => tb E ρ M1 Q) Q)) : andv2 ta tb E ρ M Q := h
theorem w_orv (h : ta E ρ M (kOr (fun M1 => tb E ρ M1 Q) Q)) : orv2 ta tb E ρ M Q := h
theorem w_notv (h : ta E ρ M (kNot Q)) : notv2 ta E ρ M Q := h
theorem w_kAndB (h1 : b = true → R M) (h2 : b = false → Q (.bl false) M) : kAnd R Q (.bl b) M := by cases b; exact h2 rfl; exact h1 rfl
theorem w_kOrB (h1 : b = true → Q (.bl true) M) (h2 : b = false → R M) : kOr R Q (.bl b) M := by cases b; exact h2 rfl; exact h1 rfl
theorem w_kNotB (h : Q (.bl (!b)) M) : kNot Q (.bl b) M := h
theorem w_kAndT (h : R M) : kAnd R Q (.bl true) M := h
theorem w_kAndF (h : Q (.bl false) M) : kAnd R Q (.bl false) M := h
theorem w_kOrT (h : Q (.bl true) M) : kOr R Q (.bl true) M := h
theorem w_kOrF (h : R M) : kOr R Q (.bl false) M := h
theorem w_ife (h : tt E ρ M fun c M1 => if c = true then ta E ρ M1 Q else tb E ρ M1 Q) : ife2 tt ta tb E ρ M Q := h
theorem w_nil (h : QA [] M) : nil2 E ρ M QA := h
theorem w_cons (h : te E ρ M fun x M1 => al E ρ M1 fun xs M2 => QA (x :: xs) M2) : cons2 te al E ρ M QA := h
theorem w_tup (h : al E ρ M fun xs M1 => xs.length ≤ sizeLine ∧ Q (.tup xs) M1) : tup2 al E ρ M Q := h
theorem w_lst (h : al E ρ M fun xs M1 => xs.length ≤ sizeLine ∧ ∀ p, M1 p = none → Q (.ref p) (updM M1 p (.lst xs))) : lst2 al E ρ M Q := h
theorem sz0 : ([] : List D).length ≤ sizeLine := Nat.zero_le _
theorem sz_of {xs : List D} {n : Nat} (h : xs.length ≤ n) (hn : n ≤ 16777216 := by decide) : xs.length ≤ sizeLine := by rw [sizeLine_eq]; omega
theorem szl {n : Nat} (h : n ≤ 16777216) : n ≤ sizeLine := by rw [sizeLine_eq]; omega
theorem szlt {n : Nat} (h : n < 16777216) : n < sizeLine := by rw [sizeLine_eq]; omega
theorem w_call {r : RC2} (h : al E ρ M fun ds M1 => r ds M1 Q) : call2 r al E ρ M Q := h
theorem w_fn {sp : Sp2} {dvs : List D} (h : al E ρ M fun ds M1 => sp (ds ++ dvs) M1 Q fun c M' => E c ρ M') : fn2 sp dvs al E ρ M Q := h
theorem w_meth {T : String} {r : RMt2} (h : to E ρ M fun x M1 => tyD M1 x T ∧ al E ρ M1 fun ds M2 => r x ds M2 Q) : meth2 T r to al E ρ M Q := h
theorem w_meth0 {T : String} {r : RMt2} (h : to E ρ M fun x M1 => tyD M1 x T ∧ r x [] M1 Q) : meth02 T r to E ρ M Q := h
theorem ty_l (h : M a = some (.lst xs)) : tyD M (.ref a) "list" := .inl ⟨rfl, xs, h⟩
theorem w_sl {r : RSl2} {tl th : TO2} (h : te E ρ M fun x M1 => tl E ρ M1 fun l M2 => th E ρ M2 fun u M3 => r x l u M3 Q) : sl2 r te tl th E ρ M Q := h
theorem w_onone (h : QO none M) : onone2 E ρ M QO := h
theorem w_osome (h : te E ρ M (kO QO)) : osome2 te E ρ M QO := h
theorem w_kO (h : QO (some i) M) : kO QO (.int i) M := h
theorem w_rev (h : te E ρ M (kRev Q)) : rev2 te E ρ M Q := h
theorem w_kRev (e : M a = some (.lst xs)) (h : ∀ p, M p = none → Q (.ref p) (updM M p (.lst xs.reverse))) : kRev Q (.ref a) M := ⟨xs, e, h⟩
theorem w_yes (h : QB true M) : yes2 E ρ M QB := h
/-! operators on data -/
theorem w_addI (h : Q (.int (i + j)) M) : bAdd (.int i) (.int j) M Q := h
theorem w_addS {z w : Str} (hz : z.length + w.length ≤ sizeLine) (h : Q (.str (z ++ w)) M) : bAdd (.str z) (.str w) M Q := ⟨hz, h⟩
theorem w_addT (hz : xs.length + ys.length ≤ sizeLine) (h : Q (.tup (xs ++ ys)) M) : bAdd (.tup xs) (.tup ys) M Q := ⟨hz, h⟩
theorem w_addL {c : Addr} (e1 : M a = some (.lst xs)) (e2 : M c = some (.lst ys)) (hz : xs.length + ys.length ≤ sizeLine) (h : ∀ p, M p = none → Q (.ref p) (updM M p (.lst (xs ++ ys)))) : bAdd (.ref a) (.ref c) M Q := ⟨xs, ys, e1, e2, hz, h⟩
theorem w_subI (h : Q (.int (i - j)) M) : bSub (.int i) (.int j) M Q := ⟨trivial, h⟩
theorem w_modI (hj : 0 < j) (h : Q (.int (i % j)) M) : bMod (.int i) (.int j) M Q := ⟨hj, h⟩
theorem w_divI (hj : CDivW i j) (h : Q (.int (i / j)) M) : bFdiv (.int i) (.int j) M Q := ⟨hj, h⟩
theorem divw {i j : Int} (h0 : 0 < j) (h1 : j < 2 ^ 600) : CDivW i j := wide_div (b := 600) h0 (by omega) (by decide) (by decide)
theorem w_mulI (hj : CMulA i j) (h : Q (.int (i * j)) M) : bMul (.int i) (.int j) M Q := ⟨hj, h⟩
theorem mul_l {i j : Int} (h1 : -(2 ^ 64) < i) (h2 : i < 2 ^ 64) : CMulA i j := .inl (.inl ⟨h1, h2⟩)
theorem mul_r {i j : Int} (h1 : -(2 ^ 64) < j) (h2 : j < 2 ^ 64) : CMulA i j := .inl (.inr ⟨h1, h2⟩)
theorem mul_w {i j : Int} (n m : Nat) (h1 : i.natAbs < 2 ^ n) (h2 : j.natAbs < 2 ^ m) (hn : 0 < n) (hm : 0 < m) (h : n + m ≤ 1000000) : CMulA i j := .inr (wide_mul h1 h2 hn hm h)
theorem w_mulL {k : Int} (e : M a = some (.lst xs)) (h0 : 0 ≤ k) (h1 : k < 2 ^ 63) (hz : xs.length * k.toNat ≤ sizeLine) (h : ∀ p, M p = none → Q (.ref p) (updM M p (.lst (List.replicate k.toNat xs).flatten))) : bMul (.ref a) (.int k) M Q := ⟨xs, e, h0, h1, hz, h⟩
theorem w_pow (hj : CPowW i j) (h : Q (.int (i ^ j.toNat)) M) : bPow (.int i) (.int j) M Q := ⟨hj, h⟩
theorem w_eqS (e : scalD x y = some b) (h : Q (.bl b) M) : bEq x y M Q := by unfold bEq; rw [e]; exact h
theorem w_neS (e : scalD x y = some b) (h : Q (.bl (!b)) M) : bNe x y M Q := w_eqS e h
theorem w_eqI (h : Q (.bl (i == j)) M) : bEq (.int i) (.int j) M Q := h
theorem w_neI (h : Q (.bl (!(i == j))) M) : bNe (.int i) (.int j) M Q := h
theorem w_eqB {c : Bool} (h : Q (.bl (b == c)) M) : bEq (.bl b) (.bl c) M Q := h
theorem w_neB {c : Bool} (h : Q (.bl (!(b == c))) M) : bNe (.bl b) (.bl c) M Q := h
theorem w_eqZ {z w : Str} (h : Q (.bl (z == w)) M) : bEq (.str z) (.str w) M Q := h
theorem w_neZ {z w : Str} (h : Q (.bl (!(z == w))) M) : bNe (.str z) (.str w) M Q := h
/-- two lists of data -/
theorem w_eqL {c : Addr} {n m : Nat} (e1 : M a = some (.lst xs)) (e2 : M c = some (.lst ys)) (p1 : pureDs n xs = true) (p2 : pureDs m ys = true) (hn : n + 1 ≤ 64) (hm : m + 1 ≤ 64) (h : Q (.bl (PyData.eqvAll (pyDs xs) (pyDs ys))) M) : bEq (.ref a) (.ref c) M Q :=
  ⟨.list (pyDs xs), .list (pyDs ys), by simp only [IsP]; exact ⟨a, xs, rfl, e1, pure_isPs n xs p1⟩, by simp only [IsP]; exact ⟨c, ys, rfl, e2, pure_isPs m ys p2⟩, pures_shaped hn p1, pures_shaped hm p2, by simp only [PyData.eqv]; exact h⟩
theorem w_neL {c : Addr} {n m : Nat} (e1 : M a = some (.lst xs)) (e2 : M c = some (.lst ys)) (p1 : pureDs n xs = true) (p2 : pureDs m ys = true) (hn : n + 1 ≤ 64) (hm : m + 1 ≤ 64) (h : Q (.bl (!PyData.eqvAll (pyDs xs) (pyDs ys))) M) : bNe (.ref a) (.ref c) M Q :=
  w_eqL e1 e2 p1 p2 hn hm h
theorem w_eqP {n m : Nat} (hs : scalD x y = none) (p1 : pureD n x = true) (p2 : pureD m y = true) (hn : n ≤ 64) (hm : m ≤ 64) (h : Q (.bl (PyData.eqv (pyD x) (pyD y))) M) : bEq x y M Q := by
  unfold bEq
  rw [hs]
  exact ⟨pyD x, pyD y, pure_isP n x p1, pure_isP m y p2, pure_shaped hn p1, pure_shaped hm p2, h⟩
theorem w_neP {n m : Nat} (hs : scalD x y = none) (p1 : pureD n x = true) (p2 : pureD m y = true) (hn : n ≤ 64) (hm : m ≤ 64) (h : Q (.bl (!PyData.eqv (pyD x) (pyD y))) M) : bNe x y M Q := w_eqP hs p1 p2 hn hm h
theorem pure_ints : ∀ ns : List Int, pureDs 0 (ns.map D.int) = true
  | [] => rfl
  | n :: ns => by simp only [List.map_cons, pureDs, pureD, Bool.true_and]; exact pure_ints ns
theorem eqv_ints : ∀ ns ms : List Int, PyData.eqvAll (pyDs (ns.map D.int)) (pyDs (ms.map D.int)) = decide (ns = ms)
  | [], [] => by simp [pyDs, PyData.eqvAll]
  | [], m :: ms => by simp [pyDs, PyData.eqvAll]
  | n :: ns, [] => by simp [pyDs, PyData.eqvAll]
  | n :: ns, m :: ms => by
    simp only [List.map_cons, pyDs, pyD, PyData.eqvAll, PyData.eqv, eqv_ints ns ms]
    by_cases h : n = m <;> by_cases h2 : ns = ms <;> simp [h, h2]
theorem w_eqLI {c : Addr} {ns ms : List Int} (e1 : M a = some (.lst (ns.map D.int))) (e2 : M c = some (.lst (ms.map D.int))) (h : Q (.bl (decide (ns = ms))) M) : bEq (.ref a) (.ref c) M Q :=
  w_eqL e1 e2 (pure_ints ns) (pure_ints ms) (by decide) (by decide) (by rw [eqv_ints]; exact h)
theorem w_neLI {c : Addr} {ns ms : List Int} (e1 : M a = some (.lst (ns.map D.int))) (e2 : M c = some (.lst (ms.map D.int))) (h : Q (.bl (!decide (ns = ms))) M) : bNe (.ref a) (.ref c) M Q :=
  w_neL e1 e2 (pure_ints ns) (pure_ints ms) (by decide) (by decide) (by rw [eqv_ints]; exact h)
theorem w_ordI {p : Int → Int → Bool} {q : List Nat → List Nat → Bool} (h : Q (.bl (p i j)) M) : bOrd p q (.int i) (.int j) M Q := h
theorem w_ordS {p : Int → Int → Bool} {q : List Nat → List Nat → Bool} {z w : Str} (h : Q (.bl (q z.cps.toList w.cps.toList)) M) : bOrd p q (.str z) (.str w) M Q := h
theorem w_is (h : Q (.bl (isNonD x)) M) : bIs x .non M Q := h
theorem w_isNot (h : Q (.bl (!isNonD x)) M) : bIsNot x .non M Q := h
theorem w_inS {neg : Bool} {c : Nat} {z : Str} (h : Q (.bl (if neg then !decide (c ∈ z.cps.toList) else decide (c ∈ z.cps.toList))) M) : bIn neg (.str ⟨#[c]⟩) (.str z) M Q := ⟨c, rfl, h⟩
theorem w_inL {neg : Bool} {n m : Nat} (p1 : pureD n x = true) (e : M a = some (.lst xs)) (p2 : pureDs m xs = true) (hn : n ≤ 64) (hm : m + 1 ≤ 64) (h : Q (.bl (if neg then !((pyDs xs).any fun z => PyData.eqv z (pyD x)) else (pyDs xs).any fun z => PyData.eqv z (pyD x))) M) : bIn neg x (.ref a) M Q :=
  ⟨pyD x, pyDs xs, pure_isP n x p1, by simp only [IsP]; exact ⟨a, xs, rfl, e, pure_isPs m xs p2⟩, pure_shaped hn p1, pures_shaped hm p2, h⟩
theorem any_ints (k : Int) : ∀ ns : List Int, ((pyDs (ns.map D.int)).any fun z => PyData.eqv z (pyD (.int k))) = decide (k ∈ ns)
  | [] => by simp [pyDs]
  | n :: ns => by
    have ih := any_ints k ns
    simp only [List.map_cons, pyDs, List.any_cons, ih, pyD, PyData.eqv]
    simp only [pyD] at ih
    rw [ih]
    by_cases h : n = k
    · subst h; simp
    · have h' : ¬ k = n := fun z => h z.symm
      by_cases h2 : k ∈ ns <;> simp [h, h', h2]
theorem w_inLI {neg : Bool} {k : Int} {ns : List Int} (e : M a = some (.lst (ns.map D.int))) (h : Q (.bl (if neg then !decide (k ∈ ns) else decide (k ∈ ns))) M) : bIn neg (.int k) (.ref a) M Q :=
  w_inL (n := 0) (m := 0) rfl e (pure_ints ns) (by decide) (by decide) (by rw [any_ints]; exact h)
theorem w_ixT (e : atI xs i = some d) (h : Q d M) : bIx (.tup xs) (.int i) M Q := ⟨d, e, h⟩
theorem w_ixR (e : atI xs i = some d) (h : Q d M) : bIx (.scr xs) (.int i) M Q := ⟨d, e, h⟩
theorem w_ixL (e : M a = some (.lst xs)) (e2 : atI xs i = some d) (h : Q d M) : bIx (.ref a) (.int i) M Q := ⟨xs, d, e, e2, h⟩
theorem w_ixS {z : Str} {c : Nat} (hz : z.length ≤ sizeLine) (e : atI z.cps.toList i = some c) (h : Q (.str ⟨#[c]⟩) M) : bIx (.str z) (.int i) M Q := ⟨c, hz, e, h⟩
theorem w_slT {lo hi : Option Int} (h : Q (.tup (cutD xs lo hi)) M) : bSl (.tup xs) lo hi M Q := h
theorem w_slL {lo hi : Option Int} (e : M a = some (.lst xs)) (h : ∀ p, M p = none → Q (.ref p) (updM M p (.lst (cutD xs lo hi)))) : bSl (.ref a) lo hi M Q := ⟨xs, e, h⟩
theorem w_slR {lo hi : Option Int} (h : ∀ p, M p = none → Q (.ref p) (updM M p (.lst (cutD xs lo hi)))) : bSl (.scr xs) lo hi M Q := h
theorem w_slS {z : Str} {lo hi : Option Int} (hz : z.length ≤ sizeLine) (h : Q (.str (cutS z lo hi)) M) : bSl (.str z) lo hi M Q := ⟨hz, h⟩
theorem w_setL {k : Nat} (e : M a = some (.lst xs)) (e2 : ixN xs.length i = some k) (h : R (updM M a (.lst (xs.set k d)))) : bSet (.ref a) (.int i) d M R := ⟨xs, k, e, e2, h⟩
theorem w_append (e : M a = some (.lst xs)) (hz : xs.length < sizeLine) (h : Q .non (updM M a (.lst (xs ++ [d])))) : mAppend (.ref a) [d] M Q := ⟨xs, e, hz, h⟩
theorem w_pop (e : M a = some (.lst (xs ++ [d]))) (h : Q d (updM M a (.lst xs))) : mPop (.ref a) [] M Q := ⟨xs ++ [d], d, e, by simp, by rw [List.dropLast_concat]; exact h⟩
theorem w_popAt {k : Nat} (e : M a = some (.lst xs)) (e2 : ixN xs.length i = some k) (hz : xs.length ≤ sizeLine) (e3 : xs[k]? = some d) (h : Q d (updM M a (.lst (xs.eraseIdx k)))) : mPopAt (.ref a) [.int i] M Q := ⟨xs, k, d, e, e2, hz, e3, h⟩
theorem w_reverse (e : M a = some (.lst xs)) (h : Q .non (updM M a (.lst xs.reverse))) : mReverse (.ref a) [] M Q := ⟨xs, e, h⟩
theorem w_clear (e : M a = some (.lst xs)) (h : Q .non (updM M a (.lst []))) : mClear (.ref a) [] M Q := ⟨xs, e, h⟩
theorem w_extend {c : Addr} (e : M a = some (.lst xs)) (e2 : M c = some (.lst ys)) (hz : xs.length + ys.length ≤ sizeLine) (h : Q .non (updM M a (.lst (xs ++ ys)))) : mExtend (.ref a) [.ref c] M Q := ⟨xs, ys, e, e2, hz, h⟩
theorem w_insert (e : M a = some (.lst xs)) (hz : xs.length < sizeLine) (h0 : 0 ≤ i) (h1 : i < 2 ^ 63) (h : Q .non (updM M a (.lst (xs.take i.toNat ++ [d] ++ xs.drop i.toNat)))) : mInsert (.ref a) [.int i, d] M Q := ⟨xs, e, hz, h0, h1, h⟩
theorem w_isi {c : String} {t : String} (e1 : typeD M x = some t) (e2 : isiT t c = some b) (h : Q (.bl b) M) : bIsi [x, .ty c] M Q := ⟨t, b, e1, e2, h⟩
theorem w_isi2 {c c' : String} {t : String} {b' : Bool} (e1 : typeD M x = some t) (e2 : isiT t c = some b) (e3 : isiT t c' = some b') (h : Q (.bl (b || b')) M) : bIsi [x, .tup [.ty c, .ty c']] M Q := ⟨t, b, b', e1, e2, e3, h⟩
theorem ty_lst (e : M a = some (.lst xs)) : typeD M (.ref a) = some "list" := by simp only [typeD, e]
theorem w_lenT (h : Q (.int xs.length) M) : bLen [.tup xs] M Q := h
theorem w_lenR (h : Q (.int xs.length) M) : bLen [.scr xs] M Q := h
theorem w_lenS {z : Str} (hz : z.length ≤ sizeLine) (h : Q (.int z.length) M) : bLen [.str z] M Q := ⟨hz, h⟩
theorem w_lenL (e : M a = some (.lst xs)) (h : Q (.int xs.length) M) : bLen [.ref a] M Q := .inl ⟨xs, e, h⟩
theorem w_max (h : Q (.int (max i j)) M) : bMax [.int i, .int j] M Q := h
theorem w_min (h : Q (.int (min i j)) M) : bMin [.int i, .int j] M Q := h
theorem w_intI (h : Q (.int i) M) : bInt [.int i] M Q := h
theorem w_intB (h : Q (.int (if b then 1 else 0)) M) : bInt [.bl b] M Q := h
theorem w_listT (h : ∀ p, M p = none → Q (.ref p) (updM M p (.lst xs))) : bList [.tup xs] M Q := h
theorem w_listR (h : ∀ p, M p = none → Q (.ref p) (updM M p (.lst xs))) : bList [.scr xs] M Q := h
theorem w_listL (e : M a = some (.lst xs)) (h : ∀ p, M p = none → Q (.ref p) (updM M p (.lst xs))) : bList [.ref a] M Q := ⟨xs, e, h⟩
theorem w_tupleT (h : Q (.tup xs) M) : bTuple [.tup xs] M Q := h
theorem w_tupleL (e : M a = some (.lst xs)) (h : Q (.tup xs) M) : bTuple [.ref a] M Q := ⟨xs, e, h⟩
theorem w_all {f : List Bool → Bool} {bs : List Bool} (e : M a = some (.lst (bs.map D.bl))) (h : Q (.bl (f bs)) M) : bAll f [.ref a] M Q := ⟨bs, e, h⟩
theorem w_lens (h : te E ρ M (kLens Q)) : lens2 te E ρ M Q := h
theorem w_kLens {ns : List Int} (e : M a = some (.lst (ns.map D.int))) (nd : ns.Nodup) (hl : ns.length ≤ 4000) (h : Q (.int ns.length) M) : kLens Q (.ref a) M := ⟨ns, e, nd, hl, h⟩
theorem updM_lk {M : MP} {a p : Addr} {o u : MO} (h : M a = some o) (hp : M p = none) : updM M p u a = some o := by
  rw [updM_ne (fun z => by rw [z, hp] at h; cases h)]; exact h
theorem typeD_mem {M : MP} {d : D} {t : String} (h : typeD M d = some t) : t ∈ tysL := by
  cases d with
  | ref a =>
    have h' : (match M a with
      | some (.lst _) => some "list" | some (.dK _) => some "dict" | some (.fz _ _) => some "dict" | some (.iset _ _) => some "set" | _ => none) = some t := h
    split at h' <;> first | (cases h'; decide) | cases h'
  | _ => first | (cases h; decide) | cases h
theorem w_isiT {M : MP} {x : D} {Q : VK2} {t c : String} (e : typeD M x = some t) (h : Q (.bl (t == c || (t == "bool" && c == "int"))) M) (hc : c ∈ tysL.tail := by decide) : bIsi [x, .ty c] M Q :=
  ⟨t, _, e, by unfold isiT; rw [if_pos ⟨typeD_mem e, hc⟩], h⟩
theorem w_isiT2 {M : MP} {x : D} {Q : VK2} {t c c' : String} (e : typeD M x = some t) (h : Q (.bl ((t == c || (t == "bool" && c == "int")) || (t == c' || (t == "bool" && c' == "int")))) M) (hc : c ∈ tysL.tail := by decide) (hc' : c' ∈ tysL.tail := by decide) : bIsi [x, .tup [.ty c, .ty c']] M Q :=
  ⟨t, _, _, e, by unfold isiT; rw [if_pos ⟨typeD_mem e, hc⟩], by unfold isiT; rw [if_pos ⟨typeD_mem e, hc'⟩], h⟩
theorem iteTb {c : Bool} {A B : Prop} (e : c = true) (h : A) : if c = true then A else B := by rw [if_pos e]; exact h
theorem iteFb {c : Bool} {A B : Prop} (e : c = false) (h : B) : if c = true then A else B := by rw [e]; exact iteF h
theorem iteBb {c : Bool} {A B : Prop} (h1 : c = true → A) (h2 : c = false → B) : if c = true then A else B := by cases c; exact iteF (h2 rfl); exact iteT (h1 rfl)
/-! loops -/
theorem w_for {wi : TI2} {g : TG2} (h : wi D0.ex ρ M fun ds G M1 => ∃ I : Nat → St2 → MP → Prop, I 0 ρ M1 ∧ (∀ i ρ M, i ≤ ds.length → I i ρ M → G M) ∧
  (∀ i d ρ M, ds[i]? = some d → I i ρ M → g d ρ M fun ρ' M' => t { D0 with nx := I (i + 1), ct := I (i + 1), bk := D0.nx } ρ' M') ∧ ∀ ρ M, I ds.length ρ M → D0.nx ρ M) : for2 wi g t D0 ρ M := h
theorem w_while {c : TT2} (I : Nat → St2 → MP → Prop) (m : Nat) (h0 : I m ρ M) (h : ∀ m ρ M, I m ρ M → c D0.ex ρ M fun b M1 => if b = true then t { D0 with nx := fun ρ' M' => ∃ m', m' < m ∧ I m' ρ' M', ct := fun ρ' M' => ∃ m', m' < m ∧ I m' ρ' M', bk := D0.nx } ρ M1 else D0.nx ρ M1) : while2 c t D0 ρ M := ⟨I, ⟨m, h0⟩, h⟩
abbrev LC (ρ : St2) (vs : List Nat) (g : TG2) (tt : TT2) (te : TE2) (Q : VK2) : List D → (MP → Prop) → MP → Prop := fun ds G M1 => ds.length ≤ sizeLine ∧ ∃ I : Nat → List D → MP → Prop, I 0 [] M1 ∧ (∀ i acc M, i ≤ ds.length → I i acc M → G M) ∧
  (∀ i d acc M, ds[i]? = some d → I i acc M → g d (wipe2 ρ vs) M fun ρ' M' => tt E00 ρ' M' fun b M'' => if b = true then te E00 ρ' M'' fun y M3 => I (i + 1) (acc ++ [y]) M3 else I (i + 1) acc M'') ∧
  ∀ acc M, acc.length ≤ ds.length → I ds.length acc M → ∀ p, M p = none → Q (.ref p) (updM M p (.lst acc))
theorem w_lc {wi : TI2} {g : TG2} {vs : List Nat} (h : wi E ρ M (LC ρ vs g tt te Q)) : lc2 wi g tt te vs E ρ M Q := h
variable {RI : List D → (MP → Prop) → MP → Prop}
theorem w_il (h : te E ρ M (kIl RI)) : ilist2 te E ρ M RI := h
theorem w_kIl (e : M a = some (.lst xs)) (h : RI xs (fun M => M a = some (.lst xs)) M) : kIl RI (.ref a) M := ⟨xs, e, h⟩
theorem w_kIlR (h : RI xs (fun _ => True) M) : kIl RI (.scr xs) M := h
theorem w_it (h : te E ρ M (kIt RI)) : itup2 te E ρ M RI := h
theorem w_kIt (h : RI xs (fun _ => True) M) : kIt RI (.tup xs) M := h
theorem w_ir1 (h : al E ρ M (kIr1 RI)) : irng12 al E ρ M RI := h
theorem w_kIr1 (h1 : -(2 ^ 62) ≤ i) (h2 : i < 2 ^ 62) (h : RI ((List.range i.toNat).map fun k => D.int (k : Nat)) (fun _ => True) M) : kIr1 RI [.int i] M := ⟨h1, h2, h⟩
theorem w_ir2 (h : al E ρ M (kIr2 RI)) : irng22 al E ρ M RI := h
theorem w_kIr2 (h1 : -(2 ^ 62) ≤ i ∧ i < 2 ^ 62 ∧ -(2 ^ 62) ≤ j ∧ j < 2 ^ 62) (h : RI ((List.range (j - i).toNat).map fun k => D.int (i + (k : Nat))) (fun _ => True) M) : kIr2 RI [.int i, .int j] M := ⟨h1, h⟩
theorem w_ie (h : al E ρ M (kIe RI)) : ienum2 al E ρ M RI := h
theorem w_kIe (e : M a = some (.lst xs)) (h : RI (xs.zipIdx.map fun p => D.tup [.int (p.2 : Nat), p.1]) (fun M => M a = some (.lst xs)) M) : kIe RI [.ref a] M := ⟨xs, e, h⟩
theorem w_iz (h : al E ρ M (kIz RI)) : izip2 al E ρ M RI := h
theorem w_kIz {c : Addr} (e : M a = some (.lst xs)) (e2 : M c = some (.lst ys)) (h : RI ((xs.zip ys).map fun p => D.tup [p.1, p.2]) (fun M => M a = some (.lst xs) ∧ M c = some (.lst ys)) M) : kIz RI [.ref a, .ref c] M := ⟨xs, ys, e, e2, h⟩
/-- a comprehension whose turns leave the store as it is -/
theorem w_lcp {g : TG2} {vs : List Nat} {ds : List D} {G : MP → Prop} (f : D → Option D) (hz : ds.length ≤ sizeLine) (hG : G M)
    (ht : ∀ d ∈ ds, ∀ (QR : Option D → Prop), QR (f d) → g d (wipe2 ρ vs) M fun ρ' M' => tt E00 ρ' M' fun b M'' => if b = true then te E00 ρ' M'' fun y M3 => M3 = M ∧ QR (some y) else M'' = M ∧ QR none)
    (h : ∀ p, M p = none → Q (.ref p) (updM M p (.lst (ds.filterMap f)))) : LC ρ vs g tt te Q ds G M := by
  refine ⟨hz, fun i acc M' => M' = M ∧ acc = (ds.take i).filterMap f, ⟨rfl, by simp⟩, fun i acc M' _ h => by rw [h.1]; exact hG, ?_, fun acc M' _ h1 => ?_⟩
  · rintro i d acc M' hd ⟨rfl, rfl⟩
    have hi : i < ds.length := (List.getElem?_eq_some_iff.mp hd).1
    have e1 : ds.take (i + 1) = ds.take i ++ [d] := by rw [List.take_add_one, hd]; rfl
    refine ht d (List.mem_of_getElem? hd) (fun o => match o with | some y => (ds.take i).filterMap f ++ [y] = (ds.take (i + 1)).filterMap f | none => (ds.take i).filterMap f = (ds.take (i + 1)).filterMap f) ?_
    rw [e1, List.filterMap_append]
    cases e : f d with
    | none => show (ds.take i).filterMap f = _; simp [e]
    | some y => show (ds.take i).filterMap f ++ [y] = _; simp [e]
  · obtain ⟨rfl, rfl⟩ := h1
    rw [List.take_length]
    exact h
end

theorem at0 {x : D} {xs : List D} : atI (x :: xs) 0 = some x := atI_nat (j := 0) rfl
theorem ix0 {x : D} {xs : List D} : ixN (x :: xs).length 0 = some 0 := by unfold ixN; rw [if_pos (by simp), if_pos (by simp)]; rfl
/-! closed ones -/
section
variable {E : XK2} {ρ : St2} {M : MP} {Q : VK2} {d x y : D} {b : Bool} {a : Addr} {xs ys : List D} {i j : Int} {R : MP → Prop}
theorem w_kAndTb (e : b = true) (h : R M) : kAnd R Q (.bl b) M := by subst e; exact h
theorem w_kAndFb (e : b = false) (h : Q (.bl false) M) : kAnd R Q (.bl b) M := by subst e; exact h
theorem w_kOrTb (e : b = true) (h : Q (.bl true) M) : kOr R Q (.bl b) M := by subst e; exact h
theorem w_kOrFb (e : b = false) (h : R M) : kOr R Q (.bl b) M := by subst e; exact h
theorem w_isiL {M : MP} {x : D} {Q : VK2} {t c : String} {xs : List D} {a : Addr} (e : M a = some (.lst xs)) (hc : c ∈ tysL.tail) (h : Q (.bl ("list" == c || ("list" == "bool" && c == "int"))) M) : bIsi [.ref a, .ty c] M Q := w_isiT (ty_lst e) h hc
theorem w_isiC {M : MP} {x : D} {Q : VK2} {t c : String} (e : typeD (fun _ => none) x = some t) (e2 : typeD M x = typeD (fun _ => none) x) (hc : c ∈ tysL.tail) (h : Q (.bl (t == c || (t == "bool" && c == "int"))) M) : bIsi [x, .ty c] M Q := w_isiT (e2.trans e) h hc
theorem w_ixTl (e : atI xs i = some d) (h : Q d M) : bIx (.tup xs) (.int i) M Q := w_ixT e h
theorem cpowc {i j : Int} (k : Nat) (h : i.natAbs < 2 ^ k) (h0 : 0 ≤ j) (h2 : (k : Int) * j ≤ 2 ^ 27) : CPowW i j := cpow k h0 h h2
theorem w_p10_4 (h : Q (.int 10000) M) : bPow (.int 10) (.int 4) M Q := w_pow (cpowc 4 (by decide) (by decide) (by decide)) (by exact h)
theorem w_p10_5 (h : Q (.int 100000) M) : bPow (.int 10) (.int 5) M Q := w_pow (cpowc 4 (by decide) (by decide) (by decide)) (by exact h)
theorem w_p10_10 (h : Q (.int 10000000000) M) : bPow (.int 10) (.int 10) M Q := w_pow (cpowc 4 (by decide) (by decide) (by decide)) (by exact h)
theorem w_p10_13 (h : Q (.int 10000000000000) M) : bPow (.int 10) (.int 13) M Q := w_pow (cpowc 4 (by decide) (by decide) (by decide)) (by exact h)
theorem w_p10_14 (h : Q (.int 100000000000000) M) : bPow (.int 10) (.int 14) M Q := w_pow (cpowc 4 (by decide) (by decide) (by decide)) (by exact h)
theorem w_p10_15 (h : Q (.int 1000000000000000) M) : bPow (.int 10) (.int 15) M Q := w_pow (cpowc 4 (by decide) (by decide) (by decide)) (by exact h)
theorem w_p10_17 (h : Q (.int 100000000000000000) M) : bPow (.int 10) (.int 17) M Q := w_pow (cpowc 4 (by decide) (by decide) (by decide)) (by exact h)
theorem w_p10_18 (h : Q (.int 1000000000000000000) M) : bPow (.int 10) (.int 18) M Q := w_pow (cpowc 4 (by decide) (by decide) (by decide)) (by exact h)
theorem w_p10_20 (h : Q (.int 100000000000000000000) M) : bPow (.int 10) (.int 20) M Q := w_pow (cpowc 4 (by decide) (by decide) (by decide)) (by exact h)
theorem w_p10_38 (h : Q (.int 100000000000000000000000000000000000000) M) : bPow (.int 10) (.int 38) M Q := w_pow (cpowc 4 (by decide) (by decide) (by decide)) (by exact h)
theorem w_p10_40 (h : Q (.int 10000000000000000000000000000000000000000) M) : bPow (.int 10) (.int 40) M Q := w_pow (cpowc 4 (by decide) (by decide) (by decide)) (by exact h)
theorem w_p10_41 (h : Q (.int 100000000000000000000000000000000000000000) M) : bPow (.int 10) (.int 41) M Q := w_pow (cpowc 4 (by decide) (by decide) (by decide)) (by exact h)
theorem w_p10_60 (h : Q (.int 1000000000000000000000000000000000000000000000000000000000000) M) : bPow (.int 10) (.int 60) M Q := w_pow (cpowc 4 (by decide) (by decide) (by decide)) (by exact h)
end
end N2


/-! N2h: dicts with keys numbers and texts; sorted; index; walks over a text. -/
namespace N2
open PySem PySem.Spec PyProof.Rows L2
section
variable {X : Cx} {K : PySem.W.Frag} {H : Hp} {M : MP} {W : WX} {a b e : Expr} {ta tb te : TE2} {pos : Pos}
def keyD : D → Option Key
  | .int i => some (.inl i)
  | .str x => some (.inr x)
  | _ => none
def dOf : Key → D
  | .inl i => .int i
  | .inr x => .str x
theorem keyD_of (k : Key) : keyD (dOf k) = some k := by cases k <;> rfl
theorem rep_key {d : D} {k : Key} {v : V} (h : keyD d = some k) (r : Rep K H d v) : v = kV k := by
  cases d with
  | int i => cases h; exact r
  | str x => cases h; exact r
  | _ => cases h
theorem rep_dOf (k : Key) : Rep K H (dOf k) (kV k) := by cases k <;> rfl
def getK (kvs : List (Key × D)) (k : Key) : Option D := (kvs.find? fun kv => decide (kv.1 = k)).map (·.2)
def setK (kvs : List (Key × D)) (k : Key) (v : D) : List (Key × D) :=
  if (kvs.any fun kv => decide (kv.1 = k)) = true then kvs.map (fun kv => if kv.1 = k then (kv.1, v) else kv) else kvs ++ [(k, v)]
theorem KVs.get {ds : List (Key × D)} {vs : List (Key × V)} (r : KVs K H ds vs) (k : Key) : (getK ds k = none ∧ valV vs k = none) ∨ ∃ d v, getK ds k = some d ∧ valV vs k = some v ∧ Rep K H d v := by
  induction ds generalizing vs with
  | nil => simp only [KVs] at r; subst r; exact .inl ⟨rfl, rfl⟩
  | cons p ds ih =>
    simp only [KVs] at r
    obtain ⟨v, q, rfl, r1, r2⟩ := r
    by_cases e : p.1 = k
    · exact .inr ⟨p.2, v, by simp [getK, List.find?_cons, e], by rw [valV_pos e], r1⟩
    · have e1 : getK (p :: ds) k = getK ds k := by simp [getK, List.find?_cons, e]
      rw [e1, valV_neg e]
      exact ih r2
theorem KVs.any {ds : List (Key × D)} {vs : List (Key × V)} (r : KVs K H ds vs) (k : Key) : (vs.any fun kv => decide (kv.1 = k)) = ds.any fun kv => decide (kv.1 = k) := by
  induction ds generalizing vs with
  | nil => simp only [KVs] at r; subst r; rfl
  | cons p ds ih =>
    simp only [KVs] at r
    obtain ⟨v, q, rfl, r1, r2⟩ := r
    simp only [List.any_cons, ih r2]
theorem KVs.repl {ds : List (Key × D)} {vs : List (Key × V)} (r : KVs K H ds vs) (k : Key) {d : D} {v : V} (rv : Rep K H d v) : KVs K H (ds.map fun kv => if kv.1 = k then (kv.1, d) else kv) (vs.map fun kv => if kv.1 = k then (kv.1, v) else kv) := by
  induction ds generalizing vs with
  | nil => simp only [KVs] at r; subst r; rfl
  | cons p ds ih =>
    simp only [KVs] at r
    obtain ⟨u, q, rfl, r1, r2⟩ := r
    by_cases e : p.1 = k
    · exact ⟨v, _, by simp [e], by simp [e]; exact rv, ih r2⟩
    · exact ⟨u, _, by simp [e], by simp [e]; exact r1, ih r2⟩
theorem KVs.app {ds es : List (Key × D)} {vs ws : List (Key × V)} (r : KVs K H ds vs) (r' : KVs K H es ws) : KVs K H (ds ++ es) (vs ++ ws) := by
  induction ds generalizing vs with
  | nil => simp only [KVs] at r; subst r; exact r'
  | cons p ds ih =>
    simp only [KVs] at r
    obtain ⟨u, q, rfl, r1, r2⟩ := r
    exact ⟨u, _, rfl, r1, ih r2⟩
theorem KVs.put {ds : List (Key × D)} {vs : List (Key × V)} (r : KVs K H ds vs) (k : Key) {d : D} {v : V} (rv : Rep K H d v) : KVs K H (setK ds k d) (putK vs k v) := by
  unfold setK putK
  rw [r.any k]
  split
  · exact r.repl k rv
  · exact r.app ⟨v, [], rfl, rv, rfl⟩
/-- a dict, walked or not -/
def IsDk (M : MP) (a : Addr) (kvs : List (Key × D)) : Prop := M a = some (.dK kvs) ∨ ∃ o, M a = some (.fz o kvs)
theorem rd_dk (rm : RelM K M H) {a : Addr} {kvs : List (Key × D)} (h : IsDk M a kvs) : ∃ vs, Rd H a (.dK vs) ∧ KVs K H kvs vs := by
  rcases h with h | ⟨o, h⟩
  · obtain ⟨vs, e, r⟩ := rm _ _ h
    exact ⟨vs, .inl e, r⟩
  · obtain ⟨vs, e, r⟩ := rm _ _ h
    exact ⟨vs, .inr ⟨_, e⟩, r⟩
def bDget : R22 := fun x y M Q => match x with
  | .ref a => ∃ kvs k d, IsDk M a kvs ∧ keyD y = some k ∧ getK kvs k = some d ∧ Q d M
  | _ => False
theorem pdget2 (hu : X.A.units + 1 < cLine) (ha : PE2 X W a ta) (hb : PE2 X W b tb) (hs : NoSl b) : PE2 X W (.Subscript a b pos) (op2 bDget ta tb) :=
  pe_imp (pe_dget hu ha hb hs) fun σ H Q ⟨ρ, M, Q2, E2, rs, rm, q, vr, xr⟩ => lift2 rs rm xr q fun x y d e H2 M2 s rx ry m q2 => by
    match d, q2, rx with
    | .ref a, ⟨kvs, k, d, h1, h2, h3, q2⟩, rx =>
      cases rx
      obtain ⟨vs, e1, r⟩ := rd_dk m h1
      cases rep_key h2 ry
      rcases r.get k with ⟨z, _⟩ | ⟨d', v, e2, e3, r3⟩
      · rw [h3] at z; cases z
      · rw [h3] at e2; cases e2
        exact ⟨a, v, rfl, .inl ⟨vs, k, e1, rfl, e3.symm⟩, vr v H2 d M2 s r3 m q2⟩
def rDin (neg : Bool) : R2 := fun x y H Q => ∃ (a : Addr) (o : Option V), y = .ref a ∧ DGet H a x o ∧ Q (.bl (if neg then !o.isSome else o.isSome)) H
theorem op_dinA (hu : X.A.units + 1 < cLine) : OpR X (compareOp .In) (rDin false) := by
  intro pins s σ H x y v u Q I rx ry h
  obtain ⟨a, o, rfl, g, q⟩ := h
  cases ry
  exact d_in hu I g rx fun s' I' => ⟨.bl o.isSome, H, I', rfl, q⟩
theorem op_dnotInA (hu : X.A.units + 1 < cLine) : OpR X (compareOp .NotIn) (rDin true) := by
  intro pins s σ H x y v u Q I rx ry h
  obtain ⟨a, o, rfl, g, q⟩ := h
  cases ry
  exact d_notIn hu I g rx fun s' I' => ⟨.bl (!o.isSome), H, I', rfl, q⟩
def bDin (neg : Bool) : R22 := fun x y M Q => match y with
  | .ref a => ∃ kvs k, IsDk M a kvs ∧ keyD x = some k ∧ Q (.bl (if neg then !(getK kvs k).isSome else (getK kvs k).isSome)) M
  | _ => False
theorem dinRel (neg : Bool) : OpRel K (rDin neg) (bDin neg) := by
  intro x y d e H M Q Q2 rx ry rm h vr
  match e, h with
  | .ref a, ⟨kvs, k, h1, h2, q⟩ =>
    cases ry
    obtain ⟨vs, e1, r⟩ := rd_dk rm h1
    cases rep_key h2 rx
    refine ⟨a, valV vs k, rfl, .inl ⟨vs, k, e1, rfl, rfl⟩, ?_⟩
    rcases r.get k with ⟨z, z'⟩ | ⟨d', v, e2, e3, r3⟩
    · rw [z] at q; rw [z']; exact vr _ H (.bl _) M .refl (by cases neg <;> rfl) rm q
    · rw [e2] at q; rw [e3]; exact vr _ H (.bl _) M .refl (by cases neg <;> rfl) rm q
def bDset : TSet2 := fun o i v M Q => match o with
  | .ref a => ∃ kvs k, M a = some (.dK kvs) ∧ keyD i = some k ∧ kvs.length < sizeLine ∧ Q (updM M a (.dK (setK kvs k v)))
  | _ => False
theorem dk_NI {a : Addr} {vs : List (Key × V)} (e : H a = some (.dK vs)) : NI H a := by
  refine ⟨fun ys => ?_, fun o ys z => by rw [e] at z; cases z⟩
  rintro (z | ⟨o, z⟩) <;> (rw [e] at z; cases z)
theorem KVs.len {ds : List (Key × D)} {vs : List (Key × V)} (r : KVs K H ds vs) : vs.length = ds.length := by
  induction ds generalizing vs with
  | nil => simp only [KVs] at r; subst r; rfl
  | cons p ds ih =>
    simp only [KVs] at r
    obtain ⟨u, q, rfl, r1, r2⟩ := r
    simp [ih r2]
theorem dsetRel : SetRel K rSetD bDset := by
  intro o i v do_ di dv H M Q Q2 ro ri rv rm h mr
  match do_, h with
  | .ref a, ⟨kvs, k, hm, hk, hl, h⟩ =>
    cases ro
    cases rep_key hk ri
    obtain ⟨vs, e, r⟩ := rm _ _ hm
    have nt := dk_NI e
    have s : Stp K H M (upd H a (.dK (putK vs k v))) (updM M a (.dK (setK kvs k dv))) := .put rm nt (.inl (by rw [hm]; exact fun z => by cases z))
    refine ⟨a, _, rfl, DPut.k e (by rw [r.len]; exact hl), mr _ _ s (rm.put nt ⟨_, upd_same, s.kvs (r.put k rv)⟩) h⟩
/-- {} -/
def dnew2 : TE2 := fun _ ρ M Q => ∀ p, M p = none → Q (.ref p) (updM M p (.dK []))
theorem pdnew2 : PE2 X W (.Dict [] [] pos) dnew2 :=
  pe_imp pe_dnewK fun σ H Q ⟨ρ, M, Q2, E2, rs, rm, q, vr, xr⟩ => fun p hp => by
    have s : Stp X.K H M (upd H p (.dK [])) (updM M p (.dK [])) := .put rm (notRd_of_none hp) (.inr hp)
    exact vr _ _ (.ref p) _ s rfl (rm.put (notRd_of_none hp) (mo := .dK []) ⟨[], upd_same, rfl⟩) (q p (rm.free hp))
/-- {k: v, ..} -/
abbrev TPs2 := XK2 → St2 → MP → (List (D × D) → MP → Prop) → Prop
def dpnil2 : TPs2 := fun _ _ M Q => Q [] M
def dpcons2 (tk tv : TE2) (t : TPs2) : TPs2 := fun E ρ M Q => tk E ρ M fun k M1 => tv E ρ M1 fun v M2 => t E ρ M2 fun ps M3 => Q ((k, v) :: ps) M3
def mergeD (kvs : List (Key × D)) (more : List (Key × D)) : List (Key × D) := more.foldl (fun acc kv => setK acc kv.1 kv.2) kvs
def disp2 (t : TPs2) : TE2 := fun E ρ M Q => ∀ p, M p = none → t E ρ (updM M p (.dK [])) fun ps M2 => M2 p = some (.dK []) ∧ ∃ kvs : List (Key × D), ps = kvs.map (fun kv => (dOf kv.1, kv.2)) ∧ kvs.length ≤ 15 ∧ Q (.ref p) (updM M2 p (.dK (mergeD [] kvs)))
/-- index of a number -/
def mIndex : RMt2 := fun x ds M Q => match x, ds with
  | .ref a, [.int k] => ∃ (ns : List Int) (j : Nat), M a = some (.lst (ns.map D.int)) ∧ ns[j]? = some k ∧ (∀ m, m < j → ns[m]? ≠ some k) ∧ Q (.int (j : Nat)) M
  | _, _ => False
theorem indexRel : MtRel K "list" (rIndex K) mIndex := by
  intro x d xs ds H M Q Q2 rx rs rm h vr
  match d, ds, h with
  | .ref a, [.int k], ⟨ns, j, hm, hj, hf, h⟩ =>
    cases rx
    simp only [Reps, Rep] at rs
    obtain ⟨v, q, rfl, rfl, rfl⟩ := rs
    obtain ⟨vs, s, r⟩ := rm_sql rm hm
    rw [reps_ints r] at s
    refine ⟨a, _, .int k, j, .int k, rfl, rfl, s, rfl, ?_, by rw [List.getElem?_map, hj]; rfl, by simp [eqV], fun m z hz e => ?_, vr _ H (.int _) M .refl rfl rm h⟩
    · rw [List.all_eq_true]; intro z hz; obtain ⟨n, _, rfl⟩ := List.mem_map.mp hz; rfl
    · rw [List.getElem?_map] at e
      cases e2 : ns[m]? with
      | none => rw [e2] at e; cases e
      | some n =>
        rw [e2] at e
        cases e
        have : n ≠ k := fun z => hf m hz (by rw [e2, z])
        simp [eqV, this]
/-- sorted numbers -/
def bSortedI : RC2 := fun ds M Q => match ds with
  | [.ref a] => ∃ ns : List Int, M a = some (.lst (ns.map D.int)) ∧ ∀ (ns' : List Int) (p : Addr), ns'.Perm ns → ns'.Pairwise (· ≤ ·) → M p = none → Q (.ref p) (updM M p (.lst (ns'.map D.int)))
  | _ => False
theorem reps_of_ints : ∀ ns : List Int, Reps K H (ns.map D.int) (ns.map V.int)
  | [] => rfl
  | n :: ns => ⟨.int n, _, rfl, rfl, reps_of_ints ns⟩
theorem sortedIRel : CallRel K (rSortedI K) bSortedI := by
  intro xs ds H M Q Q2 rs rm h vr
  match ds, h with
  | [.ref a], ⟨ns, hm, h⟩ =>
    simp only [Reps, Rep] at rs
    obtain ⟨v, q, rfl, rfl, rfl⟩ := rs
    obtain ⟨vs, s, r⟩ := rm_sql rm hm
    rw [reps_ints r] at s
    refine ⟨a, ns, rfl, s, fun ns' p h1 h2 hp => ?_⟩
    exact vr.lst rm (reps_of_ints ns') (fun p hp => h ns' p h1 h2 hp) hp

/-! ### displays of dicts -/
def RPs (K : PySem.W.Frag) (H : Hp) : List (D × D) → List (V × V) → Prop
  | [], vs => vs = []
  | p :: ds, vs => ∃ x y r, vs = (x, y) :: r ∧ Rep K H p.1 x ∧ Rep K H p.2 y ∧ RPs K H ds r
def liftP (K : PySem.W.Frag) (W : WX) (t : TPs2) : L2.St → Hp → (List (V × V) → Hp → Prop) → Prop := fun σ H Q => ∃ ρ M Q2 E2, RelS K H ρ σ ∧ RelM K M H ∧ t E2 ρ M Q2 ∧ (∀ vs H' ds M', Stp K H M H' M' → RPs K H' ds vs → RelM K M' H' → Q2 ds M' → Q vs H') ∧ XRel K W H M E2
def PPs2 (X : Cx) (W : WX) (pos : Pos) (keys : List (Option Expr)) (values : List Expr) (t : TPs2) : Prop := ∃ trs, PPs X pos keys values trs ∧ ∀ σ H Q, liftP X.K W t σ H Q → tPairs trs σ H Q
theorem pdpnil2 : PPs2 X W pos [] [] dpnil2 := ⟨[], pps_nil, fun σ H Q ⟨ρ, M, Q2, E2, rs, rm, q, k, xr⟩ => k [] H [] M .refl rfl rm q⟩
theorem RPs.step {H' : Hp} {M' : MP} (s : Stp K H M H' M') : ∀ {ds : List (D × D)} {vs : List (V × V)}, RPs K H ds vs → RPs K H' ds vs
  | [], vs, r => r
  | p :: ds, vs, ⟨x, y, r, e, r1, r2, r3⟩ => ⟨x, y, r, e, s.rep r1, s.rep r2, r3.step s⟩
theorem pdpcons2 {k v : Expr} {ks : List (Option Expr)} {vs : List Expr} {tk tv : TE2} {t : TPs2} (hk : PE2 X W k tk) (hv : PE2 X W v tv) (hr : PPs2 X W pos ks vs t) : PPs2 X W pos (some k :: ks) (v :: vs) (dpcons2 tk tv t) := by
  obtain ⟨trs, h, hi⟩ := hr
  refine ⟨_, pps_cons hk hv h, fun σ H Q ⟨ρ, M, Q2, E2, rs, rm, q, c, xr⟩ => ?_⟩
  refine ⟨ρ, M, _, E2, rs, rm, q, fun x H1 d1 M1 s1 r1 m1 q1 => ⟨ρ, M1, _, E2, s1.rels rs, m1, q1, fun y H2 d2 M2 s2 r2 m2 q2 => hi σ H2 _ ⟨ρ, M2, _, E2, (s1.trans s2).rels rs, m2, q2, fun ps H3 ds M3 s3 r3 m3 q3 => c _ H3 _ M3 ((s1.trans s2).trans s3) (show RPs X.K H3 ((d1, d2) :: ds) ((x, y) :: ps) from ⟨x, y, ps, rfl, (s2.trans s3).rep r1, s3.rep r2, r3⟩) m3 q3, xr.step (s1.trans s2)⟩, xr.step s1⟩, xr⟩
theorem rps_kvs : ∀ {kvs : List (Key × D)} {vs : List (V × V)}, RPs K H (kvs.map fun kv => (dOf kv.1, kv.2)) vs → ∃ ws : List (Key × V), vs = ws.map (fun kv => (kV kv.1, kv.2)) ∧ KVs K H kvs ws
  | [], vs, r => ⟨[], r, rfl⟩
  | p :: kvs, vs, ⟨x, y, r, e, r1, r2, r3⟩ => by
    obtain ⟨ws, e2, r4⟩ := rps_kvs r3
    cases rep_key (keyD_of p.1) r1
    exact ⟨(p.1, y) :: ws, by rw [e, e2]; rfl, y, ws, rfl, r2, r4⟩
theorem KVs.merge : ∀ {more : List (Key × D)} {mv : List (Key × V)} {ds : List (Key × D)} {vs : List (Key × V)}, KVs K H more mv → KVs K H ds vs → KVs K H (mergeD ds more) (mergeK vs mv)
  | [], mv, ds, vs, r, r0 => by simp only [KVs] at r; subst r; exact r0
  | p :: more, mv, ds, vs, r, r0 => by
    simp only [KVs] at r
    obtain ⟨v, q, rfl, r1, r2⟩ := r
    show KVs K H (mergeD (setK ds p.1 p.2) more) (mergeK (putK vs p.1 v) q)
    exact KVs.merge r2 (r0.put p.1 r1)
theorem pdisp2 {keys : List (Option Expr)} {values : List Expr} {t : TPs2} (h : PPs2 X W pos keys values t) (hall : keys.all (·.isSome) = true := by rfl) (hl : keys.length = values.length := by rfl) (h0 : keys ≠ [] := by exact fun z => nomatch z) (h15 : keys.length ≤ 15 := by decide) :
    PE2 X W (.Dict keys values pos) (disp2 t) := by
  obtain ⟨trs, hp, hi⟩ := h
  refine pe_imp (pe_disp hp hall hl h0 h15) fun σ H Q ⟨ρ, M, Q2, E2, rs, rm, q, vr, xr⟩ => fun p hp => ?_
  have s : Stp X.K H M (upd H p (.dK [])) (updM M p (.dK [])) := .put rm (notRd_of_none hp) (.inr hp)
  have m := rm.put (o := .dK []) (notRd_of_none hp) (mo := .dK []) ⟨[], upd_same, rfl⟩
  refine hi _ _ _ ⟨ρ, _, _, E2, s.rels rs, m, q p (rm.free hp), fun vs H2 ds M2 s2 r2 m2 ⟨e, kvs, ep, hl, q2⟩ => ?_, xr.step s⟩
  obtain ⟨vs0, e1, r1⟩ := m2 _ _ e
  simp only [KVs] at r1
  subst r1
  subst ep
  obtain ⟨ws, e3, r3⟩ := rps_kvs r2
  have nt := dk_NI e1
  have s3 : Stp X.K H2 M2 (upd H2 p (.dK (mergeK [] ws))) (updM M2 p (.dK (mergeD [] kvs))) := .put m2 nt (.inl (by rw [e]; exact fun z => by cases z))
  exact ⟨e1, ws, e3, by rw [r3.len]; exact hl, vr _ _ (.ref p) _ ((s.trans s2).trans s3) rfl (m2.put nt ⟨_, upd_same, s3.kvs (KVs.merge r3 (show KVs X.K H2 [] [] from rfl))⟩) q2⟩
/-- list(range(n)) -/
def kLrg (Q : VK2) : VK2 := fun x M1 => match x with
  | .int n => RgOk 0 n ∧ ∀ q, M1 q = none → Q (.ref q) (updM M1 q (.lst ((List.range n.toNat).map fun i => D.int (i : Nat))))
  | _ => False
def lrng2 (te : TE2) : TE2 := fun E ρ M Q => te E ρ M (kLrg Q)
theorem reps_rg : ∀ l : List Nat, Reps K H (l.map fun i => D.int (i : Nat)) (l.map fun i => V.int (0 + (i : Nat)))
  | [] => rfl
  | n :: l => ⟨.int (0 + (n : Nat)), _, rfl, by show V.int _ = V.int _; rw [Int.zero_add], reps_rg l⟩
theorem plrng2 {p p2 q2 : Pos} (hc : X.calm = true) (hg : Gl X "list") (hm : X.mg "list" = none) (hg2 : Gl X "range") (hm2 : X.mg "range" = none) (ha : PE2 X W a ta)
    (na1 : starEach [a] X.env = (false, eval a X.env) :: starEach [] X.env := by rfl)
    (na : starEach [.Call (.Name "range" p2) [a] [] q2] X.env = (false, eval (.Call (.Name "range" p2) [a] [] q2) X.env) :: starEach [] X.env := by rfl) :
    PE2 X W (.Call (.Name "list" p) [.Call (.Name "range" p2) [a] [] q2] [] pos) (lrng2 ta) :=
  pe_imp (pe_listRg hc hg hm (prg_1 hg2 hm2 ha na1) na) fun σ H Q ⟨ρ, M, Q2, E2, rs, rm, q, vr, xr⟩ => ⟨ρ, M, _, E2, rs, rm, q, fun x H1 d M1 s1 r1 m1 q1 => by
    match d, q1, r1 with
    | .int n, ⟨h1, q1⟩, r1 =>
      cases r1
      refine ⟨n, rfl, h1, fun q hq => ?_⟩
      have := (vr.step s1).lst m1 (reps_rg (List.range n.toNat)) q1 hq
      unfold rgV
      rw [Int.sub_zero]
      exact this, xr⟩
end

/-! ### steps -/
section
variable {X : Cx} {K : PySem.W.Frag} {W : WX} {E : XK2} {ρ : St2} {M : MP} {D0 : Ends2} {ta tb te to : TE2} {al : TA2} {Q : VK2} {d x y : D} {b : Bool} {a : Addr} {xs ys : List D} {i j : Int} {R : MP → Prop}
theorem w_dnew (h : ∀ p, M p = none → Q (.ref p) (updM M p (.dK []))) : dnew2 E ρ M Q := h
def kDisp (p : Addr) (Q : VK2) : List (D × D) → MP → Prop := fun ps M2 => M2 p = some (.dK []) ∧ ∃ kvs : List (Key × D), ps = kvs.map (fun kv => (dOf kv.1, kv.2)) ∧ kvs.length ≤ 15 ∧ Q (.ref p) (updM M2 p (.dK (mergeD [] kvs)))
theorem w_disp {t : TPs2} (h : ∀ p, M p = none → t E ρ (updM M p (.dK [])) (kDisp p Q)) : disp2 t E ρ M Q := h
theorem w_dpcons {tk tv : TE2} {t : TPs2} {QP : List (D × D) → MP → Prop} (h : tk E ρ M fun k M1 => tv E ρ M1 fun v M2 => t E ρ M2 fun ps M3 => QP ((k, v) :: ps) M3) : dpcons2 tk tv t E ρ M QP := h
theorem w_dpnil {QP : List (D × D) → MP → Prop} (h : QP [] M) : dpnil2 E ρ M QP := h
theorem w_dget {kvs : List (Key × D)} {k : Key} (e : IsDk M a kvs) (hk : keyD y = some k) (hg : getK kvs k = some d) (h : Q d M) : bDget (.ref a) y M Q := ⟨kvs, k, d, e, hk, hg, h⟩
theorem w_din {neg : Bool} {kvs : List (Key × D)} {k : Key} (e : IsDk M a kvs) (hk : keyD x = some k) (h : Q (.bl (if neg then !(getK kvs k).isSome else (getK kvs k).isSome)) M) : bDin neg x (.ref a) M Q := ⟨kvs, k, e, hk, h⟩
theorem w_dset {kvs : List (Key × D)} {k : Key} (e : M a = some (.dK kvs)) (hk : keyD y = some k) (hl : kvs.length < sizeLine) (h : R (updM M a (.dK (setK kvs k d)))) : bDset (.ref a) y d M R := ⟨kvs, k, e, hk, hl, h⟩
theorem w_index {ns : List Int} {k : Int} (n : Nat) (e : M a = some (.lst (ns.map D.int))) (h1 : ns[n]? = some k) (h2 : ∀ m, m < n → ns[m]? ≠ some k) (h : Q (.int (n : Nat)) M) : mIndex (.ref a) [.int k] M Q := ⟨ns, n, e, h1, h2, h⟩
theorem w_sortedI {ns : List Int} (e : M a = some (.lst (ns.map D.int))) (h : ∀ (ns' : List Int) (p : Addr), ns'.Perm ns → ns'.Pairwise (· ≤ ·) → M p = none → Q (.ref p) (updM M p (.lst (ns'.map D.int)))) : bSortedI [.ref a] M Q := ⟨ns, e, h⟩
theorem w_lrng (h : te E ρ M (kLrg Q)) : lrng2 te E ρ M Q := h
theorem w_kLrg (h1 : 0 ≤ i) (h2 : i ≤ 16777216) (h : ∀ q, M q = none → Q (.ref q) (updM M q (.lst ((List.range i.toNat).map fun i => D.int (i : Nat))))) : kLrg Q (.int i) M := ⟨RgOk.of_le (by decide) h2 (by decide) h1, h⟩
theorem getK_any (kvs : List (Key × D)) (k : Key) : (getK kvs k).isSome = kvs.any fun kv => decide (kv.1 = k) := by
  induction kvs with
  | nil => rfl
  | cons p kvs ih =>
    by_cases e : p.1 = k
    · simp [getK, List.find?_cons, e]
    · have e1 : getK (p :: kvs) k = getK kvs k := by simp [getK, List.find?_cons, e]
      rw [e1, ih]; simp [e]
theorem getK_set (kvs : List (Key × D)) (k j : Key) (v : D) : (getK (setK kvs k v) j).isSome = (decide (k = j) || (getK kvs j).isSome) := by
  rw [getK_any, getK_any]
  unfold setK
  split
  · rename_i h
    have e : ((kvs.map fun kv => if kv.1 = k then (kv.1, v) else kv).any fun kv => decide (kv.1 = j)) = kvs.any fun kv => decide (kv.1 = j) := by
      rw [List.any_map]
      congr 1
      funext kv
      by_cases c : kv.1 = k <;> simp [Function.comp, c]
    rw [e]
    by_cases c : k = j
    · subst c; rw [h]; simp
    · simp [c]
  · rw [List.any_append]
    simp [Bool.or_comm]
theorem setK_len (kvs : List (Key × D)) (k : Key) (v : D) : (setK kvs k v).length ≤ kvs.length + 1 := by
  unfold setK; split <;> simp
end
end N2


/-! Webs: the plain law of ways on a tree that is told by each post's number above it. No program here. -/
namespace Web
def WebOk (ws : List Int) : Prop := ws.length ≤ 23 ∧ ∀ (i : Nat) (u : Int), ws[i]? = some u → 0 ≤ u ∧ u ≤ i
def par (ws : List Int) (n : Nat) : Nat := (ws.getD (n - 1) 0).toNat
def home (ws : List Int) : Nat → Nat → List Nat
  | 0, p => [p]
  | f + 1, p => if p = 0 then [p] else p :: home ws f (par ws p)
def up (ws : List Int) (p : Nat) : List Nat := home ws p p
def strip : List Nat → List Nat → List Nat × List Nat
  | a :: b :: r, a' :: b' :: r' => if b = b' then strip (b :: r) (b' :: r') else (a :: b :: r, a' :: b' :: r')
  | l, l' => (l, l')
def wayN (ws : List Int) (p q : Nat) : List Nat := (strip (up ws p).reverse (up ws q).reverse).1.reverse ++ (strip (up ws p).reverse (up ws q).reverse).2.tail
section
variable {ws : List Int}
theorem par_le (h : WebOk ws) (n : Nat) : par ws n ≤ n - 1 := by
  unfold par
  rw [List.getD_eq_getElem?_getD]
  cases e : ws[n - 1]? with
  | none => simp
  | some u =>
    have := h.2 (n - 1) u e
    simp only [Option.getD_some]
    omega
theorem par_lt (h : WebOk ws) {n : Nat} (hn : 0 < n) : par ws n < n := by have := par_le h n; omega
theorem par_get (h : WebOk ws) {n : Nat} (h0 : 0 < n) (hn : n ≤ ws.length) : ws[n - 1]? = some (par ws n : Int) := by
  have hl : n - 1 < ws.length := by omega
  have e : ws[n - 1]? = some ws[n - 1] := by simp [hl]
  have := h.2 (n - 1) _ e
  rw [e]
  unfold par
  rw [List.getD_eq_getElem?_getD, e, Option.getD_some]
  congr 1
  omega
theorem home_fuel (h : WebOk ws) : ∀ (f g p : Nat), p ≤ f → p ≤ g → home ws f p = home ws g p
  | 0, 0, p, _, _ => rfl
  | 0, g + 1, p, h1, _ => by
    have : p = 0 := by omega
    subst this; rfl
  | f + 1, 0, p, _, h1 => by
    have : p = 0 := by omega
    subst this; rfl
  | f + 1, g + 1, p, h1, h2 => by
    unfold home
    by_cases e : p = 0
    · rw [if_pos e, if_pos e]
    · rw [if_neg e, if_neg e, home_fuel h f g (par ws p) (by have := par_lt h (n := p) (by omega); omega) (by have := par_lt h (n := p) (by omega); omega)]
theorem up_zero : up ws 0 = [0] := rfl
theorem up_pos (h : WebOk ws) {p : Nat} (hp : 0 < p) : up ws p = p :: up ws (par ws p) := by
  unfold up
  obtain ⟨k, rfl⟩ : ∃ k, p = k + 1 := ⟨p - 1, by omega⟩
  rw [show home ws (k + 1) (k + 1) = (k + 1) :: home ws k (par ws (k + 1)) by rw [home]; simp]
  rw [home_fuel h k (par ws (k + 1)) (par ws (k + 1)) (by have := par_lt h (n := k + 1) (by omega); omega) (Nat.le_refl _)]
theorem up_len (h : WebOk ws) : ∀ n p : Nat, p ≤ n → (up ws p).length ≤ p + 1
  | 0, p, hp => by
    have : p = 0 := by omega
    subst this; simp [up_zero]
  | n + 1, p, hp => by
    by_cases e : p = 0
    · subst e; simp [up_zero]
    · rw [up_pos h (by omega), List.length_cons]
      have := up_len h n (par ws p) (by have := par_lt h (n := p) (by omega); omega)
      have := par_lt h (n := p) (by omega)
      omega
/-- each next one stands above the one before -/
def Down (ws : List Int) : List Nat → Prop
  | x :: y :: l => (0 < y ∧ par ws y = x) ∧ Down ws (y :: l)
  | _ => True
theorem Down.snoc : ∀ {l : List Nat} {x y : Nat}, Down ws (l ++ [x]) → 0 < y → par ws y = x → Down ws (l ++ [x] ++ [y])
  | [], x, y, _, h1, h2 => ⟨⟨h1, h2⟩, trivial⟩
  | [a], x, y, h, h1, h2 => ⟨h.1, ⟨h1, h2⟩, trivial⟩
  | a :: b :: l, x, y, h, h1, h2 => ⟨h.1, Down.snoc (l := b :: l) h.2 h1 h2⟩
/-- from post 0 to p -/
theorem root (h : WebOk ws) : ∀ n p : Nat, p ≤ n → ∃ l, (up ws p).reverse = l ++ [p] ∧ Down ws (l ++ [p]) ∧ (∃ t, l ++ [p] = 0 :: t) ∧ ∀ x ∈ l ++ [p], x ≤ p
  | 0, p, hp => by
    have : p = 0 := by omega
    subst this
    exact ⟨[], by simp [up_zero], trivial, ⟨[], rfl⟩, by simp⟩
  | n + 1, p, hp => by
    by_cases e : p = 0
    · subst e; exact ⟨[], by simp [up_zero], trivial, ⟨[], rfl⟩, by simp⟩
    · have lt := par_lt h (n := p) (by omega)
      obtain ⟨l, e1, d, ⟨t, e2⟩, b⟩ := root h n (par ws p) (by omega)
      refine ⟨l ++ [par ws p], by rw [up_pos h (by omega), List.reverse_cons, e1], d.snoc (by omega) rfl, ⟨t ++ [p], by rw [e2]; rfl⟩, fun x hx => ?_⟩
      rcases List.mem_append.mp hx with hx | hx
      · have := b x hx; omega
      · have : x = p := by simpa using hx
        omega
theorem strip_spec : ∀ (A B : List Nat) (a : Nat), ∃ C s A' B', strip (a :: A) (a :: B) = (s :: A', s :: B') ∧ a :: A = C ++ s :: A' ∧ a :: B = C ++ s :: B' ∧ ∀ x y A'' B'', A' = x :: A'' → B' = y :: B'' → x ≠ y
  | [], B, a => ⟨[], a, [], B, by simp [strip], rfl, rfl, fun _ _ _ _ e => nomatch e⟩
  | b :: A, [], a => ⟨[], a, b :: A, [], by simp [strip], rfl, rfl, fun _ _ _ _ _ e => nomatch e⟩
  | b :: A, b' :: B, a => by
    by_cases e : b = b'
    · subst e
      obtain ⟨C, s, A', B', h1, h2, h3, h4⟩ := strip_spec A B b
      exact ⟨a :: C, s, A', B', by rw [strip, if_pos rfl, h1], by rw [h2]; rfl, by rw [h3]; rfl, h4⟩
    · refine ⟨[], a, b :: A, b' :: B, by rw [strip, if_neg e], rfl, rfl, fun x y A'' B'' e1 e2 => ?_⟩
      cases e1; cases e2; exact e
theorem strip_swap : ∀ (l m : List Nat), strip m l = ((strip l m).2, (strip l m).1)
  | [], m => by cases m with | nil => rfl | cons b r => cases r <;> rfl
  | [a], m => by
    cases m with
    | nil => rfl
    | cons b r => cases r <;> rfl
  | a :: b :: r, [] => rfl
  | a :: b :: r, [c] => rfl
  | a :: b :: r, c :: d :: s => by
    rw [strip, strip]
    by_cases e : b = d
    · subst e
      rw [if_pos rfl, if_pos rfl]
      exact strip_swap (b :: r) (b :: s)
    · rw [if_neg e, if_neg (fun z => e z.symm)]
theorem Down.right : ∀ {C l : List Nat}, Down ws (C ++ l) → Down ws l
  | [], _, h => h
  | [a], [], _ => trivial
  | [a], b :: l, h => h.2
  | a :: b :: C, l, h => Down.right (C := b :: C) h.2
def it (ws : List Int) : Nat → Nat → Nat
  | 0, z => z
  | k + 1, z => par ws (it ws k z)
theorem it_add : ∀ (j k z : Nat), it ws (j + k) z = it ws j (it ws k z)
  | 0, k, z => by rw [Nat.zero_add]; rfl
  | j + 1, k, z => by rw [Nat.succ_add]; show par ws (it ws (j + k) z) = par ws (it ws j (it ws k z)); rw [it_add j k z]
theorem it_le (h : WebOk ws) : ∀ (k z : Nat), it ws k z ≤ z
  | 0, z => Nat.le_refl _
  | k + 1, z => by
    show par ws (it ws k z) ≤ z
    have := par_le h (it ws k z)
    have := it_le h k z
    omega
theorem Down.it : ∀ {l : List Nat} {x z : Nat}, Down ws (x :: l) → z ∈ x :: l → ∃ k, it ws k z = x
  | [], x, z, _, hz => ⟨0, by show z = x; simpa using hz⟩
  | y :: l, x, z, h, hz => by
    rcases List.mem_cons.mp hz with rfl | hz
    · exact ⟨0, rfl⟩
    · obtain ⟨k, e⟩ := Down.it (l := l) h.2 hz
      exact ⟨k + 1, by show par ws (Web.it ws k z) = x; rw [e]; exact h.1.2⟩
theorem Down.gt (h : WebOk ws) : ∀ {l : List Nat} {x z : Nat}, Down ws (x :: l) → z ∈ l → x < z
  | [], x, z, _, hz => nomatch hz
  | y :: l, x, z, d, hz => by
    have := par_lt h d.1.1
    rw [d.1.2] at this
    rcases List.mem_cons.mp hz with rfl | hz
    · exact this
    · have := Down.gt h d.2 hz
      omega
theorem Down.nodup (h : WebOk ws) : ∀ {l : List Nat}, Down ws l → l.Nodup
  | [], _ => List.nodup_nil
  | [x], _ => by simp
  | x :: y :: l, d => by
    rw [List.nodup_cons]
    exact ⟨fun hm => by have := Down.gt h d hm; omega, Down.nodup h d.2⟩
/-- two ways up that part never meet again -/
theorem apart (h : WebOk ws) {s x y : Nat} {A B : List Nat} (d1 : Down ws (s :: x :: A)) (d2 : Down ws (s :: y :: B)) (ne : x ≠ y) {z : Nat} (h1 : z ∈ x :: A) (h2 : z ∈ y :: B) : False := by
  obtain ⟨k, e1⟩ := Down.it d1.2 h1
  obtain ⟨j, e2⟩ := Down.it d2.2 h2
  have px := d1.1
  have py := d2.1
  have lx := par_lt h px.1
  have ly := par_lt h py.1
  rcases Nat.lt_trichotomy k j with hlt | heq | hlt
  · have e : it ws ((j - k - 1) + 1) (it ws k z) = y := by
      rw [← it_add, show j - k - 1 + 1 + k = j by omega]; exact e2
    rw [e1, it_add] at e
    have : it ws 1 x = s := px.2
    rw [this] at e
    have := it_le h (j - k - 1) s
    omega
  · subst heq
    exact ne (e1.symm.trans e2)
  · have e : it ws ((k - j - 1) + 1) (it ws j z) = x := by
      rw [← it_add, show k - j - 1 + 1 + j = k by omega]; exact e1
    rw [e2, it_add] at e
    have : it ws 1 y = s := py.2
    rw [this] at e
    have := it_le h (k - j - 1) s
    omega
/-- two neighbours -/
def Adj (ws : List Int) (x y : Nat) : Prop := (0 < y ∧ par ws y = x) ∨ (0 < x ∧ par ws x = y)
def Steps (ws : List Int) : List Nat → Prop
  | x :: y :: l => Adj ws x y ∧ Steps ws (y :: l)
  | _ => True
theorem Down.steps : ∀ {l : List Nat}, Down ws l → Steps ws l
  | [], _ => trivial
  | [_], _ => trivial
  | x :: y :: l, d => ⟨.inl d.1, Down.steps d.2⟩
theorem Steps.join : ∀ {l r : List Nat} {s : Nat}, Steps ws (l ++ [s]) → Steps ws (s :: r) → Steps ws (l ++ s :: r)
  | [], _, _, _, h => h
  | [a], _, _, h1, h2 => ⟨h1.1, h2⟩
  | a :: b :: l, _, _, h1, h2 => ⟨h1.1, Steps.join (l := b :: l) h1.2 h2⟩
theorem Steps.rev : ∀ {l : List Nat}, Steps ws l → Steps ws l.reverse
  | [], _ => trivial
  | [_], _ => trivial
  | x :: y :: l, h => by
    have r := Steps.rev (l := y :: l) h.2
    rw [List.reverse_cons] at r
    rw [List.reverse_cons, List.reverse_cons, List.append_assoc]
    exact r.join ⟨h.1.elim .inr .inl, trivial⟩
theorem Steps.get : ∀ {l : List Nat} {i : Nat} {x y : Nat}, Steps ws l → l[i]? = some x → l[i + 1]? = some y → Adj ws x y
  | [], i, x, y, _, h, _ => by simp at h
  | [a], i, x, y, _, _, h => by simp at h
  | a :: b :: l, 0, x, y, s, h1, h2 => by
    simp at h1 h2
    subst h1 h2
    exact s.1
  | a :: b :: l, i + 1, x, y, s, h1, h2 => Steps.get (l := b :: l) (i := i) s.2 (by simpa using h1) (by simpa using h2)
/-- what the way between two posts is like -/
theorem way_parts (h : WebOk ws) (p q : Nat) : ∃ s A B, strip (up ws p).reverse (up ws q).reverse = (s :: A, s :: B) ∧ Down ws (s :: A) ∧ Down ws (s :: B) ∧ (∀ z, z ∈ A → z ∈ B → False) ∧
    (s :: A).getLast? = some p ∧ (s :: B).getLast? = some q ∧ (∀ x ∈ s :: A, x ≤ p) ∧ (∀ x ∈ s :: B, x ≤ q) := by
  obtain ⟨l, e1, d1, ⟨t, e2⟩, b1⟩ := root h p p (Nat.le_refl _)
  obtain ⟨m, e3, d2, ⟨u, e4⟩, b2⟩ := root h q q (Nat.le_refl _)
  rw [e1, e3, e2, e4]
  obtain ⟨C, s, A, B, h1, h2, h3, h4⟩ := strip_spec t u 0
  rw [← e2] at h2
  rw [← e4] at h3
  rw [h2] at d1 b1
  rw [h3] at d2 b2
  have dA := d1.right
  have dB := d2.right
  refine ⟨s, A, B, h1, dA, dB, fun z hA hB => ?_, ?_, ?_, fun x hx => b1 x (List.mem_append_right _ hx), fun x hx => b2 x (List.mem_append_right _ hx)⟩
  · cases A with
    | nil => cases hA
    | cons x A =>
      cases B with
      | nil => cases hB
      | cons y B => exact apart h dA dB (h4 x y A B rfl rfl) hA hB
  · have := congrArg List.getLast? h2
    simpa using this.symm
  · have := congrArg List.getLast? h3
    simpa using this.symm
theorem wayN_eq {p q s : Nat} {A B : List Nat} (e : strip (up ws p).reverse (up ws q).reverse = (s :: A, s :: B)) : wayN ws p q = A.reverse ++ s :: B := by
  unfold wayN
  rw [e]
  simp
theorem way_rev (h : WebOk ws) (p q : Nat) : wayN ws q p = (wayN ws p q).reverse := by
  obtain ⟨s, A, B, e, _⟩ := way_parts h p q
  have e' : strip (up ws q).reverse (up ws p).reverse = (s :: B, s :: A) := by rw [strip_swap, e]
  rw [wayN_eq e, wayN_eq e']
  simp
theorem way_nodup (h : WebOk ws) (p q : Nat) : (wayN ws p q).Nodup := by
  obtain ⟨s, A, B, e, dA, dB, ap, _⟩ := way_parts h p q
  rw [wayN_eq e, List.nodup_append]
  have nA := Down.nodup h dA
  have nB := Down.nodup h dB
  refine ⟨((List.reverse_perm A).nodup_iff.mpr (List.nodup_cons.mp nA).2), nB, fun a ha b hb z => ?_⟩
  subst z
  rw [List.mem_reverse] at ha
  rcases List.mem_cons.mp hb with rfl | hb
  · exact (List.nodup_cons.mp nA).1 ha
  · exact ap a ha hb
theorem way_steps (h : WebOk ws) (p q : Nat) : Steps ws (wayN ws p q) := by
  obtain ⟨s, A, B, e, dA, dB, _⟩ := way_parts h p q
  rw [wayN_eq e]
  have := dA.steps.rev
  rw [List.reverse_cons] at this
  exact this.join dB.steps
theorem way_last (h : WebOk ws) (p q : Nat) : (wayN ws p q).getLast? = some q := by
  obtain ⟨s, A, B, e, _, _, _, _, hq, _⟩ := way_parts h p q
  rw [wayN_eq e]
  simpa using hq
theorem way_head (h : WebOk ws) (p q : Nat) : (wayN ws p q).head? = some p := by
  have := way_last h q p
  rw [way_rev h p q] at this
  simpa using this
theorem way_le (h : WebOk ws) (p q : Nat) : ∀ x ∈ wayN ws p q, x ≤ p ∨ x ≤ q := by
  obtain ⟨s, A, B, e, _, _, _, _, _, bA, bB⟩ := way_parts h p q
  rw [wayN_eq e]
  intro x hx
  rcases List.mem_append.mp hx with hx | hx
  · exact .inl (bA x (List.mem_cons_of_mem _ (List.mem_reverse.mp hx)))
  · exact .inr (bB x hx)
theorem way_ne (h : WebOk ws) (p q : Nat) : wayN ws p q ≠ [] := fun e => by
  have := way_head h p q
  rw [e] at this; cases this
theorem strip_len : ∀ (l m : List Nat), (strip l m).1.length ≤ l.length ∧ (strip l m).2.length ≤ m.length
  | [], m => by cases m <;> simp [strip]
  | [a], m => by cases m <;> simp [strip]
  | a :: b :: r, [] => by simp [strip]
  | a :: b :: r, [c] => by simp [strip]
  | a :: b :: r, c :: d :: s => by
    rw [strip]
    by_cases e : b = d
    · rw [if_pos e]
      have := strip_len (b :: r) (d :: s)
      simp only [List.length_cons] at this ⊢
      omega
    · rw [if_neg e]; simp
theorem way_len (h : WebOk ws) {p q : Nat} (hp : p ≤ ws.length) (hq : q ≤ ws.length) : (wayN ws p q).length ≤ 48 := by
  unfold wayN
  have := strip_len (up ws p).reverse (up ws q).reverse
  have a := up_len h p p (Nat.le_refl _)
  have b := up_len h q q (Nat.le_refl _)
  have c := h.1
  simp only [List.length_append, List.length_reverse, List.length_tail] at this ⊢
  omega
end
end Web


/-! Webs: who stands above whom; meetings; sides. No program here. -/
namespace Web
section
variable {ws : List Int}
theorem an_self (h : WebOk ws) (p : Nat) : p ∈ up ws p := by
  by_cases e : p = 0
  · subst e; simp [up_zero]
  · rw [up_pos h (by omega)]; simp
theorem an_suf (h : WebOk ws) : ∀ (n p x : Nat), p ≤ n → x ∈ up ws p → ∃ l, up ws p = l ++ up ws x ∧ ∀ y ∈ l, x < y
  | 0, p, x, hp, hx => by
    have : p = 0 := by omega
    subst this
    simp [up_zero] at hx
    subst hx
    exact ⟨[], rfl, by simp⟩
  | n + 1, p, x, hp, hx => by
    by_cases e : p = 0
    · subst e
      simp [up_zero] at hx
      subst hx
      exact ⟨[], rfl, by simp⟩
    · have lt := par_lt h (n := p) (by omega)
      rw [up_pos h (by omega)] at hx ⊢
      rcases List.mem_cons.mp hx with rfl | hx
      · exact ⟨[], (up_pos h (by omega)).symm, by simp⟩
      · obtain ⟨l, e1, e2⟩ := an_suf h n (par ws p) x (by omega) hx
        have hxp : x ≤ par ws p := by
          have hl := up_le h (par ws p) x hx
          exact hl
        refine ⟨p :: l, by rw [e1]; rfl, fun y hy => ?_⟩
        rcases List.mem_cons.mp hy with rfl | hy
        · omega
        · exact e2 y hy
where
  up_le (h : WebOk ws) (p x : Nat) (hx : x ∈ up ws p) : x ≤ p := by
    obtain ⟨l, e, _, _, b⟩ := root h p p (Nat.le_refl _)
    exact b x (by rw [← e]; exact List.mem_reverse.mpr hx)
theorem an_le (h : WebOk ws) {p x : Nat} (hx : x ∈ up ws p) : x ≤ p := an_suf.up_le h p x hx
theorem an_trans (h : WebOk ws) {x y p : Nat} (h1 : x ∈ up ws y) (h2 : y ∈ up ws p) : x ∈ up ws p := by
  obtain ⟨l, e, _⟩ := an_suf h p p y (Nat.le_refl _) h2
  rw [e]; exact List.mem_append_right _ h1
theorem an_chain (h : WebOk ws) {x y p : Nat} (h1 : x ∈ up ws p) (h2 : y ∈ up ws p) (le : x ≤ y) : x ∈ up ws y := by
  obtain ⟨l, e, b⟩ := an_suf h p p y (Nat.le_refl _) h2
  rw [e] at h1
  rcases List.mem_append.mp h1 with h1 | h1
  · have := b x h1; omega
  · exact h1
theorem Down.lt (h : WebOk ws) : ∀ {C A : List Nat} {s z : Nat}, Down ws (C ++ s :: A) → z ∈ C → z < s
  | [], _, _, _, _, hz => nomatch hz
  | c :: C, A, s, z, d, hz => by
    have d' : Down ws (C ++ s :: A) := Down.right (C := [c]) d
    rcases List.mem_cons.mp hz with rfl | hz
    · exact Down.gt h (l := C ++ s :: A) d (by simp)
    · exact Down.lt h d' hz
/-- the parts of two ways up -/
theorem ups (h : WebOk ws) (p q : Nat) : ∃ C s A B, (up ws p).reverse = C ++ s :: A ∧ (up ws q).reverse = C ++ s :: B ∧ (∀ x y A' B', A = x :: A' → B = y :: B' → x ≠ y) ∧ wayN ws p q = A.reverse ++ s :: B ∧
    Down ws (C ++ s :: A) ∧ Down ws (C ++ s :: B) ∧ ∀ z, z ∈ A → z ∈ B → False := by
  obtain ⟨l, e1, d1, ⟨t, e2⟩, b1⟩ := root h p p (Nat.le_refl _)
  obtain ⟨m, e3, d2, ⟨u, e4⟩, b2⟩ := root h q q (Nat.le_refl _)
  obtain ⟨C, s, A, B, h1, h2, h3, h4⟩ := strip_spec t u 0
  rw [← e2, ← e4, ← e1, ← e3] at h1
  rw [← e2, ← e1] at h2
  rw [← e4, ← e3] at h3
  rw [← e1, h2] at d1
  rw [← e3, h3] at d2
  refine ⟨C, s, A, B, h2, h3, h4, wayN_eq h1, d1, d2, fun z hA hB => ?_⟩
  cases A with
  | nil => cases hA
  | cons x A =>
    cases B with
    | nil => cases hB
    | cons y B => exact apart h d1.right d2.right (h4 x y A B rfl rfl) hA hB
theorem mem_way (h : WebOk ws) (p q x : Nat) : x ∈ wayN ws p q ↔ (x ∈ up ws p ∨ x ∈ up ws q) ∧ ∀ z, z ∈ up ws p → z ∈ up ws q → z ≤ x := by
  obtain ⟨C, s, A, B, e1, e2, _, e3, d1, d2, ap⟩ := ups h p q
  have mp : ∀ z, z ∈ up ws p ↔ z ∈ C ∨ z = s ∨ z ∈ A := fun z => by rw [← List.mem_reverse, e1]; simp
  have mq : ∀ z, z ∈ up ws q ↔ z ∈ C ∨ z = s ∨ z ∈ B := fun z => by rw [← List.mem_reverse, e2]; simp
  have c1 : ∀ z, z ∈ C → z < s := fun z hz => Down.lt h d1 hz
  have a1 : ∀ z, z ∈ A → s < z := fun z hz => Down.gt h d1.right hz
  have b1 : ∀ z, z ∈ B → s < z := fun z hz => Down.gt h d2.right hz
  have com : ∀ z, z ∈ up ws p → z ∈ up ws q → z ≤ s := fun z h1 h2 => by
    rw [mp] at h1
    rw [mq] at h2
    rcases h1 with h1 | h1 | h1
    · have := c1 z h1; omega
    · omega
    · rcases h2 with h2 | h2 | h2
      · have := c1 z h2; omega
      · omega
      · exact (ap z h1 h2).elim
  rw [e3]
  constructor
  · intro hx
    have hx' : x ∈ A ∨ x = s ∨ x ∈ B := by simpa using hx
    refine ⟨?_, fun z h1 h2 => ?_⟩
    · rw [mp, mq]
      rcases hx' with hx | hx | hx
      · exact .inl (.inr (.inr hx))
      · exact .inl (.inr (.inl hx))
      · exact .inr (.inr (.inr hx))
    · have := com z h1 h2
      rcases hx' with hx | hx | hx
      · have := a1 x hx; omega
      · omega
      · have := b1 x hx; omega
  · rintro ⟨hx, hz⟩
    have := hz s ((mp s).mpr (.inr (.inl rfl))) ((mq s).mpr (.inr (.inl rfl)))
    have : x ∈ A ∨ x = s ∨ x ∈ B := by
      rw [mp, mq] at hx
      rcases hx with (hx | hx | hx) | (hx | hx | hx)
      · have := c1 x hx; omega
      · exact .inr (.inl hx)
      · exact .inl hx
      · have := c1 x hx; omega
      · exact .inr (.inl hx)
      · exact .inr (.inr hx)
    simpa using this
theorem lca (h : WebOk ws) (p q : Nat) : ∃ s, s ∈ up ws p ∧ s ∈ up ws q ∧ ∀ z, z ∈ up ws p → z ∈ up ws q → z ≤ s := by
  obtain ⟨C, s, A, B, e1, e2, _, e3, d1, d2, ap⟩ := ups h p q
  have hs : s ∈ wayN ws p q := by rw [e3]; simp
  refine ⟨s, ?_, ?_, ((mem_way h p q s).mp hs).2⟩
  · rw [← List.mem_reverse, e1]; simp
  · rw [← List.mem_reverse, e2]; simp
/-- in all three ways -/
def In3 (ws : List Int) (p q r x : Nat) : Prop := x ∈ wayN ws p q ∧ x ∈ wayN ws p r ∧ x ∈ wayN ws q r
theorem in3_one (h : WebOk ws) (p q r : Nat) : ∃ m, ∀ x, In3 ws p q r x ↔ x = m := by
  obtain ⟨a, a1, a2, a3⟩ := lca h p q
  obtain ⟨b, b1, b2, b3⟩ := lca h p r
  obtain ⟨c, c1, c2, c3⟩ := lca h q r
  have key : ∀ m, ((m ∈ up ws p ∧ m ∈ up ws q) ∨ (m ∈ up ws p ∧ m ∈ up ws r) ∨ (m ∈ up ws q ∧ m ∈ up ws r)) → a ≤ m → b ≤ m → c ≤ m → ∀ x, In3 ws p q r x ↔ x = m := by
    intro m hm ha hb hc x
    unfold In3
    rw [mem_way h, mem_way h, mem_way h]
    constructor
    · rintro ⟨⟨x1, y1⟩, ⟨x2, y2⟩, ⟨x3, y3⟩⟩
      have hx : (x ∈ up ws p ∧ x ∈ up ws q) ∨ (x ∈ up ws p ∧ x ∈ up ws r) ∨ (x ∈ up ws q ∧ x ∈ up ws r) := by
        rcases x1 with x1 | x1
        · rcases x3 with x3 | x3
          · exact .inl ⟨x1, x3⟩
          · exact .inr (.inl ⟨x1, x3⟩)
        · rcases x2 with x2 | x2
          · exact .inl ⟨x2, x1⟩
          · exact .inr (.inr ⟨x1, x2⟩)
      have l1 : x ≤ m := by
        rcases hx with ⟨u, v⟩ | ⟨u, v⟩ | ⟨u, v⟩
        · have := a3 x u v; omega
        · have := b3 x u v; omega
        · have := c3 x u v; omega
      have l2 : m ≤ x := by
        rcases hm with ⟨u, v⟩ | ⟨u, v⟩ | ⟨u, v⟩
        · exact y1 m u v
        · exact y2 m u v
        · exact y3 m u v
      omega
    · rintro rfl
      refine ⟨⟨?_, fun z u v => Nat.le_trans (a3 z u v) ha⟩, ⟨?_, fun z u v => Nat.le_trans (b3 z u v) hb⟩, ⟨?_, fun z u v => Nat.le_trans (c3 z u v) hc⟩⟩
      · rcases hm with ⟨u, v⟩ | ⟨u, v⟩ | ⟨u, v⟩
        · exact .inl u
        · exact .inl u
        · exact .inr u
      · rcases hm with ⟨u, v⟩ | ⟨u, v⟩ | ⟨u, v⟩
        · exact .inl u
        · exact .inl u
        · exact .inr v
      · rcases hm with ⟨u, v⟩ | ⟨u, v⟩ | ⟨u, v⟩
        · exact .inl v
        · exact .inr v
        · exact .inl u
  by_cases h1 : b ≤ a ∧ c ≤ a
  · exact ⟨a, key a (.inl ⟨a1, a2⟩) (Nat.le_refl _) h1.1 h1.2⟩
  · by_cases h2 : a ≤ b ∧ c ≤ b
    · exact ⟨b, key b (.inr (.inl ⟨b1, b2⟩)) h2.1 (Nat.le_refl _) h2.2⟩
    · exact ⟨c, key c (.inr (.inr ⟨c1, c2⟩)) (by omega) (by omega) (Nat.le_refl _)⟩
theorem filter_one {l : List Nat} {P : Nat → Bool} {m : Nat} (nd : l.Nodup) (hm : m ∈ l) (hP : ∀ x ∈ l, P x = true ↔ x = m) : l.filter P = [m] := by
  induction l with
  | nil => cases hm
  | cons a l ih =>
    rw [List.nodup_cons] at nd
    by_cases e : a = m
    · subst e
      have : l.filter P = [] := List.filter_eq_nil_iff.mpr fun x hx hx' => nd.1 (by rw [← (hP x (List.mem_cons_of_mem _ hx)).mp hx']; exact hx)
      rw [List.filter_cons, if_pos ((hP a List.mem_cons_self).mpr rfl), this]
    · have hm' : m ∈ l := by
        rcases List.mem_cons.mp hm with z | z
        · exact absurd z.symm e
        · exact z
      rw [List.filter_cons, if_neg (fun z => e ((hP a List.mem_cons_self).mp z)), ih nd.2 hm' fun x hx => hP x (List.mem_cons_of_mem _ hx)]
def medN (ws : List Int) (p q r : Nat) : Nat := ((wayN ws p q).filter fun x => decide (x ∈ wayN ws p r) && decide (x ∈ wayN ws q r)).headD 0
theorem med_list (h : WebOk ws) (p q r : Nat) : ((wayN ws p q).filter fun x => decide (x ∈ wayN ws p r) && decide (x ∈ wayN ws q r)) = [medN ws p q r] := by
  obtain ⟨m, hm⟩ := in3_one h p q r
  have hm' := (hm m).mpr rfl
  have e : ((wayN ws p q).filter fun x => decide (x ∈ wayN ws p r) && decide (x ∈ wayN ws q r)) = [m] := filter_one (way_nodup h p q) hm'.1 fun x hx => by
    rw [← hm x]
    simp [In3, hx]
  unfold medN
  rw [e]; rfl
theorem med_iff (h : WebOk ws) (p q r x : Nat) : In3 ws p q r x ↔ x = medN ws p q r := by
  have e := med_list h p q r
  have : x ∈ ((wayN ws p q).filter fun x => decide (x ∈ wayN ws p r) && decide (x ∈ wayN ws q r)) ↔ x = medN ws p q r := by rw [e]; simp
  rw [← this]
  simp [In3]
theorem way_sym (h : WebOk ws) (p q x : Nat) : x ∈ wayN ws p q ↔ x ∈ wayN ws q p := by rw [way_rev h p q]; simp
theorem med_perm (h : WebOk ws) {p q r p' q' r' : Nat} (e : ∀ x, In3 ws p q r x ↔ In3 ws p' q' r' x) : medN ws p' q' r' = medN ws p q r :=
  (med_iff h p q r _).mp ((e _).mpr ((med_iff h p' q' r' _).mpr rfl))
theorem med_qrp (h : WebOk ws) (p q r : Nat) : medN ws q r p = medN ws p q r := med_perm h fun x => by
  unfold In3; rw [way_sym h p q, way_sym h p r]; exact ⟨fun ⟨a, b, c⟩ => ⟨c, a, b⟩, fun ⟨a, b, c⟩ => ⟨b, c, a⟩⟩
theorem med_rpq (h : WebOk ws) (p q r : Nat) : medN ws r p q = medN ws p q r := med_perm h fun x => by
  unfold In3; rw [way_sym h r p, way_sym h r q]; exact ⟨fun ⟨a, b, c⟩ => ⟨b, c, a⟩, fun ⟨a, b, c⟩ => ⟨c, a, b⟩⟩
theorem med_qpr (h : WebOk ws) (p q r : Nat) : medN ws q p r = medN ws p q r := med_perm h fun x => by
  unfold In3; rw [way_sym h q p]; exact ⟨fun ⟨a, b, c⟩ => ⟨a, c, b⟩, fun ⟨a, b, c⟩ => ⟨a, c, b⟩⟩
theorem mem_head (h : WebOk ws) (p q : Nat) : p ∈ wayN ws p q := List.mem_of_mem_head? (by rw [way_head h p q]; rfl)
theorem mem_last (h : WebOk ws) (p q : Nat) : q ∈ wayN ws p q := (way_sym h p q q).mpr (mem_head h q p)
theorem med_ppr (h : WebOk ws) (p r : Nat) : medN ws p p r = p := ((med_iff h p p r p).mp ⟨mem_head h p p, mem_head h p r, mem_head h p r⟩).symm
theorem med_rpp (h : WebOk ws) (p r : Nat) : medN ws r p p = p := ((med_iff h r p p p).mp ⟨mem_last h r p, mem_last h r p, mem_head h p p⟩).symm
/-! ### what is ahead of a post on a way -/
theorem split_at {X Y U V : List Nat} {m : Nat} (e : X ++ Y = U ++ m :: V) (nd : (X ++ Y).Nodup) (hm : m ∈ X) : ∃ t, X = U ++ m :: t := by
  rcases List.append_eq_append_iff.mp e with ⟨c, e1, e2⟩ | ⟨c, e1, e2⟩
  · have : m ∈ Y := by rw [e2]; simp
    exact ((List.nodup_append.mp nd).2.2 m hm m this rfl).elim
  · cases c with
    | nil =>
      have e3 : X = U := by simpa using e1
      rw [e] at nd
      rw [e3] at hm
      exact ((List.nodup_append.mp nd).2.2 m hm m List.mem_cons_self rfl).elim
    | cons d c =>
      have e3 : m = d := by
        have := congrArg List.head? e2
        simpa using this
      subst e3
      exact ⟨c, e1⟩
theorem strip_pre : ∀ (l R : List Nat) (m : Nat), strip (l ++ m :: R) (l ++ [m]) = (m :: R, [m])
  | [], R, m => by cases R <;> rfl
  | [a], R, m => by
    show strip (a :: m :: R) (a :: m :: []) = _
    rw [strip, if_pos rfl]; cases R <;> rfl
  | a :: b :: l, R, m => by
    show strip (a :: b :: (l ++ m :: R)) (a :: b :: (l ++ [m])) = _
    rw [strip, if_pos rfl]
    exact strip_pre (b :: l) R m
theorem strip_com : ∀ (C : List Nat) (s : Nat) (A B : List Nat), (∀ x y A' B', A = x :: A' → B = y :: B' → x ≠ y) → strip (C ++ s :: A) (C ++ s :: B) = (s :: A, s :: B)
  | [], s, [], B, _ => by cases B <;> rfl
  | [], s, x :: A, [], _ => rfl
  | [], s, x :: A, y :: B, h => by
    show strip (s :: x :: A) (s :: y :: B) = _
    rw [strip, if_neg (h x y A B rfl rfl)]
  | [c], s, A, B, h => by
    show strip (c :: s :: A) (c :: s :: B) = _
    rw [strip, if_pos rfl]; exact strip_com [] s A B h
  | c :: d :: C, s, A, B, h => by
    show strip (c :: d :: (C ++ s :: A)) (c :: d :: (C ++ s :: B)) = _
    rw [strip, if_pos rfl]; exact strip_com (d :: C) s A B h
theorem way_pre (h : WebOk ws) {p q m : Nat} (hm : m ∈ wayN ws p q) : ∃ t, wayN ws p q = wayN ws p m ++ t := by
  obtain ⟨C, s, A, B, e1, e2, ne, e3, d1, d2, ap⟩ := ups h p q
  obtain ⟨l, f1, _, _, _⟩ := root h m m (Nat.le_refl _)
  have nd1 := Down.nodup h d1
  have nd2 := Down.nodup h d2
  rw [e3] at hm
  have hm' : (m = s ∨ m ∈ A) ∨ m ∈ B := by
    have : m ∈ A ∨ m = s ∨ m ∈ B := by simpa using hm
    rcases this with h | h | h
    · exact .inl (.inr h)
    · exact .inl (.inl h)
    · exact .inr h
  rcases hm' with hm | hm
  · -- above p
    have hu : m ∈ up ws p := by rw [← List.mem_reverse, e1]; rcases hm with rfl | hm <;> simp [*]
    obtain ⟨k, g1, _⟩ := an_suf h p p m (Nat.le_refl _) hu
    have g2 : (up ws p).reverse = l ++ m :: k.reverse := by rw [g1, List.reverse_append, f1]; simp
    have w : wayN ws p m = k ++ [m] := by
      unfold wayN
      rw [g2, f1, strip_pre]
      simp
    have g3 : up ws p = k ++ m :: l.reverse := by
      have := congrArg List.reverse g2
      simpa using this
    have g4 : up ws p = (A.reverse ++ [s]) ++ C.reverse := by
      have := congrArg List.reverse e1
      simpa using this
    have nd : ((A.reverse ++ [s]) ++ C.reverse).Nodup := by
      have : ((C ++ s :: A).reverse).Nodup := (List.reverse_perm _).nodup_iff.mpr nd1
      simpa using this
    obtain ⟨t, ht⟩ := split_at (g4.symm.trans g3) nd (by rcases hm with rfl | hm <;> simp [*])
    refine ⟨t ++ B, ?_⟩
    rw [e3, w, show A.reverse ++ s :: B = (A.reverse ++ [s]) ++ B by simp, ht]
    simp
  · -- above q alone
    have hu : m ∈ up ws q := by rw [← List.mem_reverse, e2]; simp [hm]
    obtain ⟨k, g1, _⟩ := an_suf h q q m (Nat.le_refl _) hu
    have g2 : (up ws q).reverse = l ++ m :: k.reverse := by rw [g1, List.reverse_append, f1]; simp
    obtain ⟨B1, B2, rfl⟩ := List.append_of_mem hm
    have e5 : (C ++ s :: B1) ++ m :: B2 = l ++ m :: k.reverse := by rw [← g2, e2]; simp
    have nd : ((C ++ s :: B1) ++ m :: B2).Nodup := by simpa using nd2
    have e6 : l = C ++ s :: B1 := by
      have e7 : ((C ++ s :: B1) ++ [m]) ++ B2 = l ++ m :: k.reverse := by rw [← e5]; simp
      obtain ⟨t, ht⟩ := split_at e7 (by simpa using nd) (by simp)
      have nd' : (l ++ m :: t).Nodup := by rw [← ht]; have := (List.nodup_append.mp (show (((C ++ s :: B1) ++ [m]) ++ B2).Nodup by simpa using nd)).1; exact this
      have e8 : t = [] := by
        cases ht2 : t.reverse with
        | nil => simpa using ht2
        | cons a t2 =>
          have ht3 : t = t2.reverse ++ [a] := by
            have := congrArg List.reverse ht2; simpa using this
          rw [ht3] at ht nd'
          have : m = a := by
            have := (List.append_inj' (show (C ++ s :: B1) ++ [m] = (l ++ m :: t2.reverse) ++ [a] by simpa using ht) rfl).2
            simpa using this
          subst this
          rw [List.nodup_append] at nd'
          have := nd'.2.1
          simp at this
      rw [e8] at ht
      exact (List.append_cancel_right ht).symm
    have w : wayN ws p m = A.reverse ++ s :: (B1 ++ [m]) := by
      refine wayN_eq ?_
      rw [e1, f1, e6, show C ++ s :: B1 ++ [m] = C ++ s :: (B1 ++ [m]) by simp]
      refine strip_com C s A (B1 ++ [m]) fun x y A' B' h1 h2 => ?_
      cases B1 with
      | nil =>
        have h2' : m = y := by
          have := congrArg List.head? h2; simpa using this
        subst h2'
        exact ne x m A' B2 h1 rfl
      | cons b B1 =>
        have h2' : b = y := by
          have := congrArg List.head? h2; simpa using this
        subst h2'
        exact ne x b A' (B1 ++ m :: B2) h1 rfl
    exact ⟨B2, by rw [e3, w]; simp⟩
theorem way_end (h : WebOk ws) (p m : Nat) : ∃ l, wayN ws p m = l ++ [m] := by
  have e := way_last h p m
  have ne := way_ne h p m
  refine ⟨(wayN ws p m).dropLast, ?_⟩
  have := List.dropLast_concat_getLast ne
  rw [List.getLast?_eq_some_getLast ne] at e
  rw [Option.some.inj e] at this
  exact this.symm
/-- what is behind the meeting on one way is not on the other -/
theorem med_apart (h : WebOk ws) {p q r x : Nat} (h1 : x ∈ wayN ws p q) (h2 : x ∈ wayN ws p r) : x ∈ wayN ws p (medN ws p q r) := by
  have hm := (med_iff h p q r _).mpr rfl
  generalize medN ws p q r = m at hm
  obtain ⟨m1, m2, m3⟩ := hm
  rw [mem_way h] at h1 h2 m1 m2 m3 ⊢
  obtain ⟨x1, y1⟩ := h1
  obtain ⟨x2, y2⟩ := h2
  obtain ⟨u1, v1⟩ := m1
  obtain ⟨u2, v2⟩ := m2
  obtain ⟨u3, v3⟩ := m3
  by_cases hp : x ∈ up ws p
  · refine ⟨.inl hp, fun z z1 z2 => ?_⟩
    have zm := an_le h z2
    rcases u3 with u3 | u3
    · exact y1 z z1 (an_trans h z2 u3)
    · exact y2 z z1 (an_trans h z2 u3)
  · have xq : x ∈ up ws q := x1.resolve_left hp
    have xr : x ∈ up ws r := x2.resolve_left hp
    have le := v3 x xq xr
    refine ⟨.inr ?_, fun z z1 z2 => ?_⟩
    · rcases u3 with u3 | u3
      · exact an_chain h xq u3 le
      · exact an_chain h xr u3 le
    · rcases u3 with u3 | u3
      · exact y1 z z1 (an_trans h z2 u3)
      · exact y2 z z1 (an_trans h z2 u3)
/-! ### neighbours and sides -/
def kids (ws : List Int) (p : Nat) : List Nat := ((List.range ws.length).filter fun i => decide (par ws (i + 1) = p)).map (· + 1)
def nbs (ws : List Int) (p : Nat) : List Nat := (if 0 < p then [par ws p] else []) ++ kids ws p
def sideB (ws : List Int) (p q x : Nat) : Bool := if p < q then decide (q ∈ up ws x) else !decide (p ∈ up ws x)
def sideN (ws : List Int) (p q : Nat) : List Nat := (List.range (ws.length + 1)).filter (sideB ws p q)
theorem mem_kids {p n : Nat} : n ∈ kids ws p ↔ 0 < n ∧ n ≤ ws.length ∧ par ws n = p := by
  unfold kids
  rw [List.mem_map]
  constructor
  · rintro ⟨i, hi, rfl⟩
    simp at hi
    exact ⟨by omega, by omega, hi.2⟩
  · rintro ⟨h0, h1, h2⟩
    exact ⟨n - 1, by simp; rw [show n - 1 + 1 = n by omega]; exact ⟨by omega, h2⟩, by omega⟩
theorem mem_nbs {p n : Nat} : n ∈ nbs ws p ↔ (0 < p ∧ n = par ws p) ∨ (0 < n ∧ n ≤ ws.length ∧ par ws n = p) := by
  unfold nbs
  rw [List.mem_append, mem_kids]
  by_cases e : 0 < p
  · simp [e]
  · simp [e]
theorem way_child (h : WebOk ws) {p c : Nat} (h0 : 0 < c) (hc : par ws c = p) : wayN ws c p = [c, p] := by
  obtain ⟨l, f1, _, _, _⟩ := root h p p (Nat.le_refl _)
  unfold wayN
  rw [up_pos h h0, hc, List.reverse_cons, f1, show l ++ [p] ++ [c] = l ++ p :: [c] by simp, strip_pre]
  rfl
theorem way_nb (h : WebOk ws) {p n : Nat} (hn : n ∈ nbs ws p) : wayN ws p n = [p, n] := by
  rcases mem_nbs.mp hn with ⟨h0, rfl⟩ | ⟨h0, _, h1⟩
  · exact way_child h h0 rfl
  · rw [way_rev h n p, way_child h h0 h1]; rfl
theorem nb_ne (h : WebOk ws) {p n : Nat} (hn : n ∈ nbs ws p) : n ≠ p := by
  rcases mem_nbs.mp hn with ⟨h0, rfl⟩ | ⟨h0, _, h1⟩
  · have := par_lt h h0; omega
  · have := par_lt h h0; omega
theorem way_same (h : WebOk ws) (p : Nat) : wayN ws p p = [p] := by
  obtain ⟨l, f1, _, _, _⟩ := root h p p (Nat.le_refl _)
  unfold wayN
  rw [f1, show l ++ [p] = l ++ p :: [] from rfl, strip_pre]
  rfl
theorem side_way (h : WebOk ws) {p n : Nat} (hn : n ∈ nbs ws p) (q : Nat) : sideB ws p n q = decide (n ∈ wayN ws p q) := by
  rw [Bool.eq_iff_iff, decide_eq_true_eq, mem_way h]
  unfold sideB
  rcases mem_nbs.mp hn with ⟨h0, rfl⟩ | ⟨h0, _, h1⟩
  · have lt := par_lt h h0
    have ep := up_pos h h0
    rw [if_neg (by omega)]
    simp only [Bool.not_eq_true', decide_eq_false_iff_not]
    constructor
    · intro hq
      refine ⟨.inl (by rw [ep]; exact List.mem_cons_of_mem _ (an_self h _)), fun z z1 z2 => ?_⟩
      rw [ep] at z1
      rcases List.mem_cons.mp z1 with rfl | z1
      · exact absurd z2 hq
      · exact an_le h z1
    · rintro ⟨_, hz⟩ hq
      have := hz p (an_self h p) hq
      omega
  · have lt := par_lt h h0
    rw [h1] at lt
    rw [if_pos lt, decide_eq_true_eq]
    constructor
    · intro hq
      exact ⟨.inr hq, fun z z1 _ => by have := an_le h z1; omega⟩
    · rintro ⟨hq, _⟩
      rcases hq with hq | hq
      · have := an_le h hq; omega
      · exact hq
theorem steps_right (h : WebOk ws) {p n : Nat} (hn : n ∈ nbs ws p) (q : Nat) : sideB ws p n q = (decide (p ≠ q) && decide ((wayN ws p q).take 2 = [p, n])) := by
  rw [side_way h hn, Bool.eq_iff_iff]
  simp only [decide_eq_true_eq, Bool.and_eq_true]
  constructor
  · intro hm
    obtain ⟨t, e⟩ := way_pre h hm
    rw [way_nb h hn] at e
    refine ⟨fun z => ?_, by rw [e]; rfl⟩
    subst z
    rw [way_same h] at hm
    exact nb_ne h hn (by simpa using hm)
  · rintro ⟨_, e⟩
    have : n ∈ (wayN ws p q).take 2 := by rw [e]; simp
    exact List.mem_of_mem_take this
end
end Web


/-! Webs: what lies beyond a road. No program here. -/
namespace Web
theorem sorted_eq : ∀ {l m : List Int}, l.Pairwise (· ≤ ·) → m.Pairwise (· ≤ ·) → l.Perm m → l = m
  | [], m, _, _, h => by
    cases m with
    | nil => rfl
    | cons b m => have := h.length_eq; simp at this
  | a :: l, m, h1, h2, h => by
    cases m with
    | nil => have := h.length_eq; simp at this
    | cons b m =>
      have ha : a ∈ b :: m := h.mem_iff.mp (by simp)
      have hb : b ∈ a :: l := h.mem_iff.mpr (by simp)
      have e : a = b := by
        have h1' := (List.pairwise_cons.mp h1).1
        have h2' := (List.pairwise_cons.mp h2).1
        rcases List.mem_cons.mp ha with e | ha
        · exact e
        · rcases List.mem_cons.mp hb with e | hb
          · exact e.symm
          · have := h2' a ha
            have := h1' b hb
            omega
      subst e
      rw [sorted_eq (List.pairwise_cons.mp h1).2 (List.pairwise_cons.mp h2).2 h.cons_inv]
theorem sorted_nats {l : List Nat} (h : l.Pairwise (· < ·)) : (l.map Int.ofNat).Pairwise (· ≤ ·) := by
  rw [List.pairwise_map]
  exact h.imp fun {a b} hab => by show (a : Int) ≤ b; omega
theorem nodup_of_lt {l : List Nat} (h : l.Pairwise (· < ·)) : l.Nodup := h.imp fun {a b} hab => Nat.ne_of_lt hab
/-- sorting numbers: the same members, rising -/
theorem sorted_is {ns : List Int} {l m : List Nat} (h1 : ns.Perm (l.map Int.ofNat)) (h2 : ns.Pairwise (· ≤ ·)) (hp : l.Perm m) (hm : m.Pairwise (· < ·)) : ns = m.map Int.ofNat :=
  sorted_eq h2 (sorted_nats hm) (h1.trans (hp.map _))
section
variable {ws : List Int}
theorem kids_lt (p : Nat) : (kids ws p).Pairwise (· < ·) := by
  unfold kids
  rw [List.pairwise_map]
  exact (List.Pairwise.filter _ List.pairwise_lt_range).imp fun {a b} hab => by omega
theorem nbs_lt (h : WebOk ws) (p : Nat) : (nbs ws p).Pairwise (· < ·) := by
  unfold nbs
  by_cases e : 0 < p
  · rw [if_pos e, List.singleton_append, List.pairwise_cons]
    refine ⟨fun n hn => ?_, kids_lt p⟩
    obtain ⟨h0, _, h2⟩ := mem_kids.mp hn
    have := par_lt h e
    have := par_lt h h0
    omega
  · rw [if_neg e]; exact kids_lt p
def bes (ws : List Int) (p : Nat) : Nat → List Nat
  | 0 => []
  | i + 1 => bes ws p i ++ (if par ws (i + 1) = p then [i + 1] else []) ++ (if i + 1 = p then [par ws p] else [])
theorem bes_perm (p : Nat) : ∀ i, (bes ws p i).Perm ((if 0 < p ∧ p ≤ i then [par ws p] else []) ++ ((List.range i).filter fun j => decide (par ws (j + 1) = p)).map (· + 1))
  | 0 => by
    have : ¬ (0 < p ∧ p ≤ 0) := by omega
    rw [if_neg this]; exact List.Perm.nil
  | i + 1 => by
    have ih := bes_perm p i
    have e1 : ((List.range (i + 1)).filter fun j => decide (par ws (j + 1) = p)).map (· + 1) = ((List.range i).filter fun j => decide (par ws (j + 1) = p)).map (· + 1) ++ (if par ws (i + 1) = p then [i + 1] else []) := by
      rw [List.range_succ, List.filter_append, List.map_append]
      by_cases e : par ws (i + 1) = p <;> simp [e]
    rw [e1]
    show (bes ws p i ++ (if par ws (i + 1) = p then [i + 1] else []) ++ (if i + 1 = p then [par ws p] else [])).Perm _
    generalize (if par ws (i + 1) = p then [i + 1] else []) = X
    generalize ((List.range i).filter fun j => decide (par ws (j + 1) = p)).map (· + 1) = Y at *
    by_cases e : i + 1 = p
    · have c1 : ¬ (0 < p ∧ p ≤ i) := by omega
      have c2 : 0 < p ∧ p ≤ i + 1 := by omega
      rw [if_neg c1] at ih
      rw [if_pos e, if_pos c2]
      exact ((ih.append_right X).append_right _).trans List.perm_append_comm
    · rw [if_neg e, List.append_nil]
      have c : (if 0 < p ∧ p ≤ i + 1 then [par ws p] else []) = (if 0 < p ∧ p ≤ i then [par ws p] else []) := by
        by_cases c1 : 0 < p ∧ p ≤ i
        · rw [if_pos c1, if_pos (by omega)]
        · rw [if_neg c1, if_neg (by omega)]
      rw [c, ← List.append_assoc]
      exact ih.append_right X
theorem bes_nbs {p : Nat} (hp : p ≤ ws.length) : (bes ws p ws.length).Perm (nbs ws p) := by
  have := bes_perm (ws := ws) p ws.length
  unfold nbs kids
  by_cases e : 0 < p
  · rw [if_pos ⟨e, hp⟩] at this
    rw [if_pos e]; exact this
  · rw [if_neg (by omega)] at this
    rw [if_neg e]; exact this
theorem bes_len (p : Nat) : ∀ i, (bes ws p i).length ≤ 2 * i
  | 0 => Nat.le_refl _
  | i + 1 => by
    have := bes_len p i
    unfold bes
    rw [List.length_append, List.length_append]
    split <;> split <;> simp <;> omega
/-! ### sides -/
theorem side_q (h : WebOk ws) {p q : Nat} (hq : q ∈ nbs ws p) : sideB ws p q q = true := by
  unfold sideB
  rcases mem_nbs.mp hq with ⟨h0, rfl⟩ | ⟨h0, _, h1⟩
  · have lt := par_lt h h0
    rw [if_neg (by omega)]
    have : p ∉ up ws (par ws p) := fun z => by have := an_le h z; omega
    simp [this]
  · have lt := par_lt h h0
    rw [if_pos (by omega)]
    simp [an_self h q]
theorem side_p (h : WebOk ws) {p q : Nat} (hq : q ∈ nbs ws p) : sideB ws p q p = false := by
  unfold sideB
  rcases mem_nbs.mp hq with ⟨h0, rfl⟩ | ⟨h0, _, h1⟩
  · have lt := par_lt h h0
    rw [if_neg (by omega)]
    simp [an_self h p]
  · have lt := par_lt h h0
    rw [if_pos (by omega)]
    have : q ∉ up ws p := fun z => by have := an_le h z; omega
    simp [this]
theorem side_step (h : WebOk ws) {p q x y : Nat} (hq : q ∈ nbs ws p) (hx : sideB ws p q x = true) (hy : y ∈ nbs ws x) (ne : y ≠ p) : sideB ws p q y = true := by
  unfold sideB at hx ⊢
  rcases mem_nbs.mp hq with ⟨h0, rfl⟩ | ⟨h0, _, h1⟩
  · have lt := par_lt h h0
    rw [if_neg (by omega)] at hx ⊢
    simp only [Bool.not_eq_true', decide_eq_false_iff_not] at hx ⊢
    intro hp
    rcases mem_nbs.mp hy with ⟨x0, rfl⟩ | ⟨y0, _, y1⟩
    · exact hx (by rw [up_pos h x0]; exact List.mem_cons_of_mem _ hp)
    · rw [up_pos h y0, y1] at hp
      rcases List.mem_cons.mp hp with e | hp
      · exact ne e.symm
      · exact hx hp
  · have lt := par_lt h h0
    rw [if_pos (by omega)] at hx ⊢
    simp only [decide_eq_true_eq] at hx ⊢
    rcases mem_nbs.mp hy with ⟨x0, rfl⟩ | ⟨y0, _, y1⟩
    · rw [up_pos h x0] at hx
      rcases List.mem_cons.mp hx with e | hx
      · subst e; exact absurd h1 ne
      · exact hx
    · rw [up_pos h y0, y1]; exact List.mem_cons_of_mem _ hx
theorem side_all (h : WebOk ws) {p q : Nat} (hq : q ∈ nbs ws p) {F : Nat → Prop} (h0 : F q) (cl : ∀ x, F x → ∀ y ∈ nbs ws x, y = p ∨ F y) : ∀ n x, x ≤ n → x ≤ ws.length → sideB ws p q x = true → F x := by
  have child : ∀ x, 0 < x → x ≤ ws.length → F (par ws x) → x ≠ p → F x := fun x x0 x1 hf ne => (cl _ hf x (mem_nbs.mpr (.inr ⟨x0, x1, rfl⟩))).resolve_left ne
  rcases mem_nbs.mp hq with ⟨hp0, rfl⟩ | ⟨hq0, _, h1⟩
  · have lt := par_lt h hp0
    have f0 : ∀ n y, y ≤ n → y < p → F y → F 0 := by
      intro n
      induction n with
      | zero => intro y hy _ hf; rw [show y = 0 by omega] at hf; exact hf
      | succ n ih =>
        intro y hy hp hf
        by_cases e : y = 0
        · subst e; exact hf
        · have l := par_lt h (n := y) (by omega)
          exact ih (par ws y) (by omega) (by omega) ((cl y hf (par ws y) (mem_nbs.mpr (.inl ⟨by omega, rfl⟩))).resolve_left (by omega))
    have fz := f0 _ (par ws p) (Nat.le_refl _) lt h0
    intro n
    induction n with
    | zero => intro x hx _ _; rw [show x = 0 by omega]; exact fz
    | succ n ih =>
      intro x hx hl hs
      by_cases e : x = 0
      · subst e; exact fz
      · have l := par_lt h (n := x) (by omega)
        unfold sideB at hs
        rw [if_neg (by omega)] at hs
        simp only [Bool.not_eq_true', decide_eq_false_iff_not] at hs
        rw [up_pos h (by omega)] at hs
        refine child x (by omega) hl (ih (par ws x) (by omega) (by omega) ?_) fun z => hs (by rw [z]; simp)
        unfold sideB
        rw [if_neg (by omega)]
        simp only [Bool.not_eq_true', decide_eq_false_iff_not]
        exact fun z => hs (List.mem_cons_of_mem _ z)
  · have lt := par_lt h hq0
    intro n
    induction n with
    | zero =>
      intro x hx _ hs
      unfold sideB at hs
      rw [if_pos (by omega)] at hs
      have := an_le h (of_decide_eq_true hs)
      omega
    | succ n ih =>
      intro x hx hl hs
      unfold sideB at hs
      rw [if_pos (by omega)] at hs
      have hu := of_decide_eq_true hs
      have hle := an_le h hu
      have l := par_lt h (n := x) (by omega)
      rw [up_pos h (by omega)] at hu
      rcases List.mem_cons.mp hu with rfl | hu
      · exact h0
      · refine child x (by omega) hl (ih (par ws x) (by omega) (by omega) ?_) (by omega)
        unfold sideB
        rw [if_pos (by omega)]
        exact decide_eq_true hu
theorem sideN_lt (p q : Nat) : (sideN ws p q).Pairwise (· < ·) := List.Pairwise.filter _ List.pairwise_lt_range
/-- what a walk from q that keeps off p has found -/
theorem found_side (h : WebOk ws) {p q : Nat} (hq : q ∈ nbs ws p) {F : List Nat} (nd : F.Nodup) (hF : ∀ x ∈ F, x ≤ ws.length ∧ sideB ws p q x = true) (h0 : q ∈ F) (cl : ∀ x ∈ F, ∀ y ∈ nbs ws x, y = p ∨ y ∈ F) : F.Perm (sideN ws p q) := by
  rw [List.perm_ext_iff_of_nodup nd (nodup_of_lt (sideN_lt p q))]
  intro x
  unfold sideN
  rw [List.mem_filter, List.mem_range]
  constructor
  · intro hx; have := hF x hx; exact ⟨by omega, this.2⟩
  · rintro ⟨hl, hs⟩
    exact side_all h hq (F := fun x => x ∈ F) h0 cl x x (Nat.le_refl _) (by omega) hs
theorem few {F : List Nat} {n : Nat} (nd : F.Nodup) (hF : ∀ x ∈ F, x < n) : F.length ≤ n := by
  have e : F.Perm ((List.range n).filter fun x => decide (x ∈ F)) := by
    rw [List.perm_ext_iff_of_nodup nd (nodup_of_lt (List.Pairwise.filter _ List.pairwise_lt_range))]
    intro x
    rw [List.mem_filter, List.mem_range]
    simp
    exact hF x
  rw [e.length_eq]
  have := List.length_filter_le (fun x => decide (x ∈ F)) (List.range n)
  simpa using this
theorem side_both {p q : Nat} (lt : p < q) (x : Nat) : sideB ws q p x = !sideB ws p q x := by
  unfold sideB
  rw [if_neg (by omega), if_pos lt]
theorem sides_perm {p q : Nat} (lt : p < q) : (sideN ws p q ++ sideN ws q p).Perm (List.range (ws.length + 1)) := by
  unfold sideN
  have e : sideB ws q p = fun x => !sideB ws p q x := funext (side_both lt)
  rw [e]
  exact List.filter_append_perm _ _
end
end Web




namespace K26
open PySem PySem.Spec PyProof.Rows L2 N2
def top (i : Nat) : Stmt := PySem.Challenge.pw_newsways_k26_neighbours_and_sides.main.body.getD i (.Pass ⟨0, 0, 0, 0⟩)
structure GC where
  cNoPost : Addr
  cNoRoad : Addr
  cNoWeb : Addr
structure Tx (K : PySem.W.Frag) (mg : Str → Option Value) (G : GC) : Prop where
  b_bool : mg "bool" = none
  b_enumerate : mg "enumerate" = none
  b_int : mg "int" = none
  b_isinstance : mg "isinstance" = none
  b_len : mg "len" = none
  b_list : mg "list" = none
  b_max : mg "max" = none
  b_min : mg "min" = none
  b_range : mg "range" = none
  b_sorted : mg "sorted" = none
  c_MOST_POSTS : ∃ t, mg "MOST_POSTS" = some (.int 24 t)
  e_NoPost : ExC K mg "NoPost" G.cNoPost
  e_NoRoad : ExC K mg "NoRoad" G.cNoRoad
  e_NoWeb : ExC K mg "NoWeb" G.cNoWeb
theorem bb_bool : bootBuiltins "bool" = some (.type "bool") := by decide +kernel
theorem bb_enumerate : bootBuiltins "enumerate" = some (.type "enumerate") := by decide +kernel
theorem bb_int : bootBuiltins "int" = some (.type "int") := by decide +kernel
theorem bb_isinstance : bootBuiltins "isinstance" = some (.builtin "isinstance") := by decide +kernel
theorem bb_len : bootBuiltins "len" = some (.builtin "len") := by decide +kernel
theorem bb_list : bootBuiltins "list" = some (.type "list") := by decide +kernel
theorem bb_max : bootBuiltins "max" = some (.builtin "max") := by decide +kernel
theorem bb_min : bootBuiltins "min" = some (.builtin "min") := by decide +kernel
theorem bb_range : bootBuiltins "range" = some (.type "range") := by decide +kernel
theorem bb_sorted : bootBuiltins "sorted" = some (.builtin "sorted") := by decide +kernel
abbrev s_is_whole : Stmt := top 7
abbrev N_is_whole : List Str := ["thing"]
theorem sc_is_whole : FnScope N_is_whole ["thing"] (defScope s_is_whole) := ⟨rfl, rfl, rfl, by decide +kernel, rfl, by decide +kernel, by decide +kernel⟩
abbrev s_is_web : Stmt := top 8
abbrev N_is_web : List Str := ["thing", "place", "up"]
theorem sc_is_web : FnScope N_is_web ["thing"] (defScope s_is_web) := ⟨rfl, rfl, rfl, by decide +kernel, rfl, by decide +kernel, by decide +kernel⟩
abbrev s_need_web : Stmt := top 9
abbrev N_need_web : List Str := ["web"]
theorem sc_need_web : FnScope N_need_web ["web"] (defScope s_need_web) := ⟨rfl, rfl, rfl, by decide +kernel, rfl, by decide +kernel, by decide +kernel⟩
abbrev s_need_post : Stmt := top 10
abbrev N_need_post : List Str := ["web", "post"]
theorem sc_need_post : FnScope N_need_post ["web", "post"] (defScope s_need_post) := ⟨rfl, rfl, rfl, by decide +kernel, rfl, by decide +kernel, by decide +kernel⟩
abbrev s_neighbours : Stmt := top 11
abbrev N_neighbours : List Str := ["web", "p", "found", "place", "up"]
theorem sc_neighbours : FnScope N_neighbours ["web", "p"] (defScope s_neighbours) := ⟨rfl, rfl, rfl, by decide +kernel, rfl, by decide +kernel, by decide +kernel⟩
abbrev s_homeward : Stmt := top 12
abbrev N_homeward : List Str := ["web", "p", "found"]
theorem sc_homeward : FnScope N_homeward ["web", "p"] (defScope s_homeward) := ⟨rfl, rfl, rfl, by decide +kernel, rfl, by decide +kernel, by decide +kernel⟩
abbrev s_side : Stmt := top 13
abbrev N_side : List Str := ["web", "p", "q", "post"]
theorem sc_side : FnScope N_side ["web", "p", "q"] (defScope s_side) := ⟨rfl, rfl, rfl, by decide +kernel, rfl, by decide +kernel, by decide +kernel⟩
abbrev s__law_bag : Stmt := top 15
abbrev N__law_bag : List Str := ["script", "k", "cell"]
theorem sc__law_bag : FnScope N__law_bag ["script", "k"] (defScope s__law_bag) := ⟨rfl, rfl, rfl, by decide +kernel, rfl, by decide +kernel, by decide +kernel⟩
abbrev s__law_take : Stmt := top 16
abbrev N__law_take : List Str := ["bag", "many", "found", "mark"]
theorem sc__law_take : FnScope N__law_take ["bag", "many"] (defScope s__law_take) := ⟨rfl, rfl, rfl, by decide +kernel, rfl, by decide +kernel, by decide +kernel⟩
abbrev s__law_web : Stmt := top 17
abbrev N__law_web : List Str := ["bag", "most", "kind", "web", "place"]
theorem sc__law_web : FnScope N__law_web ["bag", "most"] (defScope s__law_web) := ⟨rfl, rfl, rfl, by decide +kernel, rfl, by decide +kernel, by decide +kernel⟩
abbrev s__law_beside : Stmt := top 18
abbrev N__law_beside : List Str := ["web", "p", "found", "place"]
theorem sc__law_beside : FnScope N__law_beside ["web", "p"] (defScope s__law_beside) := ⟨rfl, rfl, rfl, by decide +kernel, rfl, by decide +kernel, by decide +kernel⟩
abbrev s__law_beyond : Stmt := top 19
abbrev N__law_beyond : List Str := ["web", "p", "q", "met", "waiting", "found", "post"]
theorem sc__law_beyond : FnScope N__law_beyond ["web", "p", "q"] (defScope s__law_beyond) := ⟨rfl, rfl, rfl, by decide +kernel, rfl, by decide +kernel, by decide +kernel⟩
abbrev s__law_whole : Stmt := top 20
abbrev N__law_whole : List Str := ["found", "one"]
theorem sc__law_whole : FnScope N__law_whole ["found"] (defScope s__law_whole) := ⟨rfl, rfl, rfl, by decide +kernel, rfl, by decide +kernel, by decide +kernel⟩
abbrev s__law_sides_right : Stmt := top 21
abbrev N__law_sides_right : List Str := ["web", "p", "q", "found", "other"]
theorem sc__law_sides_right : FnScope N__law_sides_right ["web", "p", "q"] (defScope s__law_sides_right) := ⟨rfl, rfl, rfl, by decide +kernel, rfl, by decide +kernel, by decide +kernel⟩
abbrev s_law : Stmt := top 22
abbrev N_law : List Str := ["script", "k", "bag", "web", "kept", "p", "found", "due", "q"]
theorem sc_law : FnScope N_law ["script"] (defScope s_law) := ⟨rfl, rfl, rfl, by decide +kernel, rfl, by decide +kernel, by decide +kernel⟩
end K26


namespace K26
open PySem PySem.Spec PyProof.Rows L2 N2 Web
abbrev iL (ns : List Int) : MO := .lst (ns.map D.int)
abbrev nats (ns : List Nat) : List Int := ns.map Int.ofNat

def sp_is_whole (G : GC) : Sp2 := fun ds M Q _ => ∃ d t, ds = [d] ∧ typeD M d = some t ∧ Q (.bl (t == "int")) M
def sp_is_web (G : GC) : Sp2 := fun ds M Q _ => ∃ a ws, ds = [.ref a] ∧ M a = some (iL ws) ∧ WebOk ws ∧ Q (.bl true) M
def sp_need_web (G : GC) : Sp2 := fun ds M Q _ => ∃ a ws, ds = [.ref a] ∧ M a = some (iL ws) ∧ WebOk ws ∧ Q .non M
def sp_need_post (G : GC) : Sp2 := fun ds M Q _ => ∃ a ws, ∃ p : Int, ds = [.ref a, .int p] ∧ M a = some (iL ws) ∧ 0 ≤ p ∧ p ≤ ws.length ∧ Q .non M
def sp_homeward (G : GC) : Sp2 := fun ds M Q _ => ∃ a ws, ∃ p : Nat, ds = [.ref a, .int p] ∧ M a = some (iL ws) ∧ WebOk ws ∧ p ≤ ws.length ∧ ∀ q, M q = none → Q (.ref q) (updM M q (iL (nats (up ws p))))
/-- a bag: what is drawn from it next, what is stirred, how many were stirred (at most n) -/
def Bag (M : MP) (b : Addr) (n : Nat) : Prop := ∃ x y c : Int, M b = some (iL [x, y, c]) ∧ 0 ≤ x ∧ 0 ≤ y ∧ y < 2 ^ 140 ∧ 0 ≤ c ∧ c ≤ n
def sp__law_bag (G : GC) : Sp2 := fun ds M Q _ => ∃ ns : List Int, ∃ k : Nat, ds = [.scr (ns.map D.int), .int k] ∧ k ≤ 1000 ∧ ∀ b M', M b = none → (∀ a, a ≠ b → M' a = M a) → Bag M' b (61 * k) → Q (.ref b) M'
def sp__law_take (G : GC) : Sp2 := fun ds M Q _ => ∃ b n, ∃ many : Int, ds = [.ref b, .int many] ∧ Bag M b n ∧ n ≤ 2 ^ 60 ∧ 0 < many ∧ many < 2 ^ 100 ∧ ∀ r M', 0 ≤ r → r < many → (∀ a, a ≠ b → M' a = M a) → Bag M' b (n + 1) → Q (.int r) M'
/-- all but what stands at b is as it was -/
def Kept (b : Addr) (M M' : MP) : Prop := ∀ a o, a ≠ b → M a = some o → M' a = some o
def sp__law_web (G : GC) : Sp2 := fun ds M Q _ => ∃ b n, ∃ most : Nat, ds = [.ref b, .int most] ∧ Bag M b n ∧ n ≤ 2 ^ 50 ∧ most ≤ 23 ∧ ∀ p ws M', p ≠ b → M p = none → M' p = some (iL ws) → WebOk ws → Kept b M M' → Bag M' b (n + 100) → Q (.ref p) M'
def sp_neighbours (G : GC) : Sp2 := fun ds M Q _ => ∃ a ws, ∃ p : Nat, ds = [.ref a, .int p] ∧ M a = some (iL ws) ∧ WebOk ws ∧ p ≤ ws.length ∧ ∀ q, M q = none → Q (.ref q) (updM M q (iL (nats (nbs ws p))))
def sp_side (G : GC) : Sp2 := fun ds M Q _ => ∃ a ws, ∃ p q : Nat, ds = [.ref a, .int p, .int q] ∧ M a = some (iL ws) ∧ WebOk ws ∧ p ≤ ws.length ∧ q ∈ nbs ws p ∧ ∀ r, M r = none → Q (.ref r) (updM M r (iL (nats (sideN ws p q))))
def sp__law_beside (G : GC) : Sp2 := fun ds M Q _ => ∃ a ws, ∃ p : Nat, ds = [.ref a, .int p] ∧ M a = some (iL ws) ∧ WebOk ws ∧ p ≤ ws.length ∧ ∀ q, M q = none → Q (.ref q) (updM M q (iL (nats (nbs ws p))))
def sp__law_beyond (G : GC) : Sp2 := fun ds M Q _ => ∃ a ws, ∃ p q : Nat, ds = [.ref a, .int p, .int q] ∧ M a = some (iL ws) ∧ WebOk ws ∧ p ≤ ws.length ∧ q ∈ nbs ws p ∧ ∀ r, M r = none → Q (.ref r) (updM M r (iL (nats (sideN ws p q))))
def sp__law_whole (G : GC) : Sp2 := fun ds M Q _ => ∃ a, ∃ ns : List Int, ds = [.ref a] ∧ M a = some (iL ns) ∧ ns.length ≤ 1000 ∧ Q (.bl true) M
def sp__law_sides_right (G : GC) : Sp2 := fun ds M Q _ => ∃ a ws, ∃ p q : Nat, ds = [.ref a, .int p, .int q] ∧ M a = some (iL ws) ∧ WebOk ws ∧ p ≤ ws.length ∧ q ∈ nbs ws p ∧ p < q ∧ Q (.bl true) M
abbrev sp_law (G : GC) : Sp2 := lawSp
end K26




namespace K26
open PySem PySem.Spec PyProof.Rows L2 N2
def t_is_whole (G : GC) : TS2 := (seq2 (ret2 (andv2 (call2 bIsi (cons2 (v2 0) (cons2 (c2 (.ty "int")) nil2))) (notv2 (call2 bIsi (cons2 (v2 0) (cons2 (c2 (.ty "bool")) nil2)))))) next2)
theorem d_is_whole {P : Program} {w : World} {K : PySem.W.Frag} {mg : Str → Option Value} {base : Heap} {G : GC} {f : Addr} (T : Tx K mg G)  : ∀ (cdv : Value) (A : Around) (outer : List Env) (s : Shared) (H : Hp) (E : XK), Room 0 (A.deeper (envOfC "is_whole" (defScope s_is_whole) s.heap.objs.size f cdv)) → PSs2 (cxOf (L2.CX P w) P w K mg base N_is_whole "is_whole" (defScope s_is_whole) f cdv A outer s H E) (WD E) (defBody s_is_whole) (t_is_whole G) :=
  fun cdv A outer s H E hr => (psscons2 (psret2 (pandv2 (pcallB2 call_isiA isiRel rfl T.b_isinstance bb_isinstance (pcons2 (pv2 0) (pcons2 (pty2 rfl T.b_int bb_int) pnil2))) (pone2 (pnotv2 (pcallB2 call_isiA isiRel rfl T.b_isinstance bb_isinstance (pcons2 (pv2 0) (pcons2 (pty2 rfl T.b_bool bb_bool) pnil2))))))) pssnil2)
def t_is_web (G : GC) : TS2 := (seq2 (if2 (or2 (not2 (tr2 (call2 bIsi (cons2 (v2 0) (cons2 (c2 (.ty "list")) nil2))))) (bt2 (op2 bGe (call2 bLen (cons2 (v2 0) nil2)) (c2 (.int 24))))) (seq2 (ret2 (c2 (.bl false))) next2) next2) (seq2 (for2 (ienum2 (cons2 (v2 0) nil2)) (gtup2 2 (gcons2 (gn2 1) (gcons2 (gn2 2) gnil2))) (seq2 (if2 (or2 (not2 (tr2 (fn2 (sp_is_whole G) [] (cons2 (v2 2) nil2)))) (or2 (bt2 (op2 bLt (v2 2) (c2 (.int 0)))) (bt2 (op2 bGt (v2 2) (v2 1))))) (seq2 (ret2 (c2 (.bl false))) next2) next2) next2)) (seq2 (ret2 (c2 (.bl true))) next2)))
theorem d_is_web {P : Program} {w : World} {K : PySem.W.Frag} {mg : Str → Option Value} {base : Heap} {G : GC} {f : Addr} (T : Tx K mg G) (c_is_whole : Fn2 P w K mg base 1 "is_whole" (sp_is_whole G) []) : ∀ (cdv : Value) (A : Around) (outer : List Env) (s : Shared) (H : Hp) (E : XK), Room 1 (A.deeper (envOfC "is_web" (defScope s_is_web) s.heap.objs.size f cdv)) → PSs2 (cxOf (L2.CX P w) P w K mg base N_is_web "is_web" (defScope s_is_web) f cdv A outer s H E) (WD E) (defBody s_is_web) (t_is_web G) :=
  fun cdv A outer s H E hr => (psscons2 (psif2 (PW.pt (por2 (pnot2 (ptr2 (pcallB2 call_isiA isiRel rfl T.b_isinstance bb_isinstance (pcons2 (pv2 0) (pcons2 (pty2 rfl T.b_list bb_list) pnil2))) (fun _ => rfl))) (por1 (ptcmp2 op_geA ordRel (pcallB2 call_lenA lenRel rfl T.b_len bb_len (pcons2 (pv2 0) pnil2)) (pgi2 rfl T.c_MOST_POSTS) (nomark _))))) (psscons2 (psret2 pbl2) pssnil2) pssnil2) (psscons2 (psfor2 (passes_of rfl) rfl (pienum2 rfl T.b_enumerate (pcons2 (pv2 0) pnil2)) (pgtup2 rfl (pgcons2 (pgn2 1 sc_is_web.nd) (pgcons2 (pgn2 2 sc_is_web.nd) pgnil2))) (psscons2 (psif2 (PW.pt (por2 (pnot2 (ptr2 (pfn2 (takes_of rfl rfl rfl rfl) c_is_whole hr (by decide) rfl (pcons2 (pv2 2) pnil2)) (fun _ => rfl))) (por2 (ptcmp2 op_ltA ordRel (pv2 2) pint2 (nomark _)) (por1 (ptcmp2 op_gtA ordRel (pv2 2) (pv2 1) (nomark _)))))) (psscons2 (psret2 pbl2) pssnil2) pssnil2) pssnil2)) (psscons2 (psret2 pbl2) pssnil2)))
def t_need_web (G : GC) : TS2 := (seq2 (if2 (not2 (tr2 (fn2 (sp_is_web G) [] (cons2 (v2 0) nil2)))) (seq2 (raise2 G.cNoWeb) next2) next2) next2)
theorem d_need_web {P : Program} {w : World} {K : PySem.W.Frag} {mg : Str → Option Value} {base : Heap} {G : GC} {f : Addr} (T : Tx K mg G) (c_is_web : Fn2 P w K mg base 2 "is_web" (sp_is_web G) []) : ∀ (cdv : Value) (A : Around) (outer : List Env) (s : Shared) (H : Hp) (E : XK), Room 2 (A.deeper (envOfC "need_web" (defScope s_need_web) s.heap.objs.size f cdv)) → PSs2 (cxOf (L2.CX P w) P w K mg base N_need_web "need_web" (defScope s_need_web) f cdv A outer s H E) (WD E) (defBody s_need_web) (t_need_web G) :=
  fun cdv A outer s H E hr => (psscons2 (psif2 (pnot2 (ptr2 (pfn2 (takes_of rfl rfl rfl rfl) c_is_web hr (by decide) rfl (pcons2 (pv2 0) pnil2)) (fun _ => rfl))) (psscons2 (psraise2 rfl (takes_of rfl rfl rfl rfl) T.e_NoWeb rfl) pssnil2) pssnil2) pssnil2)
def t_need_post (G : GC) : TS2 := (seq2 (if2 (or2 (not2 (tr2 (fn2 (sp_is_whole G) [] (cons2 (v2 1) nil2)))) (or2 (bt2 (op2 bLt (v2 1) (c2 (.int 0)))) (bt2 (op2 bGt (v2 1) (call2 bLen (cons2 (v2 0) nil2)))))) (seq2 (raise2 G.cNoPost) next2) next2) next2)
theorem d_need_post {P : Program} {w : World} {K : PySem.W.Frag} {mg : Str → Option Value} {base : Heap} {G : GC} {f : Addr} (T : Tx K mg G) (c_is_whole : Fn2 P w K mg base 1 "is_whole" (sp_is_whole G) []) : ∀ (cdv : Value) (A : Around) (outer : List Env) (s : Shared) (H : Hp) (E : XK), Room 1 (A.deeper (envOfC "need_post" (defScope s_need_post) s.heap.objs.size f cdv)) → PSs2 (cxOf (L2.CX P w) P w K mg base N_need_post "need_post" (defScope s_need_post) f cdv A outer s H E) (WD E) (defBody s_need_post) (t_need_post G) :=
  fun cdv A outer s H E hr => (psscons2 (psif2 (PW.pt (por2 (pnot2 (ptr2 (pfn2 (takes_of rfl rfl rfl rfl) c_is_whole hr (by decide) rfl (pcons2 (pv2 1) pnil2)) (fun _ => rfl))) (por2 (ptcmp2 op_ltA ordRel (pv2 1) pint2 (nomark _)) (por1 (ptcmp2 op_gtA ordRel (pv2 1) (pcallB2 call_lenA lenRel rfl T.b_len bb_len (pcons2 (pv2 0) pnil2)) (nomark _)))))) (psscons2 (psraise2 rfl (takes_of rfl rfl rfl rfl) T.e_NoPost rfl) pssnil2) pssnil2) pssnil2)
abbrev b_neighbours_4 (G : GC) : TS2 := (seq2 (ret2 (v2 2)) next2)
def t_neighbours (G : GC) : TS2 := (seq2 (drop2 (fn2 (sp_need_web G) [] (cons2 (v2 0) nil2))) (seq2 (drop2 (fn2 (sp_need_post G) [] (cons2 (v2 0) (cons2 (v2 1) nil2)))) (seq2 (asg2 (lc2 (ienum2 (cons2 (v2 0) nil2)) (gtup2 2 (gcons2 (gn2 3) (gcons2 (gn2 4) gnil2))) (bt2 (op2 bEq (v2 4) (v2 1))) (op2 bAdd (v2 3) (c2 (.int 1))) [3, 4]) (gn2 2)) (seq2 (if2 (bt2 (op2 bGt (v2 1) (c2 (.int 0)))) (seq2 (drop2 (meth2 "list" mInsert (v2 2) (cons2 (c2 (.int 0)) (cons2 (op2 bIx (v2 0) (op2 bSub (v2 1) (c2 (.int 1)))) nil2)))) next2) next2) (b_neighbours_4 G)))))
theorem d_neighbours {P : Program} {w : World} {K : PySem.W.Frag} {mg : Str → Option Value} {base : Heap} {G : GC} {f : Addr} (T : Tx K mg G) (c_need_post : Fn2 P w K mg base 2 "need_post" (sp_need_post G) []) (c_need_web : Fn2 P w K mg base 3 "need_web" (sp_need_web G) []) : ∀ (cdv : Value) (A : Around) (outer : List Env) (s : Shared) (H : Hp) (E : XK), Room 3 (A.deeper (envOfC "neighbours" (defScope s_neighbours) s.heap.objs.size f cdv)) → PSs2 (cxOf (L2.CX P w) P w K mg base N_neighbours "neighbours" (defScope s_neighbours) f cdv A outer s H E) (WD E) (defBody s_neighbours) (t_neighbours G) :=
  fun cdv A outer s H E hr => (psscons2 (psexpr2 (pfn2 (takes_of rfl rfl rfl rfl) c_need_web hr (by decide) rfl (pcons2 (pv2 0) pnil2))) (psscons2 (psexpr2 (pfn2 (takes_of rfl rfl rfl rfl) c_need_post hr (by decide) rfl (pcons2 (pv2 0) (pcons2 (pv2 1) pnil2)))) (psscons2 (pssetlc2 2 rfl sc_neighbours.nd (pienum2 rfl T.b_enumerate (pcons2 (pv2 0) pnil2)) (blkOk_by (own := [("place", 3), ("up", 4)]) (N := N_neighbours) (sc := defScope s_neighbours) (by decide +kernel)) (fun _ _ _ _ _ => (pgtup2 rfl (pgcons2 (pgn2 3 sc_neighbours.nd) (pgcons2 (pgn2 4 sc_neighbours.nd) pgnil2)))) (fun _ _ _ _ _ => (ptsone2 (ptcmp2 (op_eqA (hu64 hr)) eqRel (pv2 4) (pv2 1) (nomark _)))) (fun _ _ _ _ _ => (pop2 op_addA addRel (pv2 3) pint2)) (by decide) (sw_true rfl rfl rfl (by decide +kernel))) (psscons2 (psif2 (ptcmp2 op_gtA ordRel (pv2 1) pint2 (nomark _)) (psscons2 (psexpr2 (pmeth2 PySem.F.plainAttrs_list PySem.F.slot_list_insert PySem.F.type_list_insert mt_insert insertRel (pv2 2) (pcons2 pint2 (pcons2 (pix2 ix_seq ixRel (pv2 0) (pop2 op_subC intRel (pv2 1) pint2) (fun _ _ => rfl)) pnil2)))) pssnil2) pssnil2) (psscons2 (psret2 (pv2 2)) pssnil2)))))
def t_homeward (G : GC) : TS2 := (seq2 (asg2 (lst2 (cons2 (v2 1) nil2)) (gn2 2)) (seq2 (while2 (bt2 (op2 bGt (op2 bIx (v2 2) (un2 uNeg (c2 (.int 1)))) (c2 (.int 0)))) (seq2 (drop2 (meth2 "list" mAppend (v2 2) (cons2 (op2 bIx (v2 0) (op2 bSub (op2 bIx (v2 2) (un2 uNeg (c2 (.int 1)))) (c2 (.int 1)))) nil2))) next2)) (seq2 (ret2 (v2 2)) next2)))
theorem d_homeward {P : Program} {w : World} {K : PySem.W.Frag} {mg : Str → Option Value} {base : Heap} {G : GC} {f : Addr} (T : Tx K mg G)  : ∀ (cdv : Value) (A : Around) (outer : List Env) (s : Shared) (H : Hp) (E : XK), Room 0 (A.deeper (envOfC "homeward" (defScope s_homeward) s.heap.objs.size f cdv)) → PSs2 (cxOf (L2.CX P w) P w K mg base N_homeward "homeward" (defScope s_homeward) f cdv A outer s H E) (WD E) (defBody s_homeward) (t_homeward G) :=
  fun cdv A outer s H E hr => (psscons2 (psset2 2 sc_homeward.nd (plst2 (pcons2 (pv2 1) pnil2))) (psscons2 (pswhile2 (passes_of rfl) (ptcmp2 op_gtA ordRel (pix2 ix_seq ixRel (pv2 2) (pun2 un_neg negRel pint2) (fun _ _ => rfl)) pint2 (nomark _)) (psscons2 (psexpr2 (pmeth2 PySem.F.plainAttrs_list PySem.F.slot_list_append PySem.F.type_list_append mt_append appendRel (pv2 2) (pcons2 (pix2 ix_seq ixRel (pv2 0) (pop2 op_subC intRel (pix2 ix_seq ixRel (pv2 2) (pun2 un_neg negRel pint2) (fun _ _ => rfl)) pint2) (fun _ _ => rfl)) pnil2))) pssnil2)) (psscons2 (psret2 (pv2 2)) pssnil2)))
def t_side (G : GC) : TS2 := (seq2 (drop2 (fn2 (sp_need_web G) [] (cons2 (v2 0) nil2))) (seq2 (drop2 (fn2 (sp_need_post G) [] (cons2 (v2 0) (cons2 (v2 1) nil2)))) (seq2 (drop2 (fn2 (sp_need_post G) [] (cons2 (v2 0) (cons2 (v2 2) nil2)))) (seq2 (if2 (bt2 (op2 (bIn true) (v2 2) (fn2 (sp_neighbours G) [] (cons2 (v2 0) (cons2 (v2 1) nil2))))) (seq2 (raise2 G.cNoRoad) next2) next2) (seq2 (if2 (bt2 (op2 bGt (v2 2) (v2 1))) (seq2 (ret2 (lc2 (irng12 (cons2 (op2 bAdd (call2 bLen (cons2 (v2 0) nil2)) (c2 (.int 1))) nil2)) (gn2 3) (bt2 (op2 (bIn false) (v2 2) (fn2 (sp_homeward G) [] (cons2 (v2 0) (cons2 (v2 3) nil2))))) (v2 3) [3])) next2) next2) (seq2 (ret2 (lc2 (irng12 (cons2 (op2 bAdd (call2 bLen (cons2 (v2 0) nil2)) (c2 (.int 1))) nil2)) (gn2 3) (bt2 (op2 (bIn true) (v2 1) (fn2 (sp_homeward G) [] (cons2 (v2 0) (cons2 (v2 3) nil2))))) (v2 3) [3])) next2))))))
theorem d_side {P : Program} {w : World} {K : PySem.W.Frag} {mg : Str → Option Value} {base : Heap} {G : GC} {f : Addr} (T : Tx K mg G) (c_homeward : Fn2 P w K mg base 1 "homeward" (sp_homeward G) []) (c_neighbours : Fn2 P w K mg base 4 "neighbours" (sp_neighbours G) []) (c_need_post : Fn2 P w K mg base 2 "need_post" (sp_need_post G) []) (c_need_web : Fn2 P w K mg base 3 "need_web" (sp_need_web G) []) : ∀ (cdv : Value) (A : Around) (outer : List Env) (s : Shared) (H : Hp) (E : XK), Room 4 (A.deeper (envOfC "side" (defScope s_side) s.heap.objs.size f cdv)) → PSs2 (cxOf (L2.CX P w) P w K mg base N_side "side" (defScope s_side) f cdv A outer s H E) (WD E) (defBody s_side) (t_side G) :=
  fun cdv A outer s H E hr => (psscons2 (psexpr2 (pfn2 (takes_of rfl rfl rfl rfl) c_need_web hr (by decide) rfl (pcons2 (pv2 0) pnil2))) (psscons2 (psexpr2 (pfn2 (takes_of rfl rfl rfl rfl) c_need_post hr (by decide) rfl (pcons2 (pv2 0) (pcons2 (pv2 1) pnil2)))) (psscons2 (psexpr2 (pfn2 (takes_of rfl rfl rfl rfl) c_need_post hr (by decide) rfl (pcons2 (pv2 0) (pcons2 (pv2 2) pnil2)))) (psscons2 (psif2 (ptcmp2 (op_notInA (hu65 hr)) notInRel (pv2 2) (pfn2 (takes_of rfl rfl rfl rfl) c_neighbours hr (by decide) rfl (pcons2 (pv2 0) (pcons2 (pv2 1) pnil2))) rfl) (psscons2 (psraise2 rfl (takes_of rfl rfl rfl rfl) T.e_NoRoad rfl) pssnil2) pssnil2) (psscons2 (psif2 (ptcmp2 op_gtA ordRel (pv2 2) (pv2 1) (nomark _)) (psscons2 (psret2 (plc2 rfl sc_side.nd (pirng12 rfl T.b_range (pcons2 (pop2 op_addA addRel (pcallB2 call_lenA lenRel rfl T.b_len bb_len (pcons2 (pv2 0) pnil2)) pint2) pnil2)) (blkOk_by (own := [("post", 3)]) (N := N_side) (sc := defScope s_side) (by decide +kernel)) (fun _ _ _ _ _ => (pgn2 3 sc_side.nd)) (fun _ _ _ _ _ => (ptsone2 (ptcmp2 (op_inA (hu65 hr)) inRel (pv2 2) (pfn2 takes0 c_homeward hr (by decide) rfl (pcons2 (pv2 0) (pcons2 (pv2 3) pnil2))) rfl))) (fun _ _ _ _ _ => (pv2 3)) (by decide))) pssnil2) pssnil2) (psscons2 (psret2 (plc2 rfl sc_side.nd (pirng12 rfl T.b_range (pcons2 (pop2 op_addA addRel (pcallB2 call_lenA lenRel rfl T.b_len bb_len (pcons2 (pv2 0) pnil2)) pint2) pnil2)) (blkOk_by (own := [("post", 3)]) (N := N_side) (sc := defScope s_side) (by decide +kernel)) (fun _ _ _ _ _ => (pgn2 3 sc_side.nd)) (fun _ _ _ _ _ => (ptsone2 (ptcmp2 (op_notInA (hu65 hr)) notInRel (pv2 1) (pfn2 takes0 c_homeward hr (by decide) rfl (pcons2 (pv2 0) (pcons2 (pv2 3) pnil2))) rfl))) (fun _ _ _ _ _ => (pv2 3)) (by decide))) pssnil2))))))
abbrev b__law_bag_2 (G : GC) : TS2 := (seq2 (ret2 (lst2 (cons2 (call2 bMax (cons2 (c2 (.int 0)) (cons2 (op2 bSub (v2 2) (op2 bPow (c2 (.int 10)) (c2 (.int 18)))) nil2))) (cons2 (op2 bMod (v2 2) (op2 bAdd (op2 bPow (c2 (.int 10)) (c2 (.int 40))) (c2 (.int 121)))) (cons2 (op2 bMul (c2 (.int 61)) (v2 1)) nil2))))) next2)
def t__law_bag (G : GC) : TS2 := (seq2 (asg2 (c2 (.int 0)) (gn2 2)) (seq2 (if2 (bt2 (op2 bLt (v2 1) (call2 bLen (cons2 (v2 0) nil2)))) (seq2 (asg2 (op2 bIx (v2 0) (v2 1)) (gn2 2)) next2) next2) (b__law_bag_2 G)))
theorem d__law_bag {P : Program} {w : World} {K : PySem.W.Frag} {mg : Str → Option Value} {base : Heap} {G : GC} {f : Addr} (T : Tx K mg G)  : ∀ (cdv : Value) (A : Around) (outer : List Env) (s : Shared) (H : Hp) (E : XK), Room 0 (A.deeper (envOfC "_law_bag" (defScope s__law_bag) s.heap.objs.size f cdv)) → PSs2 (cxOf (L2.CX P w) P w K mg base N__law_bag "_law_bag" (defScope s__law_bag) f cdv A outer s H E) (WD E) (defBody s__law_bag) (t__law_bag G) :=
  fun cdv A outer s H E hr => (psscons2 (psset2 2 sc__law_bag.nd pint2) (psscons2 (psif2 (ptcmp2 op_ltA ordRel (pv2 1) (pcallB2 call_lenA lenRel rfl T.b_len bb_len (pcons2 (pv2 0) pnil2)) (nomark _)) (psscons2 (psset2 2 sc__law_bag.nd (pix2 ix_seq ixRel (pv2 0) (pv2 1) (fun _ _ => rfl))) pssnil2) pssnil2) (psscons2 (psret2 (plst2 (pcons2 (pcallB2 (call_max2 rfl) maxRel rfl T.b_max bb_max (pcons2 pint2 (pcons2 (pop2 op_subC intRel (pv2 2) (pop2 op_powW intRel pint2 pint2)) pnil2))) (pcons2 (pop2 op_mod intRel (pv2 2) (pop2 op_addA addRel (pop2 op_powW intRel pint2 pint2) pint2)) (pcons2 (pop2 op_mulA mulRel pint2 (pv2 1)) pnil2))))) pssnil2)))
def t__law_take (G : GC) : TS2 := (seq2 (if2 (bt2 (op2 bGt (op2 bIx (v2 0) (c2 (.int 0))) (c2 (.int 0)))) (seq2 (asg2 (op2 bMod (op2 bIx (v2 0) (c2 (.int 0))) (v2 1)) (gn2 2)) (seq2 (sub2 (op2 bFdiv (op2 bIx (v2 0) (c2 (.int 0))) (v2 1)) (v2 0) (c2 (.int 0)) bSet) (seq2 (ret2 (v2 2)) next2))) next2) (seq2 (sub2 (op2 bAdd (op2 bIx (v2 0) (c2 (.int 2))) (c2 (.int 1))) (v2 0) (c2 (.int 2)) bSet) (seq2 (asg2 (op2 bAdd (op2 bMul (op2 bAdd (op2 bIx (v2 0) (c2 (.int 1))) (c2 (.int 1))) (op2 bAdd (op2 bMul (c2 (.int 30011)) (op2 bIx (v2 0) (c2 (.int 2)))) (c2 (.int 7)))) (op2 bMul (op2 bMul (c2 (.int 104729)) (op2 bIx (v2 0) (c2 (.int 2)))) (op2 bIx (v2 0) (c2 (.int 2))))) (gn2 3)) (seq2 (asg2 (op2 bMod (op2 bMul (v2 3) (v2 3)) (op2 bAdd (op2 bPow (c2 (.int 10)) (c2 (.int 41))) (c2 (.int 37)))) (gn2 3)) (seq2 (ret2 (op2 bMod (op2 bFdiv (op2 bMod (op2 bMul (v2 3) (op2 bAdd (v2 3) (c2 (.int 97)))) (op2 bAdd (op2 bPow (c2 (.int 10)) (c2 (.int 40))) (c2 (.int 4323)))) (c2 (.int 100003))) (v2 1))) next2)))))
theorem d__law_take {P : Program} {w : World} {K : PySem.W.Frag} {mg : Str → Option Value} {base : Heap} {G : GC} {f : Addr} (T : Tx K mg G)  : ∀ (cdv : Value) (A : Around) (outer : List Env) (s : Shared) (H : Hp) (E : XK), Room 0 (A.deeper (envOfC "_law_take" (defScope s__law_take) s.heap.objs.size f cdv)) → PSs2 (cxOf (L2.CX P w) P w K mg base N__law_take "_law_take" (defScope s__law_take) f cdv A outer s H E) (WD E) (defBody s__law_take) (t__law_take G) :=
  fun cdv A outer s H E hr => (psscons2 (psif2 (ptcmp2 op_gtA ordRel (pix2 ix_seq ixRel (pv2 0) pint2 (fun _ _ => rfl)) pint2 (nomark _)) (psscons2 (psset2 2 sc__law_take.nd (pop2 op_mod intRel (pix2 ix_seq ixRel (pv2 0) pint2 (fun _ _ => rfl)) (pv2 1))) (psscons2 (pssub2 (pop2 op_fdivW intRel (pix2 ix_seq ixRel (pv2 0) pint2 (fun _ _ => rfl)) (pv2 1)) (pv2 0) pint2 set_list setRel) (psscons2 (psret2 (pv2 2)) pssnil2))) pssnil2) (psscons2 (pssub2 (pop2 op_addA addRel (pix2 ix_seq ixRel (pv2 0) pint2 (fun _ _ => rfl)) pint2) (pv2 0) pint2 set_list setRel) (psscons2 (psset2 3 sc__law_take.nd (pop2 op_addA addRel (pop2 op_mulA mulRel (pop2 op_addA addRel (pix2 ix_seq ixRel (pv2 0) pint2 (fun _ _ => rfl)) pint2) (pop2 op_addA addRel (pop2 op_mulA mulRel pint2 (pix2 ix_seq ixRel (pv2 0) pint2 (fun _ _ => rfl))) pint2)) (pop2 op_mulA mulRel (pop2 op_mulA mulRel pint2 (pix2 ix_seq ixRel (pv2 0) pint2 (fun _ _ => rfl))) (pix2 ix_seq ixRel (pv2 0) pint2 (fun _ _ => rfl))))) (psscons2 (psset2 3 sc__law_take.nd (pop2 op_mod intRel (pop2 op_mulA mulRel (pv2 3) (pv2 3)) (pop2 op_addA addRel (pop2 op_powW intRel pint2 pint2) pint2))) (psscons2 (psret2 (pop2 op_mod intRel (pop2 op_fdivW intRel (pop2 op_mod intRel (pop2 op_mulA mulRel (pv2 3) (pop2 op_addA addRel (pv2 3) pint2)) (pop2 op_addA addRel (pop2 op_powW intRel pint2 pint2) pint2)) pint2) (pv2 1))) pssnil2)))))
def t__law_web (G : GC) : TS2 := (seq2 (asg2 (fn2 (sp__law_take G) [] (cons2 (v2 0) (cons2 (c2 (.int 4)) nil2))) (gn2 2)) (seq2 (asg2 (lst2 nil2) (gn2 3)) (seq2 (for2 (irng12 (cons2 (fn2 (sp__law_take G) [] (cons2 (v2 0) (cons2 (op2 bAdd (v2 1) (c2 (.int 1))) nil2))) nil2)) (gn2 4) (seq2 (drop2 (meth2 "list" mAppend (v2 3) (cons2 (op2 bIx (lst2 (cons2 (v2 4) (cons2 (c2 (.int 0)) (cons2 (fn2 (sp__law_take G) [] (cons2 (v2 0) (cons2 (op2 bAdd (v2 4) (c2 (.int 1))) nil2))) (cons2 (call2 bMax (cons2 (c2 (.int 0)) (cons2 (op2 bSub (v2 4) (fn2 (sp__law_take G) [] (cons2 (v2 0) (cons2 (c2 (.int 3)) nil2)))) nil2))) nil2))))) (v2 2)) nil2))) next2)) (seq2 (ret2 (v2 3)) next2))))
theorem d__law_web {P : Program} {w : World} {K : PySem.W.Frag} {mg : Str → Option Value} {base : Heap} {G : GC} {f : Addr} (T : Tx K mg G) (c__law_take : Fn2 P w K mg base 1 "_law_take" (sp__law_take G) []) : ∀ (cdv : Value) (A : Around) (outer : List Env) (s : Shared) (H : Hp) (E : XK), Room 1 (A.deeper (envOfC "_law_web" (defScope s__law_web) s.heap.objs.size f cdv)) → PSs2 (cxOf (L2.CX P w) P w K mg base N__law_web "_law_web" (defScope s__law_web) f cdv A outer s H E) (WD E) (defBody s__law_web) (t__law_web G) :=
  fun cdv A outer s H E hr => (psscons2 (psset2 2 sc__law_web.nd (pfn2 (takes_of rfl rfl rfl rfl) c__law_take hr (by decide) rfl (pcons2 (pv2 0) (pcons2 pint2 pnil2)))) (psscons2 (psset2 3 sc__law_web.nd (plst2 pnil2)) (psscons2 (psfor2 (passes_of rfl) rfl (pirng12 rfl T.b_range (pcons2 (pfn2 (takes_of rfl rfl rfl rfl) c__law_take hr (by decide) rfl (pcons2 (pv2 0) (pcons2 (pop2 op_addA addRel (pv2 1) pint2) pnil2))) pnil2)) (pgn2 4 sc__law_web.nd) (psscons2 (psexpr2 (pmeth2 PySem.F.plainAttrs_list PySem.F.slot_list_append PySem.F.type_list_append mt_append appendRel (pv2 3) (pcons2 (pix2 ix_seq ixRel (plst2 (pcons2 (pv2 4) (pcons2 pint2 (pcons2 (pfn2 (takes_of rfl rfl rfl rfl) c__law_take hr (by decide) rfl (pcons2 (pv2 0) (pcons2 (pop2 op_addA addRel (pv2 4) pint2) pnil2))) (pcons2 (pcallB2 (call_max2 rfl) maxRel rfl T.b_max bb_max (pcons2 pint2 (pcons2 (pop2 op_subC intRel (pv2 4) (pfn2 (takes_of rfl rfl rfl rfl) c__law_take hr (by decide) rfl (pcons2 (pv2 0) (pcons2 pint2 pnil2)))) pnil2))) pnil2))))) (pv2 2) (fun _ _ => rfl)) pnil2))) pssnil2)) (psscons2 (psret2 (pv2 3)) pssnil2))))
abbrev b__law_beside_3 (G : GC) : TS2 := (seq2 (if2 (bt2 (op2 bEq (op2 bAdd (v2 3) (c2 (.int 1))) (v2 1))) (seq2 (drop2 (meth2 "list" mAppend (v2 2) (cons2 (op2 bIx (v2 0) (v2 3)) nil2))) next2) next2) next2)
def t__law_beside (G : GC) : TS2 := (seq2 (asg2 (lst2 nil2) (gn2 2)) (seq2 (for2 (irng12 (cons2 (call2 bLen (cons2 (v2 0) nil2)) nil2)) (gn2 3) (seq2 (if2 (bt2 (op2 bEq (op2 bIx (v2 0) (v2 3)) (v2 1))) (seq2 (drop2 (meth2 "list" mAppend (v2 2) (cons2 (op2 bAdd (v2 3) (c2 (.int 1))) nil2))) next2) next2) (b__law_beside_3 G))) (seq2 (ret2 (call2 bSortedI (cons2 (v2 2) nil2))) next2)))
theorem d__law_beside {P : Program} {w : World} {K : PySem.W.Frag} {mg : Str → Option Value} {base : Heap} {G : GC} {f : Addr} (T : Tx K mg G)  : ∀ (cdv : Value) (A : Around) (outer : List Env) (s : Shared) (H : Hp) (E : XK), Room 0 (A.deeper (envOfC "_law_beside" (defScope s__law_beside) s.heap.objs.size f cdv)) → PSs2 (cxOf (L2.CX P w) P w K mg base N__law_beside "_law_beside" (defScope s__law_beside) f cdv A outer s H E) (WD E) (defBody s__law_beside) (t__law_beside G) :=
  fun cdv A outer s H E hr => (psscons2 (psset2 2 sc__law_beside.nd (plst2 pnil2)) (psscons2 (psfor2 (passes_of rfl) rfl (pirng12 rfl T.b_range (pcons2 (pcallB2 call_lenA lenRel rfl T.b_len bb_len (pcons2 (pv2 0) pnil2)) pnil2)) (pgn2 3 sc__law_beside.nd) (psscons2 (psif2 (ptcmp2 (op_eqA (hu64 hr)) eqRel (pix2 ix_seq ixRel (pv2 0) (pv2 3) (fun _ _ => rfl)) (pv2 1) (nomark _)) (psscons2 (psexpr2 (pmeth2 PySem.F.plainAttrs_list PySem.F.slot_list_append PySem.F.type_list_append mt_append appendRel (pv2 2) (pcons2 (pop2 op_addA addRel (pv2 3) pint2) pnil2))) pssnil2) pssnil2) (psscons2 (psif2 (ptcmp2 (op_eqA (hu64 hr)) eqRel (pop2 op_addA addRel (pv2 3) pint2) (pv2 1) (nomark _)) (psscons2 (psexpr2 (pmeth2 PySem.F.plainAttrs_list PySem.F.slot_list_append PySem.F.type_list_append mt_append appendRel (pv2 2) (pcons2 (pix2 ix_seq ixRel (pv2 0) (pv2 3) (fun _ _ => rfl)) pnil2))) pssnil2) pssnil2) pssnil2))) (psscons2 (psret2 (pcallB2 cr_sortedI sortedIRel rfl T.b_sorted bb_sorted (pcons2 (pv2 2) pnil2))) pssnil2)))
def t__law_beyond (G : GC) : TS2 := (seq2 (asg2 (disp2 (dpcons2 (v2 1) (c2 (.bl true)) (dpcons2 (v2 2) (c2 (.bl true)) dpnil2))) (gn2 3)) (seq2 (asg2 (lst2 (cons2 (v2 2) nil2)) (gn2 4)) (seq2 (asg2 (lst2 (cons2 (v2 2) nil2)) (gn2 5)) (seq2 (while2 (bt2 (op2 bNe (v2 4) (lst2 nil2))) (seq2 (for2 (ilist2 (fn2 (sp__law_beside G) [] (cons2 (v2 0) (cons2 (meth02 "list" mPop (v2 4)) nil2)))) (gn2 6) (seq2 (if2 (bt2 (op2 (bDin true) (v2 6) (v2 3))) (seq2 (sub2 (c2 (.bl true)) (v2 3) (v2 6) bDset) (seq2 (drop2 (meth2 "list" mAppend (v2 4) (cons2 (v2 6) nil2))) (seq2 (drop2 (meth2 "list" mAppend (v2 5) (cons2 (v2 6) nil2))) next2))) next2) next2)) next2)) (seq2 (ret2 (call2 bSortedI (cons2 (v2 5) nil2))) next2)))))
theorem d__law_beyond {P : Program} {w : World} {K : PySem.W.Frag} {mg : Str → Option Value} {base : Heap} {G : GC} {f : Addr} (T : Tx K mg G) (c__law_beside : Fn2 P w K mg base 1 "_law_beside" (sp__law_beside G) []) : ∀ (cdv : Value) (A : Around) (outer : List Env) (s : Shared) (H : Hp) (E : XK), Room 1 (A.deeper (envOfC "_law_beyond" (defScope s__law_beyond) s.heap.objs.size f cdv)) → PSs2 (cxOf (L2.CX P w) P w K mg base N__law_beyond "_law_beyond" (defScope s__law_beyond) f cdv A outer s H E) (WD E) (defBody s__law_beyond) (t__law_beyond G) :=
  fun cdv A outer s H E hr => (psscons2 (psset2 3 sc__law_beyond.nd (pdisp2 (pdpcons2 (pv2 1) pbl2 (pdpcons2 (pv2 2) pbl2 pdpnil2)))) (psscons2 (psset2 4 sc__law_beyond.nd (plst2 (pcons2 (pv2 2) pnil2))) (psscons2 (psset2 5 sc__law_beyond.nd (plst2 (pcons2 (pv2 2) pnil2))) (psscons2 (pswhile2 (passes_of rfl) (ptcmp2 (op_neA (hu64 hr)) neRel (pv2 4) (plst2 pnil2) (nomark _)) (psscons2 (psfor2 (passes_of rfl) rfl (pilist2 (pfn2 (takes_of rfl rfl rfl rfl) c__law_beside hr (by decide) rfl (pcons2 (pv2 0) (pcons2 (pmeth02 PySem.F.plainAttrs_list PySem.F.slot_list_pop PySem.F.type_list_pop mt_pop popRel (pv2 4)) pnil2)))) (pgn2 6 sc__law_beyond.nd) (psscons2 (psif2 (ptcmp2 (op_dnotInA (hu1 hr)) (dinRel true) (pv2 6) (pv2 3) rfl) (psscons2 (pssub2 pbl2 (pv2 3) (pv2 6) (set_dict (hu1 hr)) dsetRel) (psscons2 (psexpr2 (pmeth2 PySem.F.plainAttrs_list PySem.F.slot_list_append PySem.F.type_list_append mt_append appendRel (pv2 4) (pcons2 (pv2 6) pnil2))) (psscons2 (psexpr2 (pmeth2 PySem.F.plainAttrs_list PySem.F.slot_list_append PySem.F.type_list_append mt_append appendRel (pv2 5) (pcons2 (pv2 6) pnil2))) pssnil2))) pssnil2) pssnil2)) pssnil2)) (psscons2 (psret2 (pcallB2 cr_sortedI sortedIRel rfl T.b_sorted bb_sorted (pcons2 (pv2 5) pnil2))) pssnil2)))))
def t__law_whole (G : GC) : TS2 := (seq2 (ret2 (andv2 (call2 bIsi (cons2 (v2 0) (cons2 (c2 (.ty "list")) nil2))) (op2 bEq (lc2 (ilist2 (v2 0)) (gn2 1) (tr2 (call2 bIsi (cons2 (v2 1) (cons2 (c2 (.ty "bool")) nil2)))) (v2 1) [1]) (lst2 nil2)))) next2)
theorem d__law_whole {P : Program} {w : World} {K : PySem.W.Frag} {mg : Str → Option Value} {base : Heap} {G : GC} {f : Addr} (T : Tx K mg G)  : ∀ (cdv : Value) (A : Around) (outer : List Env) (s : Shared) (H : Hp) (E : XK), Room 0 (A.deeper (envOfC "_law_whole" (defScope s__law_whole) s.heap.objs.size f cdv)) → PSs2 (cxOf (L2.CX P w) P w K mg base N__law_whole "_law_whole" (defScope s__law_whole) f cdv A outer s H E) (WD E) (defBody s__law_whole) (t__law_whole G) :=
  fun cdv A outer s H E hr => (psscons2 (psret2 (pandv2 (pcallB2 call_isiA isiRel rfl T.b_isinstance bb_isinstance (pcons2 (pv2 0) (pcons2 (pty2 rfl T.b_list bb_list) pnil2))) (pone2 (pcmp2 (op_eqA (hu64 hr)) eqRel (plc2 rfl sc__law_whole.nd (pilist2 (pv2 0)) (blkOk_by (own := [("one", 1)]) (N := N__law_whole) (sc := defScope s__law_whole) (by decide +kernel)) (fun _ _ _ _ _ => (pgn2 1 sc__law_whole.nd)) (fun _ _ _ _ _ => (ptsone2 (ptr2 (pcallB2 call_isiA isiRel rfl T.b_isinstance bb_isinstance (pcons2 (pv2 1) (pcons2 (pty2 rfl T.b_bool bb_bool) pnil2))) (fun _ => rfl)))) (fun _ _ _ _ _ => (pv2 1)) (by decide)) (plst2 pnil2) (nomark _))))) pssnil2)
def t__law_sides_right (G : GC) : TS2 := (seq2 (asg2 (fn2 (sp_side G) [] (cons2 (v2 0) (cons2 (v2 1) (cons2 (v2 2) nil2)))) (gn2 3)) (seq2 (asg2 (fn2 (sp_side G) [] (cons2 (v2 0) (cons2 (v2 2) (cons2 (v2 1) nil2)))) (gn2 4)) (seq2 (if2 (or2 (not2 (tr2 (fn2 (sp__law_whole G) [] (cons2 (v2 3) nil2)))) (not2 (tr2 (fn2 (sp__law_whole G) [] (cons2 (v2 4) nil2))))) (seq2 (ret2 (c2 (.bl false))) next2) next2) (seq2 (if2 (or2 (bt2 (op2 bNe (v2 3) (fn2 (sp__law_beyond G) [] (cons2 (v2 0) (cons2 (v2 1) (cons2 (v2 2) nil2)))))) (bt2 (op2 bNe (v2 4) (fn2 (sp__law_beyond G) [] (cons2 (v2 0) (cons2 (v2 2) (cons2 (v2 1) nil2))))))) (seq2 (ret2 (c2 (.bl false))) next2) next2) (seq2 (if2 (bt2 (op2 bNe (call2 bSortedI (cons2 (op2 bAdd (v2 3) (v2 4)) nil2)) (lrng2 (op2 bAdd (call2 bLen (cons2 (v2 0) nil2)) (c2 (.int 1)))))) (seq2 (ret2 (c2 (.bl false))) next2) next2) (seq2 (drop2 (meth2 "list" mAppend (v2 3) (cons2 (un2 uNeg (c2 (.int 1))) nil2))) (seq2 (drop2 (meth2 "list" mAppend (v2 4) (cons2 (un2 uNeg (c2 (.int 1))) nil2))) (seq2 (drop2 (meth02 "list" mReverse (v2 3))) (seq2 (ret2 (andv2 (op2 bEq (fn2 (sp_side G) [] (cons2 (v2 0) (cons2 (v2 1) (cons2 (v2 2) nil2)))) (fn2 (sp__law_beyond G) [] (cons2 (v2 0) (cons2 (v2 1) (cons2 (v2 2) nil2))))) (op2 bEq (fn2 (sp_side G) [] (cons2 (v2 0) (cons2 (v2 2) (cons2 (v2 1) nil2)))) (fn2 (sp__law_beyond G) [] (cons2 (v2 0) (cons2 (v2 2) (cons2 (v2 1) nil2))))))) next2)))))))))
theorem d__law_sides_right {P : Program} {w : World} {K : PySem.W.Frag} {mg : Str → Option Value} {base : Heap} {G : GC} {f : Addr} (T : Tx K mg G) (c_side : Fn2 P w K mg base 5 "side" (sp_side G) []) (c__law_beyond : Fn2 P w K mg base 2 "_law_beyond" (sp__law_beyond G) []) (c__law_whole : Fn2 P w K mg base 1 "_law_whole" (sp__law_whole G) []) : ∀ (cdv : Value) (A : Around) (outer : List Env) (s : Shared) (H : Hp) (E : XK), Room 5 (A.deeper (envOfC "_law_sides_right" (defScope s__law_sides_right) s.heap.objs.size f cdv)) → PSs2 (cxOf (L2.CX P w) P w K mg base N__law_sides_right "_law_sides_right" (defScope s__law_sides_right) f cdv A outer s H E) (WD E) (defBody s__law_sides_right) (t__law_sides_right G) :=
  fun cdv A outer s H E hr => (psscons2 (psset2 3 sc__law_sides_right.nd (pfn2 (takes_of rfl rfl rfl rfl) c_side hr (by decide) rfl (pcons2 (pv2 0) (pcons2 (pv2 1) (pcons2 (pv2 2) pnil2))))) (psscons2 (psset2 4 sc__law_sides_right.nd (pfn2 (takes_of rfl rfl rfl rfl) c_side hr (by decide) rfl (pcons2 (pv2 0) (pcons2 (pv2 2) (pcons2 (pv2 1) pnil2))))) (psscons2 (psif2 (PW.pt (por2 (pnot2 (ptr2 (pfn2 (takes_of rfl rfl rfl rfl) c__law_whole hr (by decide) rfl (pcons2 (pv2 3) pnil2)) (fun _ => rfl))) (por1 (pnot2 (ptr2 (pfn2 (takes_of rfl rfl rfl rfl) c__law_whole hr (by decide) rfl (pcons2 (pv2 4) pnil2)) (fun _ => rfl)))))) (psscons2 (psret2 pbl2) pssnil2) pssnil2) (psscons2 (psif2 (PW.pt (por2 (ptcmp2 (op_neA (hu64 hr)) neRel (pv2 3) (pfn2 (takes_of rfl rfl rfl rfl) c__law_beyond hr (by decide) rfl (pcons2 (pv2 0) (pcons2 (pv2 1) (pcons2 (pv2 2) pnil2)))) (nomark _)) (por1 (ptcmp2 (op_neA (hu64 hr)) neRel (pv2 4) (pfn2 (takes_of rfl rfl rfl rfl) c__law_beyond hr (by decide) rfl (pcons2 (pv2 0) (pcons2 (pv2 2) (pcons2 (pv2 1) pnil2)))) (nomark _))))) (psscons2 (psret2 pbl2) pssnil2) pssnil2) (psscons2 (psif2 (ptcmp2 (op_neA (hu64 hr)) neRel (pcallB2 cr_sortedI sortedIRel rfl T.b_sorted bb_sorted (pcons2 (pop2 op_addA addRel (pv2 3) (pv2 4)) pnil2)) (plrng2 rfl rfl T.b_list rfl T.b_range (pop2 op_addA addRel (pcallB2 call_lenA lenRel rfl T.b_len bb_len (pcons2 (pv2 0) pnil2)) pint2)) (nomark _)) (psscons2 (psret2 pbl2) pssnil2) pssnil2) (psscons2 (psexpr2 (pmeth2 PySem.F.plainAttrs_list PySem.F.slot_list_append PySem.F.type_list_append mt_append appendRel (pv2 3) (pcons2 (pun2 un_neg negRel pint2) pnil2))) (psscons2 (psexpr2 (pmeth2 PySem.F.plainAttrs_list PySem.F.slot_list_append PySem.F.type_list_append mt_append appendRel (pv2 4) (pcons2 (pun2 un_neg negRel pint2) pnil2))) (psscons2 (psexpr2 (pmeth02 PySem.F.plainAttrs_list PySem.F.slot_list_reverse PySem.F.type_list_reverse mt_reverse reverseRel (pv2 3))) (psscons2 (psret2 (pandv2 (pcmp2 (op_eqA (hu64 hr)) eqRel (pfn2 (takes_of rfl rfl rfl rfl) c_side hr (by decide) rfl (pcons2 (pv2 0) (pcons2 (pv2 1) (pcons2 (pv2 2) pnil2)))) (pfn2 (takes_of rfl rfl rfl rfl) c__law_beyond hr (by decide) rfl (pcons2 (pv2 0) (pcons2 (pv2 1) (pcons2 (pv2 2) pnil2)))) (nomark _)) (pone2 (pcmp2 (op_eqA (hu64 hr)) eqRel (pfn2 (takes_of rfl rfl rfl rfl) c_side hr (by decide) rfl (pcons2 (pv2 0) (pcons2 (pv2 2) (pcons2 (pv2 1) pnil2)))) (pfn2 (takes_of rfl rfl rfl rfl) c__law_beyond hr (by decide) rfl (pcons2 (pv2 0) (pcons2 (pv2 2) (pcons2 (pv2 1) pnil2)))) (nomark _))))) pssnil2)))))))))
def t_law (G : GC) : TS2 := (seq2 (for2 (irng12 (cons2 (call2 bMax (cons2 (c2 (.int 1)) (cons2 (call2 bMin (cons2 (c2 (.int 6)) (cons2 (call2 bLen (cons2 (v2 0) nil2)) nil2))) nil2))) nil2)) (gn2 1) (seq2 (asg2 (fn2 (sp__law_bag G) [] (cons2 (v2 0) (cons2 (v2 1) nil2))) (gn2 2)) (seq2 (asg2 (fn2 (sp__law_web G) [] (cons2 (v2 2) (cons2 (c2 (.int 23)) nil2))) (gn2 3)) (seq2 (asg2 (call2 bList (cons2 (v2 3) nil2)) (gn2 4)) (seq2 (for2 (irng12 (cons2 (op2 bAdd (call2 bLen (cons2 (v2 3) nil2)) (c2 (.int 1))) nil2)) (gn2 5) (seq2 (asg2 (fn2 (sp_neighbours G) [] (cons2 (v2 3) (cons2 (v2 5) nil2))) (gn2 6)) (seq2 (asg2 (fn2 (sp__law_beside G) [] (cons2 (v2 3) (cons2 (v2 5) nil2))) (gn2 7)) (seq2 (if2 (or2 (not2 (tr2 (fn2 (sp__law_whole G) [] (cons2 (v2 6) nil2)))) (bt2 (op2 bNe (v2 6) (v2 7)))) (seq2 (ret2 (c2 (.bl false))) next2) next2) (seq2 (drop2 (meth2 "list" mAppend (v2 6) (cons2 (v2 5) nil2))) (seq2 (if2 (bt2 (op2 bNe (fn2 (sp_neighbours G) [] (cons2 (v2 3) (cons2 (v2 5) nil2))) (v2 7))) (seq2 (ret2 (c2 (.bl false))) next2) next2) (seq2 (for2 (ilist2 (v2 7)) (gn2 8) (seq2 (if2 (and2 (bt2 (op2 bLt (v2 5) (v2 8))) (not2 (tr2 (fn2 (sp__law_sides_right G) [] (cons2 (v2 3) (cons2 (v2 5) (cons2 (v2 8) nil2))))))) (seq2 (ret2 (c2 (.bl false))) next2) next2) next2)) next2))))))) (seq2 (if2 (bt2 (op2 bNe (v2 3) (v2 4))) (seq2 (ret2 (c2 (.bl false))) next2) next2) next2)))))) (seq2 (ret2 (c2 (.bl true))) next2))
theorem d_law {P : Program} {w : World} {K : PySem.W.Frag} {mg : Str → Option Value} {base : Heap} {G : GC} {f : Addr} (T : Tx K mg G) (c__law_sides_right : Fn2 P w K mg base 6 "_law_sides_right" (sp__law_sides_right G) []) (c_neighbours : Fn2 P w K mg base 4 "neighbours" (sp_neighbours G) []) (c__law_whole : Fn2 P w K mg base 1 "_law_whole" (sp__law_whole G) []) (c__law_beside : Fn2 P w K mg base 1 "_law_beside" (sp__law_beside G) []) (c__law_web : Fn2 P w K mg base 2 "_law_web" (sp__law_web G) []) (c__law_bag : Fn2 P w K mg base 1 "_law_bag" (sp__law_bag G) []) : ∀ (cdv : Value) (A : Around) (outer : List Env) (s : Shared) (H : Hp) (E : XK), Room 6 (A.deeper (envOfC "law" (defScope s_law) s.heap.objs.size f cdv)) → PSs2 (cxOf (L2.CX P w) P w K mg base N_law "law" (defScope s_law) f cdv A outer s H E) (WD E) (defBody s_law) (t_law G) :=
  fun cdv A outer s H E hr => (psscons2 (psfor2 (passes_of rfl) rfl (pirng12 rfl T.b_range (pcons2 (pcallB2 (call_max2 rfl) maxRel rfl T.b_max bb_max (pcons2 pint2 (pcons2 (pcallB2 (call_min2 rfl) minRel rfl T.b_min bb_min (pcons2 pint2 (pcons2 (pcallB2 call_lenA lenRel rfl T.b_len bb_len (pcons2 (pv2 0) pnil2)) pnil2))) pnil2))) pnil2)) (pgn2 1 sc_law.nd) (psscons2 (psset2 2 sc_law.nd (pfn2 (takes_of rfl rfl rfl rfl) c__law_bag hr (by decide) rfl (pcons2 (pv2 0) (pcons2 (pv2 1) pnil2)))) (psscons2 (psset2 3 sc_law.nd (pfn2 (takes_of rfl rfl rfl rfl) c__law_web hr (by decide) rfl (pcons2 (pv2 2) (pcons2 pint2 pnil2)))) (psscons2 (psset2 4 sc_law.nd (pcallT2 call_list_of listRel rfl T.b_list bb_list (pcons2 (pv2 3) pnil2))) (psscons2 (psfor2 (passes_of rfl) rfl (pirng12 rfl T.b_range (pcons2 (pop2 op_addA addRel (pcallB2 call_lenA lenRel rfl T.b_len bb_len (pcons2 (pv2 3) pnil2)) pint2) pnil2)) (pgn2 5 sc_law.nd) (psscons2 (psset2 6 sc_law.nd (pfn2 (takes_of rfl rfl rfl rfl) c_neighbours hr (by decide) rfl (pcons2 (pv2 3) (pcons2 (pv2 5) pnil2)))) (psscons2 (psset2 7 sc_law.nd (pfn2 (takes_of rfl rfl rfl rfl) c__law_beside hr (by decide) rfl (pcons2 (pv2 3) (pcons2 (pv2 5) pnil2)))) (psscons2 (psif2 (PW.pt (por2 (pnot2 (ptr2 (pfn2 (takes_of rfl rfl rfl rfl) c__law_whole hr (by decide) rfl (pcons2 (pv2 6) pnil2)) (fun _ => rfl))) (por1 (ptcmp2 (op_neA (hu64 hr)) neRel (pv2 6) (pv2 7) (nomark _))))) (psscons2 (psret2 pbl2) pssnil2) pssnil2) (psscons2 (psexpr2 (pmeth2 PySem.F.plainAttrs_list PySem.F.slot_list_append PySem.F.type_list_append mt_append appendRel (pv2 6) (pcons2 (pv2 5) pnil2))) (psscons2 (psif2 (ptcmp2 (op_neA (hu64 hr)) neRel (pfn2 (takes_of rfl rfl rfl rfl) c_neighbours hr (by decide) rfl (pcons2 (pv2 3) (pcons2 (pv2 5) pnil2))) (pv2 7) (nomark _)) (psscons2 (psret2 pbl2) pssnil2) pssnil2) (psscons2 (psfor2 (passes_of rfl) rfl (pilist2 (pv2 7)) (pgn2 8 sc_law.nd) (psscons2 (psif2 (PW.pt (pand2 (ptcmp2 op_ltA ordRel (pv2 5) (pv2 8) (nomark _)) (pand1 (pnot2 (ptr2 (pfn2 (takes_of rfl rfl rfl rfl) c__law_sides_right hr (by decide) rfl (pcons2 (pv2 3) (pcons2 (pv2 5) (pcons2 (pv2 8) pnil2)))) (fun _ => rfl)))))) (psscons2 (psret2 pbl2) pssnil2) pssnil2) pssnil2)) pssnil2))))))) (psscons2 (psif2 (ptcmp2 (op_neA (hu64 hr)) neRel (pv2 3) (pv2 4) (nomark _)) (psscons2 (psret2 pbl2) pssnil2) pssnil2) pssnil2)))))) (psscons2 (psret2 pbl2) pssnil2))
end K26


namespace K26
open PySem PySem.Spec PyProof.Rows L2 N2 Web
/-! one step of a reading -/
local macro_rules | `(tactic| walk_at "lk") => `(tactic| first
  | assumption
  | exact updM_same
  | exact updM_lk (by walk_at "lk") (by assumption)
  | exact (updM_ne (by first | assumption | exact Ne.symm (by assumption))).trans (by walk_at "lk"))
local macro_rules | `(tactic| walk_at "n") => `(tactic| first
  | ((with_reducible apply w_v); focus exact rfl)
  | with_reducible refine w_c ?_
  | with_reducible refine w_op ?_
  | with_reducible refine w_cons ?_
  | with_reducible refine w_nil ?_
  | with_reducible refine w_asg ?_
  | with_reducible refine w_gn ?_
  | with_reducible refine w_bt ?_
  | with_reducible refine w_kB ?_
  | with_reducible refine w_if ?_
  | with_reducible refine iteT ?_
  | with_reducible refine iteF ?_
  | with_reducible refine w_call ?_
  | with_reducible refine w_fn ?_
  | with_reducible refine w_ret ?_
  | with_reducible refine w_retn ?_
  | with_reducible refine w_next ?_
  | with_reducible refine w_drop ?_
  | with_reducible refine w_tr ?_
  | with_reducible refine w_kTrB ?_
  | with_reducible refine w_kTrN ?_
  | with_reducible refine w_kTrI ?_
  | with_reducible refine w_and ?_
  | with_reducible refine w_or ?_
  | with_reducible refine w_not ?_
  | with_reducible refine w_andv ?_
  | with_reducible refine w_orv ?_
  | with_reducible refine w_notv ?_
  | with_reducible refine w_kAndT ?_
  | with_reducible refine w_kAndF ?_
  | with_reducible refine w_kOrT ?_
  | with_reducible refine w_kOrF ?_
  | with_reducible refine w_kNotB ?_
  | with_reducible refine w_ife ?_
  | with_reducible refine w_tup ?_
  | with_reducible refine w_lst ?_
  | with_reducible refine w_addI ?_
  | with_reducible refine w_subI ?_
  | with_reducible refine w_ordI ?_
  | with_reducible refine w_eqI ?_
  | with_reducible refine w_neI ?_
  | with_reducible refine w_eqB ?_
  | with_reducible refine w_neB ?_
  | with_reducible refine w_is ?_
  | with_reducible refine w_isNot ?_
  | with_reducible refine w_un ?_
  | with_reducible refine w_neg ?_
  | with_reducible refine w_sub ?_
  | with_reducible refine w_par ?_
  | with_reducible refine w_kPar ?_
  | with_reducible refine w_par3 ?_
  | with_reducible refine w_kPar3 ?_
  | with_reducible refine w_raise ?_
  | with_reducible refine w_sl ?_
  | with_reducible refine w_onone ?_
  | with_reducible refine w_osome ?_
  | with_reducible refine w_kO ?_
  | with_reducible refine w_rev ?_
  | with_reducible refine w_yes ?_
  | with_reducible refine w_lens ?_
  | with_reducible refine w_max ?_
  | with_reducible refine w_min ?_
  | with_reducible refine w_intI ?_
  | with_reducible refine w_intB ?_
  | with_reducible refine w_meth ?_
  | with_reducible refine w_meth0 ?_
  | with_reducible refine w_for ?_
  | with_reducible refine w_lc ?_
  | with_reducible refine w_il ?_
  | with_reducible refine w_it ?_
  | with_reducible refine w_ir1 ?_
  | with_reducible refine w_ir2 ?_
  | with_reducible refine w_ie ?_
  | with_reducible refine w_iz ?_
  | with_reducible refine w_lenT ?_
  | with_reducible refine w_lenR ?_
  | with_reducible refine w_kIt ?_
  | with_reducible refine w_kIlR ?_
  | with_reducible refine w_gcons ?_
  | with_reducible refine w_gnil ?_
  | ((with_reducible apply w_gtup); focus exact rfl)
  | ((with_reducible apply w_lenL); focus walk_at "lk")
  | ((with_reducible apply w_kTrL); focus walk_at "lk")
  | ((with_reducible apply w_slL); focus walk_at "lk")
  | ((with_reducible apply w_listL); focus walk_at "lk")
  | ((with_reducible apply w_kIl); focus walk_at "lk")
  | ((with_reducible apply w_kIe); focus walk_at "lk")
  | ((with_reducible apply w_kIz); focus walk_at "lk"; focus walk_at "lk")
  | ((with_reducible apply w_kRev); focus walk_at "lk"))
local macro_rules | `(tactic| walk_at "h") => `(tactic| repeat walk_at "n")
local macro_rules | `(tactic| walk_at "s") => `(tactic| with_reducible refine w_seq ?_)
local macro_rules | `(tactic| walk_at "g") => `(tactic| repeat first | walk_at "n" | walk_at "s")
local macro_rules | `(tactic| walk_at "i") => `(tactic| (walk_at "s"; walk_at "h"))
local macro_rules | `(tactic| walk_at "bb") => `(tactic| first | rfl | assumption | (simp <;> omega) | omega)
local macro_rules | `(tactic| walk_at "T") => `(tactic| refine iteTb (by walk_at "bb") ?_)
local macro_rules | `(tactic| walk_at "F") => `(tactic| refine iteFb (by walk_at "bb") ?_)
theorem v_is_whole (G : GC) : ∀ ds M Q E, sp_is_whole G ds M Q E → t_is_whole G (endsOf Q E) (start2 N_is_whole ds) M := by
  rintro ds M Q E ⟨d, t, rfl, ht, h⟩
  unfold t_is_whole
  walk_at "g"
  refine w_isiT ht ?_
  refine w_kAndB (fun e => ?_) (fun e => ?_)
  · walk_at "g"
    refine w_isiT ht ?_
    walk_at "g"
    by_cases h1 : t = "int"
    · subst h1; exact ⟨_, SubM.refl _, h⟩
    · by_cases h2 : t = "bool"
      · subst h2; exact ⟨_, SubM.refl _, h⟩
      · simp [h1, h2] at e
  · have e2 : (t == "int") = false := by
      by_cases h1 : t = "int"
      · subst h1; simp at e
      · simp [h1]
    rw [e2] at h
    exact ⟨_, SubM.refl _, h⟩

theorem enum_get {xs : List Int} {i : Nat} {d : D} (h : ((xs.map D.int).zipIdx.map fun p => D.tup [.int (p.2 : Nat), p.1])[i]? = some d) : ∃ u, xs[i]? = some u ∧ d = .tup [.int i, .int u] := by
  simp only [List.getElem?_map, List.getElem?_zipIdx] at h
  cases e : xs[i]? with
  | none => rw [e] at h; simp at h
  | some u =>
    rw [e] at h
    simp at h
    exact ⟨u, rfl, h.symm⟩
theorem enum_len {xs : List Int} : ((xs.map D.int).zipIdx.map fun p => D.tup [.int (p.2 : Nat), p.1]).length = xs.length := by simp
theorem v_is_web (G : GC) : ∀ ds M Q E, sp_is_web G ds M Q E → t_is_web G (endsOf Q E) (start2 N_is_web ds) M := by
  rintro ds M Q E ⟨a, ws, rfl, hm, hw, h⟩
  unfold t_is_web
  walk_at "g"
  refine w_isiT (ty_lst hm) ?_
  walk_at "g"
  walk_at "F"
  walk_at "g"
  have hl := hw.1
  walk_at "F"
  walk_at "g"
  refine ⟨fun i ρ M' => M' = M ∧ ∃ o1 o2, ρ = [some (.ref a), o1, o2], ⟨rfl, _, _, rfl⟩, ?_, ?_, ?_⟩
  · rintro i ρ M' _ ⟨rfl, _⟩
    exact hm
  · rintro i d ρ M' hd ⟨rfl, o1, o2, rfl⟩
    obtain ⟨u, hu, rfl⟩ := enum_get hd
    have := hw.2 i u hu
    walk_at "g"
    refine ⟨_, _, rfl, rfl, ?_⟩
    walk_at "g"
    walk_at "F"
    walk_at "g"
    walk_at "F"
    walk_at "g"
    walk_at "F"
    walk_at "g"
    exact ⟨rfl, _, _, rfl⟩
  · rintro ρ M' ⟨rfl, o1, o2, rfl⟩
    walk_at "g"
    exact ⟨_, SubM.refl _, h⟩
theorem v_need_web (G : GC) : ∀ ds M Q E, sp_need_web G ds M Q E → t_need_web G (endsOf Q E) (start2 N_need_web ds) M := by
  rintro ds M Q E ⟨a, ws, rfl, hm, hw, h⟩
  unfold t_need_web
  walk_at "g"
  refine ⟨_, _, rfl, hm, hw, ?_⟩
  walk_at "g"
  walk_at "F"
  walk_at "g"
  exact ⟨_, SubM.refl _, h⟩
theorem v_need_post (G : GC) : ∀ ds M Q E, sp_need_post G ds M Q E → t_need_post G (endsOf Q E) (start2 N_need_post ds) M := by
  rintro ds M Q E ⟨a, ws, p, rfl, hm, h0, h1, h⟩
  unfold t_need_post
  walk_at "g"
  refine ⟨_, _, rfl, rfl, ?_⟩
  walk_at "g"
  walk_at "F"
  walk_at "g"
  walk_at "F"
  walk_at "g"
  walk_at "F"
  walk_at "g"
  exact ⟨_, SubM.refl _, h⟩
theorem nats_last (l : List Nat) (m : Nat) : atI (List.map D.int (nats (l ++ [m]))) (-1) = some (D.int m) := by
  simp only [nats, List.map_append]
  exact atI_last _ _
theorem nats_snoc (l : List Nat) (m : Nat) : List.map D.int (nats (l ++ [m])) = List.map D.int (nats l) ++ [D.int m] := by
  simp only [nats, List.map_append]; rfl
theorem at_int {xs : List Int} {i : Int} {n : Nat} {u : Int} (e : i = n) (h : xs[n]? = some u) : atI (xs.map D.int) i = some (D.int u) := by
  rw [e]
  exact atI_nat (by rw [List.getElem?_map, h]; rfl)
theorem v_homeward (G : GC) : ∀ ds M Q E, sp_homeward G ds M Q E → t_homeward G (endsOf Q E) (start2 N_homeward ds) M := by
  rintro ds M Q E ⟨a, ws, p, rfl, hm, hw, hp, h⟩
  unfold t_homeward
  walk_at "g"
  refine ⟨sz_of (n := 1) (Nat.le_refl _), fun q hq => ?_⟩
  walk_at "g"
  have hl := hw.1
  refine w_while (fun m ρ M' => ∃ l : List Nat, M' = updM M q (iL (nats (l ++ [m]))) ∧ ρ = [some (.ref a), some (.int p), some (.ref q)] ∧ m ≤ p ∧ up ws p = l ++ up ws m ∧ l.length + m ≤ p) p ⟨[], rfl, rfl, Nat.le_refl _, rfl, by simp⟩ ?_
  rintro m ρ M' ⟨l, rfl, rfl, hmp, hu, hlen⟩
  walk_at "g"
  refine w_ixL updM_same (d := .int m) ?_ ?_
  · exact nats_last l m
  walk_at "g"
  by_cases hm0 : m = 0
  · subst hm0
    walk_at "F"
    walk_at "g"
    rw [up_zero] at hu
    rw [← hu]
    exact ⟨_, SubM.refl _, h q hq⟩
  · walk_at "T"
    walk_at "g"
    refine ⟨ty_l updM_same, ?_⟩
    walk_at "g"
    refine w_ixL updM_same (nats_last l m) ?_
    walk_at "g"
    refine w_ixL (updM_lk hm hq) (at_int (n := m - 1) (by omega) (par_get hw (by omega) (by omega))) ?_
    walk_at "g"
    refine w_append updM_same (szlt (by simp; omega)) ?_
    rw [updM_updM]
    walk_at "g"
    refine ⟨par ws m, par_lt hw (by omega), l ++ [m], ?_, rfl, ?_, ?_, ?_⟩
    · show _ = updM M q (.lst (List.map D.int (nats (l ++ [m] ++ [par ws m]))))
      rw [nats_snoc (l ++ [m])]
    · have := par_lt hw (n := m) (by omega); omega
    · rw [hu, up_pos hw (by omega : 0 < m)]; simp
    · have := par_lt hw (n := m) (by omega)
      simp; omega
theorem cut_last {xs : List D} {x : D} : N2.cutD (xs ++ [x]) none (some (-1)) = xs := by
  unfold N2.cutD
  simp [HT.sIx]
  rw [show (-1 + ((xs.length : Int) + 1)).toNat = xs.length by omega]
  simp
theorem nats_last2 (l : List Nat) (m n : Nat) : atI (List.map D.int (nats (l ++ [m])) ++ [D.int n]) (-2) = some (D.int m) := by
  rw [nats_snoc]
  unfold atI
  have e : ixN (List.map D.int (nats l) ++ [D.int m] ++ [D.int n]).length (-2) = some l.length := by
    unfold ixN
    rw [if_neg (by decide), if_pos (by simp; omega)]
    simp
    omega
  rw [e]
  simp
theorem v__law_bag (G : GC) : ∀ ds M Q E, sp__law_bag G ds M Q E → t__law_bag G (endsOf Q E) (start2 N__law_bag ds) M := by
  rintro ds M Q E ⟨ns, k, rfl, hk, h⟩
  unfold t__law_bag
  have fin : ∀ (cell : Int) ρ, ρ = [some (.scr (ns.map D.int)), some (.int (k : Nat)), some (.int cell)] → b__law_bag_2 G (endsOf Q E) ρ M := by
    rintro cell ρ rfl
    walk_at "g"
    refine w_pow (cpowc 4 (by decide) (by decide) (by decide)) ?_
    walk_at "g"
    refine w_pow (cpowc 4 (by decide) (by decide) (by decide)) ?_
    walk_at "g"
    refine w_modI (by decide) ?_
    walk_at "g"
    refine w_mulI (mul_l (by decide) (by decide)) ?_
    walk_at "g"
    refine ⟨szl (by simp), fun b hb => ⟨_, SubM.refl _, h b _ hb (fun a ha => updM_ne ha) ⟨_, _, _, updM_same, ?_, ?_, ?_, ?_, ?_⟩⟩⟩
    · omega
    · exact Int.emod_nonneg _ (by decide)
    · have := Int.emod_lt_of_pos cell (show (0 : Int) < 10 ^ (40 : Int).toNat + 121 by decide)
      have e : (10 : Int) ^ (40 : Int).toNat + 121 < 2 ^ 140 := by decide
      omega
    · omega
    · omega
  walk_at "i"
  walk_at "i"
  by_cases hlt : k < ns.length
  · walk_at "T"
    walk_at "i"
    refine w_ixR (at_int (n := k) rfl (by rw [List.getElem?_eq_getElem hlt])) ?_
    walk_at "h"
    exact fin _ _ rfl
  · walk_at "F"
    walk_at "h"
    exact fin _ _ rfl
theorem Bag.mono {M : MP} {b : Addr} {n m : Nat} (h : Bag M b n) (hm : n ≤ m) : Bag M b m := by
  obtain ⟨x, y, c, e, h1, h2, h3, h4, h5⟩ := h
  exact ⟨x, y, c, e, h1, h2, h3, h4, by omega⟩
theorem iL3 {x y z : Int} : iL [x, y, z] = .lst [.int x, .int y, .int z] := rfl
theorem nat_lt {i : Int} {n : Nat} (h0 : 0 ≤ i) (h : i < 2 ^ n) : i.natAbs < 2 ^ n := by
  have e : ((i.natAbs : Nat) : Int) = i := by omega
  have : ((i.natAbs : Nat) : Int) < ((2 ^ n : Nat) : Int) := by rw [e]; simpa using h
  exact Int.ofNat_lt.mp this
theorem mul_lt {i j : Int} {n m : Nat} (h0 : 0 ≤ i) (h1 : i < 2 ^ n) (h2 : 0 ≤ j) (h3 : j < 2 ^ m) : i * j < 2 ^ (n + m) := by
  have := wide_lt (nat_lt h0 h1) (nat_lt h2 h3)
  have h4 : 0 ≤ i * j := Int.mul_nonneg h0 h2
  have e : (((i * j).natAbs : Nat) : Int) = i * j := by omega
  have : (((i * j).natAbs : Nat) : Int) < ((2 ^ (n + m) : Nat) : Int) := Int.ofNat_lt.mpr this
  rw [e] at this
  simpa using this
theorem v__law_take (G : GC) : ∀ ds M Q E, sp__law_take G ds M Q E → t__law_take G (endsOf Q E) (start2 N__law_take ds) M := by
  rintro ds M Q E ⟨b, n, many, rfl, ⟨x, y, c, hb, hx, hy, hy2, hc, hc2⟩, hn, hm0, hm1, h⟩
  unfold t__law_take
  walk_at "g"
  refine w_ixL hb (d := .int x) rfl ?_
  walk_at "g"
  have hmd : CDivW x many := divw hm0 (by omega)
  by_cases c0 : 0 < x
  · walk_at "T"
    walk_at "g"
    refine w_ixL hb (d := .int x) rfl ?_
    walk_at "g"
    refine w_modI hm0 ?_
    walk_at "g"
    refine w_ixL hb (d := .int x) rfl ?_
    walk_at "g"
    refine w_divI hmd ?_
    walk_at "g"
    refine w_setL hb rfl ?_
    walk_at "g"
    refine ⟨_, SubM.refl _, h _ _ (Int.emod_nonneg _ (by omega)) (Int.emod_lt_of_pos _ hm0) (fun a ha => updM_ne ha) ⟨_, _, _, updM_same, ?_, hy, hy2, hc, by omega⟩⟩
    exact Int.ediv_nonneg hx (by omega)
  · walk_at "F"
    walk_at "g"
    refine w_ixL hb (d := .int c) rfl ?_
    walk_at "g"
    refine w_setL (k := 2) hb rfl ?_
    have hb2 : updM M b (.lst ((List.map D.int [x, y, c]).set 2 (.int (c + 1)))) b = some (iL [x, y, c + 1]) := updM_same
    have hfr : ∀ a, a ≠ b → updM M b (.lst ((List.map D.int [x, y, c]).set 2 (.int (c + 1)))) a = M a := fun a ha => updM_ne ha
    generalize (updM M b (.lst ((List.map D.int [x, y, c]).set 2 (.int (c + 1)))) : MP) = M1 at hb2 hfr
    generalize hcc : c + 1 = e at hb2
    have he0 : 0 ≤ e := by omega
    have he1 : e < 2 ^ 61 := by omega
    walk_at "g"
    refine w_ixL hb2 (d := .int y) rfl ?_
    walk_at "g"
    refine w_ixL hb2 (d := .int e) rfl ?_
    walk_at "g"
    refine w_mulI (mul_l (by decide) (by decide)) ?_
    walk_at "g"
    have a1 : (y + 1) < 2 ^ 141 := by omega
    have a2 : (30011 * e + 7) < 2 ^ 80 := by omega
    refine w_mulI (mul_w 141 80 (nat_lt (by omega) a1) (nat_lt (by omega) a2) (by decide) (by decide) (by decide)) ?_
    have a3 := mul_lt (show 0 ≤ y + 1 by omega) a1 (show 0 ≤ 30011 * e + 7 by omega) a2
    have a4 := Int.mul_nonneg (show 0 ≤ y + 1 by omega) (show 0 ≤ 30011 * e + 7 by omega)
    generalize (y + 1) * (30011 * e + 7) = u at a3 a4
    walk_at "g"
    refine w_ixL hb2 (d := .int e) rfl ?_
    walk_at "g"
    refine w_mulI (mul_l (by decide) (by decide)) ?_
    walk_at "g"
    refine w_ixL hb2 (d := .int e) rfl ?_
    have b1 : 104729 * e < 2 ^ 80 := by omega
    refine w_mulI (mul_w 80 61 (nat_lt (by omega) b1) (nat_lt he0 he1) (by decide) (by decide) (by decide)) ?_
    have b2 := mul_lt (show 0 ≤ 104729 * e by omega) b1 he0 he1
    have b3 := Int.mul_nonneg (show 0 ≤ 104729 * e by omega) he0
    generalize 104729 * e * e = v at b2 b3
    walk_at "g"
    have m1 : u + v < 2 ^ 222 := by omega
    refine w_mulI (mul_w 222 222 (nat_lt (by omega) m1) (nat_lt (by omega) m1) (by decide) (by decide) (by decide)) ?_
    generalize (u + v) * (u + v) = mm
    walk_at "g"
    refine w_pow (cpowc 4 (by decide) (by decide) (by decide)) ?_
    walk_at "g"
    refine w_modI (by decide) ?_
    have n0 := Int.emod_nonneg mm (show (10 : Int) ^ (41 : Int).toNat + 37 ≠ 0 by decide)
    have n1 := Int.emod_lt_of_pos mm (show (0 : Int) < (10 : Int) ^ (41 : Int).toNat + 37 by decide)
    have n2 : (10 : Int) ^ (41 : Int).toNat + 37 < 2 ^ 140 := by decide
    generalize mm % ((10 : Int) ^ (41 : Int).toNat + 37) = r at n0 n1
    walk_at "g"
    refine w_mulI (mul_w 140 141 (nat_lt n0 (by omega)) (nat_lt (by omega) (by omega)) (by decide) (by decide) (by decide)) ?_
    generalize r * (r + 97) = rr
    walk_at "g"
    refine w_pow (cpowc 4 (by decide) (by decide) (by decide)) ?_
    walk_at "g"
    refine w_modI (by decide) ?_
    walk_at "g"
    refine w_divI (divw (by decide) (by decide)) ?_
    walk_at "g"
    refine w_modI hm0 ?_
    exact ⟨_, SubM.refl _, h _ _ (Int.emod_nonneg _ (by omega)) (Int.emod_lt_of_pos _ hm0) hfr ⟨_, _, _, hb2, hx, hy, hy2, he0, by omega⟩⟩
theorem Bag.keep {M M' : MP} {b : Addr} {n : Nat} (h : Bag M b n) (e : M' b = M b) : Bag M' b n := by
  obtain ⟨x, y, c, h1, h2⟩ := h
  exact ⟨x, y, c, e.trans h1, h2⟩
theorem WebOk.snoc {ws : List Int} {u : Int} (h : WebOk ws) (hl : ws.length ≤ 22) (h0 : 0 ≤ u) (h1 : u ≤ ws.length) : WebOk (ws ++ [u]) := by
  refine ⟨by simp; omega, fun i v hv => ?_⟩
  by_cases hi : i < ws.length
  · rw [List.getElem?_append_left hi] at hv; exact h.2 i v hv
  · rw [List.getElem?_append_right (by omega)] at hv
    have : i - ws.length = 0 := by
      cases e : i - ws.length with
      | zero => rfl
      | succ k => rw [e] at hv; simp at hv
    rw [this] at hv
    simp at hv
    subst hv
    omega
theorem rng_get {n i : Nat} {d : D} (h : ((List.range n).map fun (k : Nat) => D.int (k : Nat))[i]? = some d) : i < n ∧ d = .int i := by
  simp only [List.getElem?_map] at h
  by_cases hi : i < n
  · rw [List.getElem?_range hi] at h
    simp at h
    exact ⟨hi, h.symm⟩
  · rw [List.getElem?_eq_none (by simpa using hi)] at h
    simp at h
theorem v__law_web (G : GC) : ∀ ds M Q E, sp__law_web G ds M Q E → t__law_web G (endsOf Q E) (start2 N__law_web ds) M := by
  rintro ds M Q E ⟨b, n, most, rfl, hb, hn, hmost, h⟩
  unfold t__law_web
  walk_at "g"
  refine ⟨b, n, 4, rfl, hb, by omega, by decide, by decide, fun kind M1 k0 k1 f1 hb1 => ?_⟩
  walk_at "g"
  refine ⟨sz0, fun p hp => ?_⟩
  walk_at "g"
  obtain ⟨x1, y1, c1, e1, _⟩ := id hb1
  have hpb : b ≠ p := fun z => by rw [z, hp] at e1; cases e1
  refine ⟨b, n + 1, most + 1, rfl, hb1.keep (updM_ne hpb), by omega, by omega, by omega, fun m M2 m0 m1 f2 hb2 => ?_⟩
  walk_at "g"
  refine w_kIr1 (i := m) (by omega) (by omega) ?_
  have hM2p : M2 p = some (iL []) := (f2 p hpb.symm).trans updM_same
  refine ⟨fun i ρ M' => ∃ ws, M' p = some (iL ws) ∧ WebOk ws ∧ ws.length = i ∧ Kept b M M' ∧ Bag M' b (n + 2 + 2 * i) ∧ ∃ o, ρ = [some (.ref b), some (.int most), some (.int kind), some (.ref p), o],
    ⟨[], hM2p, ⟨by simp, fun i u hu => by simp at hu⟩, rfl, fun a u h1 h2 => by rw [f2 a h1]; exact updM_lk ((f1 a h1).trans h2) hp, hb2, _, rfl⟩, fun _ _ _ _ _ => trivial, ?_, ?_⟩
  · rintro i d ρ M' hd ⟨ws, hw, hok, hl, hf, hbg, o, rfl⟩
    obtain ⟨hi, rfl⟩ := rng_get hd
    have hi23 : i < 23 := by omega
    walk_at "g"
    refine ⟨ty_l hw, ?_⟩
    walk_at "g"
    refine ⟨b, n + 2 + 2 * i, (i : Int) + 1, rfl, hbg, by omega, by omega, by omega, fun r M3 r0 r1 f3 hb3 => ?_⟩
    walk_at "g"
    refine ⟨b, n + 2 + 2 * i + 1, 3, rfl, hb3, by omega, by omega, by omega, fun r' M4 r0' r1' f4 hb4 => ?_⟩
    walk_at "g"
    refine ⟨szl (by simp), fun q hq => ?_⟩
    walk_at "g"
    have hp4 : M4 p = some (iL ws) := by rw [f4 p hpb.symm, f3 p hpb.symm, hw]
    have hqp : p ≠ q := fun z => by rw [← z, hp4] at hq; cases hq
    obtain ⟨x4, y4, c4, e4, _⟩ := id hb4
    have hqb : b ≠ q := fun z => by rw [← z, e4] at hq; cases hq
    obtain ⟨u, hu, u0, u1⟩ : ∃ u : Int, atI [D.int i, .int 0, .int r, .int (max 0 (i - r'))] kind = some (.int u) ∧ 0 ≤ u ∧ u ≤ i := by
      have : kind = 0 ∨ kind = 1 ∨ kind = 2 ∨ kind = 3 := by omega
      rcases this with rfl | rfl | rfl | rfl
      · exact ⟨i, rfl, by omega, by omega⟩
      · exact ⟨0, rfl, by omega, by omega⟩
      · exact ⟨r, rfl, by omega, by omega⟩
      · exact ⟨max 0 (i - r'), rfl, by omega, by omega⟩
    refine w_ixL updM_same hu ?_
    walk_at "g"
    refine w_append ((updM_ne hqp).trans hp4) (szlt (by simp; omega)) ?_
    walk_at "g"
    refine ⟨ws ++ [u], ?_, WebOk.snoc hok (by omega) u0 (by omega), by simp; omega, fun a u h1 h2 => ?_, ?_, _, rfl⟩
    · rw [updM_same]; simp [iL]
    · have hap : a ≠ p := fun z => by rw [z] at h2; rw [f1 p hpb.symm, h2] at hp; cases hp
      rw [updM_ne hap]
      exact updM_lk (by rw [f4 a h1, f3 a h1]; exact hf a u h1 h2) hq
    · refine Bag.mono (n := n + 2 + 2 * i + 2) (hb4.keep ?_) (by omega)
      rw [updM_ne hpb, updM_ne hqb]
  · rintro ρ M' ⟨ws, hw, hok, hl, hf, hbg, o, rfl⟩
    walk_at "g"
    simp only [List.length_map, List.length_range] at hbg
    exact ⟨_, SubM.refl _, h p ws M' hpb.symm (by rw [← f1 p hpb.symm]; exact hp) hw hok hf (hbg.mono (by omega))⟩
theorem nats_get {l : List Nat} {i : Nat} {d : D} (h : (List.map D.int (nats l))[i]? = some d) : ∃ n, l[i]? = some n ∧ d = .int n := by
  simp only [nats, List.getElem?_map] at h
  cases e : l[i]? with
  | none => rw [e] at h; simp at h
  | some n => rw [e] at h; simp at h; exact ⟨n, rfl, h.symm⟩
theorem nats_nodup {l : List Nat} (h : l.Nodup) : (nats l).Nodup := by
  unfold nats
  induction l with
  | nil => simp
  | cons a l ih =>
    rw [List.nodup_cons] at h
    rw [List.map_cons, List.nodup_cons]
    refine ⟨fun hm => ?_, ih h.2⟩
    obtain ⟨b, hb, e⟩ := List.mem_map.mp hm
    have : b = a := Int.ofNat.inj e
    subst this
    exact h.1 hb
theorem cut_tail {x : D} {xs : List D} : N2.cutD (x :: xs) (some 1) none = xs := by
  unfold N2.cutD
  simp [HT.sIx]
theorem zip_tail_get {l : List Nat} {i : Nat} {d : D} (h : (((List.map D.int (nats l)).zip (List.map D.int (nats l)).tail).map fun p => D.tup [p.1, p.2])[i]? = some d) : ∃ x y, l[i]? = some x ∧ l[i + 1]? = some y ∧ d = .tup [.int x, .int y] := by
  simp only [List.getElem?_map, Option.map_eq_some_iff] at h
  obtain ⟨⟨a, b⟩, h, rfl⟩ := h
  rw [List.getElem?_zip_eq_some] at h
  obtain ⟨x, hx, rfl⟩ := nats_get h.1
  have h2 := h.2
  rw [List.getElem?_tail] at h2
  obtain ⟨y, hy, rfl⟩ := nats_get h2
  exact ⟨x, y, hx, hy, rfl⟩
end K26


namespace K26
open PySem PySem.Spec PyProof.Rows L2 N2 Web
/-! one step of a reading -/
local macro_rules | `(tactic| walk_at "lk") => `(tactic| first
  | assumption
  | exact updM_same
  | exact updM_lk (by walk_at "lk") (by assumption)
  | exact (updM_ne (by first | assumption | exact Ne.symm (by assumption))).trans (by walk_at "lk"))
local macro_rules | `(tactic| walk_at "n") => `(tactic| first
  | ((with_reducible apply w_v); focus exact rfl)
  | with_reducible refine w_c ?_
  | with_reducible refine w_op ?_
  | with_reducible refine w_cons ?_
  | with_reducible refine w_nil ?_
  | with_reducible refine w_asg ?_
  | with_reducible refine w_gn ?_
  | with_reducible refine w_bt ?_
  | with_reducible refine w_kB ?_
  | with_reducible refine w_if ?_
  | with_reducible refine iteT ?_
  | with_reducible refine iteF ?_
  | with_reducible refine w_call ?_
  | with_reducible refine w_fn ?_
  | with_reducible refine w_ret ?_
  | with_reducible refine w_retn ?_
  | with_reducible refine w_next ?_
  | with_reducible refine w_drop ?_
  | with_reducible refine w_tr ?_
  | with_reducible refine w_kTrB ?_
  | with_reducible refine w_kTrN ?_
  | with_reducible refine w_kTrI ?_
  | with_reducible refine w_and ?_
  | with_reducible refine w_or ?_
  | with_reducible refine w_not ?_
  | with_reducible refine w_andv ?_
  | with_reducible refine w_orv ?_
  | with_reducible refine w_notv ?_
  | with_reducible refine w_kAndT ?_
  | with_reducible refine w_kAndF ?_
  | with_reducible refine w_kOrT ?_
  | with_reducible refine w_kOrF ?_
  | with_reducible refine w_kNotB ?_
  | with_reducible refine w_ife ?_
  | with_reducible refine w_tup ?_
  | with_reducible refine w_lst ?_
  | with_reducible refine w_addI ?_
  | with_reducible refine w_subI ?_
  | with_reducible refine w_ordI ?_
  | with_reducible refine w_eqI ?_
  | with_reducible refine w_neI ?_
  | with_reducible refine w_eqB ?_
  | with_reducible refine w_neB ?_
  | with_reducible refine w_is ?_
  | with_reducible refine w_isNot ?_
  | with_reducible refine w_un ?_
  | with_reducible refine w_neg ?_
  | with_reducible refine w_sub ?_
  | with_reducible refine w_par ?_
  | with_reducible refine w_kPar ?_
  | with_reducible refine w_par3 ?_
  | with_reducible refine w_kPar3 ?_
  | with_reducible refine w_raise ?_
  | with_reducible refine w_sl ?_
  | with_reducible refine w_onone ?_
  | with_reducible refine w_osome ?_
  | with_reducible refine w_kO ?_
  | with_reducible refine w_rev ?_
  | with_reducible refine w_yes ?_
  | with_reducible refine w_lens ?_
  | with_reducible refine w_max ?_
  | with_reducible refine w_min ?_
  | with_reducible refine w_intI ?_
  | with_reducible refine w_intB ?_
  | with_reducible refine w_meth ?_
  | with_reducible refine w_meth0 ?_
  | with_reducible refine w_for ?_
  | with_reducible refine w_lc ?_
  | with_reducible refine w_il ?_
  | with_reducible refine w_it ?_
  | with_reducible refine w_ir1 ?_
  | with_reducible refine w_ir2 ?_
  | with_reducible refine w_ie ?_
  | with_reducible refine w_iz ?_
  | with_reducible refine w_lenT ?_
  | with_reducible refine w_lenR ?_
  | with_reducible refine w_kIt ?_
  | with_reducible refine w_kIlR ?_
  | with_reducible refine w_gcons ?_
  | with_reducible refine w_gnil ?_
  | ((with_reducible apply w_gtup); focus exact rfl)
  | ((with_reducible apply w_lenL); focus walk_at "lk")
  | ((with_reducible apply w_kTrL); focus walk_at "lk")
  | ((with_reducible apply iteTb); focus exact rfl)
  | ((with_reducible apply iteFb); focus exact rfl)
  | ((with_reducible apply w_kAndTb); focus exact rfl)
  | ((with_reducible apply w_kAndFb); focus exact rfl)
  | ((with_reducible apply w_kOrTb); focus exact rfl)
  | ((with_reducible apply w_kOrFb); focus exact rfl)
  | ((with_reducible apply w_isiC); (focus exact rfl); (focus exact rfl); (focus decide))
  | ((with_reducible apply w_ixT); focus exact rfl)
  | ((with_reducible apply w_ixL); (focus walk_at "lk"); (focus exact rfl))
  | with_reducible refine w_p10_4 ?_
  | with_reducible refine w_p10_5 ?_
  | with_reducible refine w_p10_10 ?_
  | with_reducible refine w_p10_13 ?_
  | with_reducible refine w_p10_14 ?_
  | with_reducible refine w_p10_15 ?_
  | with_reducible refine w_p10_17 ?_
  | with_reducible refine w_p10_18 ?_
  | with_reducible refine w_p10_20 ?_
  | with_reducible refine w_p10_38 ?_
  | with_reducible refine w_p10_40 ?_
  | with_reducible refine w_p10_41 ?_
  | with_reducible refine w_p10_60 ?_
  | ((with_reducible apply w_slL); focus walk_at "lk")
  | ((with_reducible apply w_listL); focus walk_at "lk")
  | ((with_reducible apply w_kIl); focus walk_at "lk")
  | ((with_reducible apply w_kIe); focus walk_at "lk")
  | ((with_reducible apply w_kIz); (focus walk_at "lk"); (focus walk_at "lk"))
  | ((with_reducible apply w_kRev); focus walk_at "lk"))
local macro_rules | `(tactic| walk_at "h") => `(tactic| repeat walk_at "n")
local macro_rules | `(tactic| walk_at "s") => `(tactic| with_reducible refine w_seq ?_)
local macro_rules | `(tactic| walk_at "g") => `(tactic| repeat first | walk_at "n" | walk_at "s")
local macro_rules | `(tactic| walk_at "i") => `(tactic| (walk_at "s"; walk_at "h"))
local macro_rules | `(tactic| walk_at "bb") => `(tactic| first | rfl | assumption | (simp <;> omega) | omega)
local macro_rules | `(tactic| walk_at "T") => `(tactic| refine iteTb (by walk_at "bb") ?_)
local macro_rules | `(tactic| walk_at "F") => `(tactic| refine iteFb (by walk_at "bb") ?_)

theorem mem_nats {l : List Nat} {x : Nat} : ((x : Nat) : Int) ∈ nats l ↔ x ∈ l := by
  unfold nats
  rw [List.mem_map]
  exact ⟨fun ⟨y, hy, e⟩ => by have : y = x := Int.ofNat.inj e; rw [← this]; exact hy, fun h => ⟨x, h, rfl⟩⟩
theorem fm_ite {α β : Type} (P : α → Bool) (g : α → β) : ∀ l : List α, l.filterMap (fun x => if P x = true then some (g x) else none) = (l.filter P).map g
  | [] => rfl
  | x :: l => by
    have ih := fm_ite P g l
    cases e : P x <;> simp [List.filterMap_cons, List.filter_cons, e, ih]
def natO (P : Nat → Bool) : D → Option D
  | .int i => if P i.toNat = true then some (.int i) else none
  | _ => none
theorem fm_nats (P : Nat → Bool) : ∀ l : List Nat, (List.map D.int (nats l)).filterMap (natO P) = List.map D.int (nats (l.filter P))
  | [] => rfl
  | x :: l => by
    have ih := fm_nats P l
    have e1 : List.map D.int (nats (x :: l)) = D.int (x : Nat) :: List.map D.int (nats l) := rfl
    have e2 : natO P (D.int (x : Nat)) = if P x = true then some (.int (x : Nat)) else none := rfl
    rw [e1, List.filterMap_cons, List.filter_cons, e2]
    cases e : P x
    · simp only [Bool.false_eq_true, if_false]; exact ih
    · simp only [if_true]; rw [ih]; rfl
theorem fm_congr {α β : Type} {f g : α → Option β} : ∀ l : List α, (∀ x ∈ l, f x = g x) → l.filterMap f = l.filterMap g
  | [], _ => rfl
  | x :: l, h => by
    rw [List.filterMap_cons, List.filterMap_cons, h x List.mem_cons_self, fm_congr l fun y hy => h y (List.mem_cons_of_mem _ hy)]
theorem w_inN {M : MP} {Q : VK2} {a : Addr} {neg : Bool} {x : Nat} {l : List Nat} (e : M a = some (.lst (List.map D.int (nats l)))) (h : Q (.bl (if neg then !decide (x ∈ l) else decide (x ∈ l))) M) : bIn neg (.int (x : Nat)) (.ref a) M Q :=
  w_inLI e (by rw [show decide (((x : Nat) : Int) ∈ nats l) = decide (x ∈ l) from decide_eq_decide.mpr mem_nats]; exact h)
def enO (p : Nat) : D → Option D
  | .tup [.int i, .int u] => if u = p then some (.int (i + 1)) else none
  | _ => none
theorem fm_enum {ws : List Int} (hw : WebOk ws) (p : Nat) : ((ws.map D.int).zipIdx.map fun q => D.tup [.int (q.2 : Nat), q.1]).filterMap (enO p) = List.map D.int (nats (kids ws p)) := by
  have e1 : ((ws.map D.int).zipIdx.map fun q => D.tup [.int (q.2 : Nat), q.1]) = (List.range ws.length).map fun i => D.tup [.int (i : Nat), .int (ws.getD i 0)] := by
    apply List.ext_getElem?
    intro i
    simp only [List.getElem?_map, List.getElem?_zipIdx, List.getElem?_range']
    by_cases hi : i < ws.length
    · simp [hi, List.getElem?_range, List.getD_eq_getElem?_getD]
    · have : ws[i]? = none := List.getElem?_eq_none (by omega)
      have h2 : (List.range ws.length)[i]? = none := List.getElem?_eq_none (by simp; omega)
      simp [this, h2]
  rw [e1, List.filterMap_map]
  unfold kids nats
  rw [List.map_map, List.map_map, ← fm_ite]
  apply fm_congr
  intro i hi
  have hi' : i < ws.length := by simpa using hi
  have hu := hw.2 i ws[i] (by simp [hi'])
  have e2 : par ws (i + 1) = (ws.getD i 0).toNat := rfl
  have e3 : ws.getD i 0 = ws[i] := by simp [List.getD_eq_getElem?_getD, hi']
  simp only [Function.comp, enO, e2, e3, decide_eq_true_eq]
  by_cases e : ws[i] = (p : Int)
  · rw [if_pos e, if_pos (by omega)]; rfl
  · rw [if_neg e, if_neg (by omega)]
theorem v_neighbours (G : GC) : ∀ ds M Q E, sp_neighbours G ds M Q E → t_neighbours G (endsOf Q E) (start2 N_neighbours ds) M := by
  rintro ds M Q E ⟨a, ws, p, rfl, hm, hw, hp, h⟩
  unfold t_neighbours
  have hl := hw.1
  walk_at "g"
  refine ⟨_, _, rfl, hm, hw, ?_⟩
  walk_at "g"
  refine ⟨_, _, _, rfl, hm, by omega, by omega, ?_⟩
  walk_at "g"
  apply w_lcp (enO p)
  · exact szl (by simp; omega)
  · exact hm
  · intro d hd QR hq
    obtain ⟨i, hi⟩ := List.mem_iff_getElem?.mp hd
    obtain ⟨u, hu, rfl⟩ := enum_get hi
    walk_at "g"
    by_cases e : u = p
    · walk_at "T"
      walk_at "g"
      simp only [enO, if_pos e] at hq
      exact ⟨rfl, hq⟩
    · walk_at "F"
      simp only [enO, if_neg e] at hq
      exact ⟨rfl, hq⟩
  intro q hq
  rw [fm_enum hw]
  walk_at "g"
  have hkl : (kids ws p).length ≤ 23 := by
    unfold kids
    rw [List.length_map]
    have := List.length_filter_le (fun i => decide (par ws (i + 1) = p)) (List.range ws.length)
    simp at this
    omega
  by_cases h0 : 0 < p
  · walk_at "T"
    walk_at "g"
    refine ⟨ty_l updM_same, ?_⟩
    walk_at "g"
    refine w_ixL (updM_lk hm hq) (at_int (n := p - 1) (by omega) (par_get hw h0 hp)) ?_
    walk_at "g"
    refine w_insert updM_same (szlt (by simp; omega)) (by decide) (by decide) ?_
    rw [updM_updM]
    walk_at "g"
    refine ⟨_, SubM.refl _, ?_⟩
    have := h q hq
    unfold nbs at this
    rw [if_pos h0] at this
    exact this
  · walk_at "F"
    walk_at "g"
    refine ⟨_, SubM.refl _, ?_⟩
    have := h q hq
    unfold nbs at this
    rw [if_neg h0] at this
    exact this
theorem nb_le {ws : List Int} (hw : WebOk ws) {p q : Nat} (hp : p ≤ ws.length) (h : q ∈ nbs ws p) : q ≤ ws.length := by
  rcases mem_nbs.mp h with ⟨h0, rfl⟩ | ⟨_, h1, _⟩
  · have := par_lt hw h0; omega
  · exact h1
theorem rng_snoc (P : Nat → Bool) (i : Nat) : ((List.range (i + 1)).filter P) = (List.range i).filter P ++ (if P i = true then [i] else []) := by
  rw [List.range_succ, List.filter_append]
  cases h : P i <;> simp [h]
theorem rngI_get {n i : Nat} {d : D} (h : ((List.range n).map fun k => D.int (k : Nat))[i]? = some d) : i < n ∧ d = .int i := by
  rw [List.getElem?_map] at h
  obtain ⟨k, hk, rfl⟩ := Option.map_eq_some_iff.mp h
  have hi : i < n := by simpa using (List.getElem?_eq_some_iff.mp hk).1
  rw [List.getElem?_range hi] at hk
  cases hk
  exact ⟨hi, rfl⟩
theorem v_side (G : GC) : ∀ ds M Q E, sp_side G ds M Q E → t_side G (endsOf Q E) (start2 N_side ds) M := by
  rintro ds M Q E ⟨a, ws, p, q, rfl, hm, hw, hp, hq, h⟩
  unfold t_side
  have hl := hw.1
  have hq' := nb_le hw hp hq
  walk_at "g"
  refine ⟨_, _, rfl, hm, hw, ?_⟩
  walk_at "g"
  refine ⟨_, _, _, rfl, hm, by omega, by omega, ?_⟩
  walk_at "g"
  refine ⟨_, _, _, rfl, hm, by omega, by omega, ?_⟩
  walk_at "g"
  refine ⟨_, _, _, rfl, hm, hw, hp, fun n hn => ?_⟩
  refine w_inN updM_same ?_
  walk_at "g"
  refine iteFb (by simp [hq]) ?_
  walk_at "g"
  have hs := (SubM.refl M).upd (o := iL (nats (nbs ws p))) hn
  revert hs
  generalize updM M n (iL (nats (nbs ws p))) = M0
  intro hs
  by_cases hlt : p < q
  · walk_at "T"
    walk_at "g"
    have hm0 := hs a _ hm
    walk_at "g"
    refine w_kIr1 (i := ((List.map D.int ws).length : Int) + 1) (by simp; omega) (by simp; omega) ?_
    rw [show (((List.map D.int ws).length : Int) + 1).toNat = ws.length + 1 by simp]
    refine ⟨szl (by simp; omega), fun i acc M' => SubM M M' ∧ acc = ((List.range i).filter (sideB ws p q)).map fun k => D.int (k : Nat), ⟨hs, rfl⟩, fun _ _ _ _ _ => trivial, ?_, ?_⟩
    · rintro i d acc M' hd ⟨sb, rfl⟩
      obtain ⟨hi, rfl⟩ := rngI_get hd
      walk_at "g"
      refine ⟨_, _, _, rfl, sb a _ hm, hw, by omega, fun r hr => ?_⟩
      refine w_inN updM_same ?_
      walk_at "g"
      have e : sideB ws p q i = decide (q ∈ up ws i) := by unfold sideB; rw [if_pos hlt]
      by_cases c : q ∈ up ws i
      · refine iteTb (by simp [c]) ?_
        walk_at "g"
        refine ⟨sb.upd (SubM.none sb hr), ?_⟩
        rw [rng_snoc, e, if_pos (by simp [c])]; simp
      · refine iteFb (by simp [c]) ?_
        refine ⟨sb.upd (SubM.none sb hr), ?_⟩
        rw [rng_snoc, e, if_neg (by simp [c])]; simp
    · rintro acc M' hal ⟨sb, rfl⟩ r hr
      refine ⟨_, sb.upd2, ?_⟩
      have := h r (SubM.none sb hr)
      rw [show iL (nats (sideN ws p q)) = MO.lst (List.map (fun k => D.int (k : Nat)) ((List.range (ws.length + 1)).filter (sideB ws p q))) by simp only [iL, nats, sideN, List.map_map]; rfl] at this
      simp only [List.length_map, List.length_range]
      exact this
  · walk_at "F"
    walk_at "g"
    have hm0 := hs a _ hm
    walk_at "g"
    refine w_kIr1 (i := ((List.map D.int ws).length : Int) + 1) (by simp; omega) (by simp; omega) ?_
    rw [show (((List.map D.int ws).length : Int) + 1).toNat = ws.length + 1 by simp]
    refine ⟨szl (by simp; omega), fun i acc M' => SubM M M' ∧ acc = ((List.range i).filter (sideB ws p q)).map fun k => D.int (k : Nat), ⟨hs, rfl⟩, fun _ _ _ _ _ => trivial, ?_, ?_⟩
    · rintro i d acc M' hd ⟨sb, rfl⟩
      obtain ⟨hi, rfl⟩ := rngI_get hd
      walk_at "g"
      refine ⟨_, _, _, rfl, sb a _ hm, hw, by omega, fun r hr => ?_⟩
      refine w_inN updM_same ?_
      walk_at "g"
      have e : sideB ws p q i = !decide (p ∈ up ws i) := by unfold sideB; rw [if_neg hlt]
      by_cases c : p ∈ up ws i
      · refine iteFb (by simp [c]) ?_
        refine ⟨sb.upd (SubM.none sb hr), ?_⟩
        rw [rng_snoc, e, if_neg (by simp [c])]; simp
      · refine iteTb (by simp [c]) ?_
        walk_at "g"
        refine ⟨sb.upd (SubM.none sb hr), ?_⟩
        rw [rng_snoc, e, if_pos (by simp [c])]; simp
    · rintro acc M' hal ⟨sb, rfl⟩ r hr
      refine ⟨_, sb.upd2, ?_⟩
      have := h r (SubM.none sb hr)
      rw [show iL (nats (sideN ws p q)) = MO.lst (List.map (fun k => D.int (k : Nat)) ((List.range (ws.length + 1)).filter (sideB ws p q))) by simp only [iL, nats, sideN, List.map_map]; rfl] at this
      simp only [List.length_map, List.length_range]
      exact this

end K26


namespace K26
open PySem PySem.Spec PyProof.Rows L2 N2 Web
/-! one step of a reading -/
local macro_rules | `(tactic| walk_at "lk") => `(tactic| first
  | assumption
  | exact updM_same
  | exact updM_lk (by walk_at "lk") (by assumption)
  | exact (updM_ne (by first | assumption | exact Ne.symm (by assumption))).trans (by walk_at "lk"))
local macro_rules | `(tactic| walk_at "n") => `(tactic| first
  | ((with_reducible apply w_v); focus exact rfl)
  | with_reducible refine w_c ?_
  | with_reducible refine w_op ?_
  | with_reducible refine w_cons ?_
  | with_reducible refine w_nil ?_
  | with_reducible refine w_asg ?_
  | with_reducible refine w_gn ?_
  | with_reducible refine w_bt ?_
  | with_reducible refine w_kB ?_
  | with_reducible refine w_if ?_
  | with_reducible refine iteT ?_
  | with_reducible refine iteF ?_
  | with_reducible refine w_call ?_
  | with_reducible refine w_fn ?_
  | with_reducible refine w_ret ?_
  | with_reducible refine w_retn ?_
  | with_reducible refine w_next ?_
  | with_reducible refine w_drop ?_
  | with_reducible refine w_tr ?_
  | with_reducible refine w_kTrB ?_
  | with_reducible refine w_kTrN ?_
  | with_reducible refine w_kTrI ?_
  | with_reducible refine w_and ?_
  | with_reducible refine w_or ?_
  | with_reducible refine w_not ?_
  | with_reducible refine w_andv ?_
  | with_reducible refine w_orv ?_
  | with_reducible refine w_notv ?_
  | with_reducible refine w_kAndT ?_
  | with_reducible refine w_kAndF ?_
  | with_reducible refine w_kOrT ?_
  | with_reducible refine w_kOrF ?_
  | with_reducible refine w_kNotB ?_
  | with_reducible refine w_ife ?_
  | with_reducible refine w_tup ?_
  | with_reducible refine w_lst ?_
  | with_reducible refine w_addI ?_
  | with_reducible refine w_subI ?_
  | with_reducible refine w_ordI ?_
  | with_reducible refine w_eqI ?_
  | with_reducible refine w_neI ?_
  | with_reducible refine w_eqB ?_
  | with_reducible refine w_neB ?_
  | with_reducible refine w_is ?_
  | with_reducible refine w_isNot ?_
  | with_reducible refine w_un ?_
  | with_reducible refine w_neg ?_
  | with_reducible refine w_sub ?_
  | with_reducible refine w_par ?_
  | with_reducible refine w_kPar ?_
  | with_reducible refine w_par3 ?_
  | with_reducible refine w_kPar3 ?_
  | with_reducible refine w_raise ?_
  | with_reducible refine w_sl ?_
  | with_reducible refine w_onone ?_
  | with_reducible refine w_osome ?_
  | with_reducible refine w_kO ?_
  | with_reducible refine w_rev ?_
  | with_reducible refine w_yes ?_
  | with_reducible refine w_lens ?_
  | with_reducible refine w_max ?_
  | with_reducible refine w_min ?_
  | with_reducible refine w_intI ?_
  | with_reducible refine w_intB ?_
  | with_reducible refine w_meth ?_
  | with_reducible refine w_meth0 ?_
  | with_reducible refine w_for ?_
  | with_reducible refine w_lc ?_
  | with_reducible refine w_il ?_
  | with_reducible refine w_it ?_
  | with_reducible refine w_ir1 ?_
  | with_reducible refine w_ir2 ?_
  | with_reducible refine w_ie ?_
  | with_reducible refine w_iz ?_
  | with_reducible refine w_lenT ?_
  | with_reducible refine w_lenR ?_
  | with_reducible refine w_kIt ?_
  | with_reducible refine w_kIlR ?_
  | with_reducible refine w_gcons ?_
  | with_reducible refine w_disp ?_
  | with_reducible refine w_dpcons ?_
  | with_reducible refine w_dpnil ?_
  | with_reducible refine w_dnew ?_
  | with_reducible refine w_lrng ?_
  | with_reducible refine w_gnil ?_
  | ((with_reducible apply w_gtup); focus exact rfl)
  | ((with_reducible apply w_lenL); focus walk_at "lk")
  | ((with_reducible apply w_kTrL); focus walk_at "lk")
  | ((with_reducible apply iteTb); focus exact rfl)
  | ((with_reducible apply iteFb); focus exact rfl)
  | ((with_reducible apply w_kAndTb); focus exact rfl)
  | ((with_reducible apply w_kAndFb); focus exact rfl)
  | ((with_reducible apply w_kOrTb); focus exact rfl)
  | ((with_reducible apply w_kOrFb); focus exact rfl)
  | ((with_reducible apply w_isiC); (focus exact rfl); (focus exact rfl); (focus decide))
  | ((with_reducible apply w_ixT); focus exact rfl)
  | ((with_reducible apply w_ixL); (focus walk_at "lk"); (focus exact rfl))
  | with_reducible refine w_p10_4 ?_
  | with_reducible refine w_p10_5 ?_
  | with_reducible refine w_p10_10 ?_
  | with_reducible refine w_p10_13 ?_
  | with_reducible refine w_p10_14 ?_
  | with_reducible refine w_p10_15 ?_
  | with_reducible refine w_p10_17 ?_
  | with_reducible refine w_p10_18 ?_
  | with_reducible refine w_p10_20 ?_
  | with_reducible refine w_p10_38 ?_
  | with_reducible refine w_p10_40 ?_
  | with_reducible refine w_p10_41 ?_
  | with_reducible refine w_p10_60 ?_
  | ((with_reducible apply w_slL); focus walk_at "lk")
  | ((with_reducible apply w_listL); focus walk_at "lk")
  | ((with_reducible apply w_kIl); focus walk_at "lk")
  | ((with_reducible apply w_kIe); focus walk_at "lk")
  | ((with_reducible apply w_kIz); (focus walk_at "lk"); (focus walk_at "lk"))
  | ((with_reducible apply w_kRev); focus walk_at "lk"))
local macro_rules | `(tactic| walk_at "h") => `(tactic| repeat walk_at "n")
local macro_rules | `(tactic| walk_at "s") => `(tactic| with_reducible refine w_seq ?_)
local macro_rules | `(tactic| walk_at "g") => `(tactic| repeat first | walk_at "n" | walk_at "s")
local macro_rules | `(tactic| walk_at "i") => `(tactic| (walk_at "s"; walk_at "h"))
local macro_rules | `(tactic| walk_at "bb") => `(tactic| first | rfl | assumption | (simp <;> omega) | omega)
local macro_rules | `(tactic| walk_at "T") => `(tactic| refine iteTb (by walk_at "bb") ?_)
local macro_rules | `(tactic| walk_at "F") => `(tactic| refine iteFb (by walk_at "bb") ?_)
theorem w_srt {M : MP} {Q : VK2} {a : Addr} {l m : List Nat} (e : M a = some (.lst (List.map D.int (nats l)))) (hp : l.Perm m) (hm : m.Pairwise (· < ·)) (h : ∀ p, M p = none → Q (.ref p) (updM M p (iL (nats m)))) : bSortedI [.ref a] M Q :=
  w_sortedI e fun ns' p h1 h2 hp' => by rw [sorted_is h1 h2 hp hm]; exact h p hp'
theorem v__law_beside (G : GC) : ∀ ds M Q E, sp__law_beside G ds M Q E → t__law_beside G (endsOf Q E) (start2 N__law_beside ds) M := by
  rintro ds M Q E ⟨a, ws, p, rfl, hm, hw, hp, h⟩
  unfold t__law_beside
  have hl := hw.1
  walk_at "g"
  refine ⟨szl (by simp), fun f hf => ?_⟩
  walk_at "g"
  refine w_kIr1 (by first | (simp; done) | (simp; omega) | omega) (by first | (simp; done) | (simp; omega) | omega) ?_
  have hfa : a ≠ f := fun z => by rw [z, hf] at hm; cases hm
  refine ⟨fun i ρ M' => M' = updM M f (iL (nats (bes ws p i))) ∧ ∃ o, ρ = [some (.ref a), some (.int p), some (.ref f), o], ⟨rfl, _, rfl⟩, fun _ _ _ _ _ => trivial, ?_, ?_⟩
  · rintro i d ρ M' hd ⟨rfl, o, rfl⟩
    obtain ⟨hi, rfl⟩ := rng_get hd
    have hi' : i < ws.length := by simpa using hi
    have bl := bes_len (ws := ws) p i
    have pg := par_get hw (n := i + 1) (by omega) (by omega)
    walk_at "g"
    refine w_ixL (updM_lk hm hf) (at_int (n := i) rfl pg) ?_
    walk_at "g"
    have e1 : bes ws p (i + 1) = bes ws p i ++ (if par ws (i + 1) = p then [i + 1] else []) ++ (if i + 1 = p then [par ws p] else []) := rfl
    by_cases c1 : par ws (i + 1) = p
    · refine iteTb (by walk_at "bb") ?_
      walk_at "g"
      refine ⟨ty_l updM_same, ?_⟩
      walk_at "g"
      refine w_append updM_same (szlt (by simp; omega)) ?_
      rw [updM_updM]
      walk_at "g"
      have c2 : ¬ i + 1 = p := fun z => by have := par_lt hw (n := i + 1) (by omega); omega
      refine iteFb (by walk_at "bb") ?_
      walk_at "g"
      refine ⟨?_, _, rfl⟩
      rw [e1, if_pos c1, if_neg c2]
      simp [iL, nats]
    · refine iteFb (by walk_at "bb") ?_
      walk_at "g"
      by_cases c2 : i + 1 = p
      · refine iteTb (by walk_at "bb") ?_
        walk_at "g"
        refine ⟨ty_l updM_same, ?_⟩
        walk_at "g"
        refine w_ixL (updM_lk hm hf) (at_int (n := i) rfl pg) ?_
        walk_at "g"
        refine w_append updM_same (szlt (by simp; omega)) ?_
        rw [updM_updM]
        walk_at "g"
        refine ⟨?_, _, rfl⟩
        rw [e1, if_neg c1, if_pos c2]
        subst c2
        simp [iL, nats]
      · refine iteFb (by walk_at "bb") ?_
        walk_at "g"
        refine ⟨?_, _, rfl⟩
        rw [e1, if_neg c1, if_neg c2]
        simp
  · rintro ρ M' ⟨rfl, o, rfl⟩
    walk_at "g"
    have e : (List.map (fun k => D.int (k : Nat)) (List.range ((List.map D.int ws).length : Int).toNat)).length = ws.length := by simp
    rw [e]
    refine w_srt updM_same (bes_nbs hp) (nbs_lt hw p) fun q hq => ?_
    refine ⟨_, ?_, h q (SubM.none ((SubM.refl M).upd hf) hq)⟩
    exact ((SubM.refl M).upd hf).upd2
/-- what the walk keeps -/
structure DS (ws : List Int) (p q : Nat) (M M' : MP) (mt wt fd : Addr) (F Wt : List Nat) (kvs : List (Key × D)) : Prop where
  em : M' mt = some (.dK kvs)
  ew : M' wt = some (iL (nats Wt))
  ef : M' fd = some (iL (nats F))
  sb : SubM M M'
  n1 : mt ≠ wt
  n2 : mt ≠ fd
  n3 : wt ≠ fd
  f1 : M mt = none
  f2 : M wt = none
  f3 : M fd = none
  kl : kvs.length ≤ F.length + 1
  ki : ∀ x : Nat, (getK kvs (.inl x)).isSome = decide (x = p ∨ x ∈ F)
  nd : F.Nodup
  inF : ∀ x ∈ F, x ≤ ws.length ∧ sideB ws p q x = true
  hq : q ∈ F
  sub : ∀ x ∈ Wt, x ∈ F
  wl : Wt.length ≤ F.length
theorem DS.new {ws : List Int} {p q : Nat} {M M' : MP} {mt wt fd z : Addr} {F Wt : List Nat} {kvs : List (Key × D)} {o : MO} (h : DS ws p q M M' mt wt fd F Wt kvs) (hz : M' z = none) : DS ws p q M (updM M' z o) mt wt fd F Wt kvs :=
  { h with em := updM_lk h.em hz, ew := updM_lk h.ew hz, ef := updM_lk h.ef hz, sb := h.sb.upd (SubM.none h.sb hz) }
theorem v__law_beyond (G : GC) : ∀ ds M Q E, sp__law_beyond G ds M Q E → t__law_beyond G (endsOf Q E) (start2 N__law_beyond ds) M := by
  rintro ds M Q E ⟨a, ws, p, q, rfl, hm, hw, hp, hq, h⟩
  unfold t__law_beyond
  have hl := hw.1
  have hql := nb_le hw hp hq
  have hqp := nb_ne hw hq
  walk_at "g"
  intro mt hmt
  walk_at "g"
  refine ⟨updM_same, [(.inl p, .bl true), (.inl q, .bl true)], rfl, by simp, ?_⟩
  rw [updM_updM]
  generalize hkv : mergeD [] [(Sum.inl (p : Int), D.bl true), (Sum.inl (q : Int), D.bl true)] = kvs
  have k1 : kvs.length ≤ 2 := by
    rw [← hkv]
    have a1 := setK_len [] (.inl (p : Int)) (D.bl true)
    have a2 := setK_len (setK [] (.inl (p : Int)) (D.bl true)) (.inl (q : Int)) (D.bl true)
    simp at a1
    exact Nat.le_trans a2 (by omega)
  have k2 : ∀ x : Nat, (getK kvs (.inl x)).isSome = decide (x = p ∨ x ∈ [q]) := by
    intro x
    rw [← hkv]
    show (getK (setK (setK [] (.inl (p : Int)) (D.bl true)) (.inl (q : Int)) (D.bl true)) (.inl x)).isSome = _
    rw [getK_set, getK_set]
    have e1 : ((Sum.inl (q : Int) : Key) = Sum.inl (x : Int)) ↔ x = q := ⟨fun z => by have := Sum.inl.inj z; omega, fun z => by rw [z]⟩
    have e2 : ((Sum.inl (p : Int) : Key) = Sum.inl (x : Int)) ↔ x = p := ⟨fun z => by have := Sum.inl.inj z; omega, fun z => by rw [z]⟩
    have e3 : (getK [] (Sum.inl (x : Int))).isSome = false := rfl
    rw [e3]
    by_cases c1 : x = p <;> by_cases c2 : x = q <;> simp [e1, e2, c1, c2] <;> omega
  walk_at "g"
  refine ⟨szl (by simp), fun wt hwt => ?_⟩
  walk_at "g"
  refine ⟨szl (by simp), fun fd hfd => ?_⟩
  have n1 : mt ≠ wt := fun z => by rw [← z, updM_same] at hwt; cases hwt
  have n2 : mt ≠ fd := fun z => by rw [← z, updM_lk updM_same hwt] at hfd; cases hfd
  have n3 : wt ≠ fd := fun z => by rw [← z, updM_same] at hfd; cases hfd
  have s1 := (SubM.refl M).upd (o := .dK kvs) hmt
  have s2 := s1.upd (o := .lst [.int q]) (SubM.none s1 hwt)
  have ds0 : DS ws p q M (updM (updM (updM M mt (.dK kvs)) wt (.lst [.int q])) fd (.lst [.int q])) mt wt fd [q] [q] kvs :=
    { em := updM_lk (updM_lk updM_same hwt) hfd, ew := updM_lk updM_same hfd, ef := updM_same, sb := s2.upd (SubM.none s2 hfd), n1 := n1, n2 := n2, n3 := n3, f1 := hmt, f2 := SubM.none s1 hwt, f3 := SubM.none s2 hfd,
      kl := k1, ki := k2, nd := by simp, inF := fun x hx => by
        have : x = q := by simpa using hx
        subst this
        exact ⟨hql, side_q hw hq⟩, hq := by simp, sub := fun x hx => hx, wl := Nat.le_refl _ }
  generalize updM (updM (updM M mt (.dK kvs)) wt (.lst [.int q])) fd (.lst [.int q]) = M1 at ds0
  clear s1 s2 hwt hfd k1 k2 hkv
  walk_at "g"
  refine w_while (fun m ρ M' => ∃ F Wt kvs o, ρ = [some (.ref a), some (.int p), some (.int q), some (.ref mt), some (.ref wt), some (.ref fd), o] ∧ DS ws p q M M' mt wt fd F Wt kvs ∧ (∀ x ∈ F, x ∉ Wt → ∀ y ∈ nbs ws x, y = p ∨ y ∈ F) ∧ m = 2 * (ws.length + 1 - F.length) + Wt.length) _
    ⟨[q], [q], kvs, _, rfl, ds0, fun x hx hn => absurd hx hn, rfl⟩ ?_
  clear ds0
  rintro m ρ M' ⟨F, Wt, kvs, o, rfl, ds, cl, rfl⟩
  walk_at "g"
  refine ⟨szl (by simp), fun z hz => ?_⟩
  refine w_neLI (ms := []) (updM_lk ds.ew hz) updM_same ?_
  replace ds := ds.new (o := .lst []) hz
  generalize updM M' z (.lst []) = M2 at ds
  refine w_kB ?_
  rcases List.eq_nil_or_concat Wt with rfl | ⟨W0, x, rfl⟩
  · walk_at "g"
    have hF := found_side hw hq ds.nd ds.inF ds.hq fun x hx => cl x hx (by simp)
    refine w_srt ds.ef hF (sideN_lt p q) fun r hr => ?_
    exact ⟨_, ds.sb.upd2, h r (SubM.none ds.sb hr)⟩
  refine iteTb (by simp [nats]) ?_
  walk_at "g"
  refine ⟨ty_l ds.ew, ?_⟩
  refine w_pop (xs := List.map D.int (nats W0)) (d := .int x) (by rw [ds.ew]; simp [iL, nats]) ?_
  walk_at "g"
  have hxF : x ∈ F := ds.sub x (by simp)
  have hxl := (ds.inF x hxF).1
  have hma : a ≠ wt := fun z => by have e9 := ds.f2; rw [← z, hm] at e9; cases e9
  have hm3 : updM M2 wt (.lst (List.map D.int (nats W0))) a = some (iL ws) := by rw [updM_ne hma]; exact ds.sb a _ hm
  refine ⟨a, ws, x, rfl, hm3, hw, hxl, fun r hr => ?_⟩
  walk_at "g"
  have d3 : DS ws p q M (updM M2 wt (.lst (List.map D.int (nats W0)))) mt wt fd F W0 kvs :=
    { ds with em := by rw [updM_ne ds.n1]; exact ds.em, ew := updM_same, ef := by rw [updM_ne ds.n3.symm]; exact ds.ef, sb := ds.sb.upd ds.f2, sub := fun y hy => ds.sub y (by simp [hy]), wl := by have := ds.wl; simp at this; omega }
  have d4 := d3.new (o := iL (nats (nbs ws x))) hr
  have hr1 : r ≠ mt := fun z => by rw [z, d3.em] at hr; cases hr
  have hr2 : r ≠ wt := fun z => by rw [z, d3.ew] at hr; cases hr
  have hr3 : r ≠ fd := fun z => by rw [z, d3.ef] at hr; cases hr
  have er : updM (updM M2 wt (.lst (List.map D.int (nats W0)))) r (iL (nats (nbs ws x))) r = some (iL (nats (nbs ws x))) := updM_same
  generalize updM (updM M2 wt (.lst (List.map D.int (nats W0)))) r (iL (nats (nbs ws x))) = M4 at d4 er
  clear d3 hm3 hr
  have hlen := few (n := ws.length + 1) ds.nd fun y hy => by have := (ds.inF y hy).1; omega
  have cl4 : ∀ u ∈ F, u ∉ W0 → u ≠ x → ∀ y ∈ nbs ws u, y = p ∨ y ∈ F := fun u hu hn ne => cl u hu (by simp [hn, ne])
  refine ⟨fun i ρ M' => ∃ F' Wt kvs o, ρ = [some (.ref a), some (.int p), some (.int q), some (.ref mt), some (.ref wt), some (.ref fd), o] ∧ DS ws p q M M' mt wt fd F' Wt kvs ∧ M' r = some (iL (nats (nbs ws x))) ∧ x ∈ F' ∧ (∀ u ∈ F', u ∉ Wt → u ≠ x → ∀ y ∈ nbs ws u, y = p ∨ y ∈ F') ∧ (∀ y ∈ (nbs ws x).take i, y = p ∨ y ∈ F') ∧
    2 * (ws.length + 1 - F'.length) + Wt.length ≤ 2 * (ws.length + 1 - F.length) + W0.length, ⟨F, W0, kvs, _, rfl, d4, er, hxF, cl4, by simp, Nat.le_refl _⟩, ?_, ?_, ?_⟩
  · rintro i ρ M' _ ⟨_, _, _, _, _, _, er, _⟩
    exact er
  · rintro i d ρ M' hd ⟨F', Wt, kvs, o, rfl, ds', er, hx', cl', tk, ms⟩
    obtain ⟨y, hy, rfl⟩ := nats_get hd
    have hyn := List.mem_of_getElem? hy
    have hyl := nb_le hw hxl hyn
    have tk1 : (nbs ws x).take (i + 1) = (nbs ws x).take i ++ [y] := by rw [List.take_add_one, hy]; rfl
    walk_at "g"
    refine w_din (.inl ds'.em) (k := .inl (y : Int)) rfl ?_
    rw [ds'.ki y]
    walk_at "g"
    by_cases c : y = p ∨ y ∈ F'
    · refine iteFb (by simp [c]) ?_
      walk_at "g"
      refine ⟨F', Wt, kvs, _, rfl, ds', er, hx', cl', fun u hu => ?_, ms⟩
      rw [tk1] at hu
      rcases List.mem_append.mp hu with hu | hu
      · exact tk u hu
      · have : u = y := by simpa using hu
        subst this; exact c
    · refine iteTb (by simpa using c) ?_
      have hfew := few (n := ws.length + 1) ds'.nd fun y hy => by have := (ds'.inF y hy).1; omega
      have hyF : y ∉ F' := fun z => c (.inr z)
      have hyp : y ≠ p := fun z => c (.inl z)
      have nd2 : (F' ++ [y]).Nodup := by
        rw [List.nodup_append]
        exact ⟨ds'.nd, by simp, fun a ha b hb e => by
          have : b = y := by simpa using hb
          subst this; subst e; exact hyF ha⟩
      have in2 : ∀ u ∈ F' ++ [y], u ≤ ws.length ∧ sideB ws p q u = true := fun u hu => by
        rcases List.mem_append.mp hu with hu | hu
        · exact ds'.inF u hu
        · have : u = y := by simpa using hu
          subst this
          exact ⟨hyl, side_step hw hq (ds'.inF x hx').2 hyn hyp⟩
      have hfew2 := few (n := ws.length + 1) nd2 fun y hy => by have := (in2 y hy).1; omega
      have hWl : Wt.length ≤ 1000 := by have := ds'.wl; omega
      walk_at "g"
      refine w_dset ds'.em (k := .inl (y : Int)) rfl (szlt (by have := ds'.kl; omega)) ?_
      walk_at "g"
      have ew1 : updM M' mt (.dK (setK kvs (.inl (y : Int)) (.bl true))) wt = some (iL (nats Wt)) := by rw [updM_ne ds'.n1.symm]; exact ds'.ew
      refine ⟨ty_l ew1, ?_⟩
      walk_at "g"
      refine w_append ew1 (szlt (by simp; omega)) ?_
      walk_at "g"
      have ef1 : updM (updM M' mt (.dK (setK kvs (.inl (y : Int)) (.bl true)))) wt (.lst (List.map D.int (nats Wt) ++ [.int y])) fd = some (iL (nats F')) := by
        rw [updM_ne ds'.n3.symm, updM_ne ds'.n2.symm]; exact ds'.ef
      refine ⟨ty_l ef1, ?_⟩
      walk_at "g"
      refine w_append ef1 (szlt (by simp at hfew2 ⊢; omega)) ?_
      walk_at "g"
      refine ⟨F' ++ [y], Wt ++ [y], setK kvs (.inl (y : Int)) (.bl true), _, rfl, ?_, ?_, by simp [hx'], ?_, ?_, ?_⟩
      · exact { em := by rw [updM_ne ds'.n2, updM_ne ds'.n1]; exact updM_same
                ew := by rw [updM_ne ds'.n3, updM_same]; simp [iL, nats]
                ef := by rw [updM_same]; simp [iL, nats]
                sb := ((ds'.sb.upd ds'.f1).upd ds'.f2).upd ds'.f3
                n1 := ds'.n1, n2 := ds'.n2, n3 := ds'.n3, f1 := ds'.f1, f2 := ds'.f2, f3 := ds'.f3
                kl := by have a1 := setK_len kvs (.inl (y : Int)) (D.bl true); have a2 := ds'.kl; simp; omega
                ki := fun u => by
                  rw [getK_set, ds'.ki u]
                  have e1 : ((Sum.inl (y : Int) : Key) = Sum.inl (u : Int)) ↔ u = y := ⟨fun z => by have := Sum.inl.inj z; omega, fun z => by rw [z]⟩
                  by_cases c1 : u = y <;> simp [e1, c1]
                nd := nd2
                inF := in2
                hq := by simp [ds'.hq]
                wl := by have := ds'.wl; simp; omega
                sub := fun u hu => by
                  rcases List.mem_append.mp hu with hu | hu
                  · exact List.mem_append_left _ (ds'.sub u hu)
                  · exact List.mem_append_right _ hu }
      · rw [updM_ne hr3, updM_ne hr2, updM_ne hr1]; exact er
      · intro u hu hn ne v hv
        have hu' : u ∈ F' := by
          rcases List.mem_append.mp hu with hu | hu
          · exact hu
          · exact absurd (List.mem_append_right _ hu) hn
        rcases cl' u hu' (fun z => hn (List.mem_append_left _ z)) ne v hv with e | e
        · exact .inl e
        · exact .inr (List.mem_append_left _ e)
      · intro u hu
        rw [tk1] at hu
        rcases List.mem_append.mp hu with hu | hu
        · rcases tk u hu with e | e
          · exact .inl e
          · exact .inr (List.mem_append_left _ e)
        · exact .inr (List.mem_append_right _ hu)
      · simp at hfew2 ⊢; omega
  · rintro ρ M' ⟨F', Wt, kvs, o, rfl, ds', er, hx', cl', tk, ms⟩
    walk_at "g"
    have hlen' : (List.map D.int (nats (nbs ws x))).length = (nbs ws x).length := by simp [nats]
    rw [hlen', List.take_length] at tk
    refine ⟨_, ?_, F', Wt, kvs, _, rfl, ds', fun u hu hn => ?_, rfl⟩
    · simp; omega
    · by_cases e : u = x
      · subst e; exact tk
      · exact cl' u hu hn e

end K26


namespace K26
open PySem PySem.Spec PyProof.Rows L2 N2 Web
/-! one step of a reading -/
local macro_rules | `(tactic| walk_at "lk") => `(tactic| first
  | assumption
  | exact updM_same
  | exact updM_lk (by walk_at "lk") (by assumption)
  | exact (updM_ne (by first | assumption | exact Ne.symm (by assumption))).trans (by walk_at "lk"))
local macro_rules | `(tactic| walk_at "n") => `(tactic| first
  | ((with_reducible apply w_v); focus exact rfl)
  | with_reducible refine w_c ?_
  | with_reducible refine w_op ?_
  | with_reducible refine w_cons ?_
  | with_reducible refine w_nil ?_
  | with_reducible refine w_asg ?_
  | with_reducible refine w_gn ?_
  | with_reducible refine w_bt ?_
  | with_reducible refine w_kB ?_
  | with_reducible refine w_if ?_
  | with_reducible refine iteT ?_
  | with_reducible refine iteF ?_
  | with_reducible refine w_call ?_
  | with_reducible refine w_fn ?_
  | with_reducible refine w_ret ?_
  | with_reducible refine w_retn ?_
  | with_reducible refine w_next ?_
  | with_reducible refine w_drop ?_
  | with_reducible refine w_tr ?_
  | with_reducible refine w_kTrB ?_
  | with_reducible refine w_kTrN ?_
  | with_reducible refine w_kTrI ?_
  | with_reducible refine w_and ?_
  | with_reducible refine w_or ?_
  | with_reducible refine w_not ?_
  | with_reducible refine w_andv ?_
  | with_reducible refine w_orv ?_
  | with_reducible refine w_notv ?_
  | with_reducible refine w_kAndT ?_
  | with_reducible refine w_kAndF ?_
  | with_reducible refine w_kOrT ?_
  | with_reducible refine w_kOrF ?_
  | with_reducible refine w_kNotB ?_
  | with_reducible refine w_ife ?_
  | with_reducible refine w_tup ?_
  | with_reducible refine w_lst ?_
  | with_reducible refine w_addI ?_
  | with_reducible refine w_subI ?_
  | with_reducible refine w_ordI ?_
  | with_reducible refine w_eqI ?_
  | with_reducible refine w_neI ?_
  | with_reducible refine w_eqB ?_
  | with_reducible refine w_neB ?_
  | with_reducible refine w_is ?_
  | with_reducible refine w_isNot ?_
  | with_reducible refine w_un ?_
  | with_reducible refine w_neg ?_
  | with_reducible refine w_sub ?_
  | with_reducible refine w_par ?_
  | with_reducible refine w_kPar ?_
  | with_reducible refine w_par3 ?_
  | with_reducible refine w_kPar3 ?_
  | with_reducible refine w_raise ?_
  | with_reducible refine w_sl ?_
  | with_reducible refine w_onone ?_
  | with_reducible refine w_osome ?_
  | with_reducible refine w_kO ?_
  | with_reducible refine w_rev ?_
  | with_reducible refine w_yes ?_
  | with_reducible refine w_lens ?_
  | with_reducible refine w_max ?_
  | with_reducible refine w_min ?_
  | with_reducible refine w_intI ?_
  | with_reducible refine w_intB ?_
  | with_reducible refine w_meth ?_
  | with_reducible refine w_meth0 ?_
  | with_reducible refine w_for ?_
  | with_reducible refine w_lc ?_
  | with_reducible refine w_il ?_
  | with_reducible refine w_it ?_
  | with_reducible refine w_ir1 ?_
  | with_reducible refine w_ir2 ?_
  | with_reducible refine w_ie ?_
  | with_reducible refine w_iz ?_
  | with_reducible refine w_lenT ?_
  | with_reducible refine w_lenR ?_
  | with_reducible refine w_kIt ?_
  | with_reducible refine w_kIlR ?_
  | with_reducible refine w_gcons ?_
  | with_reducible refine w_disp ?_
  | with_reducible refine w_dpcons ?_
  | with_reducible refine w_dpnil ?_
  | with_reducible refine w_dnew ?_
  | with_reducible refine w_lrng ?_
  | with_reducible refine w_gnil ?_
  | ((with_reducible apply w_gtup); focus exact rfl)
  | ((with_reducible apply w_lenL); focus walk_at "lk")
  | ((with_reducible apply w_kTrL); focus walk_at "lk")
  | ((with_reducible apply iteTb); focus exact rfl)
  | ((with_reducible apply iteFb); focus exact rfl)
  | ((with_reducible apply w_kAndTb); focus exact rfl)
  | ((with_reducible apply w_kAndFb); focus exact rfl)
  | ((with_reducible apply w_kOrTb); focus exact rfl)
  | ((with_reducible apply w_kOrFb); focus exact rfl)
  | ((with_reducible apply w_isiC); (focus exact rfl); (focus exact rfl); (focus decide))
  | ((with_reducible apply w_ixT); focus exact rfl)
  | ((with_reducible apply w_ixL); (focus walk_at "lk"); (focus exact rfl))
  | with_reducible refine w_p10_4 ?_
  | with_reducible refine w_p10_5 ?_
  | with_reducible refine w_p10_10 ?_
  | with_reducible refine w_p10_13 ?_
  | with_reducible refine w_p10_14 ?_
  | with_reducible refine w_p10_15 ?_
  | with_reducible refine w_p10_17 ?_
  | with_reducible refine w_p10_18 ?_
  | with_reducible refine w_p10_20 ?_
  | with_reducible refine w_p10_38 ?_
  | with_reducible refine w_p10_40 ?_
  | with_reducible refine w_p10_41 ?_
  | with_reducible refine w_p10_60 ?_
  | ((with_reducible apply w_slL); focus walk_at "lk")
  | ((with_reducible apply w_listL); focus walk_at "lk")
  | ((with_reducible apply w_kIl); focus walk_at "lk")
  | ((with_reducible apply w_kIe); focus walk_at "lk")
  | ((with_reducible apply w_kIz); (focus walk_at "lk"); (focus walk_at "lk"))
  | ((with_reducible apply w_kRev); focus walk_at "lk"))
local macro_rules | `(tactic| walk_at "h") => `(tactic| repeat walk_at "n")
local macro_rules | `(tactic| walk_at "s") => `(tactic| with_reducible refine w_seq ?_)
local macro_rules | `(tactic| walk_at "g") => `(tactic| repeat first | walk_at "n" | walk_at "s")
local macro_rules | `(tactic| walk_at "i") => `(tactic| (walk_at "s"; walk_at "h"))
local macro_rules | `(tactic| walk_at "bb") => `(tactic| first | rfl | assumption | (simp <;> omega) | omega)
local macro_rules | `(tactic| walk_at "T") => `(tactic| refine iteTb (by walk_at "bb") ?_)
local macro_rules | `(tactic| walk_at "F") => `(tactic| refine iteFb (by walk_at "bb") ?_)
theorem v__law_whole (G : GC) : ∀ ds M Q E, sp__law_whole G ds M Q E → t__law_whole G (endsOf Q E) (start2 N__law_whole ds) M := by
  rintro ds M Q E ⟨a, ns, rfl, hm, hl, h⟩
  unfold t__law_whole
  walk_at "g"
  refine w_isiT (ty_lst hm) ?_
  refine w_kAndTb rfl ?_
  walk_at "g"
  apply w_lcp (fun _ => none)
  · exact szl (by simp; omega)
  · exact hm
  · intro d hd QR hq
    obtain ⟨k, hk, rfl⟩ := List.mem_map.mp hd
    walk_at "g"
    exact ⟨rfl, hq⟩
  intro q hq
  walk_at "g"
  refine ⟨szl (by simp), fun z hz => ?_⟩
  refine w_eqLI (ns := []) (ms := []) ?_ updM_same ?_
  · rw [updM_lk updM_same hz]; simp
  exact ⟨M, ((SubM.refl M).upd hq).upd (SubM.none ((SubM.refl M).upd hq) hz), h⟩
theorem side_len {ws : List Int} (hw : WebOk ws) (p q : Nat) : (sideN ws p q).length ≤ 24 := by
  have := List.length_filter_le (sideB ws p q) (List.range (ws.length + 1))
  have := hw.1
  unfold sideN
  simp at *
  omega
theorem v__law_sides_right (G : GC) : ∀ ds M Q E, sp__law_sides_right G ds M Q E → t__law_sides_right G (endsOf Q E) (start2 N__law_sides_right ds) M := by
  rintro ds M Q E ⟨a, ws, p, q, rfl, hm, hw, hp, hq, hlt, h⟩
  unfold t__law_sides_right
  have hl := hw.1
  have hql := nb_le hw hp hq
  have hqp := nb_ne hw hq
  have hpq : p ∈ nbs ws q := by
    rcases mem_nbs.mp hq with ⟨h0, e⟩ | ⟨h0, h1, h2⟩
    · have := par_lt hw h0; omega
    · exact mem_nbs.mpr (.inl ⟨h0, h2.symm⟩)
  have l1 := side_len hw p q
  have l2 := side_len hw q p
  walk_at "g"
  refine ⟨a, ws, p, q, rfl, hm, hw, hp, hq, fun f hf => ?_⟩
  walk_at "g"
  have m1 := updM_lk (u := iL (nats (sideN ws p q))) hm hf
  refine ⟨a, ws, q, p, rfl, m1, hw, hql, hpq, fun g hg => ?_⟩
  walk_at "g"
  have sb0 : SubM M (updM (updM M f (iL (nats (sideN ws p q)))) g (iL (nats (sideN ws q p)))) := ((SubM.refl M).upd hf).upd (SubM.none ((SubM.refl M).upd hf) hg)
  have ef0 : updM (updM M f (iL (nats (sideN ws p q)))) g (iL (nats (sideN ws q p))) f = some (iL (nats (sideN ws p q))) := updM_lk updM_same hg
  have eg0 : updM (updM M f (iL (nats (sideN ws p q)))) g (iL (nats (sideN ws q p))) g = some (iL (nats (sideN ws q p))) := updM_same
  have fm : M f = none := hf
  have gm : M g = none := SubM.none ((SubM.refl M).upd hf) hg
  have nfg : f ≠ g := fun z => by rw [z, updM_same] at ef0; rw [← z, updM_same] at hg; cases hg
  generalize updM (updM M f (iL (nats (sideN ws p q)))) g (iL (nats (sideN ws q p))) = M1 at sb0 ef0 eg0
  clear m1 hf hg
  refine ⟨f, _, rfl, ef0, by first | (simp [nats]; done) | (simp [nats]; omega), ?_⟩
  walk_at "g"
  refine ⟨g, _, rfl, eg0, by first | (simp [nats]; done) | (simp [nats]; omega), ?_⟩
  walk_at "g"
  refine ⟨a, ws, p, q, rfl, sb0 a _ hm, hw, hp, hq, fun r1 hr1 => ?_⟩
  refine w_neLI (updM_lk ef0 hr1) updM_same ?_
  walk_at "g"
  refine iteFb (by simp) ?_
  walk_at "g"
  refine ⟨a, ws, q, p, rfl, updM_lk (sb0 a _ hm) hr1, hw, hql, hpq, fun r2 hr2 => ?_⟩
  refine w_neLI (updM_lk (updM_lk eg0 hr1) hr2) updM_same ?_
  walk_at "g"
  refine iteFb (by simp) ?_
  walk_at "g"
  have sb2 := (sb0.upd (o := iL (nats (sideN ws p q))) (SubM.none sb0 hr1)).upd (o := iL (nats (sideN ws q p))) (SubM.none (sb0.upd (o := iL (nats (sideN ws p q))) (SubM.none sb0 hr1)) hr2)
  have ef2 := updM_lk (u := iL (nats (sideN ws q p))) (updM_lk (u := iL (nats (sideN ws p q))) ef0 hr1) hr2
  have eg2 := updM_lk (u := iL (nats (sideN ws q p))) (updM_lk (u := iL (nats (sideN ws p q))) eg0 hr1) hr2
  generalize updM (updM M1 r1 (iL (nats (sideN ws p q)))) r2 (iL (nats (sideN ws q p))) = M2 at sb2 ef2 eg2
  clear hr1 hr2 ef0 eg0
  refine w_addL ef2 eg2 (szl (by simp; omega)) fun r3 hr3 => ?_
  walk_at "g"
  have e3 : (.lst (List.map D.int (nats (sideN ws p q)) ++ List.map D.int (nats (sideN ws q p))) : MO) = iL (nats (sideN ws p q ++ sideN ws q p)) := by simp [iL, nats]
  rw [e3]
  refine w_srt updM_same (sides_perm hlt) List.pairwise_lt_range fun r4 hr4 => ?_
  walk_at "g"
  have m4 := updM_lk (u := iL (nats (List.range (ws.length + 1)))) (updM_lk (u := iL (nats (sideN ws p q ++ sideN ws q p))) (sb2 a _ hm) hr3) hr4
  have ef4 := updM_lk (u := iL (nats (List.range (ws.length + 1)))) (updM_lk (u := iL (nats (sideN ws p q ++ sideN ws q p))) ef2 hr3) hr4
  have eg4 := updM_lk (u := iL (nats (List.range (ws.length + 1)))) (updM_lk (u := iL (nats (sideN ws p q ++ sideN ws q p))) eg2 hr3) hr4
  have er4 : updM (updM M2 r3 (iL (nats (sideN ws p q ++ sideN ws q p)))) r4 (iL (nats (List.range (ws.length + 1)))) r4 = some (iL (nats (List.range (ws.length + 1)))) := updM_same
  have sb4 := (sb2.upd (o := iL (nats (sideN ws p q ++ sideN ws q p))) (SubM.none sb2 hr3)).upd (o := iL (nats (List.range (ws.length + 1)))) (SubM.none (sb2.upd (o := iL (nats (sideN ws p q ++ sideN ws q p))) (SubM.none sb2 hr3)) hr4)
  generalize updM (updM M2 r3 (iL (nats (sideN ws p q ++ sideN ws q p)))) r4 (iL (nats (List.range (ws.length + 1)))) = M4 at m4 ef4 eg4 er4 sb4
  clear hr3 hr4 ef2 eg2
  refine w_lenL m4 ?_
  walk_at "g"
  refine w_kLrg (by simp; omega) (by simp; omega) fun r5 hr5 => ?_
  have e5 : (.lst ((List.range (((List.map D.int ws).length : Int) + 1).toNat).map fun i => D.int (i : Nat)) : MO) = iL (nats (List.range (ws.length + 1))) := by
    have : (((List.map D.int ws).length : Int) + 1).toNat = ws.length + 1 := by simp
    rw [this]; simp only [iL, nats, List.map_map]; rfl
  rw [e5]
  refine w_neLI (updM_lk er4 hr5) updM_same ?_
  walk_at "g"
  refine iteFb (by simp) ?_
  walk_at "g"
  have ef5 := updM_lk (u := iL (nats (List.range (ws.length + 1)))) ef4 hr5
  have eg5 := updM_lk (u := iL (nats (List.range (ws.length + 1)))) eg4 hr5
  have m5 := updM_lk (u := iL (nats (List.range (ws.length + 1)))) m4 hr5
  have sb5 := sb4.upd (o := iL (nats (List.range (ws.length + 1)))) (SubM.none sb4 hr5)
  generalize updM M4 r5 (iL (nats (List.range (ws.length + 1)))) = M5 at ef5 eg5 m5 sb5
  clear hr5 ef4 eg4 er4 m4
  refine ⟨ty_l ef5, ?_⟩
  walk_at "g"
  refine w_append ef5 (szlt (by simp; omega)) ?_
  walk_at "g"
  have eg6 : updM M5 f (.lst (List.map D.int (nats (sideN ws p q)) ++ [D.int (-1)])) g = some (iL (nats (sideN ws q p))) := by rw [updM_ne nfg.symm]; exact eg5
  refine ⟨ty_l eg6, ?_⟩
  walk_at "g"
  refine w_append eg6 (szlt (by simp; omega)) ?_
  walk_at "g"
  have ef7 : updM (updM M5 f (.lst (List.map D.int (nats (sideN ws p q)) ++ [D.int (-1)]))) g (.lst (List.map D.int (nats (sideN ws q p)) ++ [D.int (-1)])) f = some (.lst (List.map D.int (nats (sideN ws p q)) ++ [D.int (-1)])) := by rw [updM_ne nfg]; exact updM_same
  refine ⟨ty_l ef7, ?_⟩
  refine w_reverse ef7 ?_
  walk_at "g"
  have hma : a ≠ f := fun z => by rw [← z, hm] at fm; cases fm
  have hmg : a ≠ g := fun z => by rw [← z, hm] at gm; cases gm
  have m8 : updM (updM (updM M5 f (.lst (List.map D.int (nats (sideN ws p q)) ++ [D.int (-1)]))) g (.lst (List.map D.int (nats (sideN ws q p)) ++ [D.int (-1)]))) f (.lst (List.map D.int (nats (sideN ws p q)) ++ [D.int (-1)]).reverse) a = some (iL ws) := by
    rw [updM_ne hma, updM_ne hmg, updM_ne hma]; exact m5
  have sb8 : SubM M (updM (updM (updM M5 f (.lst (List.map D.int (nats (sideN ws p q)) ++ [D.int (-1)]))) g (.lst (List.map D.int (nats (sideN ws q p)) ++ [D.int (-1)]))) f (.lst (List.map D.int (nats (sideN ws p q)) ++ [D.int (-1)]).reverse)) := ((sb5.upd fm).upd gm).upd fm
  generalize updM (updM (updM M5 f (.lst (List.map D.int (nats (sideN ws p q)) ++ [D.int (-1)]))) g (.lst (List.map D.int (nats (sideN ws q p)) ++ [D.int (-1)]))) f (.lst (List.map D.int (nats (sideN ws p q)) ++ [D.int (-1)]).reverse) = M8 at m8 sb8
  refine ⟨a, ws, p, q, rfl, m8, hw, hp, hq, fun t1 ht1 => ?_⟩
  walk_at "g"
  refine ⟨a, ws, p, q, rfl, updM_lk m8 ht1, hw, hp, hq, fun t2 ht2 => ?_⟩
  refine w_eqLI (updM_lk updM_same ht2) updM_same ?_
  refine w_kAndTb (by simp) ?_
  walk_at "g"
  have m9 := updM_lk (u := iL (nats (sideN ws p q))) (updM_lk (u := iL (nats (sideN ws p q))) m8 ht1) ht2
  have s9 := (sb8.upd (o := iL (nats (sideN ws p q))) (SubM.none sb8 ht1)).upd (o := iL (nats (sideN ws p q))) (SubM.none (sb8.upd (o := iL (nats (sideN ws p q))) (SubM.none sb8 ht1)) ht2)
  generalize updM (updM M8 t1 (iL (nats (sideN ws p q)))) t2 (iL (nats (sideN ws p q))) = M9 at m9 s9
  refine ⟨a, ws, q, p, rfl, m9, hw, hql, hpq, fun t3 ht3 => ?_⟩
  walk_at "g"
  refine ⟨a, ws, q, p, rfl, updM_lk m9 ht3, hw, hql, hpq, fun t4 ht4 => ?_⟩
  refine w_eqLI (updM_lk updM_same ht4) updM_same ?_
  rw [show decide (nats (sideN ws q p) = nats (sideN ws q p)) = true by simp]
  have s10 := s9.upd (o := iL (nats (sideN ws q p))) (SubM.none s9 ht3)
  exact ⟨M, s10.upd (SubM.none s10 ht4), h⟩
theorem nbs_len {ws : List Int} (hw : WebOk ws) {p : Nat} (hp : p ≤ ws.length) : (nbs ws p).length ≤ 24 := by
  have h1 := few (n := ws.length + 1) (nodup_of_lt (nbs_lt hw p)) fun x hx => by have := nb_le hw hp hx; omega
  have := hw.1
  omega
theorem v_law (G : GC) : ∀ ds M Q E, sp_law G ds M Q E → t_law G (endsOf Q E) (start2 N_law ds) M := by
  rintro ds M Q E ⟨ns, rfl, hns, h⟩
  unfold t_law
  walk_at "g"
  refine w_kIr1 (by omega) (by omega) ?_
  refine ⟨fun i ρ M' => ∃ o1 o2 o3 o4 o5 o6 o7 o8, ρ = [some (.scr (ns.map D.int)), o1, o2, o3, o4, o5, o6, o7, o8], ⟨_, _, _, _, _, _, _, _, rfl⟩, fun _ _ _ _ _ => trivial, ?_, ?_⟩
  · rintro k d ρ M0 hd ⟨o1, o2, o3, o4, o5, o6, o7, o8, rfl⟩
    obtain ⟨hk, rfl⟩ := rng_get hd
    have hk6 : k < 6 := by omega
    walk_at "g"
    refine ⟨ns, k, rfl, by omega, fun b M1 hb0 f1 hb1 => ?_⟩
    walk_at "g"
    refine ⟨b, 61 * k, 23, rfl, hb1, by omega, by omega, fun w ws M2 hwb hw0 hw hok f2 hb2 => ?_⟩
    have hl := hok.1
    walk_at "g"
    intro kp hkp
    walk_at "g"
    have hw3 : updM M2 kp (.lst (List.map D.int ws)) w = some (iL ws) := updM_lk hw hkp
    have hk3 : updM M2 kp (.lst (List.map D.int ws)) kp = some (iL ws) := updM_same
    generalize (updM M2 kp (.lst (List.map D.int ws)) : MP) = M3 at hw3 hk3
    refine w_kIr1 (by first | (simp; done) | (simp; omega) | omega) (by first | (simp; done) | (simp; omega) | omega) ?_
    refine ⟨fun i ρ M' => M' w = some (iL ws) ∧ M' kp = some (iL ws) ∧ ∃ o5 o6 o7 o8, ρ = [some (.scr (ns.map D.int)), some (.int k), some (.ref b), some (.ref w), some (.ref kp), o5, o6, o7, o8], ⟨hw3, hk3, _, _, _, _, rfl⟩, fun _ _ _ _ _ => trivial, ?_, ?_⟩
    · rintro p d ρ M' hd ⟨g2, g3, o5, o6, o7, o8, rfl⟩
      obtain ⟨hi, rfl⟩ := rng_get hd
      have hp : p ≤ ws.length := by simp at hi; omega
      have nl := nbs_len hok hp
      walk_at "g"
      refine ⟨w, ws, p, rfl, g2, hok, hp, fun f hf => ?_⟩
      walk_at "g"
      refine ⟨w, ws, p, rfl, updM_lk g2 hf, hok, hp, fun u hu => ?_⟩
      walk_at "g"
      refine ⟨f, _, rfl, updM_lk updM_same hu, by first | (simp [nats]; done) | (simp [nats]; omega), ?_⟩
      walk_at "g"
      refine w_neLI (updM_lk updM_same hu) updM_same ?_
      walk_at "g"
      refine iteFb (by simp) ?_
      walk_at "g"
      have nfu : f ≠ u := fun z => by rw [← z, updM_same] at hu; cases hu
      refine ⟨ty_l (updM_lk updM_same hu), ?_⟩
      walk_at "g"
      refine w_append (updM_lk updM_same hu) (szlt (by simp; omega)) ?_
      walk_at "g"
      have hwf : w ≠ f := fun z => by rw [← z, g2] at hf; cases hf
      have hkf : kp ≠ f := fun z => by rw [← z, g3] at hf; cases hf
      have x2 : updM (updM (updM M' f (iL (nats (nbs ws p)))) u (iL (nats (nbs ws p)))) f (.lst (List.map D.int (nats (nbs ws p)) ++ [.int p])) w = some (iL ws) := by rw [updM_ne hwf]; exact updM_lk (updM_lk g2 hf) hu
      have x3 : updM (updM (updM M' f (iL (nats (nbs ws p)))) u (iL (nats (nbs ws p)))) f (.lst (List.map D.int (nats (nbs ws p)) ++ [.int p])) kp = some (iL ws) := by rw [updM_ne hkf]; exact updM_lk (updM_lk g3 hf) hu
      have xu : updM (updM (updM M' f (iL (nats (nbs ws p)))) u (iL (nats (nbs ws p)))) f (.lst (List.map D.int (nats (nbs ws p)) ++ [.int p])) u = some (iL (nats (nbs ws p))) := by rw [updM_ne nfu.symm]; exact updM_same
      generalize (updM (updM (updM M' f (iL (nats (nbs ws p)))) u (iL (nats (nbs ws p)))) f (.lst (List.map D.int (nats (nbs ws p)) ++ [.int p])) : MP) = M5 at x2 x3 xu
      refine ⟨w, ws, p, rfl, x2, hok, hp, fun v hv => ?_⟩
      walk_at "g"
      refine w_neLI updM_same (updM_lk xu hv) ?_
      walk_at "g"
      refine iteFb (by simp) ?_
      walk_at "g"
      refine ⟨fun j ρ Ma => Ma w = some (iL ws) ∧ Ma kp = some (iL ws) ∧ Ma u = some (iL (nats (nbs ws p))) ∧ ∃ o8, ρ = [some (.scr (ns.map D.int)), some (.int k), some (.ref b), some (.ref w), some (.ref kp), some (.int p), some (.ref f), some (.ref u), o8], ⟨updM_lk x2 hv, updM_lk x3 hv, updM_lk xu hv, _, rfl⟩, fun _ _ _ _ g => g.2.2.1, ?_, ?_⟩
      · rintro j d ρ Ma hd ⟨y2, y3, yu, o8, rfl⟩
        obtain ⟨q, hq, rfl⟩ := nats_get hd
        have hqn := List.mem_of_getElem? hq
        walk_at "g"
        by_cases c : p < q
        · walk_at "T"
          walk_at "g"
          refine ⟨w, ws, p, q, rfl, y2, hok, hp, hqn, c, ?_⟩
          walk_at "g"
          exact ⟨y2, y3, yu, _, rfl⟩
        · walk_at "F"
          walk_at "g"
          exact ⟨y2, y3, yu, _, rfl⟩
      · rintro ρ Ma ⟨y2, y3, yu, o8, rfl⟩
        walk_at "g"
        exact ⟨y2, y3, _, _, _, _, rfl⟩
    · rintro ρ M' ⟨g2, g3, o5, o6, o7, o8, rfl⟩
      walk_at "g"
      refine w_neLI g2 g3 ?_
      walk_at "g"
      refine iteFb (by simp) ?_
      walk_at "g"
      exact ⟨_, _, _, _, _, _, _, _, rfl⟩
  · rintro ρ M' ⟨o1, o2, o3, o4, o5, o6, o7, o8, rfl⟩
    walk_at "g"
    exact ⟨_, SubM.refl _, h _⟩

end K26




namespace K26
open PySem PySem.Spec PyProof.Rows L2 N2
local macro_rules | `(tactic| walk_at "len") => `(tactic| (intro ds M Q E h; repeat' (first | (obtain ⟨hh, _⟩ := h; subst hh; rfl) | (obtain ⟨_, h⟩ := h))))
theorem law_ok {P : Program} {w : World} {K : PySem.W.Frag} {mg : Str → Option Value} {base : Heap} {G : GC} (T : Tx K mg G) {f_is_whole : Addr} {fd_is_whole : FuncData} {f_is_web : Addr} {fd_is_web : FuncData} {f_need_web : Addr} {fd_need_web : FuncData} {f_need_post : Addr} {fd_need_post : FuncData} {f_neighbours : Addr} {fd_neighbours : FuncData} {f_homeward : Addr} {fd_homeward : FuncData} {f_side : Addr} {fd_side : FuncData} {f__law_bag : Addr} {fd__law_bag : FuncData} {f__law_take : Addr} {fd__law_take : FuncData} {f__law_web : Addr} {fd__law_web : FuncData} {f__law_beside : Addr} {fd__law_beside : FuncData} {f__law_beyond : Addr} {fd__law_beyond : FuncData} {f__law_whole : Addr} {fd__law_whole : FuncData} {f__law_sides_right : Addr} {fd__law_sides_right : FuncData} {f_law : Addr} {fd_law : FuncData}
    (F_is_whole : FD K mg "is_whole" s_is_whole ["thing"] f_is_whole fd_is_whole)
    (F_is_web : FD K mg "is_web" s_is_web ["thing"] f_is_web fd_is_web)
    (F_need_web : FD K mg "need_web" s_need_web ["web"] f_need_web fd_need_web)
    (F_need_post : FD K mg "need_post" s_need_post ["web", "post"] f_need_post fd_need_post)
    (F_neighbours : FD K mg "neighbours" s_neighbours ["web", "p"] f_neighbours fd_neighbours)
    (F_homeward : FD K mg "homeward" s_homeward ["web", "p"] f_homeward fd_homeward)
    (F_side : FD K mg "side" s_side ["web", "p", "q"] f_side fd_side)
    (F__law_bag : FD K mg "_law_bag" s__law_bag ["script", "k"] f__law_bag fd__law_bag)
    (F__law_take : FD K mg "_law_take" s__law_take ["bag", "many"] f__law_take fd__law_take)
    (F__law_web : FD K mg "_law_web" s__law_web ["bag", "most"] f__law_web fd__law_web)
    (F__law_beside : FD K mg "_law_beside" s__law_beside ["web", "p"] f__law_beside fd__law_beside)
    (F__law_beyond : FD K mg "_law_beyond" s__law_beyond ["web", "p", "q"] f__law_beyond fd__law_beyond)
    (F__law_whole : FD K mg "_law_whole" s__law_whole ["found"] f__law_whole fd__law_whole)
    (F__law_sides_right : FD K mg "_law_sides_right" s__law_sides_right ["web", "p", "q"] f__law_sides_right fd__law_sides_right)
    (F_law : FD K mg "law" s_law ["script"] f_law fd_law)
    : FnOk P w K mg base (L2.CX P w) 7 f_law fd_law ["script"] (spOf K lawSp) := by
  have c_is_whole : Fn2 P w K mg base 1 "is_whole" (sp_is_whole G) [] := F_is_whole.fn2 sc_is_whole (d_is_whole T ) (by unfold sp_is_whole; walk_at "len") (v_is_whole G)
  have c_homeward : Fn2 P w K mg base 1 "homeward" (sp_homeward G) [] := F_homeward.fn2 sc_homeward (d_homeward T ) (by unfold sp_homeward; walk_at "len") (v_homeward G)
  have c__law_bag : Fn2 P w K mg base 1 "_law_bag" (sp__law_bag G) [] := F__law_bag.fn2 sc__law_bag (d__law_bag T ) (by unfold sp__law_bag; walk_at "len") (v__law_bag G)
  have c__law_take : Fn2 P w K mg base 1 "_law_take" (sp__law_take G) [] := F__law_take.fn2 sc__law_take (d__law_take T ) (by unfold sp__law_take; walk_at "len") (v__law_take G)
  have c__law_beside : Fn2 P w K mg base 1 "_law_beside" (sp__law_beside G) [] := F__law_beside.fn2 sc__law_beside (d__law_beside T ) (by unfold sp__law_beside; walk_at "len") (v__law_beside G)
  have c__law_whole : Fn2 P w K mg base 1 "_law_whole" (sp__law_whole G) [] := F__law_whole.fn2 sc__law_whole (d__law_whole T ) (by unfold sp__law_whole; walk_at "len") (v__law_whole G)
  have c_is_web : Fn2 P w K mg base 2 "is_web" (sp_is_web G) [] := F_is_web.fn2 sc_is_web (d_is_web T c_is_whole) (by unfold sp_is_web; walk_at "len") (v_is_web G)
  have c_need_post : Fn2 P w K mg base 2 "need_post" (sp_need_post G) [] := F_need_post.fn2 sc_need_post (d_need_post T c_is_whole) (by unfold sp_need_post; walk_at "len") (v_need_post G)
  have c__law_web : Fn2 P w K mg base 2 "_law_web" (sp__law_web G) [] := F__law_web.fn2 sc__law_web (d__law_web T c__law_take) (by unfold sp__law_web; walk_at "len") (v__law_web G)
  have c__law_beyond : Fn2 P w K mg base 2 "_law_beyond" (sp__law_beyond G) [] := F__law_beyond.fn2 sc__law_beyond (d__law_beyond T c__law_beside) (by unfold sp__law_beyond; walk_at "len") (v__law_beyond G)
  have c_need_web : Fn2 P w K mg base 3 "need_web" (sp_need_web G) [] := F_need_web.fn2 sc_need_web (d_need_web T c_is_web) (by unfold sp_need_web; walk_at "len") (v_need_web G)
  have c_neighbours : Fn2 P w K mg base 4 "neighbours" (sp_neighbours G) [] := F_neighbours.fn2 sc_neighbours (d_neighbours T c_need_post c_need_web) (by unfold sp_neighbours; walk_at "len") (v_neighbours G)
  have c_side : Fn2 P w K mg base 5 "side" (sp_side G) [] := F_side.fn2 sc_side (d_side T c_homeward c_neighbours c_need_post c_need_web) (by unfold sp_side; walk_at "len") (v_side G)
  have c__law_sides_right : Fn2 P w K mg base 6 "_law_sides_right" (sp__law_sides_right G) [] := F__law_sides_right.fn2 sc__law_sides_right (d__law_sides_right T c_side c__law_beyond c__law_whole) (by unfold sp__law_sides_right; walk_at "len") (v__law_sides_right G)
  exact fnok2 F_law.fn sc_law (by unfold lawSp; walk_at "len") (d_law T c__law_sides_right c_neighbours c__law_whole c__law_beside c__law_web c__law_bag) (v_law G)
theorem all_mk {P : Program} {w : World} {K : PySem.W.Frag} {h : Heap} {mg : Str → Option Value} {fa : Addr} (X : K.In h) (Gn : h.Ns mainGlobals mg) (hfa : mg "law" = some (.ref fa))
    {f_is_whole : Addr} {od_is_whole an_is_whole : Option Addr} {sl_is_whole : Array (Option Value)} {oc_is_whole kV_is_whole dc_is_whole pm_is_whole cd_is_whole ct_is_whole : Value} {f_is_web : Addr} {od_is_web an_is_web : Option Addr} {sl_is_web : Array (Option Value)} {oc_is_web kV_is_web dc_is_web pm_is_web cd_is_web ct_is_web : Value} {f_need_web : Addr} {od_need_web an_need_web : Option Addr} {sl_need_web : Array (Option Value)} {oc_need_web kV_need_web dc_need_web pm_need_web cd_need_web ct_need_web : Value} {f_need_post : Addr} {od_need_post an_need_post : Option Addr} {sl_need_post : Array (Option Value)} {oc_need_post kV_need_post dc_need_post pm_need_post cd_need_post ct_need_post : Value} {f_neighbours : Addr} {od_neighbours an_neighbours : Option Addr} {sl_neighbours : Array (Option Value)} {oc_neighbours kV_neighbours dc_neighbours pm_neighbours cd_neighbours ct_neighbours : Value} {f_homeward : Addr} {od_homeward an_homeward : Option Addr} {sl_homeward : Array (Option Value)} {oc_homeward kV_homeward dc_homeward pm_homeward cd_homeward ct_homeward : Value} {f_side : Addr} {od_side an_side : Option Addr} {sl_side : Array (Option Value)} {oc_side kV_side dc_side pm_side cd_side ct_side : Value} {f__law_bag : Addr} {od__law_bag an__law_bag : Option Addr} {sl__law_bag : Array (Option Value)} {oc__law_bag kV__law_bag dc__law_bag pm__law_bag cd__law_bag ct__law_bag : Value} {f__law_take : Addr} {od__law_take an__law_take : Option Addr} {sl__law_take : Array (Option Value)} {oc__law_take kV__law_take dc__law_take pm__law_take cd__law_take ct__law_take : Value} {f__law_web : Addr} {od__law_web an__law_web : Option Addr} {sl__law_web : Array (Option Value)} {oc__law_web kV__law_web dc__law_web pm__law_web cd__law_web ct__law_web : Value} {f__law_beside : Addr} {od__law_beside an__law_beside : Option Addr} {sl__law_beside : Array (Option Value)} {oc__law_beside kV__law_beside dc__law_beside pm__law_beside cd__law_beside ct__law_beside : Value} {f__law_beyond : Addr} {od__law_beyond an__law_beyond : Option Addr} {sl__law_beyond : Array (Option Value)} {oc__law_beyond kV__law_beyond dc__law_beyond pm__law_beyond cd__law_beyond ct__law_beyond : Value} {f__law_whole : Addr} {od__law_whole an__law_whole : Option Addr} {sl__law_whole : Array (Option Value)} {oc__law_whole kV__law_whole dc__law_whole pm__law_whole cd__law_whole ct__law_whole : Value} {f__law_sides_right : Addr} {od__law_sides_right an__law_sides_right : Option Addr} {sl__law_sides_right : Array (Option Value)} {oc__law_sides_right kV__law_sides_right dc__law_sides_right pm__law_sides_right cd__law_sides_right ct__law_sides_right : Value} {f_law : Addr} {od_law an_law : Option Addr} {sl_law : Array (Option Value)} {oc_law kV_law dc_law pm_law cd_law ct_law : Value}
    (a_is_whole : PySem.W.nsIn K mainGlobals "is_whole" = some (some (.ref f_is_whole))) (l_is_whole : K.lookup f_is_whole = some ⟨oc_is_whole, od_is_whole, .func (PySem.W.fnOf "is_whole" "is_whole" (defArgs s_is_whole) (defBody s_is_whole) (defScope s_is_whole) .none kV_is_whole dc_is_whole pm_is_whole an_is_whole cd_is_whole ct_is_whole), sl_is_whole⟩) (q_is_whole : PySem.W.codeIn K cd_is_whole "is_whole" = true) (k_is_whole : PySem.W.keepIn K (.ref f_is_whole) = true)
    (a_is_web : PySem.W.nsIn K mainGlobals "is_web" = some (some (.ref f_is_web))) (l_is_web : K.lookup f_is_web = some ⟨oc_is_web, od_is_web, .func (PySem.W.fnOf "is_web" "is_web" (defArgs s_is_web) (defBody s_is_web) (defScope s_is_web) .none kV_is_web dc_is_web pm_is_web an_is_web cd_is_web ct_is_web), sl_is_web⟩) (q_is_web : PySem.W.codeIn K cd_is_web "is_web" = true) (k_is_web : PySem.W.keepIn K (.ref f_is_web) = true)
    (a_need_web : PySem.W.nsIn K mainGlobals "need_web" = some (some (.ref f_need_web))) (l_need_web : K.lookup f_need_web = some ⟨oc_need_web, od_need_web, .func (PySem.W.fnOf "need_web" "need_web" (defArgs s_need_web) (defBody s_need_web) (defScope s_need_web) .none kV_need_web dc_need_web pm_need_web an_need_web cd_need_web ct_need_web), sl_need_web⟩) (q_need_web : PySem.W.codeIn K cd_need_web "need_web" = true) (k_need_web : PySem.W.keepIn K (.ref f_need_web) = true)
    (a_need_post : PySem.W.nsIn K mainGlobals "need_post" = some (some (.ref f_need_post))) (l_need_post : K.lookup f_need_post = some ⟨oc_need_post, od_need_post, .func (PySem.W.fnOf "need_post" "need_post" (defArgs s_need_post) (defBody s_need_post) (defScope s_need_post) .none kV_need_post dc_need_post pm_need_post an_need_post cd_need_post ct_need_post), sl_need_post⟩) (q_need_post : PySem.W.codeIn K cd_need_post "need_post" = true) (k_need_post : PySem.W.keepIn K (.ref f_need_post) = true)
    (a_neighbours : PySem.W.nsIn K mainGlobals "neighbours" = some (some (.ref f_neighbours))) (l_neighbours : K.lookup f_neighbours = some ⟨oc_neighbours, od_neighbours, .func (PySem.W.fnOf "neighbours" "neighbours" (defArgs s_neighbours) (defBody s_neighbours) (defScope s_neighbours) .none kV_neighbours dc_neighbours pm_neighbours an_neighbours cd_neighbours ct_neighbours), sl_neighbours⟩) (q_neighbours : PySem.W.codeIn K cd_neighbours "neighbours" = true) (k_neighbours : PySem.W.keepIn K (.ref f_neighbours) = true)
    (a_homeward : PySem.W.nsIn K mainGlobals "homeward" = some (some (.ref f_homeward))) (l_homeward : K.lookup f_homeward = some ⟨oc_homeward, od_homeward, .func (PySem.W.fnOf "homeward" "homeward" (defArgs s_homeward) (defBody s_homeward) (defScope s_homeward) .none kV_homeward dc_homeward pm_homeward an_homeward cd_homeward ct_homeward), sl_homeward⟩) (q_homeward : PySem.W.codeIn K cd_homeward "homeward" = true) (k_homeward : PySem.W.keepIn K (.ref f_homeward) = true)
    (a_side : PySem.W.nsIn K mainGlobals "side" = some (some (.ref f_side))) (l_side : K.lookup f_side = some ⟨oc_side, od_side, .func (PySem.W.fnOf "side" "side" (defArgs s_side) (defBody s_side) (defScope s_side) .none kV_side dc_side pm_side an_side cd_side ct_side), sl_side⟩) (q_side : PySem.W.codeIn K cd_side "side" = true) (k_side : PySem.W.keepIn K (.ref f_side) = true)
    (a__law_bag : PySem.W.nsIn K mainGlobals "_law_bag" = some (some (.ref f__law_bag))) (l__law_bag : K.lookup f__law_bag = some ⟨oc__law_bag, od__law_bag, .func (PySem.W.fnOf "_law_bag" "_law_bag" (defArgs s__law_bag) (defBody s__law_bag) (defScope s__law_bag) .none kV__law_bag dc__law_bag pm__law_bag an__law_bag cd__law_bag ct__law_bag), sl__law_bag⟩) (q__law_bag : PySem.W.codeIn K cd__law_bag "_law_bag" = true) (k__law_bag : PySem.W.keepIn K (.ref f__law_bag) = true)
    (a__law_take : PySem.W.nsIn K mainGlobals "_law_take" = some (some (.ref f__law_take))) (l__law_take : K.lookup f__law_take = some ⟨oc__law_take, od__law_take, .func (PySem.W.fnOf "_law_take" "_law_take" (defArgs s__law_take) (defBody s__law_take) (defScope s__law_take) .none kV__law_take dc__law_take pm__law_take an__law_take cd__law_take ct__law_take), sl__law_take⟩) (q__law_take : PySem.W.codeIn K cd__law_take "_law_take" = true) (k__law_take : PySem.W.keepIn K (.ref f__law_take) = true)
    (a__law_web : PySem.W.nsIn K mainGlobals "_law_web" = some (some (.ref f__law_web))) (l__law_web : K.lookup f__law_web = some ⟨oc__law_web, od__law_web, .func (PySem.W.fnOf "_law_web" "_law_web" (defArgs s__law_web) (defBody s__law_web) (defScope s__law_web) .none kV__law_web dc__law_web pm__law_web an__law_web cd__law_web ct__law_web), sl__law_web⟩) (q__law_web : PySem.W.codeIn K cd__law_web "_law_web" = true) (k__law_web : PySem.W.keepIn K (.ref f__law_web) = true)
    (a__law_beside : PySem.W.nsIn K mainGlobals "_law_beside" = some (some (.ref f__law_beside))) (l__law_beside : K.lookup f__law_beside = some ⟨oc__law_beside, od__law_beside, .func (PySem.W.fnOf "_law_beside" "_law_beside" (defArgs s__law_beside) (defBody s__law_beside) (defScope s__law_beside) .none kV__law_beside dc__law_beside pm__law_beside an__law_beside cd__law_beside ct__law_beside), sl__law_beside⟩) (q__law_beside : PySem.W.codeIn K cd__law_beside "_law_beside" = true) (k__law_beside : PySem.W.keepIn K (.ref f__law_beside) = true)
    (a__law_beyond : PySem.W.nsIn K mainGlobals "_law_beyond" = some (some (.ref f__law_beyond))) (l__law_beyond : K.lookup f__law_beyond = some ⟨oc__law_beyond, od__law_beyond, .func (PySem.W.fnOf "_law_beyond" "_law_beyond" (defArgs s__law_beyond) (defBody s__law_beyond) (defScope s__law_beyond) .none kV__law_beyond dc__law_beyond pm__law_beyond an__law_beyond cd__law_beyond ct__law_beyond), sl__law_beyond⟩) (q__law_beyond : PySem.W.codeIn K cd__law_beyond "_law_beyond" = true) (k__law_beyond : PySem.W.keepIn K (.ref f__law_beyond) = true)
    (a__law_whole : PySem.W.nsIn K mainGlobals "_law_whole" = some (some (.ref f__law_whole))) (l__law_whole : K.lookup f__law_whole = some ⟨oc__law_whole, od__law_whole, .func (PySem.W.fnOf "_law_whole" "_law_whole" (defArgs s__law_whole) (defBody s__law_whole) (defScope s__law_whole) .none kV__law_whole dc__law_whole pm__law_whole an__law_whole cd__law_whole ct__law_whole), sl__law_whole⟩) (q__law_whole : PySem.W.codeIn K cd__law_whole "_law_whole" = true) (k__law_whole : PySem.W.keepIn K (.ref f__law_whole) = true)
    (a__law_sides_right : PySem.W.nsIn K mainGlobals "_law_sides_right" = some (some (.ref f__law_sides_right))) (l__law_sides_right : K.lookup f__law_sides_right = some ⟨oc__law_sides_right, od__law_sides_right, .func (PySem.W.fnOf "_law_sides_right" "_law_sides_right" (defArgs s__law_sides_right) (defBody s__law_sides_right) (defScope s__law_sides_right) .none kV__law_sides_right dc__law_sides_right pm__law_sides_right an__law_sides_right cd__law_sides_right ct__law_sides_right), sl__law_sides_right⟩) (q__law_sides_right : PySem.W.codeIn K cd__law_sides_right "_law_sides_right" = true) (k__law_sides_right : PySem.W.keepIn K (.ref f__law_sides_right) = true)
    (a_law : PySem.W.nsIn K mainGlobals "law" = some (some (.ref f_law))) (l_law : K.lookup f_law = some ⟨oc_law, od_law, .func (PySem.W.fnOf "law" "law" (defArgs s_law) (defBody s_law) (defScope s_law) .none kV_law dc_law pm_law an_law cd_law ct_law), sl_law⟩) (q_law : PySem.W.codeIn K cd_law "law" = true) (k_law : PySem.W.keepIn K (.ref f_law) = true)
    (z_bool : PySem.W.nsIn K mainGlobals "bool" = some none)
    (z_enumerate : PySem.W.nsIn K mainGlobals "enumerate" = some none)
    (z_int : PySem.W.nsIn K mainGlobals "int" = some none)
    (z_isinstance : PySem.W.nsIn K mainGlobals "isinstance" = some none)
    (z_len : PySem.W.nsIn K mainGlobals "len" = some none)
    (z_list : PySem.W.nsIn K mainGlobals "list" = some none)
    (z_max : PySem.W.nsIn K mainGlobals "max" = some none)
    (z_min : PySem.W.nsIn K mainGlobals "min" = some none)
    (z_range : PySem.W.nsIn K mainGlobals "range" = some none)
    (z_sorted : PySem.W.nsIn K mainGlobals "sorted" = some none)
    {t_MOST_POSTS : Tok} (n_MOST_POSTS : PySem.W.nsIn K mainGlobals "MOST_POSTS" = some (some (.int 24 t_MOST_POSTS)))
    {C_NoPost : Addr} (e1_NoPost : PySem.W.nsIn K mainGlobals "NoPost" = some (some (.ref C_NoPost))) (e2_NoPost : PySem.W.excIn K C_NoPost [.type "ValueError", .type "Exception", .type "BaseException", .type "object"] "ValueError.__new__" = true) (e3_NoPost : PySem.W.keepIn K (.ref C_NoPost) = true) (e4_NoPost : PySem.W.subIn K (.ref C_NoPost) (.type "BaseException") = some true) (e5_NoPost : PySem.W.typeIn K (.ref C_NoPost) = some (.type "type"))
    {C_NoRoad : Addr} (e1_NoRoad : PySem.W.nsIn K mainGlobals "NoRoad" = some (some (.ref C_NoRoad))) (e2_NoRoad : PySem.W.excIn K C_NoRoad [.type "ValueError", .type "Exception", .type "BaseException", .type "object"] "ValueError.__new__" = true) (e3_NoRoad : PySem.W.keepIn K (.ref C_NoRoad) = true) (e4_NoRoad : PySem.W.subIn K (.ref C_NoRoad) (.type "BaseException") = some true) (e5_NoRoad : PySem.W.typeIn K (.ref C_NoRoad) = some (.type "type"))
    {C_NoWeb : Addr} (e1_NoWeb : PySem.W.nsIn K mainGlobals "NoWeb" = some (some (.ref C_NoWeb))) (e2_NoWeb : PySem.W.excIn K C_NoWeb [.type "ValueError", .type "Exception", .type "BaseException", .type "object"] "ValueError.__new__" = true) (e3_NoWeb : PySem.W.keepIn K (.ref C_NoWeb) = true) (e4_NoWeb : PySem.W.subIn K (.ref C_NoWeb) (.type "BaseException") = some true) (e5_NoWeb : PySem.W.typeIn K (.ref C_NoWeb) = some (.type "type"))
    : ∃ fd : FuncData, (∀ (s : Shared) (v : Value), BindsTo s fd ⟨[v], []⟩ [("script", v)]) ∧ ∀ base : Heap, K.In base → base.Ns mainGlobals mg → FnOk P w K mg base (L2.CX P w) 7 fa fd ["script"] (spOf K lawSp) := by
  have e := hfa.symm.trans (PySem.W.mg_of X Gn a_law)
  cases e
  have T : Tx K mg ⟨C_NoPost, C_NoRoad, C_NoWeb⟩ := ⟨PySem.W.mg_none_of X Gn z_bool, PySem.W.mg_none_of X Gn z_enumerate, PySem.W.mg_none_of X Gn z_int, PySem.W.mg_none_of X Gn z_isinstance, PySem.W.mg_none_of X Gn z_len, PySem.W.mg_none_of X Gn z_list, PySem.W.mg_none_of X Gn z_max, PySem.W.mg_none_of X Gn z_min, PySem.W.mg_none_of X Gn z_range, PySem.W.mg_none_of X Gn z_sorted, ⟨_, PySem.W.mg_of X Gn n_MOST_POSTS⟩, ⟨PySem.W.mg_of X Gn e1_NoPost, e2_NoPost, e3_NoPost, e4_NoPost, e5_NoPost⟩, ⟨PySem.W.mg_of X Gn e1_NoRoad, e2_NoRoad, e3_NoRoad, e4_NoRoad, e5_NoRoad⟩, ⟨PySem.W.mg_of X Gn e1_NoWeb, e2_NoWeb, e3_NoWeb, e4_NoWeb, e5_NoWeb⟩⟩
  have F_is_whole := fun_mk (st := s_is_whole) l_is_whole q_is_whole k_is_whole
  have D_is_whole : FD K mg "is_whole" s_is_whole ["thing"] f_is_whole _ := ⟨F_is_whole, PySem.W.mg_of X Gn a_is_whole, F_is_whole.binds fun _ _ _ _ _ _ us hl => match us, hl with | [_], _ => rfl⟩
  have F_is_web := fun_mk (st := s_is_web) l_is_web q_is_web k_is_web
  have D_is_web : FD K mg "is_web" s_is_web ["thing"] f_is_web _ := ⟨F_is_web, PySem.W.mg_of X Gn a_is_web, F_is_web.binds fun _ _ _ _ _ _ us hl => match us, hl with | [_], _ => rfl⟩
  have F_need_web := fun_mk (st := s_need_web) l_need_web q_need_web k_need_web
  have D_need_web : FD K mg "need_web" s_need_web ["web"] f_need_web _ := ⟨F_need_web, PySem.W.mg_of X Gn a_need_web, F_need_web.binds fun _ _ _ _ _ _ us hl => match us, hl with | [_], _ => rfl⟩
  have F_need_post := fun_mk (st := s_need_post) l_need_post q_need_post k_need_post
  have D_need_post : FD K mg "need_post" s_need_post ["web", "post"] f_need_post _ := ⟨F_need_post, PySem.W.mg_of X Gn a_need_post, F_need_post.binds fun _ _ _ _ _ _ us hl => match us, hl with | [_, _], _ => rfl⟩
  have F_neighbours := fun_mk (st := s_neighbours) l_neighbours q_neighbours k_neighbours
  have D_neighbours : FD K mg "neighbours" s_neighbours ["web", "p"] f_neighbours _ := ⟨F_neighbours, PySem.W.mg_of X Gn a_neighbours, F_neighbours.binds fun _ _ _ _ _ _ us hl => match us, hl with | [_, _], _ => rfl⟩
  have F_homeward := fun_mk (st := s_homeward) l_homeward q_homeward k_homeward
  have D_homeward : FD K mg "homeward" s_homeward ["web", "p"] f_homeward _ := ⟨F_homeward, PySem.W.mg_of X Gn a_homeward, F_homeward.binds fun _ _ _ _ _ _ us hl => match us, hl with | [_, _], _ => rfl⟩
  have F_side := fun_mk (st := s_side) l_side q_side k_side
  have D_side : FD K mg "side" s_side ["web", "p", "q"] f_side _ := ⟨F_side, PySem.W.mg_of X Gn a_side, F_side.binds fun _ _ _ _ _ _ us hl => match us, hl with | [_, _, _], _ => rfl⟩
  have F__law_bag := fun_mk (st := s__law_bag) l__law_bag q__law_bag k__law_bag
  have D__law_bag : FD K mg "_law_bag" s__law_bag ["script", "k"] f__law_bag _ := ⟨F__law_bag, PySem.W.mg_of X Gn a__law_bag, F__law_bag.binds fun _ _ _ _ _ _ us hl => match us, hl with | [_, _], _ => rfl⟩
  have F__law_take := fun_mk (st := s__law_take) l__law_take q__law_take k__law_take
  have D__law_take : FD K mg "_law_take" s__law_take ["bag", "many"] f__law_take _ := ⟨F__law_take, PySem.W.mg_of X Gn a__law_take, F__law_take.binds fun _ _ _ _ _ _ us hl => match us, hl with | [_, _], _ => rfl⟩
  have F__law_web := fun_mk (st := s__law_web) l__law_web q__law_web k__law_web
  have D__law_web : FD K mg "_law_web" s__law_web ["bag", "most"] f__law_web _ := ⟨F__law_web, PySem.W.mg_of X Gn a__law_web, F__law_web.binds fun _ _ _ _ _ _ us hl => match us, hl with | [_, _], _ => rfl⟩
  have F__law_beside := fun_mk (st := s__law_beside) l__law_beside q__law_beside k__law_beside
  have D__law_beside : FD K mg "_law_beside" s__law_beside ["web", "p"] f__law_beside _ := ⟨F__law_beside, PySem.W.mg_of X Gn a__law_beside, F__law_beside.binds fun _ _ _ _ _ _ us hl => match us, hl with | [_, _], _ => rfl⟩
  have F__law_beyond := fun_mk (st := s__law_beyond) l__law_beyond q__law_beyond k__law_beyond
  have D__law_beyond : FD K mg "_law_beyond" s__law_beyond ["web", "p", "q"] f__law_beyond _ := ⟨F__law_beyond, PySem.W.mg_of X Gn a__law_beyond, F__law_beyond.binds fun _ _ _ _ _ _ us hl => match us, hl with | [_, _, _], _ => rfl⟩
  have F__law_whole := fun_mk (st := s__law_whole) l__law_whole q__law_whole k__law_whole
  have D__law_whole : FD K mg "_law_whole" s__law_whole ["found"] f__law_whole _ := ⟨F__law_whole, PySem.W.mg_of X Gn a__law_whole, F__law_whole.binds fun _ _ _ _ _ _ us hl => match us, hl with | [_], _ => rfl⟩
  have F__law_sides_right := fun_mk (st := s__law_sides_right) l__law_sides_right q__law_sides_right k__law_sides_right
  have D__law_sides_right : FD K mg "_law_sides_right" s__law_sides_right ["web", "p", "q"] f__law_sides_right _ := ⟨F__law_sides_right, PySem.W.mg_of X Gn a__law_sides_right, F__law_sides_right.binds fun _ _ _ _ _ _ us hl => match us, hl with | [_, _, _], _ => rfl⟩
  have F_law := fun_mk (st := s_law) l_law q_law k_law
  have D_law : FD K mg "law" s_law ["script"] fa _ := ⟨F_law, PySem.W.mg_of X Gn a_law, F_law.binds fun _ _ _ _ _ _ us hl => match us, hl with | [_], _ => rfl⟩
  refine ⟨_, ?_, fun base _ _ => law_ok T D_is_whole D_is_web D_need_web D_need_post D_neighbours D_homeward D_side D__law_bag D__law_take D__law_web D__law_beside D__law_beyond D__law_whole D__law_sides_right D_law⟩
  exact fun s v => .of_eq rfl
end K26
open PySem PySem.W PyProof.Rows in
set_option maxRecDepth 100000 in
set_option maxHeartbeats 0 in
theorem PySem.Challenge.cw_newsways_k26_neighbours_and_sides_holds : PySem.Challenge.rw_newsways_k26_neighbours_and_sides.Holds := by
  w_on; o_law; k_head; (case hw => w_witness2)
  k_fill
  refine N2.walk2 (l := PySem.Challenge.rw_newsways_k26_neighbours_and_sides) (sp := N2.lawSp) (k := 7) rfl rfl ⟨rfl, by decide, by decide⟩ (fun w h Y => PySem.W.kIn_of Y) ?F ?S
  case F =>
    intro w mg fa h KX G hmg
    refine' K26.all_mk KX G hmg ?a_is_whole ?l_is_whole ?q_is_whole ?k_is_whole ?a_is_web ?l_is_web ?q_is_web ?k_is_web ?a_need_web ?l_need_web ?q_need_web ?k_need_web ?a_need_post ?l_need_post ?q_need_post ?k_need_post ?a_neighbours ?l_neighbours ?q_neighbours ?k_neighbours ?a_homeward ?l_homeward ?q_homeward ?k_homeward ?a_side ?l_side ?q_side ?k_side ?a__law_bag ?l__law_bag ?q__law_bag ?k__law_bag ?a__law_take ?l__law_take ?q__law_take ?k__law_take ?a__law_web ?l__law_web ?q__law_web ?k__law_web ?a__law_beside ?l__law_beside ?q__law_beside ?k__law_beside ?a__law_beyond ?l__law_beyond ?q__law_beyond ?k__law_beyond ?a__law_whole ?l__law_whole ?q__law_whole ?k__law_whole ?a__law_sides_right ?l__law_sides_right ?q__law_sides_right ?k__law_sides_right ?a_law ?l_law ?q_law ?k_law ?z_bool ?z_enumerate ?z_int ?z_isinstance ?z_len ?z_list ?z_max ?z_min ?z_range ?z_sorted ?n_MOST_POSTS ?e1_NoPost ?e2_NoPost ?e3_NoPost ?e4_NoPost ?e5_NoPost ?e1_NoRoad ?e2_NoRoad ?e3_NoRoad ?e4_NoRoad ?e5_NoRoad ?e1_NoWeb ?e2_NoWeb ?e3_NoWeb ?e4_NoWeb ?e5_NoWeb
    (case a_is_whole => k_is)
    (case l_is_whole => k_is)
    (case q_is_whole => k_is)
    (case k_is_whole => k_is)
    (case a_is_web => k_is)
    (case l_is_web => k_is)
    (case q_is_web => k_is)
    (case k_is_web => k_is)
    (case a_need_web => k_is)
    (case l_need_web => k_is)
    (case q_need_web => k_is)
    (case k_need_web => k_is)
    (case a_need_post => k_is)
    (case l_need_post => k_is)
    (case q_need_post => k_is)
    (case k_need_post => k_is)
    (case a_neighbours => k_is)
    (case l_neighbours => k_is)
    (case q_neighbours => k_is)
    (case k_neighbours => k_is)
    (case a_homeward => k_is)
    (case l_homeward => k_is)
    (case q_homeward => k_is)
    (case k_homeward => k_is)
    (case a_side => k_is)
    (case l_side => k_is)
    (case q_side => k_is)
    (case k_side => k_is)
    (case a__law_bag => k_is)
    (case l__law_bag => k_is)
    (case q__law_bag => k_is)
    (case k__law_bag => k_is)
    (case a__law_take => k_is)
    (case l__law_take => k_is)
    (case q__law_take => k_is)
    (case k__law_take => k_is)
    (case a__law_web => k_is)
    (case l__law_web => k_is)
    (case q__law_web => k_is)
    (case k__law_web => k_is)
    (case a__law_beside => k_is)
    (case l__law_beside => k_is)
    (case q__law_beside => k_is)
    (case k__law_beside => k_is)
    (case a__law_beyond => k_is)
    (case l__law_beyond => k_is)
    (case q__law_beyond => k_is)
    (case k__law_beyond => k_is)
    (case a__law_whole => k_is)
    (case l__law_whole => k_is)
    (case q__law_whole => k_is)
    (case k__law_whole => k_is)
    (case a__law_sides_right => k_is)
    (case l__law_sides_right => k_is)
    (case q__law_sides_right => k_is)
    (case k__law_sides_right => k_is)
    (case a_law => k_is)
    (case l_law => k_is)
    (case q_law => k_is)
    (case k_law => k_is)
    (case z_bool => k_is)
    (case z_enumerate => k_is)
    (case z_int => k_is)
    (case z_isinstance => k_is)
    (case z_len => k_is)
    (case z_list => k_is)
    (case z_max => k_is)
    (case z_min => k_is)
    (case z_range => k_is)
    (case z_sorted => k_is)
    (case n_MOST_POSTS => k_is)
    (case e1_NoPost => k_is)
    (case e2_NoPost => k_exc)
    (case e3_NoPost => k_is)
    (case e4_NoPost => k_is)
    (case e5_NoPost => k_is)
    (case e1_NoRoad => k_is)
    (case e2_NoRoad => k_exc)
    (case e3_NoRoad => k_is)
    (case e4_NoRoad => k_is)
    (case e5_NoRoad => k_is)
    (case e1_NoWeb => k_is)
    (case e2_NoWeb => k_exc)
    (case e3_NoWeb => k_is)
    (case e4_NoWeb => k_is)
    (case e5_NoWeb => k_is)
  case S => exact fun ns h => ⟨ns, rfl, h, fun _ => rfl⟩


