import PyProof.Rows.All
import Wide.All
import OpenK.AllK
import Wide.FinOn
import HandS.ForMost
import HandS.ForExc
import HandS.Walk
import HandS.Flow
import HandS.CallSlots
import HandS.Style
import HandS.TryOnly
import HandS.Wide
import HandS.TupAny
import HandS.IsInst
import HandS.Deep
import HandS.More
import HandS.Zip
import PySem.Challenge.RW_newsways_k03_spans_that_cover_and_meet
set_option Elab.async false
set_option linter.all false
set_option maxRecDepth 100000
set_option maxHeartbeats 4000000
/-! N2: a second layer over the hand layer: values as plain data (a tuple is its content), a partial store for what may change. -/
namespace N2
open PySem PySem.Spec PyProof.Rows L2

/-! ### data -/
inductive D where
  | non | bl (b : Bool) | int (i : Int) | str (x : Str) | ty (n : String) | ref (a : Addr) | tup (xs : List D) | scr (xs : List D)
inductive MO where
  | lst (xs : List D)
  | dK (kvs : List (Key × D))
  | fz (o : Obj) (kvs : List (Key × D))
  | ins (C dx : Addr) (fs : List (Str × D))
  | iset (S : Int → Bool) (n : Nat)
abbrev MP := Addr → Option MO
def updM (M : MP) (a : Addr) (o : MO) : MP := fun b => if b = a then some o else M b
theorem updM_same {M : MP} {a : Addr} {o : MO} : updM M a o a = some o := by unfold updM; rw [if_pos rfl]
theorem updM_ne {M : MP} {a b : Addr} {o : MO} (h : b ≠ a) : updM M a o b = M b := by unfold updM; rw [if_neg h]
theorem updM_updM {M : MP} {a : Addr} {o u : MO} : updM (updM M a o) a u = updM M a u := by
  funext b; unfold updM; split <;> rfl

/-- a list that nobody writes (the script) -/
def SqI (K : PySem.W.Frag) (H : Hp) (a : Addr) (xs : List V) : Prop := (∃ o, H a = some (.frz o (.lst xs))) ∨
    ∃ (o : Obj) (its : Array Value) (n : Nat), K.lookup a = some o ∧ o.cls = .type "list" ∧ o.dict = none ∧ o.data = .seq its n ∧ its.size ≤ sizeLine ∧ Vals xs its.toList
theorem SqI.l {K : PySem.W.Frag} {H : Hp} {a : Addr} {xs : List V} (h : SqI K H a xs) : SqL K H a xs := by
  rcases h with ⟨o, h⟩ | h
  · exact .inl (.inr ⟨o, h⟩)
  · exact .inr h
def Tk (K : PySem.W.Frag) (H H' : Hp) : Prop := (∀ a xs, SqT K H a xs → SqT K H' a xs) ∧ ∀ a xs, SqI K H a xs → SqI K H' a xs
def NI (H : Hp) (p : Addr) : Prop := (∀ ys, ¬ Rd H p (.tup ys)) ∧ ∀ o ys, H p ≠ some (.frz o (.lst ys))
mutual
def Rep (K : PySem.W.Frag) (H : Hp) : D → V → Prop
  | .non, v => v = .non
  | .bl b, v => v = .bl b
  | .int i, v => v = .int i
  | .str x, v => v = .str x
  | .ty n, v => v = .ty n
  | .ref a, v => v = .ref a
  | .tup ds, v => ∃ a vs, v = .ref a ∧ SqT K H a vs ∧ Reps K H ds vs
  | .scr ds, v => ∃ a vs, v = .ref a ∧ SqI K H a vs ∧ Reps K H ds vs
def Reps (K : PySem.W.Frag) (H : Hp) : List D → List V → Prop
  | [], vs => vs = []
  | d :: ds, vs => ∃ v r, vs = v :: r ∧ Rep K H d v ∧ Reps K H ds r
end
def KVs {κ : Type} (K : PySem.W.Frag) (H : Hp) : List (κ × D) → List (κ × V) → Prop
  | [], vs => vs = []
  | p :: ds, vs => ∃ v r, vs = (p.1, v) :: r ∧ Rep K H p.2 v ∧ KVs K H ds r
def RepO (K : PySem.W.Frag) (H : Hp) (a : Addr) : MO → Prop
  | .lst ds => ∃ vs, H a = some (.lst vs) ∧ Reps K H ds vs
  | .dK kvs => ∃ vs, H a = some (.dK vs) ∧ KVs K H kvs vs
  | .fz o kvs => ∃ vs, H a = some (.frz o (.dK vs)) ∧ KVs K H kvs vs
  | .ins C dx fs => ∃ vs, H a = some (.ins C dx vs) ∧ KVs K H fs vs
  | .iset S n => H a = some (.set S n)
def RelM (K : PySem.W.Frag) (M : MP) (H : Hp) : Prop := ∀ a o, M a = some o → RepO K H a o
abbrev St2 := List (Option D)
def RelS (K : PySem.W.Frag) (H : Hp) (ρ : St2) (σ : L2.St) : Prop := σ.length = ρ.length ∧ ∀ (i : Nat) (d : D), ρ[i]? = some (some d) → ∃ v, σ[i]? = some (some v) ∧ Rep K H d v

/-- what a step of code may do -/
structure Stp (K : PySem.W.Frag) (H : Hp) (M : MP) (H' : Hp) (M' : MP) : Prop where
  frm : ∀ a o, H a = some o → M a = none → H' a = some o
  dom : ∀ a, H a ≠ none → H' a ≠ none
  new : ∀ a, M' a ≠ none → M a ≠ none ∨ H a = none
  tk : Tk K H H'

section
variable {K : PySem.W.Frag} {H H' H1 H2 : Hp} {M M' M1 M2 : MP}
mutual
theorem Rep.mono (h : Tk K H H') : ∀ (d : D) (v : V), Rep K H d v → Rep K H' d v
  | .non, _, r => by simpa only [Rep] using r
  | .bl _, _, r => by simpa only [Rep] using r
  | .int _, _, r => by simpa only [Rep] using r
  | .str _, _, r => by simpa only [Rep] using r
  | .ty _, _, r => by simpa only [Rep] using r
  | .ref _, _, r => by simpa only [Rep] using r
  | .tup ds, v, r => by
    simp only [Rep] at r ⊢
    obtain ⟨a, vs, e, t, q⟩ := r
    exact ⟨a, vs, e, h.1 a vs t, Reps.mono h ds vs q⟩
  | .scr ds, v, r => by
    simp only [Rep] at r ⊢
    obtain ⟨a, vs, e, t, q⟩ := r
    exact ⟨a, vs, e, h.2 a vs t, Reps.mono h ds vs q⟩
theorem Reps.mono (h : Tk K H H') : ∀ (ds : List D) (vs : List V), Reps K H ds vs → Reps K H' ds vs
  | [], _, r => by simpa only [Reps] using r
  | d :: ds, vs, r => by
    simp only [Reps] at r ⊢
    obtain ⟨v, q, e, r1, r2⟩ := r
    exact ⟨v, q, e, Rep.mono h d v r1, Reps.mono h ds q r2⟩
end
theorem KVs.mono {κ : Type} (h : Tk K H H') : ∀ (ds : List (κ × D)) (vs : List (κ × V)), KVs K H ds vs → KVs K H' ds vs
  | [], _, r => by simpa only [KVs] using r
  | d :: ds, vs, r => by
    simp only [KVs] at r ⊢
    obtain ⟨v, q, e, r1, r2⟩ := r
    exact ⟨v, q, e, Rep.mono h _ v r1, KVs.mono h ds q r2⟩
theorem Tk.refl : Tk K H H := ⟨fun _ _ h => h, fun _ _ h => h⟩
theorem Tk.trans (a : Tk K H H1) (b : Tk K H1 H2) : Tk K H H2 := ⟨fun x xs h => b.1 x xs (a.1 x xs h), fun x xs h => b.2 x xs (a.2 x xs h)⟩
theorem Stp.refl : Stp K H M H M := ⟨fun _ _ h _ => h, fun _ h => h, fun _ h => .inl h, .refl⟩
theorem Stp.trans (a : Stp K H M H1 M1) (b : Stp K H1 M1 H2 M2) : Stp K H M H2 M2 := by
  have n1 : ∀ x o, H x = some o → M x = none → M1 x = none := fun x o e m => by
    cases q : M1 x with
    | none => rfl
    | some u =>
      rcases a.new x (by rw [q]; exact fun z => by cases z) with z | z
      · exact absurd m z
      · rw [e] at z; cases z
  refine ⟨fun x o e m => b.frm x o (a.frm x o e m) (n1 x o e m), fun x h => b.dom x (a.dom x h), fun x h => ?_, a.tk.trans b.tk⟩
  rcases b.new x h with z | z
  · exact a.new x z
  · refine .inr ?_
    cases q : H x with
    | none => rfl
    | some o => exact absurd z (a.dom x (by rw [q]; exact fun z => by cases z))
theorem Stp.rep (s : Stp K H M H1 M1) {d : D} {v : V} (r : Rep K H d v) : Rep K H1 d v := Rep.mono s.tk d v r
theorem Stp.reps (s : Stp K H M H1 M1) {d : List D} {v : List V} (r : Reps K H d v) : Reps K H1 d v := Reps.mono s.tk d v r
theorem Stp.kvs {κ : Type} (s : Stp K H M H1 M1) {d : List (κ × D)} {v : List (κ × V)} (r : KVs K H d v) : KVs K H1 d v := KVs.mono s.tk d v r
theorem Stp.rels (s : Stp K H M H1 M1) {ρ : St2} {σ : L2.St} (r : RelS K H ρ σ) : RelS K H1 ρ σ := ⟨r.1, fun i d e => by
  obtain ⟨v, e1, r1⟩ := r.2 i d e
  exact ⟨v, e1, s.rep r1⟩⟩
/-- forgetting -/
theorem Stp.drop (s : Stp K H M H1 M1) (h : ∀ a o, M2 a = some o → M1 a = some o) : Stp K H M H1 M2 := ⟨s.frm, s.dom, fun a q => s.new a (by
  cases e : M2 a with
  | none => exact absurd e q
  | some o => rw [h a o e]; exact fun z => by cases z), s.tk⟩
theorem RelM.drop (r : RelM K M H) (h : ∀ a o, M2 a = some o → M a = some o) : RelM K M2 H := fun a o e => r a o (h a o e)
theorem RelM.free (r : RelM K M H) {p : Addr} (h : H p = none) : M p = none := by
  cases e : M p with
  | none => rfl
  | some o =>
    have q := r p o e
    cases o with
    | lst ds => obtain ⟨vs, z, _⟩ := q; rw [h] at z; cases z
    | dK kvs => obtain ⟨vs, z, _⟩ := q; rw [h] at z; cases z
    | fz o kvs => obtain ⟨vs, z, _⟩ := q; rw [h] at z; cases z
    | ins C dx fs => obtain ⟨vs, z, _⟩ := q; rw [h] at z; cases z
    | iset S n => have z : H p = some (.set S n) := q; rw [h] at z; cases z
/-- what stands at an address of the store is no tuple -/
theorem RelM.notTup (r : RelM K M H) {p : Addr} {o : MO} (h : M p = some o) : NI H p := by
  have q := r p o h
  refine ⟨fun xs => ?_, fun ob ys z => ?_⟩
  · rintro (z | ⟨ob, z⟩)
    all_goals
      cases o with
      | lst ds => obtain ⟨vs, y, _⟩ := q; rw [z] at y; cases y
      | dK kvs => obtain ⟨vs, y, _⟩ := q; rw [z] at y; cases y
      | fz o kvs => obtain ⟨vs, y, _⟩ := q; rw [z] at y; cases y
      | ins C dx fs => obtain ⟨vs, y, _⟩ := q; rw [z] at y; cases y
      | iset S n => have y : H p = some (.set S n) := q; rw [z] at y; cases y
  · cases o with
    | lst ds => obtain ⟨vs, y, _⟩ := q; rw [z] at y; cases y
    | dK kvs => obtain ⟨vs, y, _⟩ := q; rw [z] at y; cases y
    | fz o kvs => obtain ⟨vs, y, _⟩ := q; rw [z] at y; cases y
    | ins C dx fs => obtain ⟨vs, y, _⟩ := q; rw [z] at y; cases y
    | iset S n => have y : H p = some (.set S n) := q; rw [z] at y; cases y
theorem sqT_upd {p : Addr} {o : HO} (hp : NI H p) : Tk K H (upd H p o) := by
  refine ⟨fun a xs h => ?_, fun a xs h => ?_⟩
  · rcases h with (h | ⟨ob, h⟩) | h
    · exact .inl (.inl (by rw [upd_ne (show a ≠ p from fun z => hp.1 xs (.inl (by rw [← z]; exact h)))]; exact h))
    · exact .inl (.inr ⟨ob, by rw [upd_ne (show a ≠ p from fun z => hp.1 xs (.inr ⟨ob, by rw [← z]; exact h⟩))]; exact h⟩)
    · exact .inr h
  · rcases h with ⟨ob, h⟩ | h
    · exact .inl ⟨ob, by rw [upd_ne (show a ≠ p from fun z => hp.2 ob xs (by rw [← z]; exact h))]; exact h⟩
    · exact .inr h
theorem RepO.mono {a : Addr} {o : MO} (h : Tk K H H') (e : H' a = H a) (r : RepO K H a o) : RepO K H' a o := by
  cases o with
  | lst ds => obtain ⟨vs, z, q⟩ := r; exact ⟨vs, e.trans z, Reps.mono h _ _ q⟩
  | dK kvs => obtain ⟨vs, z, q⟩ := r; exact ⟨vs, e.trans z, KVs.mono h _ _ q⟩
  | fz ob kvs => obtain ⟨vs, z, q⟩ := r; exact ⟨vs, e.trans z, KVs.mono h _ _ q⟩
  | ins C dx fs => obtain ⟨vs, z, q⟩ := r; exact ⟨vs, e.trans z, KVs.mono h _ _ q⟩
  | iset S n => exact e.trans r
/-- an object is written at p, where no tuple stood -/
theorem RelM.put (r : RelM K M H) {p : Addr} {o : HO} {mo : MO} (hp : NI H p) (ro : RepO K (upd H p o) p mo) : RelM K (updM M p mo) (upd H p o) := fun a u e => by
  by_cases q : a = p
  · subst q; rw [updM_same] at e; cases e; exact ro
  · rw [updM_ne q] at e
    exact RepO.mono (sqT_upd hp) (upd_ne q) (r a u e)
theorem Stp.put (r : RelM K M H) {p : Addr} {o : HO} {mo : MO} (hp : NI H p) (hm : M p ≠ none ∨ H p = none) : Stp K H M (upd H p o) (updM M p mo) := by
  refine ⟨fun a u e m => ?_, fun a e => ?_, fun a e => ?_, sqT_upd hp⟩
  · have ne : a ≠ p := fun z => by
      subst z
      rcases hm with z | z
      · exact z m
      · rw [e] at z; cases z
    rw [upd_ne ne]; exact e
  · by_cases q : a = p
    · subst q; rw [upd_same]; exact fun z => by cases z
    · rw [upd_ne q]; exact e
  · by_cases q : a = p
    · subst q; exact hm
    · rw [updM_ne q] at e; exact .inl e
theorem notRd_of_none {p : Addr} (h : H p = none) : NI H p := by
  refine ⟨fun ys => ?_, fun o ys z => ?_⟩
  · rintro (z | ⟨o, z⟩) <;> (rw [h] at z; cases z)
  · rw [h] at z; cases z
/-- a new tuple: the store is as it was -/
theorem Stp.tupNew {p : Addr} {vs : List V} (h : H p = none) : Stp K H M (upd H p (.tup vs)) M :=
  ⟨fun a u e _ => by rw [upd_ne (ne_of_none e h)]; exact e, fun a e => by
    by_cases q : a = p
    · subst q; rw [upd_same]; exact fun z => by cases z
    · rw [upd_ne q]; exact e, fun a e => .inl e, sqT_upd (notRd_of_none h)⟩
theorem RelM.tupNew (r : RelM K M H) {p : Addr} {vs : List V} (h : H p = none) : RelM K M (upd H p (.tup vs)) := fun a u e => by
  have ne : a ≠ p := fun z => by
    subst z
    rw [r.free h] at e; cases e
  exact RepO.mono (sqT_upd (notRd_of_none h)) (upd_ne ne) (r a u e)
end
end N2


namespace N2
open PySem PySem.Spec PyProof.Rows L2

/-! ### readings over data -/
abbrev VK2 := D → MP → Prop
abbrev XK2 := Value → St2 → MP → Prop
abbrev TE2 := XK2 → St2 → MP → VK2 → Prop
abbrev TT2 := XK2 → St2 → MP → (Bool → MP → Prop) → Prop
abbrev TA2 := XK2 → St2 → MP → (List D → MP → Prop) → Prop
structure Ends2 where
  nx : St2 → MP → Prop
  rt : VK2
  bk : St2 → MP → Prop
  ct : St2 → MP → Prop
  ex : XK2
abbrev TS2 := Ends2 → St2 → MP → Prop

/-- what is wished of an exception, from here on -/
def XRel (K : PySem.W.Frag) (W : WX) (H : Hp) (M : MP) (E : XK2) : Prop := ∀ c ρ σ H' M', Stp K H M H' M' → RelS K H' ρ σ → RelM K M' H' → E c ρ M' → W c none σ H'
theorem XRel.step {K : PySem.W.Frag} {W : WX} {H H1 : Hp} {M M1 : MP} {E : XK2} (x : XRel K W H M E) (s : Stp K H M H1 M1) : XRel K W H1 M1 E := fun c ρ σ H' M' s' => x c ρ σ H' M' (s.trans s')
def VRel (K : PySem.W.Frag) (H : Hp) (M : MP) (Q2 : VK2) (Q : VK) : Prop := ∀ v H' d M', Stp K H M H' M' → Rep K H' d v → RelM K M' H' → Q2 d M' → Q v H'
theorem VRel.step {K : PySem.W.Frag} {H H1 : Hp} {M M1 : MP} {Q2 : VK2} {Q : VK} (x : VRel K H M Q2 Q) (s : Stp K H M H1 M1) : VRel K H1 M1 Q2 Q := fun v H' d M' s' => x v H' d M' (s.trans s')
def BRel (K : PySem.W.Frag) (H : Hp) (M : MP) (Q2 : Bool → MP → Prop) (Q : Bool → Hp → Prop) : Prop := ∀ b H' M', Stp K H M H' M' → RelM K M' H' → Q2 b M' → Q b H'
def ARel (K : PySem.W.Frag) (H : Hp) (M : MP) (Q2 : List D → MP → Prop) (Q : List V → Hp → Prop) : Prop := ∀ vs H' ds M', Stp K H M H' M' → Reps K H' ds vs → RelM K M' H' → Q2 ds M' → Q vs H'
def SRel (K : PySem.W.Frag) (H : Hp) (M : MP) (Q2 : St2 → MP → Prop) (Q : L2.St → Hp → Prop) : Prop := ∀ ρ σ H' M', Stp K H M H' M' → RelS K H' ρ σ → RelM K M' H' → Q2 ρ M' → Q σ H'
theorem BRel.step {K : PySem.W.Frag} {H H1 : Hp} {M M1 : MP} {Q2 : Bool → MP → Prop} {Q : Bool → Hp → Prop} (x : BRel K H M Q2 Q) (s : Stp K H M H1 M1) : BRel K H1 M1 Q2 Q := fun v H' M' s' => x v H' M' (s.trans s')
theorem ARel.step {K : PySem.W.Frag} {H H1 : Hp} {M M1 : MP} {Q2 : List D → MP → Prop} {Q : List V → Hp → Prop} (x : ARel K H M Q2 Q) (s : Stp K H M H1 M1) : ARel K H1 M1 Q2 Q := fun v H' d M' s' => x v H' d M' (s.trans s')
theorem SRel.step {K : PySem.W.Frag} {H H1 : Hp} {M M1 : MP} {Q2 : St2 → MP → Prop} {Q : L2.St → Hp → Prop} (x : SRel K H M Q2 Q) (s : Stp K H M H1 M1) : SRel K H1 M1 Q2 Q := fun v H' d M' s' => x v H' d M' (s.trans s')

structure EndsRel (K : PySem.W.Frag) (W : WX) (H : Hp) (M : MP) (D2 : Ends2) (D : Ends) : Prop where
  nx : SRel K H M D2.nx D.nx
  rt : VRel K H M D2.rt D.rt
  bk : SRel K H M D2.bk D.bk
  ct : SRel K H M D2.ct D.ct
  ex : XRel K W H M D2.ex
theorem EndsRel.step {K : PySem.W.Frag} {W : WX} {H H1 : Hp} {M M1 : MP} {D2 : Ends2} {D : Ends} (x : EndsRel K W H M D2 D) (s : Stp K H M H1 M1) : EndsRel K W H1 M1 D2 D :=
  ⟨x.nx.step s, x.rt.step s, x.bk.step s, x.ct.step s, x.ex.step s⟩

def liftE (K : PySem.W.Frag) (W : WX) (t : TE2) : TE := fun σ H Q => ∃ ρ M Q2 E2, RelS K H ρ σ ∧ RelM K M H ∧ t E2 ρ M Q2 ∧ VRel K H M Q2 Q ∧ XRel K W H M E2
def liftT (K : PySem.W.Frag) (W : WX) (t : TT2) : TT := fun σ H Q => ∃ ρ M Q2 E2, RelS K H ρ σ ∧ RelM K M H ∧ t E2 ρ M Q2 ∧ BRel K H M Q2 Q ∧ XRel K W H M E2
def liftA (K : PySem.W.Frag) (W : WX) (t : TA2) : TA := fun σ H Q => ∃ ρ M Q2 E2, RelS K H ρ σ ∧ RelM K M H ∧ t E2 ρ M Q2 ∧ ARel K H M Q2 Q ∧ XRel K W H M E2
def liftS (K : PySem.W.Frag) (W : WX) (t : TS2) : TS := fun D σ H => ∃ ρ M D2, RelS K H ρ σ ∧ RelM K M H ∧ t D2 ρ M ∧ EndsRel K W H M D2 D

section
variable {X : Cx} {W : WX}
abbrev PE2 (X : Cx) (W : WX) (e : Expr) (t : TE2) : Prop := PE X e (liftE X.K W t)
abbrev PT2 (X : Cx) (W : WX) (e : Expr) (t : TT2) : Prop := PT X e (liftT X.K W t)
abbrev PW2 (X : Cx) (W : WX) (e : Expr) (t : TT2) : Prop := PW X e (liftT X.K W t)
abbrev PA2 (X : Cx) (W : WX) (es : List Expr) (t : TA2) : Prop := PA X es (liftA X.K W t)
abbrev PS2 (X : Cx) (W : WX) (st : Stmt) (t : TS2) : Prop := PS X st (liftS X.K W t)
abbrev PSs2 (X : Cx) (W : WX) (st : List Stmt) (t : TS2) : Prop := PSs X st (liftS X.K W t)
theorem pe_imp {e : Expr} {t t' : TE} (h : PE X e t) (hi : ∀ σ H Q, t' σ H Q → t σ H Q) : PE X e t' := ⟨fun pins s σ H Q I hw => h.run pins s σ H Q I (hi σ H Q hw)⟩
theorem pt_imp {e : Expr} {t t' : TT} (h : PT X e t) (hi : ∀ σ H Q, t' σ H Q → t σ H Q) : PT X e t' := ⟨fun pins s σ H Q I hw => h.run pins s σ H Q I (hi σ H Q hw)⟩
theorem pw_imp {e : Expr} {t t' : TT} (h : PW X e t) (hi : ∀ σ H Q, t' σ H Q → t σ H Q) : PW X e t' := ⟨fun wh pins s σ H Q I hw => h.run wh pins s σ H Q I (hi σ H Q hw)⟩
theorem pa_imp {e : List Expr} {t t' : TA} (h : PA X e t) (hi : ∀ σ H Q, t' σ H Q → t σ H Q) : PA X e t' := ⟨fun po pins s σ H Q I hw => h.run po pins s σ H Q I (hi σ H Q hw)⟩
theorem ps_imp {e : Stmt} {t t' : TS} (h : PS X e t) (hi : ∀ D σ H, t' D σ H → t D σ H) : PS X e t' := ⟨fun pins s σ H D I hw => h.run pins s σ H D I (hi D σ H hw)⟩
theorem pss_imp {e : List Stmt} {t t' : TS} (h : PSs X e t) (hi : ∀ D σ H, t' D σ H → t D σ H) : PSs X e t' := ⟨fun pins s σ H D I hw => h.run pins s σ H D I (hi D σ H hw)⟩

/-! ### names, constants -/
def v2 (i : Nat) : TE2 := fun _ ρ M Q => ∃ d, ρ[i]? = some (some d) ∧ Q d M
def c2 (d : D) : TE2 := fun _ _ M Q => Q d M
theorem pv2 (i : Nat) {x : Str} {pos : Pos} (hN : X.N[i]? = some x := by rfl) (hv : Vis X.env.scope x := by first | exact Or.inl rfl | exact Or.inr (Or.inl rfl) | exact Or.inr (Or.inr rfl)) (hd : (x == ("__debug__" : Str)) = false := by decide)
    (hcd : (x == ("__classdict__" : Str)) = false := by decide) : PE2 X W (.Name x pos) (v2 i) := pe_imp (pv i hN hv hd hcd) fun σ H Q ⟨ρ, M, Q2, E2, rs, rm, ⟨d, e, q⟩, vr, _⟩ => by
  obtain ⟨v, e1, r⟩ := rs.2 i d e
  exact ⟨v, e1, vr v H d M .refl r rm q⟩
/-- a constant by its data -/
theorem pc2 {e : Expr} {v : V} {d : D} (h : PE X e (tC v)) (hr : ∀ H, Rep X.K H d v) : PE2 X W e (c2 d) := pe_imp h fun σ H Q ⟨ρ, M, Q2, E2, rs, rm, q, vr, _⟩ => vr v H d M .refl (hr H) rm q
theorem pint2 {i j pos} : PE2 X W (.Constant (.int i) j pos) (c2 (.int i)) := pc2 pe_int fun _ => rfl
theorem pbl2 {b j pos} : PE2 X W (.Constant (.bool b) j pos) (c2 (.bl b)) := pc2 pe_bl fun _ => rfl
theorem pnon2 {j pos} : PE2 X W (.Constant .none j pos) (c2 .non) := pc2 pe_non fun _ => rfl
theorem pstr2 {x j pos} : PE2 X W (.Constant (.str x) j pos) (c2 (.str x)) := pc2 pe_str fun _ => rfl
/-- a module's constant: a number, a text; a class -/
theorem pglob2 {x : Str} {v : V} {d : D} {u : Value} {pos : Pos} (hg : Gl X x) (hm : X.mg x = some u) (r : RelV v u) (hr : ∀ H, Rep X.K H d v) (hd : (x == ("__debug__" : Str)) = false := by decide) : PE2 X W (.Name x pos) (c2 d) := pc2 (pe_glob hg hm r hd) hr
theorem pty2 {x : Str} {n : String} {pos : Pos} (hg : Gl X x) (hm : X.mg x = none) (hv : bootBuiltins x = some (.type n)) (hn : x ≠ "__name__" := by decide) (hd : (x == ("__debug__" : Str)) = false := by decide) : PE2 X W (.Name x pos) (c2 (.ty n)) := pc2 (pe_bltn (v := V.ty n) (u := Value.type n) hg hm hv rfl hn hd) fun _ => rfl

/-! ### operators by values -/
abbrev R22 := D → D → MP → VK2 → Prop
def op2 (r : R22) (ta tb : TE2) : TE2 := fun E ρ M Q => ta E ρ M fun x M1 => tb E ρ M1 fun y M2 => r x y M2 Q
def un2 (r : D → MP → VK2 → Prop) (ta : TE2) : TE2 := fun E ρ M Q => ta E ρ M fun x M1 => r x M1 Q
def OpRel (K : PySem.W.Frag) (r : R2) (r2 : R22) : Prop := ∀ x y d e H M Q Q2, Rep K H d x → Rep K H e y → RelM K M H → r2 d e M Q2 → VRel K H M Q2 Q → r x y H Q
def UnRel (K : PySem.W.Frag) (r : V → Hp → VK → Prop) (r2 : D → MP → VK2 → Prop) : Prop := ∀ x d H M Q Q2, Rep K H d x → RelM K M H → r2 d M Q2 → VRel K H M Q2 Q → r x H Q
variable {a b e : Expr} {ta tb te : TE2} {pos : Pos}
/-- two in a row -/
theorem lift2 {K : PySem.W.Frag} {σ : L2.St} {H : Hp} {ρ : St2} {M : MP} {E : XK2} {R : D → D → MP → Prop} {Q : V → V → Hp → Prop} (rs : RelS K H ρ σ) (rm : RelM K M H) (xr : XRel K W H M E)
    (h : ta E ρ M fun x M1 => tb E ρ M1 fun y M2 => R x y M2)
    (k : ∀ x y d e H2 M2, Stp K H M H2 M2 → Rep K H2 d x → Rep K H2 e y → RelM K M2 H2 → R d e M2 → Q x y H2) :
    liftE K W ta σ H fun x H1 => liftE K W tb σ H1 fun y H2 => Q x y H2 :=
  ⟨ρ, M, _, E, rs, rm, h, fun x H1 d M1 s1 r1 m1 q1 => ⟨ρ, M1, _, E, s1.rels rs, m1, q1, fun y H2 e M2 s2 r2 m2 q2 => k x y d e H2 M2 (s1.trans s2) (s2.rep r1) r2 m2 q2, xr.step s1⟩, xr⟩
theorem pop2 {op : Operator} {r : R2} {r2 : R22} (ho : OpR X (binaryOp op) r) (hr : OpRel X.K r r2) (ha : PE2 X W a ta) (hb : PE2 X W b tb) : PE2 X W (.BinOp a op b pos) (op2 r2 ta tb) :=
  pe_imp (pe_op ho ha hb) fun σ H Q ⟨ρ, M, Q2, E2, rs, rm, q, vr, xr⟩ => lift2 rs rm xr q fun x y d e H2 M2 s rx ry m q2 => hr x y d e H2 M2 Q Q2 rx ry m q2 (vr.step s)
theorem pun2 {op : UnaryOp} {r : V → Hp → VK → Prop} {r2 : D → MP → VK2 → Prop} (ho : UnR X (unaryOp op) r) (hr : UnRel X.K r r2) (ha : PE2 X W a ta) : PE2 X W (.UnaryOp op a pos) (un2 r2 ta) :=
  pe_imp (pe_un ho ha) fun σ H Q ⟨ρ, M, Q2, E2, rs, rm, q, vr, xr⟩ => ⟨ρ, M, _, E2, rs, rm, q, fun x H1 d M1 s1 r1 m1 q1 => hr x d H1 M1 Q Q2 r1 m1 q1 (vr.step s1), xr⟩
theorem pcmp2 {op : CmpOp} {r : R2} {r2 : R22} (ho : OpR X (compareOp op) r) (hr : OpRel X.K r r2) (ha : PE2 X W a ta) (hb : PE2 X W b tb) (hm : behindInMarks op b = false) : PE2 X W (.Compare a [op] [b] pos) (op2 r2 ta tb) :=
  pe_imp (pe_cmpR ho ha hb hm) fun σ H Q ⟨ρ, M, Q2, E2, rs, rm, q, vr, xr⟩ => lift2 rs rm xr q fun x y d e H2 M2 s rx ry m q2 => hr x y d e H2 M2 Q Q2 rx ry m q2 (vr.step s)
theorem pix2 {r : R2} {r2 : R22} (ho : IxR X r) (hr : OpRel X.K r r2) (ha : PE2 X W a ta) (hb : PE2 X W b tb) (hs : PlainIx b) : PE2 X W (.Subscript a b pos) (op2 r2 ta tb) :=
  pe_imp (pe_ix ho ha hb hs) fun σ H Q ⟨ρ, M, Q2, E2, rs, rm, q, vr, xr⟩ => lift2 rs rm xr q fun x y d e H2 M2 s rx ry m q2 => hr x y d e H2 M2 Q Q2 rx ry m q2 (vr.step s)

/-! ### tests -/
/-- a value that is a bool, as a test -/
def kB (Q : Bool → MP → Prop) : VK2 := fun x M1 => match x with | .bl k => Q k M1 | _ => False
def bt2 (t : TE2) : TT2 := fun E ρ M Q => t E ρ M (kB Q)
def truD (M : MP) : D → Option Bool
  | .non => some false
  | .bl b => some b
  | .int i => some (i != 0)
  | .str x => if x.length ≤ sizeLine then some ((x.length : Int) != 0) else none
  | .tup xs => some (!xs.isEmpty)
  | .scr xs => some (!xs.isEmpty)
  | .ref a => match M a with
    | some (.lst xs) => some (!xs.isEmpty)
    | some (.dK kvs) => some (!kvs.isEmpty)
    | _ => none
  | _ => none
/-- any value's truth -/
def kTr (Q : Bool → MP → Prop) : VK2 := fun x M1 => match truD M1 x with | some k => Q k M1 | none => False
def tr2 (t : TE2) : TT2 := fun E ρ M Q => t E ρ M (kTr Q)
theorem isEmpty_reps {K : PySem.W.Frag} {H : Hp} {ds : List D} {vs : List V} (r : Reps K H ds vs) : vs.isEmpty = ds.isEmpty := by
  cases ds with
  | nil => simp only [Reps] at r; rw [r]; rfl
  | cons d ds => simp only [Reps] at r; obtain ⟨v, q, e, _⟩ := r; rw [e]; rfl
theorem isEmpty_kvs {κ : Type} {K : PySem.W.Frag} {H : Hp} {ds : List (κ × D)} {vs : List (κ × V)} (r : KVs K H ds vs) : vs.isEmpty = ds.isEmpty := by
  cases ds with
  | nil => simp only [KVs] at r; rw [r]; rfl
  | cons d ds => simp only [KVs] at r; obtain ⟨v, q, e, _⟩ := r; rw [e]; rfl
theorem tru_of {K : PySem.W.Frag} {H : Hp} {M : MP} {d : D} {x : V} {k : Bool} (r : Rep K H d x) (rm : RelM K M H) (h : truD M d = some k) : TruV K x H k := by
  cases d with
  | non => cases r; cases h; rfl
  | bl b => cases r; cases h; rfl
  | int i => cases r; cases h; rfl
  | str z =>
    cases r
    have h' : (if z.length ≤ sizeLine then some ((z.length : Int) != 0) else none) = some k := h
    by_cases hz : z.length ≤ sizeLine
    · rw [if_pos hz] at h'; cases h'; exact ⟨hz, rfl⟩
    · rw [if_neg hz] at h'; cases h'
  | ty n => cases h
  | tup ds =>
    simp only [Rep] at r
    obtain ⟨a, vs, rfl, t, q⟩ := r
    cases h
    exact .inr (.inl ⟨vs, t, by rw [isEmpty_reps q]⟩)
  | scr ds =>
    simp only [Rep] at r
    obtain ⟨a, vs, rfl, t, q⟩ := r
    cases h
    exact .inl ⟨vs, t.l, by rw [isEmpty_reps q]⟩
  | ref a =>
    cases r
    have h' : (match M a with
      | some (.lst xs) => some (!xs.isEmpty)
        | some (.dK kvs) => some (!kvs.isEmpty)
      | _ => none) = some k := h
    clear h
    split at h'
    · rename_i xs e; cases h'
      obtain ⟨vs, z, q⟩ := rm _ _ e
      exact .inl ⟨vs, .of z, by rw [isEmpty_reps q]⟩
    · rename_i xs e; cases h'
      obtain ⟨vs, z, q⟩ := rm _ _ e
      exact .inr (.inr ⟨vs, z, by rw [isEmpty_kvs q]⟩)
    · cases h'
theorem ptr2 (ha : PE2 X W a ta) (he : ∀ whole, isTrue a X.env whole = (do let v ← whole; standAt a.pos; holding [v] (truthy v))) : PT2 X W a (tr2 ta) :=
  pt_imp (pt_truth ha he) fun σ H Q ⟨ρ, M, Q2, E2, rs, rm, q, vr, xr⟩ => ⟨ρ, M, _, E2, rs, rm, q, fun x H1 d M1 s1 r1 m1 q1 => by
    unfold kTr at q1
    cases e : truD M1 d with
    | none => rw [e] at q1; exact q1.elim
    | some k => rw [e] at q1; exact ⟨k, tru_of r1 m1 e, vr k H1 M1 s1 m1 q1⟩, xr⟩
theorem ptcmp2 {op : CmpOp} {r : R2} {r2 : R22} (ho : OpR X (compareOp op) r) (hr : OpRel X.K r r2) (ha : PE2 X W a ta) (hb : PE2 X W b tb) (hm : behindInMarks op b = false) : PT2 X W (.Compare a [op] [b] pos) (bt2 (op2 r2 ta tb)) :=
  pt_imp (pt_cmpR ho ha hb hm) fun σ H Q ⟨ρ, M, Q2, E2, rs, rm, q, vr, xr⟩ => lift2 (Q := fun x y H2 => r x y H2 fun z H3 => ∃ k, z = .bl k ∧ Q k H3) rs rm xr q fun x y d e H2 M2 s rx ry m q2 =>
    hr x y d e H2 M2 _ _ rx ry m q2 fun v H3 d3 M3 s3 r3 m3 q3 => by
      cases d3 with
      | bl k => exact ⟨k, r3, vr k H3 M3 (s.trans s3) m3 q3⟩
      | _ => exact q3.elim
def and2 (t u : TT2) : TT2 := fun E ρ M Q => t E ρ M fun c M1 => if c = true then u E ρ M1 Q else Q false M1
def or2 (t u : TT2) : TT2 := fun E ρ M Q => t E ρ M fun c M1 => if c = true then Q true M1 else u E ρ M1 Q
def not2 (t : TT2) : TT2 := fun E ρ M Q => t E ρ M fun c M1 => Q (!c) M1
variable {tA tB : TT2} {rest : List Expr}
theorem pand2 (ha : PT2 X W a tA) (hb : PW2 X W (.BoolOp .And (b :: rest) pos) tB) : PW2 X W (.BoolOp .And (a :: b :: rest) pos) (and2 tA tB) :=
  pw_imp (pw_and ha hb) fun σ H Q ⟨ρ, M, Q2, E2, rs, rm, q, vr, xr⟩ => ⟨ρ, M, _, E2, rs, rm, q, fun c H1 M1 s1 m1 q1 => by
    cases c with
    | true => exact ⟨ρ, M1, _, E2, s1.rels rs, m1, q1, vr.step s1, xr.step s1⟩
    | false => exact vr false H1 M1 s1 m1 q1, xr⟩
theorem por2 (ha : PT2 X W a tA) (hb : PW2 X W (.BoolOp .Or (b :: rest) pos) tB) : PW2 X W (.BoolOp .Or (a :: b :: rest) pos) (or2 tA tB) :=
  pw_imp (pw_or ha hb) fun σ H Q ⟨ρ, M, Q2, E2, rs, rm, q, vr, xr⟩ => ⟨ρ, M, _, E2, rs, rm, q, fun c H1 M1 s1 m1 q1 => by
    cases c with
    | false => exact ⟨ρ, M1, _, E2, s1.rels rs, m1, q1, vr.step s1, xr.step s1⟩
    | true => exact vr true H1 M1 s1 m1 q1, xr⟩
theorem pand1 (ha : PT2 X W a tA) : PW2 X W (.BoolOp .And [a] pos) tA := pw_and1 ha
theorem por1 (ha : PT2 X W a tA) : PW2 X W (.BoolOp .Or [a] pos) tA := pw_or1 ha
theorem pnot2 (ha : PT2 X W a tA) : PT2 X W (.UnaryOp .Not a pos) (not2 tA) :=
  pt_imp (pt_not ha) fun σ H Q ⟨ρ, M, Q2, E2, rs, rm, q, vr, xr⟩ => ⟨ρ, M, _, E2, rs, rm, q, fun c H1 M1 s1 m1 q1 => vr (!c) H1 M1 s1 m1 q1, xr⟩
/-- and, or, not as values -/
def kAnd (R : MP → Prop) (Q : VK2) : VK2 := fun x M1 => match truD M1 x with | some true => R M1 | some false => Q x M1 | none => False
def kOr (R : MP → Prop) (Q : VK2) : VK2 := fun x M1 => match truD M1 x with | some true => Q x M1 | some false => R M1 | none => False
def kNot (Q : VK2) : VK2 := fun x M1 => match truD M1 x with | some k => Q (.bl (!k)) M1 | none => False
def andv2 (ta tb : TE2) : TE2 := fun E ρ M Q => ta E ρ M (kAnd (fun M1 => tb E ρ M1 Q) Q)
def orv2 (ta tb : TE2) : TE2 := fun E ρ M Q => ta E ρ M (kOr (fun M1 => tb E ρ M1 Q) Q)
def notv2 (ta : TE2) : TE2 := fun E ρ M Q => ta E ρ M (kNot Q)
theorem pandv2 (ha : PE2 X W a ta) (hb : PE2 X W (.BoolOp .And (b :: rest) pos) tb) : PE2 X W (.BoolOp .And (a :: b :: rest) pos) (andv2 ta tb) :=
  pe_imp (pe_andT ha hb) fun σ H Q ⟨ρ, M, Q2, E2, rs, rm, q, vr, xr⟩ => ⟨ρ, M, _, E2, rs, rm, q, fun x H1 d M1 s1 r1 m1 q1 => by
    unfold kAnd at q1
    cases e : truD M1 d with
    | none => rw [e] at q1; exact q1.elim
    | some k =>
      rw [e] at q1
      cases k with
      | true => exact ⟨true, tru_of r1 m1 e, ⟨ρ, M1, _, E2, s1.rels rs, m1, q1, vr.step s1, xr.step s1⟩⟩
      | false => exact ⟨false, tru_of r1 m1 e, vr x H1 d M1 s1 r1 m1 q1⟩, xr⟩
theorem porv2 (ha : PE2 X W a ta) (hb : PE2 X W (.BoolOp .Or (b :: rest) pos) tb) : PE2 X W (.BoolOp .Or (a :: b :: rest) pos) (orv2 ta tb) :=
  pe_imp (pe_orT ha hb) fun σ H Q ⟨ρ, M, Q2, E2, rs, rm, q, vr, xr⟩ => ⟨ρ, M, _, E2, rs, rm, q, fun x H1 d M1 s1 r1 m1 q1 => by
    unfold kOr at q1
    cases e : truD M1 d with
    | none => rw [e] at q1; exact q1.elim
    | some k =>
      rw [e] at q1
      cases k with
      | false => exact ⟨false, tru_of r1 m1 e, ⟨ρ, M1, _, E2, s1.rels rs, m1, q1, vr.step s1, xr.step s1⟩⟩
      | true => exact ⟨true, tru_of r1 m1 e, vr x H1 d M1 s1 r1 m1 q1⟩, xr⟩
theorem pone2 {op} (h : PE2 X W a ta) : PE2 X W (.BoolOp op [a] pos) ta := pe_one h
theorem pnotv2 (ha : PE2 X W a ta) : PE2 X W (.UnaryOp .Not a pos) (notv2 ta) :=
  pe_imp (pe_notT ha) fun σ H Q ⟨ρ, M, Q2, E2, rs, rm, q, vr, xr⟩ => ⟨ρ, M, _, E2, rs, rm, q, fun x H1 d M1 s1 r1 m1 q1 => by
    unfold kNot at q1
    cases e : truD M1 d with
    | none => rw [e] at q1; exact q1.elim
    | some k => rw [e] at q1; exact ⟨k, tru_of r1 m1 e, vr (.bl (!k)) H1 (.bl (!k)) M1 s1 rfl m1 q1⟩, xr⟩
def ife2 (t : TT2) (ta tb : TE2) : TE2 := fun E ρ M Q => t E ρ M fun c M1 => if c = true then ta E ρ M1 Q else tb E ρ M1 Q
theorem pife2 {c : Expr} (hc : PT2 X W c tA) (ha : PE2 X W a ta) (hb : PE2 X W b tb) : PE2 X W (.IfExp c a b pos) (ife2 tA ta tb) :=
  pe_imp (pe_ifExp hc ha hb) fun σ H Q ⟨ρ, M, Q2, E2, rs, rm, q, vr, xr⟩ => ⟨ρ, M, _, E2, rs, rm, q, fun c H1 M1 s1 m1 q1 => by
    cases c with
    | false => exact ⟨ρ, M1, _, E2, s1.rels rs, m1, q1, vr.step s1, xr.step s1⟩
    | true => exact ⟨ρ, M1, _, E2, s1.rels rs, m1, q1, vr.step s1, xr.step s1⟩, xr⟩

/-! ### argument lists, displays -/
def nil2 : TA2 := fun _ _ M Q => Q [] M
def cons2 (ta : TE2) (t : TA2) : TA2 := fun E ρ M Q => ta E ρ M fun x M1 => t E ρ M1 fun xs M2 => Q (x :: xs) M2
variable {es : List Expr} {t : TA2}
theorem pnil2 : PA2 X W [] nil2 := pa_imp pa_nil fun σ H Q ⟨ρ, M, Q2, E2, rs, rm, q, vr, xr⟩ => vr [] H [] M .refl rfl rm q
theorem pcons2 (ha : PE2 X W e te) (hr : PA2 X W es t) (hs : starEach (e :: es) X.env = (false, eval e X.env) :: starEach es X.env := by rfl) : PA2 X W (e :: es) (cons2 te t) :=
  pa_imp (pa_cons ha hr hs) fun σ H Q ⟨ρ, M, Q2, E2, rs, rm, q, vr, xr⟩ => ⟨ρ, M, _, E2, rs, rm, q, fun x H1 d M1 s1 r1 m1 q1 =>
    ⟨ρ, M1, _, E2, s1.rels rs, m1, q1, fun xs H2 ds M2 s2 r2 m2 q2 => vr (x :: xs) H2 (d :: ds) M2 (s1.trans s2) ⟨x, xs, rfl, s2.rep r1, r2⟩ m2 q2, xr.step s1⟩, xr⟩
theorem Reps.length {K : PySem.W.Frag} {H : Hp} : ∀ {ds : List D} {vs : List V}, Reps K H ds vs → vs.length = ds.length
  | [], _, r => by simp only [Reps] at r; rw [r]; rfl
  | d :: ds, _, r => by
    simp only [Reps] at r
    obtain ⟨v, q, e, _, r2⟩ := r
    rw [e, List.length_cons, List.length_cons, Reps.length r2]
theorem KVs.length {κ : Type} {K : PySem.W.Frag} {H : Hp} : ∀ {ds : List (κ × D)} {vs : List (κ × V)}, KVs K H ds vs → vs.length = ds.length
  | [], _, r => by simp only [KVs] at r; rw [r]; rfl
  | d :: ds, _, r => by
    simp only [KVs] at r
    obtain ⟨v, q, e, _, r2⟩ := r
    rw [e, List.length_cons, List.length_cons, KVs.length r2]
def tup2 (t : TA2) : TE2 := fun E ρ M Q => t E ρ M fun xs M1 => xs.length ≤ sizeLine ∧ Q (.tup xs) M1
def lst2 (t : TA2) : TE2 := fun E ρ M Q => t E ρ M fun xs M1 => xs.length ≤ sizeLine ∧ ∀ p, M1 p = none → Q (.ref p) (updM M1 p (.lst xs))
theorem VRel.tup {K : PySem.W.Frag} {H : Hp} {M : MP} {Q2 : VK2} {Q : VK} {vs : List V} {ds : List D} (vr : VRel K H M Q2 Q) (rm : RelM K M H) (r : Reps K H ds vs) (q : Q2 (.tup ds) M) {p : Addr} (hp : H p = none) : Q (.ref p) (upd H p (.tup vs)) :=
  vr _ _ (.tup ds) M (.tupNew hp) ⟨p, vs, rfl, .of upd_same, (Stp.tupNew (M := M) hp).reps r⟩ (rm.tupNew hp) q
theorem VRel.lst {K : PySem.W.Frag} {H : Hp} {M : MP} {Q2 : VK2} {Q : VK} {vs : List V} {ds : List D} (vr : VRel K H M Q2 Q) (rm : RelM K M H) (r : Reps K H ds vs) (q : ∀ p, M p = none → Q2 (.ref p) (updM M p (.lst ds))) {p : Addr} (hp : H p = none) : Q (.ref p) (upd H p (.lst vs)) := by
  have s : Stp K H M (upd H p (.lst vs)) (updM M p (.lst ds)) := .put rm (notRd_of_none hp) (.inr hp)
  exact vr _ _ (.ref p) _ s rfl (rm.put (notRd_of_none hp) ⟨vs, upd_same, s.reps r⟩) (q p (rm.free hp))
theorem ptup2 {x1} (h : PA2 X W es t) : PE2 X W (.Tuple es x1 pos) (tup2 t) :=
  pe_imp (pe_tup h) fun σ H Q ⟨ρ, M, Q2, E2, rs, rm, q, vr, xr⟩ => ⟨ρ, M, _, E2, rs, rm, q, fun vs H1 ds M1 s1 r1 m1 q1 => ⟨by rw [r1.length]; exact q1.1, fun p hp => (vr.step s1).tup m1 r1 q1.2 hp⟩, xr⟩
theorem plst2 (h : PA2 X W es t) : PE2 X W (.List es pos) (lst2 t) :=
  pe_imp (pe_lst h) fun σ H Q ⟨ρ, M, Q2, E2, rs, rm, q, vr, xr⟩ => ⟨ρ, M, _, E2, rs, rm, q, fun vs H1 ds M1 s1 r1 m1 q1 => ⟨by rw [r1.length]; exact q1.1, fun p hp => (vr.step s1).lst m1 r1 q1.2 hp⟩, xr⟩

/-! ### calls of built-ins -/
abbrev RC2 := List D → MP → VK2 → Prop
def call2 (r : RC2) (t : TA2) : TE2 := fun E ρ M Q => t E ρ M fun ds M1 => r ds M1 Q
def CallRel (K : PySem.W.Frag) (r : List V → Hp → VK → Prop) (r2 : RC2) : Prop := ∀ xs ds H M Q Q2, Reps K H ds xs → RelM K M H → r2 ds M Q2 → VRel K H M Q2 Q → r xs H Q
theorem pcallB2 {x : Str} {id : String} {p : Pos} {r : List V → Hp → VK → Prop} {r2 : RC2} (hc : CallR X (.builtin id) r) (hr : CallRel X.K r r2) (hg : Gl X x) (hm : X.mg x = none) (hv : bootBuiltins x = some (.builtin id)) (ha : PA2 X W (e :: es) t)
    (hn : x ≠ "__name__" := by decide) (hdb : (x == ("__debug__" : Str)) = false := by decide)
    (he : starEach (e :: es) X.env = (false, eval e X.env) :: starEach es X.env := by rfl) (hpl : (backTo pos (starEach es X.env)).any (·.1) = false := by rfl) : PE2 X W (.Call (.Name x p) (e :: es) [] pos) (call2 r2 t) :=
  pe_imp (pe_callB hc hg hm hv ha hn hdb he hpl) fun σ H Q ⟨ρ, M, Q2, E2, rs, rm, q, vr, xr⟩ => ⟨ρ, M, _, E2, rs, rm, q, fun vs H1 ds M1 s1 r1 m1 q1 => hr vs ds H1 M1 Q Q2 r1 m1 q1 (vr.step s1), xr⟩
theorem pcallT2 {x : Str} {T : String} {p : Pos} {r : List V → Hp → VK → Prop} {r2 : RC2} (hc : CallR X (.type T) r) (hr : CallRel X.K r r2) (hg : Gl X x) (hm : X.mg x = none) (hv : bootBuiltins x = some (.type T)) (ha : PA2 X W (e :: es) t)
    (hn : x ≠ "__name__" := by decide) (hdb : (x == ("__debug__" : Str)) = false := by decide)
    (he : starEach (e :: es) X.env = (false, eval e X.env) :: starEach es X.env := by rfl) (hpl : (backTo pos (starEach es X.env)).any (·.1) = false := by rfl) : PE2 X W (.Call (.Name x p) (e :: es) [] pos) (call2 r2 t) :=
  pe_imp (pe_callTy hc hg hm hv ha hn hdb he hpl) fun σ H Q ⟨ρ, M, Q2, E2, rs, rm, q, vr, xr⟩ => ⟨ρ, M, _, E2, rs, rm, q, fun vs H1 ds M1 s1 r1 m1 q1 => hr vs ds H1 M1 Q Q2 r1 m1 q1 (vr.step s1), xr⟩

/-! ### calls of defs -/
abbrev Sp2 := List D → MP → VK2 → (Value → MP → Prop) → Prop
def spOf (K : PySem.W.Frag) (sp : Sp2) : Sp := fun vs H Q E => ∃ ds M Q2 E2, Reps K H ds vs ∧ RelM K M H ∧ sp ds M Q2 E2 ∧ VRel K H M Q2 Q ∧ ∀ c H' M', Stp K H M H' M' → RelM K M' H' → E2 c M' → E c none H'
def fn2 (sp : Sp2) (dvs : List D) (t : TA2) : TE2 := fun E ρ M Q => t E ρ M fun ds M1 => sp (ds ++ dvs) M1 Q fun c M' => E c ρ M'
theorem Reps.append {K : PySem.W.Frag} {H : Hp} {es : List D} {ws : List V} (s : Reps K H es ws) : ∀ {ds : List D} {vs : List V}, Reps K H ds vs → Reps K H (ds ++ es) (vs ++ ws)
  | [], _, r => by simp only [Reps] at r; subst r; exact s
  | d :: ds, _, r => by
    simp only [Reps] at r
    obtain ⟨v, q, rfl, r1, r2⟩ := r
    exact ⟨v, q ++ ws, rfl, r1, Reps.append s r2⟩
/-- a def as the module knows it -/
structure Fn2 (P : Program) (w : World) (K : PySem.W.Frag) (mg : Str → Option Value) (base : Heap) (k : Nat) (x : Str) (sp : Sp2) (dvs : List D) : Prop where
  ex : ∃ (f : Addr) (fd : FuncData) (ps : List Str) (ds : List Value) (vs : List V), FnOk P w K mg base (L2.CX P w) k f fd ps (spOf K sp) ∧ mg x = some (.ref f) ∧ PySem.W.keepIn K (.ref f) = true ∧ Binds K fd ps ds ∧ Vals vs ds ∧ ∀ H, Reps K H dvs vs
theorem pfn2 {k j : Nat} {x : Str} {sp : Sp2} {dvs : List D} {p : Pos} (tk : Takes X W) (c : Fn2 X.prog X.w X.K X.mg X.base k x sp dvs) (hr : Room j X.A) (hk : k ≤ j) (hg : Gl X x) (ha : PA2 X W (e :: es) t)
    (hdb : (x == ("__debug__" : Str)) = false := by decide) (he : starEach (e :: es) X.env = (false, eval e X.env) :: starEach es X.env := by rfl) (hpl : (backTo pos (starEach es X.env)).any (·.1) = false := by rfl) :
    PE2 X W (.Call (.Name x p) (e :: es) [] pos) (fn2 sp dvs t) := by
  obtain ⟨f, fd, ps, ds, vs, F, hm, kp, b, d, rd⟩ := c.ex
  refine pe_imp (pe_callSD (E := WE W) F (hr.mono hk) hg hm kp b d (fun σ => passAt tk σ) ha hdb he hpl) fun σ H Q ⟨ρ, M, Q2, E2, rs, rm, q, vr, xr⟩ => ?_
  refine ⟨ρ, M, _, E2, rs, rm, q, fun us H1 ds M1 s1 r1 m1 q1 => ?_, xr⟩
  exact ⟨ds ++ dvs, M1, Q2, _, (rd H1).append r1, m1, q1, vr.step s1, fun c H' M' s' m' e' => xr c ρ σ H' M' (s1.trans s') ((s1.trans s').rels rs) m' e'⟩
end
end N2


namespace N2
open PySem PySem.Spec PyProof.Rows L2

theorem RelS.set {K : PySem.W.Frag} {H : Hp} {ρ : St2} {σ : L2.St} (rs : RelS K H ρ σ) {d : D} {v : V} (r : Rep K H d v) (i : Nat) : RelS K H (ρ.set i (some d)) (σ.set i (some v)) := by
  refine ⟨by rw [List.length_set, List.length_set]; exact rs.1, fun j e h => ?_⟩
  by_cases q : i = j
  · subst q
    by_cases hl : i < ρ.length
    · rw [List.getElem?_set_self hl] at h
      cases h
      exact ⟨v, by rw [List.getElem?_set_self (by rw [rs.1]; exact hl)], r⟩
    · rw [List.getElem?_eq_none (by rw [List.length_set]; omega)] at h
      cases h
  · rw [List.getElem?_set_ne q] at h
    obtain ⟨w, e1, r1⟩ := rs.2 j e h
    exact ⟨w, by rw [List.getElem?_set_ne q]; exact e1, r1⟩
def wipe2 (ρ : St2) : List Nat → St2
  | [] => ρ
  | v :: vs => (wipe2 ρ vs).set v none
theorem RelS.wipe {K : PySem.W.Frag} {H : Hp} {ρ : St2} {σ : L2.St} (rs : RelS K H ρ σ) : ∀ vs : List Nat, RelS K H (wipe2 ρ vs) (L2.wipe σ vs)
  | [] => rs
  | i :: vs => by
    have h := RelS.wipe rs vs
    refine ⟨?_, fun j e q => ?_⟩
    · unfold wipe2 L2.wipe
      rw [List.length_set, List.length_set]; exact h.1
    · unfold wipe2 at q
      unfold L2.wipe
      by_cases z : i = j
      · subst z
        by_cases hl : i < (wipe2 ρ vs).length
        · rw [List.getElem?_set_self hl] at q; cases q
        · rw [List.getElem?_eq_none (by rw [List.length_set]; omega)] at q; cases q
      · rw [List.getElem?_set_ne z] at q
        obtain ⟨w, e1, r1⟩ := h.2 j e q
        exact ⟨w, by rw [List.getElem?_set_ne z]; exact e1, r1⟩
theorem wipe_set {σ : L2.St} {i : Nat} {x : Option V} : ∀ {vs : List Nat}, i ∈ vs → L2.wipe (σ.set i x) vs = L2.wipe σ vs
  | [], h => nomatch h
  | j :: vs, h => by
    unfold L2.wipe
    by_cases e : i ∈ vs
    · rw [wipe_set e]
    · have ij : i = j := by
        rcases List.mem_cons.mp h with z | z
        · exact z
        · exact absurd z e
      subst ij
      have com : ∀ ws : List Nat, i ∉ ws → L2.wipe (σ.set i x) ws = (L2.wipe σ ws).set i x := by
        intro ws
        induction ws with
        | nil => intro _; rfl
        | cons k ws ih =>
          intro hk
          unfold L2.wipe
          rw [ih (fun z => hk (List.mem_cons_of_mem _ z)), List.set_comm _ _ (fun z => hk (by rw [z]; exact List.mem_cons_self))]
      rw [com vs e, List.set_set]

section
variable {X : Cx} {W : WX} {st : Stmt} {rest : List Stmt} {t u : TS2} {e : Expr} {te : TE2} {pos : Pos}
def next2 : TS2 := fun D ρ M => D.nx ρ M
def seq2 (t u : TS2) : TS2 := fun D ρ M => t { D with nx := u D } ρ M
theorem pssnil2 : PSs2 X W [] next2 := pss_imp pss_nil fun D σ H ⟨ρ, M, D2, rs, rm, q, er⟩ => er.nx ρ σ H M .refl rs rm q
theorem psscons2 (h1 : PS2 X W st t) (h2 : PSs2 X W rest u) : PSs2 X W (st :: rest) (seq2 t u) :=
  pss_imp (pss_cons h1 h2) fun D σ H ⟨ρ, M, D2, rs, rm, q, er⟩ => ⟨ρ, M, _, rs, rm, q, ⟨fun ρ' σ' H' M' s' rs' rm' q' => ⟨ρ', M', D2, rs', rm', q', er.step s'⟩, er.rt, er.bk, er.ct, er.ex⟩⟩
theorem pss12 (h1 : PS2 X W st t) : PSs2 X W [st] (seq2 t next2) := psscons2 h1 pssnil2
theorem pspass2 : PS2 X W (.Pass pos) next2 := ps_imp ps_pass fun D σ H ⟨ρ, M, D2, rs, rm, q, er⟩ => er.nx ρ σ H M .refl rs rm q
def brk2 : TS2 := fun D ρ M => D.bk ρ M
def cont2 : TS2 := fun D ρ M => D.ct ρ M
theorem psbrk2 : PS2 X W (.Break pos) brk2 := ps_imp ps_break fun D σ H ⟨ρ, M, D2, rs, rm, q, er⟩ => er.bk ρ σ H M .refl rs rm q
theorem pscont2 : PS2 X W (.Continue pos) cont2 := ps_imp ps_continue fun D σ H ⟨ρ, M, D2, rs, rm, q, er⟩ => er.ct ρ σ H M .refl rs rm q
def drop2 (te : TE2) : TS2 := fun D ρ M => te D.ex ρ M fun _ M1 => D.nx ρ M1
theorem psexpr2 (he : PE2 X W e te) (hs : swapsWith e none pos.line X.env = pure false := by rfl) : PS2 X W (.Expr e pos) (drop2 te) :=
  ps_imp (ps_expr he hs) fun D σ H ⟨ρ, M, D2, rs, rm, q, er⟩ => ⟨ρ, M, _, D2.ex, rs, rm, q, fun v H1 d M1 s1 r1 m1 q1 => er.nx ρ σ H1 M1 s1 (s1.rels rs) m1 q1, er.ex⟩
def ret2 (te : TE2) : TS2 := fun D ρ M => te D.ex ρ M D.rt
theorem psret2 (he : PE2 X W e te) : PS2 X W (.Return (some e) pos) (ret2 te) :=
  ps_imp (ps_ret he) fun D σ H ⟨ρ, M, D2, rs, rm, q, er⟩ => ⟨ρ, M, _, D2.ex, rs, rm, q, er.rt, er.ex⟩
def retn2 : TS2 := fun D _ M => D.rt .non M
theorem psretn2 : PS2 X W (.Return none pos) retn2 := ps_imp ps_retN fun D σ H ⟨ρ, M, D2, rs, rm, q, er⟩ => er.rt .non H .non M .refl rfl rm q
def if2 (c : TT2) (t u : TS2) : TS2 := fun D ρ M => c D.ex ρ M fun b M1 => if b = true then t D ρ M1 else u D ρ M1
theorem psif2 {c : Expr} {a b : List Stmt} {tc : TT2} (hc : PT2 X W c tc) (ha : PSs2 X W a t) (hb : PSs2 X W b u) : PS2 X W (.If c a b pos) (if2 tc t u) :=
  ps_imp (ps_if hc ha hb) fun D σ H ⟨ρ, M, D2, rs, rm, q, er⟩ => ⟨ρ, M, _, D2.ex, rs, rm, q, fun b H1 M1 s1 m1 q1 => by
    cases b with
    | true => exact ⟨ρ, M1, D2, s1.rels rs, m1, q1, er.step s1⟩
    | false => exact ⟨ρ, M1, D2, s1.rels rs, m1, q1, er.step s1⟩, er.ex⟩

/-! ### targets: names and tuples of them -/
abbrev TG2 := D → St2 → MP → (St2 → MP → Prop) → Prop
abbrev TGs2 := List D → St2 → MP → (St2 → MP → Prop) → Prop
def OnlyAt (sl : List Nat) (σ σ' : L2.St) : Prop := ∀ vs : List Nat, (∀ i ∈ sl, i ∈ vs) → L2.wipe σ' vs = L2.wipe σ vs
def liftG (K : PySem.W.Frag) (sl : List Nat) (t : TG2) : TG := fun v σ H Q => ∃ d ρ M Q2, Rep K H d v ∧ RelS K H ρ σ ∧ RelM K M H ∧ t d ρ M Q2 ∧ ∀ ρ' σ', RelS K H ρ' σ' → OnlyAt sl σ σ' → Q2 ρ' M → Q σ' H
def liftGs (K : PySem.W.Frag) (sl : List Nat) (t : TGs2) : TGs := fun v σ H Q => ∃ d ρ M Q2, Reps K H d v ∧ RelS K H ρ σ ∧ RelM K M H ∧ t d ρ M Q2 ∧ ∀ ρ' σ', RelS K H ρ' σ' → OnlyAt sl σ σ' → Q2 ρ' M → Q σ' H
abbrev PG2 (X : Cx) (tg : Expr) (sl : List Nat) (t : TG2) : Prop := PG X tg (liftG X.K sl t)
abbrev PGs2 (X : Cx) (tg : List Expr) (sl : List Nat) (t : TGs2) : Prop := PGs X tg (liftGs X.K sl t)
theorem pg_imp {tg : Expr} {t t' : TG} (h : PG X tg t) (hi : ∀ v σ H Q, t' v σ H Q → t v σ H Q) : PG X tg t' := ⟨fun pins s σ H v u Q I r hw => h.run pins s σ H v u Q I r (hi _ _ _ _ hw)⟩
theorem pgs_imp {tg : List Expr} {t t' : TGs} (h : PGs X tg t) (hi : ∀ v σ H Q, t' v σ H Q → t v σ H Q) : PGs X tg t' := ⟨fun pins s σ H v u Q I r hw => h.run pins s σ H v u Q I r (hi _ _ _ _ hw)⟩
def gn2 (i : Nat) : TG2 := fun d ρ M Q => Q (ρ.set i (some d)) M
theorem pgn2 (i : Nat) {x : Str} (hN : X.N.Nodup) (hi : X.N[i]? = some x := by rfl) (hx : Loc X.env.scope x := by first | exact Or.inl rfl | exact Or.inr rfl) (hf : X.fn x = true ∨ X.env.scope.names.lookup x = some .local := by first | exact .inl rfl | exact .inr rfl | assumption) : PG2 X (.Name x pos) [i] (gn2 i) :=
  pg_imp (pg_name hN hi hx hf) fun v σ H Q ⟨d, ρ, M, Q2, r, rs, rm, q, k⟩ => k _ _ (rs.set r i) (fun vs hv => wipe_set (hv i List.mem_cons_self)) q
def gnil2 : TGs2 := fun ds ρ M Q => ds = [] ∧ Q ρ M
def gcons2 (t : TG2) (u : TGs2) : TGs2 := fun ds ρ M Q => match ds with | d :: r => t d ρ M fun ρ' M' => u r ρ' M' Q | [] => False
theorem pgnil2 : PGs2 X [] [] gnil2 := pgs_imp pgs_nil fun v σ H Q ⟨d, ρ, M, Q2, r, rs, rm, q, k⟩ => by
  obtain ⟨rfl, q⟩ := q
  exact ⟨r, k ρ σ rs (fun _ _ => rfl) q⟩
theorem pgcons2 {e : Expr} {es : List Expr} {sl sl' : List Nat} {t : TG2} {u : TGs2} (h1 : PG2 X e sl t) (h2 : PGs2 X es sl' u)
    (hs : (assignEach (e :: es) X.env).map (·.2) = assign e X.env :: (assignEach es X.env).map (·.2) := by rfl) : PGs2 X (e :: es) (sl ++ sl') (gcons2 t u) :=
  pgs_imp (pgs_cons h1 h2 hs) fun v σ H Q ⟨d, ρ, M, Q2, r, rs, rm, q, k⟩ => by
    cases d with
    | nil => exact q.elim
    | cons d ds =>
      obtain ⟨v, vr, rfl, r1, r2⟩ := r
      refine ⟨v, vr, rfl, d, ρ, M, _, r1, rs, rm, q, fun ρ' σ' rs' o1 q1 => ⟨ds, ρ', M, _, r2, rs', rm, q1, fun ρ2 σ2 rs2 o2 q2 => k ρ2 σ2 rs2 (fun vs hv => ?_) q2⟩⟩
      rw [o2 vs (fun i hi => hv i (List.mem_append_right _ hi)), o1 vs (fun i hi => hv i (List.mem_append_left _ hi))]
def gtup2 (n : Nat) (t : TGs2) : TG2 := fun d ρ M Q => match d with | .tup ds => ds.length = n ∧ t ds ρ M Q | .ref a => ∃ ds, M a = some (.lst ds) ∧ ds.length = n ∧ t ds ρ M Q | _ => False
theorem pg_or {tg : Expr} {t t' : TG} (h : PG X tg t) (h' : PG X tg t') : PG X tg (fun v σ H Q => t v σ H Q ∨ t' v σ H Q) := ⟨fun pins s σ H v u Q I r hw => hw.elim (h.run pins s σ H v u Q I r) (h'.run pins s σ H v u Q I r)⟩
theorem pgtup2 {es : List Expr} {k : Nat} {sl : List Nat} {t : TGs2} {n : Nat} (hc : X.calm = true) (h : PGs2 X es sl t)
    (hn : (assignEach es X.env).length = n := by rfl) (hst : (assignEach es X.env).findIdx? (·.1) = none := by rfl) : PG2 X (.Tuple es k pos) sl (gtup2 n t) :=
  pg_imp (pg_or (pg_tup hc h hn hst) (pg_lst hc h hn hst)) fun v σ H Q ⟨d, ρ, M, Q2, r, rs, rm, q, k⟩ => by
    cases d with
    | tup ds =>
      simp only [Rep] at r
      obtain ⟨a, vs, rfl, st, r2⟩ := r
      exact .inl ⟨a, vs, rfl, st, by rw [r2.length]; exact q.1, ds, ρ, M, Q2, r2, rs, rm, q.2, k⟩
    | ref a =>
      simp only [Rep] at r
      subst r
      obtain ⟨ds, hm, hl, q⟩ := q
      obtain ⟨vs, e, r2⟩ := rm _ _ hm
      exact .inr ⟨a, vs, rfl, .of e, by rw [r2.length]; exact hl, ds, ρ, M, Q2, r2, rs, rm, q, k⟩
    | _ => exact q.elim
def asg2 (te : TE2) (g : TG2) : TS2 := fun D ρ M => te D.ex ρ M fun x M1 => g x ρ M1 D.nx
theorem lift_asg {K : PySem.W.Frag} {sl : List Nat} {g : TG2} {D : Ends} {σ : L2.St} {H : Hp} {ρ : St2} {M : MP} {D2 : Ends2} (rs : RelS K H ρ σ) (rm : RelM K M H) (er : EndsRel K W H M D2 D) (q : asg2 te g D2 ρ M) :
    liftE K W te σ H fun x H1 => liftG K sl g x σ H1 D.nx :=
  ⟨ρ, M, _, D2.ex, rs, rm, q, fun v H1 d M1 s1 r1 m1 q1 => ⟨d, ρ, M1, _, r1, s1.rels rs, m1, q1, fun ρ' σ' rs' _ q2 => er.nx ρ' σ' H1 M1 s1 rs' m1 q2⟩, er.ex⟩
theorem psset2 (i : Nat) {x : Str} {pos' : Pos} (hN : X.N.Nodup) (he : PE2 X W e te) (hi : X.N[i]? = some x := by rfl) (hx : Loc X.env.scope x := by first | exact Or.inl rfl | exact Or.inr rfl) (hs : swapsWith e (some (.Name x pos')) pos.line X.env = pure false := by rfl) (hf : X.fn x = true ∨ X.env.scope.names.lookup x = some .local := by first | exact .inl rfl | exact .inr rfl | assumption) :
    PS2 X W (.Assign [.Name x pos'] e pos) (asg2 te (gn2 i)) :=
  ps_imp (ps_set hN hi hx he hs hf) fun D σ H ⟨ρ, M, D2, rs, rm, q, er⟩ =>
    ⟨ρ, M, _, D2.ex, rs, rm, q, fun v H1 d M1 s1 r1 m1 q1 => er.nx _ _ H1 M1 s1 ((s1.rels rs).set r1 i) m1 q1, er.ex⟩
theorem psasg2 {tg : Expr} {sl : List Nat} {g : TG2} (he : PE2 X W e te) (hg : PG2 X tg sl g) (hs : swapsWithSole [tg] e pos.line X.env = pure false := by rfl) (hw : swappedStores [tg] e X.env = pure none := by rfl)
    (h1 : (assignEach [tg] X.env).map (·.2) = [assign tg X.env] := by rfl) : PS2 X W (.Assign [tg] e pos) (asg2 te g) :=
  ps_imp (ps_asg he hg hs hw h1) fun D σ H ⟨ρ, M, D2, rs, rm, q, er⟩ => lift_asg rs rm er q
def kPar (i j : Nat) (ρ : St2) (Q : St2 → MP → Prop) : List D → MP → Prop := fun ds M1 => match ds with | [d, e] => Q ((ρ.set i (some d)).set j (some e)) M1 | _ => False
def par2 (i j : Nat) (ta : TA2) : TS2 := fun D ρ M => ta D.ex ρ M (kPar i j ρ D.nx)
theorem pspar2 (i j : Nat) {x y : Str} {a b : Expr} {ta : TA2} {px py pt : Pos} {kt k2 pt2} (hc : X.calm = true) (hN : X.N.Nodup) (ha : PA2 X W [a, b] ta) (hij : i ≠ j) (hi : X.N[i]? = some x := by rfl) (hj : X.N[j]? = some y := by rfl)
    (hx : X.env.scope.names.lookup x = some .local := by rfl) (hy : X.env.scope.names.lookup y = some .local := by rfl)
    (hw : swappedStores [.Tuple [.Name x px, .Name y py] kt pt] (.Tuple [a, b] k2 pt2) X.env = pure (some [x, y]) := by rfl)
    (hs : swapsWithSole [.Tuple [.Name x px, .Name y py] kt pt] (.Tuple [a, b] k2 pt2) pos.line X.env = pure false := by rfl) :
    PS2 X W (.Assign [.Tuple [.Name x px, .Name y py] kt pt] (.Tuple [a, b] k2 pt2) pos) (par2 i j ta) :=
  ps_imp (ps_par hc hN hi hj hij hx hy ha hw hs) fun D σ H ⟨ρ, M, D2, rs, rm, q, er⟩ => ⟨ρ, M, _, D2.ex, rs, rm, q, fun vs H1 ds M1 s1 r1 m1 q1 => by
    match ds, q1, r1 with
    | [d, e], q1, r1 =>
      obtain ⟨v, w, rfl, r2, r3⟩ := r1
      obtain ⟨v', w', rfl, r4, rfl⟩ := r3
      exact ⟨v, v', rfl, er.nx _ _ H1 M1 s1 (((s1.rels rs).set r2 i).set r4 j) m1 q1⟩, er.ex⟩
def kPar3 (i j l : Nat) (ρ : St2) (Q : St2 → MP → Prop) : List D → MP → Prop := fun ds M1 => match ds with | [d, e, f] => Q (((ρ.set i (some d)).set j (some e)).set l (some f)) M1 | _ => False
def par32 (i j l : Nat) (ta : TA2) : TS2 := fun D ρ M => ta D.ex ρ M (kPar3 i j l ρ D.nx)
theorem pspar32 (i j l : Nat) {x y z : Str} {a b c : Expr} {ta : TA2} {px py pz pt : Pos} {kt k2 pt2} (hc : X.calm = true) (hN : X.N.Nodup) (ha : PA2 X W [a, b, c] ta) (hij : i ≠ j) (hil : i ≠ l) (hjl : j ≠ l) (hi : X.N[i]? = some x := by rfl) (hj : X.N[j]? = some y := by rfl) (hl : X.N[l]? = some z := by rfl)
    (hx : X.env.scope.names.lookup x = some .local := by rfl) (hy : X.env.scope.names.lookup y = some .local := by rfl) (hz : X.env.scope.names.lookup z = some .local := by rfl)
    (hw : swappedStores [.Tuple [.Name x px, .Name y py, .Name z pz] kt pt] (.Tuple [a, b, c] k2 pt2) X.env = pure (some [x, y, z]) := by rfl)
    (hs : swapsWithSole [.Tuple [.Name x px, .Name y py, .Name z pz] kt pt] (.Tuple [a, b, c] k2 pt2) pos.line X.env = pure false := by rfl) :
    PS2 X W (.Assign [.Tuple [.Name x px, .Name y py, .Name z pz] kt pt] (.Tuple [a, b, c] k2 pt2) pos) (par32 i j l ta) :=
  ps_imp (ps_par3 hc hN hi hj hl hij hil hjl hx hy hz ha hw hs) fun D σ H ⟨ρ, M, D2, rs, rm, q, er⟩ => ⟨ρ, M, _, D2.ex, rs, rm, q, fun vs H1 ds M1 s1 r1 m1 q1 => by
    match ds, q1, r1 with
    | [d, e, f], q1, r1 =>
      obtain ⟨v, w, rfl, r2, r3⟩ := r1
      obtain ⟨v', w', rfl, r4, r5⟩ := r3
      obtain ⟨v'', w'', rfl, r6, rfl⟩ := r5
      exact ⟨v, v', v'', rfl, er.nx _ _ H1 M1 s1 ((((s1.rels rs).set r2 i).set r4 j).set r6 l) m1 q1⟩, er.ex⟩

/-! ### o[i] = v -/
abbrev TSet2 := D → D → D → MP → (MP → Prop) → Prop
def MRel (K : PySem.W.Frag) (H : Hp) (M : MP) (Q2 : MP → Prop) (Q : Hp → Prop) : Prop := ∀ H' M', Stp K H M H' M' → RelM K M' H' → Q2 M' → Q H'
def SetRel (K : PySem.W.Frag) (r : TSet) (r2 : TSet2) : Prop := ∀ o i v do_ di dv H M Q Q2, Rep K H do_ o → Rep K H di i → Rep K H dv v → RelM K M H → r2 do_ di dv M Q2 → MRel K H M Q2 Q → r o i v H Q
def sub2 (te to ti : TE2) (r : TSet2) : TS2 := fun D ρ M => te D.ex ρ M fun v M1 => to D.ex ρ M1 fun o M2 => ti D.ex ρ M2 fun i M3 => r o i v M3 fun M4 => D.nx ρ M4
theorem pssub2 {o i : Expr} {to ti : TE2} {t : TSet} {r : TSet2} {pos' : Pos} (he : PE2 X W e te) (ho : PE2 X W o to) (hi : PE2 X W i ti) (hp : PSet X t) (hr : SetRel X.K t r)
    (hs : swapsWithSole [.Subscript o i pos'] e pos.line X.env = pure false := by rfl) (hw : swappedStores [.Subscript o i pos'] e X.env = pure none := by rfl)
    (h1 : (assignEach [.Subscript o i pos'] X.env).map (·.2) = [assign (.Subscript o i pos') X.env] := by rfl)
    (ha : ∀ v, assign (.Subscript o i pos') X.env v = (do
      let ov ← holding [v] (eval o X.env)
      let iv ← holding [v, ov] (eval i X.env)
      standAt pos'
      holding [v, ov, iv] (setItem ov iv v)
      release [v, ov, iv] []) := by intro _; rfl) : PS2 X W (.Assign [.Subscript o i pos'] e pos) (sub2 te to ti r) :=
  ps_imp (ps_asg he (pg_sub ho hi hp ha) hs hw h1) fun D σ H ⟨ρ, M, D2, rs, rm, q, er⟩ =>
    ⟨ρ, M, _, D2.ex, rs, rm, q, fun v H1 d M1 s1 r1 m1 q1 => ⟨ρ, M1, _, D2.ex, s1.rels rs, m1, q1, fun vo H2 do_ M2 s2 r2 m2 q2 => ⟨ρ, M2, _, D2.ex, (s1.trans s2).rels rs, m2, q2, fun vi H3 di M3 s3 r3 m3 q3 =>
      hr vo vi v do_ di d H3 M3 _ _ (s3.rep r2) r3 ((s2.trans s3).rep r1) m3 q3 fun H4 M4 s4 m4 q4 => er.nx ρ σ H4 M4 (((s1.trans s2).trans s3).trans s4) ((((s1.trans s2).trans s3).trans s4).rels rs) m4 q4, (er.ex.step s1).step s2⟩, er.ex.step s1⟩, er.ex⟩

/-! ### while -/
def while2 (c : TT2) (tb : TS2) : TS2 := fun D ρ M => ∃ I : Nat → St2 → MP → Prop, (∃ m, I m ρ M) ∧ ∀ m ρ M, I m ρ M →
  c D.ex ρ M fun b M1 => if b = true then tb { D with nx := fun ρ' M' => ∃ m', m' < m ∧ I m' ρ' M', ct := fun ρ' M' => ∃ m', m' < m ∧ I m' ρ' M', bk := D.nx } ρ M1 else D.nx ρ M1
theorem pswhile2 {c : Expr} {body : List Stmt} {tc : TT2} {tb : TS2} (hp : PassesOwn (model X.prog X.w) X.A X.env X.xe) (hc : PT2 X W c tc) (hb : PSs2 X W body tb) : PS2 X W (.While c body [] pos) (while2 tc tb) :=
  ps_imp (ps_while hp hc hb) fun D σ H ⟨ρ, M, D2, rs, rm, ⟨I, ⟨m, h0⟩, turn⟩, er⟩ => by
    refine ⟨fun m σ' H' => ∃ ρ' M', RelS X.K H' ρ' σ' ∧ RelM X.K M' H' ∧ Stp X.K H M H' M' ∧ I m ρ' M', ⟨m, ρ, M, rs, rm, .refl, h0⟩, ?_⟩
    rintro m σ' H' ⟨ρ', M', rs', rm', s', hI⟩
    refine ⟨ρ', M', _, D2.ex, rs', rm', turn m ρ' M' hI, fun b H1 M1 s1 m1 q1 => ?_, er.ex.step s'⟩
    cases b with
    | false => exact er.nx ρ' σ' H1 M1 (s'.trans s1) (s1.rels rs') m1 q1
    | true =>
      refine ⟨fun σ2 H2 => ∃ m', m' < m ∧ ∃ ρ' M', RelS X.K H2 ρ' σ2 ∧ RelM X.K M' H2 ∧ Stp X.K H M H2 M' ∧ I m' ρ' M', fun σ2 H2 h => h, ρ', M1, _, s1.rels rs', m1, q1, ?_⟩
      have go : SRel X.K H1 M1 (fun ρ' M' => ∃ m', m' < m ∧ I m' ρ' M') (fun σ2 H2 => ∃ m', m' < m ∧ ∃ ρ' M', RelS X.K H2 ρ' σ2 ∧ RelM X.K M' H2 ∧ Stp X.K H M H2 M' ∧ I m' ρ' M') := fun ρ2 σ2 H2 M2 s2 rs2 rm2 ⟨m', hm, hI'⟩ =>
        ⟨m', hm, ρ2, M2, rs2, rm2, (s'.trans s1).trans s2, hI'⟩
      exact ⟨go, (er.step (s'.trans s1)).rt, (er.step (s'.trans s1)).nx, go, (er.step (s'.trans s1)).ex⟩

/-! ### what is walked -/
abbrev TI2 := XK2 → St2 → MP → (List D → (MP → Prop) → MP → Prop) → Prop
structure WalkR (K : PySem.W.Frag) (H₀ : Hp) (J : It) (ds : List D) (G : MP → Prop) : Prop where
  goes : ∀ i H M, i < ds.length → Tk K H₀ H → RelM K M H → G M → J.go i H
  stops : ∀ H M, Tk K H₀ H → RelM K M H → G M → J.stop ds.length H
  yields : ∀ i H M x H', i < ds.length → Tk K H₀ H → RelM K M H → G M → J.yld i H x H' → ∃ d, ds[i]? = some d ∧ Rep K H' d x ∧ Stp K H M H' M ∧ RelM K M H'
def liftI (K : PySem.W.Frag) (W : WX) (wi : TI2) : TI := fun σ H R => ∃ ρ M R2 E2, RelS K H ρ σ ∧ RelM K M H ∧ wi E2 ρ M R2 ∧ XRel K W H M E2 ∧ ∀ J H' ds G M', Stp K H M H' M' → RelM K M' H' → WalkR K H' J ds G → R2 ds G M' → R J H'
abbrev PI2 (X : Cx) (W : WX) (tg it : Expr) (wi : TI2) : Prop := PI X tg it (liftI X.K W wi)
theorem pi_imp {tg it : Expr} {t t' : TI} (h : PI X tg it t) (hi : ∀ σ H R, t' σ H R → t σ H R) : PI X tg it t' := ⟨fun pins s σ H R I hw => h.run pins s σ H R I (hi _ _ _ hw)⟩
def for2 (wi : TI2) (g : TG2) (tb : TS2) : TS2 := fun D ρ M => wi D.ex ρ M fun ds G M1 => ∃ I : Nat → St2 → MP → Prop, I 0 ρ M1 ∧ (∀ i ρ M, i ≤ ds.length → I i ρ M → G M) ∧
  (∀ i d ρ M, ds[i]? = some d → I i ρ M → g d ρ M fun ρ' M' => tb { D with nx := I (i + 1), ct := I (i + 1), bk := D.nx } ρ' M') ∧ ∀ ρ M, I ds.length ρ M → D.nx ρ M
theorem psfor2 {tg iter : Expr} {body : List Stmt} {wi : TI2} {g : TG2} {sl : List Nat} {tb : TS2} (hp : PassesOwn (model X.prog X.w) X.A X.env X.xe) (hc : X.calm = true) (hi : PI2 X W tg iter wi) (hg : PG2 X tg sl g) (hb : PSs2 X W body tb) (hs : ∀ x, foldedSetIterable iter X.env x = pure x := by intro _; rfl) : PS2 X W (.For tg iter body [] pos) (for2 wi g tb) :=
  ps_imp (ps_for hp hc hi hg hb hs) fun D σ H ⟨ρ, M, D2, rs, rm, q, er⟩ => by
    refine ⟨ρ, M, _, D2.ex, rs, rm, q, er.ex, fun J H1 ds G M1 s1 m1 wr ⟨I, h0, hG, turn, fin⟩ => ?_⟩
    refine ⟨fun i m σ' H' => m = ds.length - i ∧ i ≤ ds.length ∧ ∃ ρ' M', RelS X.K H' ρ' σ' ∧ RelM X.K M' H' ∧ Stp X.K H1 M1 H' M' ∧ I i ρ' M', ⟨_, rfl, Nat.zero_le _, ρ, M1, s1.rels rs, m1, .refl, h0⟩, ?_⟩
    rintro i m σ' H' ⟨rfl, hi, ρ', M', rs', rm', s', hI⟩
    have hg' := hG i ρ' M' hi hI
    by_cases hlt : i < ds.length
    · refine .inr ⟨wr.goes i H' M' hlt s'.tk rm' hg', fun σ2 H2 => ∃ ρ' M', RelS X.K H2 ρ' σ2 ∧ RelM X.K M' H2 ∧ Stp X.K H1 M1 H2 M' ∧ I (i + 1) ρ' M', fun σ2 H2 h => ⟨_, by omega, rfl, hlt, h⟩, fun x H2 y => ?_⟩
      obtain ⟨d, hd, r2, s2, m2⟩ := wr.yields i H' M' x H2 hlt s'.tk rm' hg' y
      refine ⟨d, ρ', M', _, r2, s2.rels rs', m2, turn i d ρ' M' hd hI, fun ρ3 σ3 rs3 _ q3 => ⟨ρ3, M', _, rs3, m2, q3, ?_⟩⟩
      have go : SRel X.K H2 M' (I (i + 1)) (fun σ2 H2 => ∃ ρ' M', RelS X.K H2 ρ' σ2 ∧ RelM X.K M' H2 ∧ Stp X.K H1 M1 H2 M' ∧ I (i + 1) ρ' M') := fun ρ4 σ4 H4 M4 s4 rs4 rm4 h4 => ⟨ρ4, M4, rs4, rm4, (s'.trans s2).trans s4, h4⟩
      have e2 := er.step ((s1.trans s').trans s2)
      exact ⟨go, e2.rt, e2.nx, go, e2.ex⟩
    · have e : i = ds.length := by omega
      subst e
      exact .inl ⟨wr.stops H' M' s'.tk rm' hg', er.nx ρ' σ' H' M' (s1.trans s') rs' rm' (fin ρ' M' hI)⟩

/-! ### list comprehensions -/
abbrev E00 : XK2 := fun _ _ _ => False
abbrev W00 : WX := fun _ _ _ _ => False
theorem XRel.none {K : PySem.W.Frag} {W : WX} {H : Hp} {M : MP} : XRel K W H M E00 := fun _ _ _ _ _ _ _ _ z => z.elim
def lc2 (wi : TI2) (g : TG2) (tt : TT2) (te : TE2) (vs : List Nat) : TE2 := fun E ρ M Q => wi E ρ M fun ds G M1 => ds.length ≤ sizeLine ∧ ∃ I : Nat → List D → MP → Prop, I 0 [] M1 ∧ (∀ i acc M, i ≤ ds.length → I i acc M → G M) ∧
  (∀ i d acc M, ds[i]? = some d → I i acc M → g d (wipe2 ρ vs) M fun ρ' M' => tt E00 ρ' M' fun b M'' => if b = true then te E00 ρ' M'' fun y M3 => I (i + 1) (acc ++ [y]) M3 else I (i + 1) acc M'') ∧
  ∀ acc M, acc.length ≤ ds.length → I ds.length acc M → ∀ p, M p = none → Q (.ref p) (updM M p (.lst acc))
theorem Reps.snoc {K : PySem.W.Frag} {H : Hp} {d : D} {v : V} (r : Rep K H d v) {ds : List D} {vs : List V} (s : Reps K H ds vs) : Reps K H (ds ++ [d]) (vs ++ [v]) := Reps.append (show Reps K H [d] [v] from ⟨v, [], rfl, r, rfl⟩) s
/-- an object beside the store -/
theorem Stp.hid {K : PySem.W.Frag} {H H1 : Hp} {M M1 : MP} {p : Addr} {o : HO} (s : Stp K H M H1 M1) (hp : H p = none) (ht : NI H1 p) : Stp K H M (upd H1 p o) M1 :=
  ⟨fun a u e m => by rw [upd_ne (ne_of_none e hp)]; exact s.frm a u e m, fun a h => by
    by_cases q : a = p
    · subst q; rw [upd_same]; exact fun z => by cases z
    · rw [upd_ne q]; exact s.dom a h, s.new, s.tk.trans (sqT_upd ht)⟩
theorem RelM.hid {K : PySem.W.Frag} {H : Hp} {M : MP} {p : Addr} {o : HO} (r : RelM K M H) (hm : M p = none) (ht : NI H p) : RelM K M (upd H p o) := fun a u e => by
  have ne : a ≠ p := fun z => by subst z; rw [hm] at e; cases e
  exact RepO.mono (sqT_upd ht) (upd_ne ne) (r a u e)
theorem lst_notTup {H : Hp} {p : Addr} {vs : List V} (h : H p = some (.lst vs)) : NI H p := by
  refine ⟨fun ys => ?_, fun o ys z => ?_⟩
  · rintro (z | ⟨o, z⟩) <;> (rw [h] at z; cases z)
  · rw [h] at z; cases z
theorem RelS.hid {K : PySem.W.Frag} {H : Hp} {ρ : St2} {σ : L2.St} {p : Addr} {o : HO} (r : RelS K H ρ σ) (ht : NI H p) : RelS K (upd H p o) ρ σ := ⟨r.1, fun i d e => by
  obtain ⟨v, e1, r1⟩ := r.2 i d e
  exact ⟨v, e1, Rep.mono (sqT_upd ht) d v r1⟩⟩
theorem tk_new {K : PySem.W.Frag} {H : Hp} {p : Addr} {o : HO} (ht : NI H p) : Tk K H (upd H p o) := sqT_upd ht
theorem lc_lift {K : PySem.W.Frag} {wi : TI2} {g : TG2} {sl : List Nat} {tt : TT2} {te : TE2} {vs : List Nat} {σ : L2.St} {H : Hp} {ρ : St2} {M : MP} {Q2 : VK2} {E2 : XK2} {Q : VK} (hsl : ∀ i ∈ sl, i ∈ vs) (rs : RelS K H ρ σ) (rm : RelM K M H) (q : lc2 wi g tt te vs E2 ρ M Q2) (vr : VRel K H M Q2 Q) (xr : XRel K W H M E2) :
    tLc (liftI K W wi) (liftG K sl g) (liftT K W00 tt) (liftE K W00 te) vs σ H Q := by
  refine ⟨ρ, M, _, E2, rs, rm, q, xr, fun J H1 ds G M1 s1 m1 wr ⟨hz, I, h0, hG, turn, fin⟩ => ?_⟩
  intro D hD
  have hMD : M1 D = none := m1.free hD
  refine ⟨fun i m H' => m = ds.length - i ∧ i ≤ ds.length ∧ ∃ acc2 accV M', RelM K M' H' ∧ H' D = some (.lst accV) ∧ Reps K H' acc2 accV ∧ M' D = none ∧ I i acc2 M' ∧ Stp K H1 M1 H' M' ∧ acc2.length ≤ i, ⟨_, rfl, Nat.zero_le _, [], [], M1, m1.hid hMD (notRd_of_none hD), upd_same, rfl, hMD, h0, Stp.hid .refl hD (notRd_of_none hD), Nat.le_refl _⟩, ?_⟩
  rintro i m H' ⟨rfl, hi, acc2, accV, M', rm', hD', ra, hMD', hI, s', hl⟩
  have hg' := hG i acc2 M' hi hI
  by_cases hlt : i < ds.length
  · refine .inr ⟨wr.goes i H' M' hlt s'.tk rm' hg', fun H2 => ∃ acc2 accV M', RelM K M' H2 ∧ H2 D = some (.lst accV) ∧ Reps K H2 acc2 accV ∧ M' D = none ∧ I (i + 1) acc2 M' ∧ Stp K H1 M1 H2 M' ∧ acc2.length ≤ i + 1, fun H2 h => ⟨_, by omega, rfl, hlt, h⟩, fun x H2 y => ?_⟩
    obtain ⟨d, hd, r2, s2, m2⟩ := wr.yields i H' M' x H2 hlt s'.tk rm' hg' y
    have keepD : ∀ {H4 : Hp} {M4 : MP}, Stp K H' M' H4 M4 → H4 D = some (.lst accV) ∧ M4 D = none := fun {H4 M4} s4 => by
      refine ⟨s4.frm D _ hD' hMD', ?_⟩
      cases e : M4 D with
      | none => rfl
      | some o =>
        rcases s4.new D (by rw [e]; exact fun z => by cases z) with z | z
        · exact absurd hMD' z
        · rw [hD'] at z; cases z
    refine ⟨d, wipe2 ρ vs, M', _, r2, RelS.wipe (((s1.trans s').trans s2).rels rs) vs, m2, turn i d acc2 M' hd hI, fun ρ3 σ3 rs3 o3 q3 => ⟨?_, ?_⟩⟩
    · have e := o3 vs hsl
      rw [e]
      clear e q3
      have ww : ∀ (us : List Nat), (∀ i ∈ us, i ∈ vs) → L2.wipe (L2.wipe σ us) vs = L2.wipe σ vs := by
        intro us
        induction us with
        | nil => intro _; rfl
        | cons k us ih =>
          intro hk
          show L2.wipe ((L2.wipe σ us).set k none) vs = _
          rw [wipe_set (hk k List.mem_cons_self), ih (fun i hi => hk i (List.mem_cons_of_mem _ hi))]
      exact ww vs fun _ h => h
    · refine ⟨ρ3, M', _, E00, rs3, m2, q3, fun b H3 M3 s3 m3 q4 => ?_, .none⟩
      cases b with
      | false =>
        have st := s2.trans s3
        obtain ⟨k1, k2⟩ := keepD st
        exact ⟨acc2, accV, M3, m3, k1, st.reps ra, k2, q4, s'.trans st, by omega⟩
      | true =>
        refine ⟨ρ3, M3, _, E00, s3.rels rs3, m3, q4, fun v H4 dv M4 s4 r4 m4 q5 => ?_, .none⟩
        have st := (s2.trans s3).trans s4
        obtain ⟨k1, k2⟩ := keepD st
        have ra4 := st.reps ra
        have nt := lst_notTup k1
        refine ⟨accV, k1, ?_, acc2 ++ [dv], accV ++ [v], M4, m4.hid k2 nt, upd_same, Reps.mono (tk_new nt) _ _ (Reps.snoc r4 ra4), k2, q5, Stp.hid (s'.trans st) hD nt, by rw [List.length_append, List.length_singleton]; omega⟩
        rw [ra.length]; omega
  · have e : i = ds.length := by omega
    subst e
    refine .inl ⟨wr.stops H' M' s'.tk rm' hg', ?_⟩
    refine vr (.ref D) H' (.ref D) (updM M' D (.lst acc2)) ?_ rfl ?_ (fin acc2 M' hl hI D hMD')
    · have st := s1.trans s'
      have hD0 : H D = none := by
        cases e : H D with
        | none => rfl
        | some o => exact absurd hD (s1.dom D (by rw [e]; exact fun z => by cases z))
      exact ⟨st.frm, st.dom, fun a h => by
        by_cases z : a = D
        · subst z; exact .inr hD0
        · rw [updM_ne z] at h; exact st.new a h, st.tk⟩
    · intro a o ea
      by_cases z : a = D
      · subst z; rw [updM_same] at ea; cases ea; exact ⟨accV, hD', ra⟩
      · rw [updM_ne z] at ea; exact rm' a o ea
theorem plc2 {elt tg iter : Expr} {ifs : List Expr} {scope : Scope} {own : List (Str × Nat)} {vs : List Nat} {wi : TI2} {g : TG2} {sl : List Nat} {tt : TT2} {te : TE2} (hc : X.calm = true) (hN : X.N.Nodup) (hi : PI2 X W tg iter wi) (ok : BlkOk X.N X.env.scope scope own)
    (hg : ∀ (s : Shared) (H : Hp) (C : Addr) (cl : List (Str × Addr)) (fp : List Addr), PG2 (X.blk s H scope (compEnvC scope cl C X.env) fp) tg sl g) (ht : ∀ (s : Shared) (H : Hp) (C : Addr) (cl : List (Str × Addr)) (fp : List Addr), PTs (X.blk s H scope (compEnvC scope cl C X.env) fp) ifs (liftT X.K W00 tt))
    (he : ∀ (s : Shared) (H : Hp) (C : Addr) (cl : List (Str × Addr)) (fp : List Addr), PE2 (X.blk s H scope (compEnvC scope cl C X.env) fp) W00 elt te) (hsl : ∀ i ∈ sl, i ∈ vs) (hvs : own.map (·.2) = vs := by rfl) (hs : ∀ x, foldedSetIterable iter X.env x = pure x := by intro _; rfl) :
    PE2 X W (.ListComp elt [⟨tg, iter, ifs, 0⟩] scope pos) (lc2 wi g tt te vs) := by
  subst hvs
  exact pe_imp (pe_lc hc hN hi ok hg ht he hs) fun σ H Q ⟨ρ, M, Q2, E2, rs, rm, q, vr, xr⟩ => lc_lift hsl rs rm q vr xr
theorem pssetlc2 (i : Nat) {y : Str} {py : Pos} {elt tg iter : Expr} {ifs : List Expr} {scope : Scope} {own : List (Str × Nat)} {vs : List Nat} {spos : Pos} {wi : TI2} {g : TG2} {sl : List Nat} {tt : TT2} {te : TE2} (hc : X.calm = true) (hN : X.N.Nodup) (hi : PI2 X W tg iter wi) (ok : BlkOk X.N X.env.scope scope own)
    (hg : ∀ (s : Shared) (H : Hp) (C : Addr) (cl : List (Str × Addr)) (fp : List Addr), PG2 (X.blk s H scope (compEnvC scope cl C X.env) fp) tg sl g) (ht : ∀ (s : Shared) (H : Hp) (C : Addr) (cl : List (Str × Addr)) (fp : List Addr), PTs (X.blk s H scope (compEnvC scope cl C X.env) fp) ifs (liftT X.K W00 tt))
    (he : ∀ (s : Shared) (H : Hp) (C : Addr) (cl : List (Str × Addr)) (fp : List Addr), PE2 (X.blk s H scope (compEnvC scope cl C X.env) fp) W00 elt te) (hsl : ∀ i ∈ sl, i ∈ vs)
    (hsw : swapsWith (.ListComp elt [⟨tg, iter, ifs, 0⟩] scope pos) (some (.Name y py)) spos.line X.env = pure true) (hy : X.N[i]? = some y := by rfl) (hyl : X.env.scope.names.lookup y = some .local := by rfl) (hvs : own.map (·.2) = vs := by rfl) (hs : ∀ x, foldedSetIterable iter X.env x = pure x := by intro _; rfl) :
    PS2 X W (.Assign [.Name y py] (.ListComp elt [⟨tg, iter, ifs, 0⟩] scope pos) spos) (asg2 (lc2 wi g tt te vs) (gn2 i)) := by
  subst hvs
  exact ps_imp (ps_setLc hc hN hy hyl hsw hi ok hg ht he hs) fun D σ H ⟨ρ, M, D2, rs, rm, q, er⟩ =>
    lc_lift (Q := fun x H1 => gName i x σ H1 D.nx) hsl rs rm q (fun v H1 d M1 s1 r1 m1 q1 => er.nx _ _ H1 M1 s1 ((s1.rels rs).set r1 i) m1 q1) er.ex
def yes2 : TT2 := fun _ _ M Q => Q true M
theorem ptsnil2 : PTs X [] (liftT X.K W yes2) := ⟨fun pins s σ H Q I ⟨ρ, M, Q2, E2, rs, rm, q, vr, xr⟩ => pts_nil.run pins s σ H Q I (vr true H M .refl rm q)⟩
theorem ptsone2 {c : Expr} {t : TT2} (h : PT2 X W c t) : PTs X [c] (liftT X.K W t) := pts_one h

/-! ### a def's body -/
def start2 (N : List Str) (ds : List D) : St2 := ds.map some ++ List.replicate (N.length - ds.length) none
theorem RelS.start {K : PySem.W.Frag} {H : Hp} {N : List Str} {ds : List D} {vs : List V} (r : Reps K H ds vs) : RelS K H (start2 N ds) (L2.start N vs) := by
  have aux : ∀ (ds : List D) (vs : List V) (m : Nat), Reps K H ds vs → RelS K H (ds.map some ++ List.replicate m none) (vs.map some ++ List.replicate m none) := by
    intro ds
    induction ds with
    | nil =>
      intro vs m r
      simp only [Reps] at r
      subst r
      refine ⟨by simp, fun i d h => ?_⟩
      simp only [List.map_nil, List.nil_append, List.getElem?_replicate] at h
      split at h <;> cases h
    | cons d ds ih =>
      intro vs m r
      simp only [Reps] at r
      obtain ⟨v, q, rfl, r1, r2⟩ := r
      have z := ih q m r2
      refine ⟨by simpa using z.1, fun i e h => ?_⟩
      cases i with
      | zero =>
        simp at h
        subst h
        exact ⟨v, by simp, r1⟩
      | succ i =>
        obtain ⟨w, e1, r3⟩ := z.2 i e (by simpa using h)
        exact ⟨w, by simpa using e1, r3⟩
  unfold start2 L2.start
  rw [r.length]
  exact aux ds vs _ r
/-- a smaller knowledge -/
def SubM (A B : MP) : Prop := ∀ a o, A a = some o → B a = some o
theorem SubM.refl (A : MP) : SubM A A := fun _ _ h => h
theorem SubM.trans {A B C : MP} (h : SubM A B) (k : SubM B C) : SubM A C := fun a o e => k a o (h a o e)
theorem SubM.upd {A B : MP} {p : Addr} {o : MO} (h : SubM A B) (hp : A p = none) : SubM A (updM B p o) := fun a u e => by
  rw [updM_ne (fun z => by rw [z, hp] at e; cases e)]; exact h a u e
theorem SubM.upd2 {A B : MP} {p : Addr} {o : MO} (h : SubM A B) : SubM (updM A p o) (updM B p o) := fun a u e => by
  by_cases q : a = p
  · subst q; rw [updM_same] at e ⊢; exact e
  · rw [updM_ne q] at e ⊢; exact h a u e
theorem SubM.put {A B : MP} {p : Addr} {o : MO} (h : SubM A B) (hp : B p = some o) : SubM (updM A p o) B := fun a u e => by
  by_cases q : a = p
  · subst q; rw [updM_same] at e; rw [hp]; exact e
  · rw [updM_ne q] at e; exact h a u e
theorem SubM.none {A B : MP} {p : Addr} (h : SubM A B) (hp : B p = none) : A p = none := by
  cases e : A p with
  | none => rfl
  | some o => rw [h p o e] at hp; cases hp
/-- a def's ends: at each the knowledge may be made smaller -/
abbrev endsOf (Q : VK2) (E : Value → MP → Prop) : Ends2 := { nx := fun _ M' => ∃ M2, SubM M2 M' ∧ Q .non M2, rt := fun d M' => ∃ M2, SubM M2 M' ∧ Q d M2, bk := fun _ _ => False, ct := fun _ _ => False, ex := fun c _ M' => ∃ M2, SubM M2 M' ∧ E c M2 }
abbrev WD (E : XK) : WX := fun cls d _ H => E cls d H
theorem fnok2 {P : Program} {w : World} {K : PySem.W.Frag} {mg : Str → Option Value} {base : Heap} {x qual : Str} {st : Stmt} {f : Addr} {fd : FuncData} {N ps : List Str} {k : Nat} {sp : Sp2} {t : TS2} (F : Fun K x qual st f fd) (S : FnScope N ps (defScope st))
    (len : ∀ ds M Q E, sp ds M Q E → ds.length = ps.length)
    (hb : ∀ (cdv : Value) (A : Around) (outer : List Env) (s : Shared) (H : Hp) (E : XK), Room k (A.deeper (envOfC qual (defScope st) s.heap.objs.size f cdv)) → PSs2 (cxOf (L2.CX P w) P w K mg base N qual (defScope st) f cdv A outer s H E) (WD E) (defBody st) t)
    (hv : ∀ ds M Q E, sp ds M Q E → t (endsOf Q E) (start2 N ds) M) : FnOk P w K mg base (L2.CX P w) (k + 1) f fd ps (spOf K sp) := by
  refine F.okX S (fun vs H Q E h => ?_) fun cdv A outer s H vs Q E hr h => ?_
  · obtain ⟨ds, M, Q2, E2, r, _, h, _⟩ := h
    rw [r.length]
    exact len ds M Q2 E2 h
  · obtain ⟨ds, M, Q2, E2, r, rm, h, vr, er⟩ := h
    refine ⟨_, hb cdv A outer s H E hr, start2 N ds, M, _, RelS.start r, rm, hv ds M Q2 E2 h, ?_⟩
    exact ⟨fun ρ σ H' M' s' _ m' ⟨M2, sb, q'⟩ => vr .non H' .non M2 (s'.drop sb) rfl (m'.drop sb) q', fun v H' d M' s' r' m' ⟨M2, sb, q'⟩ => vr v H' d M2 (s'.drop sb) r' (m'.drop sb) q', fun _ _ _ _ _ _ _ z => z.elim, fun _ _ _ _ _ _ _ z => z.elim, fun c ρ σ H' M' s' _ m' ⟨M2, sb, e'⟩ => er c H' M2 (s'.drop sb) (m'.drop sb) e'⟩
end
end N2


namespace N2
open PySem PySem.Spec PyProof.Rows L2

/-! ### data as the library's == has it -/
mutual
def pyD : D → PyData
  | .non => .none
  | .bl b => .bool b
  | .int i => .int i
  | .str x => .str x
  | .tup xs => .tuple (pyDs xs)
  | .ref _ => .none
  | .ty _ => .none
  | .scr _ => .none
def pyDs : List D → List PyData
  | [] => []
  | d :: ds => pyD d :: pyDs ds
end
mutual
def pureD : Nat → D → Bool
  | _, .non => true
  | _, .bl _ => true
  | _, .int _ => true
  | _, .str x => PyData.strOk x
  | 0, .tup _ => false
  | n + 1, .tup xs => pureDs n xs
  | _, .ref _ => false
  | _, .ty _ => false
  | _, .scr _ => false
def pureDs : Nat → List D → Bool
  | _, [] => true
  | n, d :: ds => pureD n d && pureDs n ds
end
mutual
theorem pure_can : ∀ (n : Nat) (d : D), pureD n d = true → (pyD d).canLay0 = true
  | _, .non, _ => by simp [pyD, PyData.canLay0]
  | _, .bl _, _ => by simp [pyD, PyData.canLay0]
  | _, .int _, _ => by simp [pyD, PyData.canLay0]
  | _, .str x, h => by simp only [pyD, PyData.canLay0]; simpa [pureD] using h
  | 0, .tup _, h => by simp [pureD] at h
  | n + 1, .tup xs, h => by simp only [pyD, PyData.canLay0]; exact pure_cans n xs (by simpa [pureD] using h)
  | _, .ref _, h => by simp [pureD] at h
  | _, .ty _, h => by simp [pureD] at h
  | _, .scr _, h => by simp [pureD] at h
theorem pure_cans : ∀ (n : Nat) (ds : List D), pureDs n ds = true → PyData.canLayAll0 (pyDs ds) = true
  | _, [], _ => by simp [pyDs, PyData.canLayAll0]
  | n, d :: ds, h => by
    simp only [pureDs, Bool.and_eq_true] at h
    simp only [pyDs, PyData.canLayAll0, Bool.and_eq_true]
    exact ⟨pure_can n d h.1, pure_cans n ds h.2⟩
end
mutual
theorem pure_depth : ∀ (n : Nat) (d : D), pureD n d = true → (pyD d).depth ≤ n
  | _, .non, _ => by simp [pyD, PyData.depth]
  | _, .bl _, _ => by simp [pyD, PyData.depth]
  | _, .int _, _ => by simp [pyD, PyData.depth]
  | _, .str x, h => by simp [pyD, PyData.depth]
  | 0, .tup _, h => by simp [pureD] at h
  | n + 1, .tup xs, h => by
    simp only [pyD, PyData.depth]
    have := pure_depths n xs (by simpa [pureD] using h)
    omega
  | _, .ref _, h => by simp [pureD] at h
  | _, .ty _, h => by simp [pureD] at h
  | _, .scr _, h => by simp [pureD] at h
theorem pure_depths : ∀ (n : Nat) (ds : List D), pureDs n ds = true → PyData.depthAll (pyDs ds) ≤ n
  | _, [], _ => by simp [pyDs, PyData.depthAll]
  | n, d :: ds, h => by
    simp only [pureDs, Bool.and_eq_true] at h
    simp only [pyDs, PyData.depthAll]
    have a := pure_depth n d h.1
    have b := pure_depths n ds h.2
    omega
end
theorem pure_shaped {n : Nat} (hn : n ≤ 64) {d : D} (h : pureD n d = true) : SeqAt.shaped (pyD d) = true := by
  unfold SeqAt.shaped
  rw [pure_can n d h, decide_eq_true (Nat.le_trans (pure_depth n d h) hn)]; rfl
theorem pures_shaped {n : Nat} (hn : n + 1 ≤ 64) {ds : List D} (h : pureDs n ds = true) : SeqAt.shaped (.list (pyDs ds)) = true := by
  unfold SeqAt.shaped
  have b := pure_depths n ds h
  rw [show (PyData.list (pyDs ds)).canLay0 = PyData.canLayAll0 (pyDs ds) by simp only [PyData.canLay0], pure_cans n ds h, decide_eq_true (by simp only [PyData.depth]; omega)]; rfl
mutual
def IsP (M : MP) : PyData → D → Prop
  | .none, d => d = .non
  | .bool b, d => d = .bl b
  | .int i, d => d = .int i
  | .str x, d => d = .str x
  | .tuple ps, d => ∃ ds, d = .tup ds ∧ IsPs M ps ds
  | .list ps, d => ∃ a ds, d = .ref a ∧ M a = some (.lst ds) ∧ IsPs M ps ds
  | .dict _, _ => False
def IsPs (M : MP) : List PyData → List D → Prop
  | [], ds => ds = []
  | p :: ps, ds => ∃ d r, ds = d :: r ∧ IsP M p d ∧ IsPs M ps r
end
mutual
theorem pure_isP {M : MP} : ∀ (n : Nat) (d : D), pureD n d = true → IsP M (pyD d) d
  | _, .non, _ => by simp [pyD, IsP]
  | _, .bl _, _ => by simp [pyD, IsP]
  | _, .int _, _ => by simp [pyD, IsP]
  | _, .str x, h => by simp [pyD, IsP]
  | 0, .tup _, h => by simp [pureD] at h
  | n + 1, .tup xs, h => by simp only [pyD, IsP]; exact ⟨xs, rfl, pure_isPs n xs (by simpa [pureD] using h)⟩
  | _, .ref _, h => by simp [pureD] at h
  | _, .ty _, h => by simp [pureD] at h
  | _, .scr _, h => by simp [pureD] at h
theorem pure_isPs {M : MP} : ∀ (n : Nat) (ds : List D), pureDs n ds = true → IsPs M (pyDs ds) ds
  | _, [], _ => by simp [pyDs, IsPs]
  | n, d :: ds, h => by
    simp only [pureDs, Bool.and_eq_true] at h
    simp only [pyDs, IsPs]
    exact ⟨d, ds, rfl, pure_isP n d h.1, pure_isPs n ds h.2⟩
end
section
variable {K : PySem.W.Frag} {H : Hp} {M : MP}
mutual
theorem dp_of (rm : RelM K M H) : ∀ (p : PyData) (d : D) (v : V), IsP M p d → Rep K H d v → Dp K H v p
  | .none, d, v, h, r => by simp only [IsP] at h; subst h; simp only [Rep] at r; subst r; exact .non
  | .bool b, d, v, h, r => by simp only [IsP] at h; subst h; simp only [Rep] at r; subst r; exact .bl b
  | .int b, d, v, h, r => by simp only [IsP] at h; subst h; simp only [Rep] at r; subst r; exact .int b
  | .str b, d, v, h, r => by simp only [IsP] at h; subst h; simp only [Rep] at r; subst r; exact .str b
  | .tuple ps, d, v, h, r => by
    simp only [IsP] at h
    obtain ⟨ds, rfl, hs⟩ := h
    simp only [Rep] at r
    obtain ⟨a, vs, rfl, t, rs⟩ := r
    exact .tup t (dps_of rm ps ds vs hs rs)
  | .list ps, d, v, h, r => by
    simp only [IsP] at h
    obtain ⟨a, ds, rfl, hm, hs⟩ := h
    simp only [Rep] at r
    subst r
    obtain ⟨vs, e, rs⟩ := rm _ _ hm
    exact .lst (.of e) (dps_of rm ps ds vs hs rs)
  | .dict _, d, v, h, r => by simp only [IsP] at h
theorem dps_of (rm : RelM K M H) : ∀ (ps : List PyData) (ds : List D) (vs : List V), IsPs M ps ds → Reps K H ds vs → DpAll K H vs ps
  | [], ds, vs, h, r => by simp only [IsPs] at h; subst h; simp only [Reps] at r; subst r; exact .nil
  | p :: ps, ds, vs, h, r => by
    simp only [IsPs] at h
    obtain ⟨d, q, rfl, h1, h2⟩ := h
    simp only [Reps] at r
    obtain ⟨v, w, rfl, r1, r2⟩ := r
    exact .cons (dp_of rm p d v h1 r1) (dps_of rm ps q w h2 r2)
end
end

/-! ### arithmetic -/
def bAdd : R22 := fun x y M Q => match x, y with
  | .int i, .int j => Q (.int (i + j)) M
  | .str a, .str b => a.length + b.length ≤ sizeLine ∧ Q (.str (a ++ b)) M
  | .tup xs, .tup ys => xs.length + ys.length ≤ sizeLine ∧ Q (.tup (xs ++ ys)) M
  | .ref a, .ref b => ∃ xs ys, M a = some (.lst xs) ∧ M b = some (.lst ys) ∧ xs.length + ys.length ≤ sizeLine ∧ ∀ p, M p = none → Q (.ref p) (updM M p (.lst (xs ++ ys)))
  | _, _ => False
def rAddA (K : PySem.W.Frag) : R2 := fun x y H Q => (∃ i j, x = .int i ∧ y = .int j ∧ Q (.int (i + j)) H) ∨ (∃ i j, x = .str i ∧ y = .str j ∧ i.length + j.length ≤ sizeLine ∧ Q (.str (i ++ j)) H) ∨ rCatA K x y H Q ∨ rCat x y H Q
section
variable {X : Cx} {K : PySem.W.Frag}
theorem op_addA : OpR X (binaryOp .Add) (rAddA X.K) := OpR.or op_add (OpR.or op_add_str (OpR.or op_catA op_cat))
theorem addRel : OpRel K (rAddA K) bAdd := by
  intro x y d e H M Q Q2 rx ry rm h vr
  match d, e, h with
  | .int i, .int j, h => cases rx; cases ry; exact .inl ⟨i, j, rfl, rfl, vr _ H (.int (i + j)) M .refl rfl rm h⟩
  | .str a, .str b, h => cases rx; cases ry; exact .inr (.inl ⟨a, b, rfl, rfl, h.1, vr _ H (.str (a ++ b)) M .refl rfl rm h.2⟩)
  | .tup xs, .tup ys, h =>
    simp only [Rep] at rx ry
    obtain ⟨a, vs, rfl, ta, ra⟩ := rx
    obtain ⟨b, ws, rfl, tb, rb⟩ := ry
    refine .inr (.inr (.inl ⟨a, b, vs, ws, rfl, rfl, ta, tb, by rw [ra.length, rb.length]; exact h.1, fun e => ?_, fun _ e => ?_, fun _ _ p hp => ?_⟩))
    · subst e
      have : xs = [] := by cases xs with | nil => rfl | cons d ds => simp only [Reps] at ra; obtain ⟨v, q, z, _⟩ := ra; cases z
      subst this
      exact vr _ H (.tup ys) M .refl ⟨b, ws, rfl, tb, rb⟩ rm h.2
    · subst e
      have : ys = [] := by cases ys with | nil => rfl | cons d ds => simp only [Reps] at rb; obtain ⟨v, q, z, _⟩ := rb; cases z
      subst this
      exact vr _ H (.tup xs) M .refl ⟨a, vs, rfl, ta, ra⟩ rm (by rw [← List.append_nil xs]; exact h.2)
    · exact vr.tup rm (Reps.append rb ra) h.2 hp
  | .ref a, .ref b, h =>
    cases rx; cases ry
    obtain ⟨xs, ys, ha, hb, hz, q⟩ := h
    obtain ⟨vs, e1, r1⟩ := rm _ _ ha
    obtain ⟨ws, e2, r2⟩ := rm _ _ hb
    exact .inr (.inr (.inr ⟨a, b, vs, ws, rfl, rfl, e1, e2, by rw [r1.length, r2.length]; exact hz, fun p hp => vr.lst rm (Reps.append r2 r1) q hp⟩))
def bInt2 (C : Int → Int → Prop) (g : Int → Int → Int) : R22 := fun x y M Q => match x, y with
  | .int i, .int j => C i j ∧ Q (.int (g i j)) M
  | _, _ => False
theorem intRel {C : Int → Int → Prop} {g : Int → Int → Int} : OpRel K (rI C fun i j => .int (g i j)) (bInt2 C g) := by
  intro x y d e H M Q Q2 rx ry rm h vr
  match d, e, h with
  | .int i, .int j, h => cases rx; cases ry; exact ⟨i, j, rfl, rfl, h.1, vr _ H (.int (g i j)) M .refl rfl rm h.2⟩
theorem op_subC : OpR X (binaryOp .Sub) (rI (fun _ _ => True) fun i j => .int (i - j)) := fun pins s σ H x y v u Q I rx ry ⟨i, j, e1, e2, _, q⟩ => op_sub pins s σ H x y v u Q I rx ry ⟨i, j, e1, e2, q⟩
def bSub : R22 := bInt2 (fun _ _ => True) fun i j => i - j
def bMod : R22 := bInt2 (fun _ j => 0 < j) fun i j => i % j
def bFdiv : R22 := bInt2 CDivW fun i j => i / j
/-- a power whose bits are told -/
def CPowW (i j : Int) : Prop := 0 ≤ j ∧ (Builtin.Int.intBits i : Int) * j ≤ 2 ^ 27
theorem op_powW : OpR X (binaryOp .Pow) (rI CPowW fun i j => .int (i ^ j.toNat)) := opI fun _ _ _ _ _ _ _ hc q => pow_int hc.1 hc.2 q
theorem cpow {i j : Int} (k : Nat) (h0 : 0 ≤ j) (h : i.natAbs < 2 ^ k) (h2 : (k : Int) * j ≤ 2 ^ 27) : CPowW i j := by
  refine ⟨h0, ?_⟩
  have := intBits_le h
  have : (Builtin.Int.intBits i : Int) * j ≤ (k : Int) * j := Int.mul_le_mul_of_nonneg_right (by omega) h0
  omega
def bPow : R22 := bInt2 CPowW fun i j => i ^ j.toNat
/-- a product: of numbers; a list some times -/
def CMulA (i j : Int) : Prop := CMul i j ∨ CMulW i j
def bMul : R22 := fun x y M Q => match x, y with
  | .int i, .int j => CMulA i j ∧ Q (.int (i * j)) M
  | .ref a, .int k => ∃ xs, M a = some (.lst xs) ∧ 0 ≤ k ∧ k < 2 ^ 63 ∧ xs.length * k.toNat ≤ sizeLine ∧ ∀ p, M p = none → Q (.ref p) (updM M p (.lst (List.replicate k.toNat xs).flatten))
  | _, _ => False
theorem op_mulA : OpR X (binaryOp .Mult) (fun x y H Q => rI CMul (fun i j => .int (i * j)) x y H Q ∨ rI CMulW (fun i j => .int (i * j)) x y H Q ∨ rRep x y H Q) := OpR.or op_mul (OpR.or op_mulW op_rep)
end
end N2


namespace N2
open PySem PySem.Spec PyProof.Rows L2
section
variable {X : Cx} {K : PySem.W.Frag} {H : Hp} {M : MP}
theorem reps_flatten : ∀ (n : Nat) {ds : List D} {vs : List V}, Reps K H ds vs → Reps K H (List.replicate n ds).flatten (List.replicate n vs).flatten
  | 0, _, _, _ => rfl
  | n + 1, ds, vs, r => by
    rw [List.replicate_succ, List.replicate_succ, List.flatten_cons, List.flatten_cons]
    exact Reps.append (reps_flatten n r) r
theorem mulRel : OpRel K (fun x y H Q => rI CMul (fun i j => .int (i * j)) x y H Q ∨ rI CMulW (fun i j => .int (i * j)) x y H Q ∨ rRep x y H Q) bMul := by
  intro x y d e H M Q Q2 rx ry rm h vr
  match d, e, h with
  | .int i, .int j, h =>
    cases rx; cases ry
    rcases h.1 with c | c
    · exact .inl ⟨i, j, rfl, rfl, c, vr _ H (.int (i * j)) M .refl rfl rm h.2⟩
    · exact .inr (.inl ⟨i, j, rfl, rfl, c, vr _ H (.int (i * j)) M .refl rfl rm h.2⟩)
  | .ref a, .int k, h =>
    cases rx; cases ry
    obtain ⟨xs, ha, h0, h1, hz, q⟩ := h
    obtain ⟨vs, e1, r1⟩ := rm _ _ ha
    exact .inr (.inr ⟨a, k, vs, rfl, rfl, e1, by omega, h1, by rw [r1.length]; exact hz, fun p hp => vr.lst rm (reps_flatten k.toNat r1) q hp⟩)
/-! ### == and != -/
def scalD : D → D → Option Bool
  | .non, .non => some true | .non, .int _ => some false | .int _, .non => some false | .non, .bl _ => some false | .bl _, .non => some false | .non, .str _ => some false | .str _, .non => some false
  | .int i, .int j => some (i == j) | .bl a, .bl b => some (a == b) | .str a, .str b => some (a == b)
  | .int _, .str _ => some false | .str _, .int _ => some false | .bl _, .str _ => some false | .str _, .bl _ => some false
  | _, _ => none
theorem scal_of {x y : V} {d e : D} {b : Bool} (rx : Rep K H d x) (ry : Rep K H e y) (h : scalD d e = some b) : scal x y = true ∧ decide (x = y) = b := by
  cases d <;> cases e <;> simp only [scalD] at h <;> first | (cases h; done) | skip
  all_goals
    simp only [Rep] at rx ry
    subst rx ry
    cases h
  all_goals first
    | exact ⟨rfl, dec_int⟩
    | exact ⟨rfl, dec_bl⟩
    | exact ⟨rfl, dec_str⟩
    | exact ⟨rfl, by simp⟩
def bEq : R22 := fun x y M Q => match scalD x y with
  | some b => Q (.bl b) M
  | none => ∃ p q, IsP M p x ∧ IsP M q y ∧ SeqAt.shaped p = true ∧ SeqAt.shaped q = true ∧ Q (.bl (PyData.eqv p q)) M
def bNe : R22 := fun x y M Q => bEq x y M fun v M' => match v with | .bl b => Q (.bl (!b)) M' | _ => False
theorem eqRel : OpRel K (fun x y H Q => rEq x y H Q ∨ rEqD K x y H Q) bEq := by
  intro x y d e H M Q Q2 rx ry rm h vr
  unfold bEq at h
  cases hs : scalD d e with
  | some b =>
    rw [hs] at h
    obtain ⟨h1, h2⟩ := scal_of rx ry hs
    exact .inl ⟨h1, by rw [h2]; exact vr _ H (.bl b) M .refl rfl rm h⟩
  | none =>
    rw [hs] at h
    obtain ⟨p, q, hp, hq, s1, s2, h⟩ := h
    exact .inr ⟨p, q, dp_of rm p d x hp rx, dp_of rm q e y hq ry, s1, s2, vr _ H (.bl _) M .refl rfl rm h⟩
theorem neRel : OpRel K (fun x y H Q => rNe x y H Q ∨ rNeD K x y H Q) bNe := by
  intro x y d e H M Q Q2 rx ry rm h vr
  unfold bNe bEq at h
  cases hs : scalD d e with
  | some b =>
    rw [hs] at h
    obtain ⟨h1, h2⟩ := scal_of rx ry hs
    exact .inl ⟨h1, by rw [h2]; exact vr _ H (.bl (!b)) M .refl rfl rm h⟩
  | none =>
    rw [hs] at h
    obtain ⟨p, q, hp, hq, s1, s2, h⟩ := h
    exact .inr ⟨p, q, dp_of rm p d x hp rx, dp_of rm q e y hq ry, s1, s2, vr _ H (.bl _) M .refl rfl rm h⟩
theorem op_eqA (hu : X.A.units + 64 < cLine) : OpR X (compareOp .Eq) (fun x y H Q => rEq x y H Q ∨ rEqD X.K x y H Q) := OpR.or op_eq (op_eqD hu)
theorem op_neA (hu : X.A.units + 64 < cLine) : OpR X (compareOp .NotEq) (fun x y H Q => rNe x y H Q ∨ rNeD X.K x y H Q) := OpR.or op_ne (op_neD hu)

/-! ### order -/
def bOrd (p : Int → Int → Bool) (q : List Nat → List Nat → Bool) : R22 := fun x y M Q => match x, y with
  | .int i, .int j => Q (.bl (p i j)) M
  | .str i, .str j => Q (.bl (q i.cps.toList j.cps.toList)) M
  | _, _ => False
theorem ordRel {p : Int → Int → Bool} {q : List Nat → List Nat → Bool} : OpRel K (fun x y H Q => rI0 (fun i j => .bl (p i j)) x y H Q ∨ ∃ i j, x = .str i ∧ y = .str j ∧ Q (.bl (q i.cps.toList j.cps.toList)) H) (bOrd p q) := by
  intro x y d e H M Q Q2 rx ry rm h vr
  match d, e, h with
  | .int i, .int j, h => cases rx; cases ry; exact .inl ⟨i, j, rfl, rfl, vr _ H (.bl _) M .refl rfl rm h⟩
  | .str i, .str j, h => cases rx; cases ry; exact .inr ⟨i, j, rfl, rfl, vr _ H (.bl _) M .refl rfl rm h⟩
abbrev bLt : R22 := bOrd (fun i j => decide (i < j)) fun i j => decide (i < j)
abbrev bLe : R22 := bOrd (fun i j => decide (i ≤ j)) fun i j => !decide (j < i)
abbrev bGt : R22 := bOrd (fun i j => decide (j < i)) fun i j => decide (j < i)
abbrev bGe : R22 := bOrd (fun i j => decide (j ≤ i)) fun i j => !decide (i < j)
theorem op_ltA : OpR X (compareOp .Lt) (fun x y H Q => rI0 (fun i j => .bl (decide (i < j))) x y H Q ∨ ∃ i j, x = .str i ∧ y = .str j ∧ Q (.bl (decide (i.cps.toList < j.cps.toList))) H) := OpR.or op_lt op_lt_str
theorem op_leA : OpR X (compareOp .LtE) (fun x y H Q => rI0 (fun i j => .bl (decide (i ≤ j))) x y H Q ∨ ∃ i j, x = .str i ∧ y = .str j ∧ Q (.bl (!decide (j.cps.toList < i.cps.toList))) H) := OpR.or op_le op_le_str
theorem op_gtA : OpR X (compareOp .Gt) (fun x y H Q => rI0 (fun i j => .bl (decide (j < i))) x y H Q ∨ ∃ i j, x = .str i ∧ y = .str j ∧ Q (.bl (decide (j.cps.toList < i.cps.toList))) H) := OpR.or op_gt op_gt_str
theorem op_geA : OpR X (compareOp .GtE) (fun x y H Q => rI0 (fun i j => .bl (decide (j ≤ i))) x y H Q ∨ ∃ i j, x = .str i ∧ y = .str j ∧ Q (.bl (!decide (i.cps.toList < j.cps.toList))) H) := OpR.or op_ge op_ge_str

/-! ### is None -/
def isNonD : D → Bool | .non => true | _ => false
theorem isNon_of {x : V} {d : D} (r : Rep K H d x) : decide (x = .non) = isNonD d := by
  cases d <;> simp only [Rep] at r
  case tup => obtain ⟨a, vs, rfl, _⟩ := r; rfl
  case scr => obtain ⟨a, vs, rfl, _⟩ := r; rfl
  all_goals (subst r; rfl)
def bIs : R22 := fun x y M Q => match y with | .non => Q (.bl (isNonD x)) M | _ => False
def bIsNot : R22 := fun x y M Q => match y with | .non => Q (.bl (!isNonD x)) M | _ => False
theorem isRel : OpRel K (fun x y H Q => y = .non ∧ Q (.bl (decide (x = .non))) H) bIs := by
  intro x y d e H M Q Q2 rx ry rm h vr
  match e, h with
  | .non, h => cases ry; exact ⟨rfl, by rw [isNon_of rx]; exact vr _ H (.bl _) M .refl rfl rm h⟩
theorem isNotRel : OpRel K (fun x y H Q => y = .non ∧ Q (.bl (!decide (x = .non))) H) bIsNot := by
  intro x y d e H M Q Q2 rx ry rm h vr
  match e, h with
  | .non, h => cases ry; exact ⟨rfl, by rw [isNon_of rx]; exact vr _ H (.bl _) M .refl rfl rm h⟩

/-! ### in: a sign of a text, an item of a list or a tuple -/
def bIn (neg : Bool) : R22 := fun x y M Q => match y with
  | .str z => ∃ c, x = .str ⟨#[c]⟩ ∧ Q (.bl (if neg then !decide (c ∈ z.cps.toList) else decide (c ∈ z.cps.toList))) M
  | .ref a => ∃ p ps, IsP M p x ∧ IsP M (.list ps) (.ref a) ∧ SeqAt.shaped p = true ∧ SeqAt.shaped (.list ps) = true ∧ Q (.bl (if neg then !(ps.any fun z => PyData.eqv z p) else ps.any fun z => PyData.eqv z p)) M
  | _ => False
theorem inRel : OpRel K (fun x y H Q => (∃ (c : Nat) (z : Str), x = .str ⟨#[c]⟩ ∧ y = .str z ∧ Q (.bl (decide (c ∈ z.cps.toList))) H) ∨ rInD K x y H Q) (bIn false) := by
  intro x y d e H M Q Q2 rx ry rm h vr
  match e, h with
  | .str z, ⟨c, ec, hq⟩ => subst ec; cases rx; cases ry; exact .inl ⟨c, z, rfl, rfl, vr _ H (.bl _) M .refl rfl rm hq⟩
  | .ref a, ⟨p, ps, h1, h2, s1, s2, h⟩ => exact .inr ⟨p, ps, dp_of rm p d x h1 rx, dp_of rm (.list ps) (.ref a) y h2 ry, s1, s2, vr _ H (.bl _) M .refl rfl rm h⟩
theorem notInRel : OpRel K (fun x y H Q => (∃ (c : Nat) (z : Str), x = .str ⟨#[c]⟩ ∧ y = .str z ∧ Q (.bl (!decide (c ∈ z.cps.toList))) H) ∨ rNotInD K x y H Q) (bIn true) := by
  intro x y d e H M Q Q2 rx ry rm h vr
  match e, h with
  | .str z, ⟨c, ec, hq⟩ => subst ec; cases rx; cases ry; exact .inl ⟨c, z, rfl, rfl, vr _ H (.bl _) M .refl rfl rm hq⟩
  | .ref a, ⟨p, ps, h1, h2, s1, s2, h⟩ => exact .inr ⟨p, ps, dp_of rm p d x h1 rx, dp_of rm (.list ps) (.ref a) y h2 ry, s1, s2, vr _ H (.bl _) M .refl rfl rm h⟩
theorem op_inA (hu : X.A.units + 65 < cLine) : OpR X (compareOp .In) (fun x y H Q => (∃ (c : Nat) (z : Str), x = .str ⟨#[c]⟩ ∧ y = .str z ∧ Q (.bl (decide (c ∈ z.cps.toList))) H) ∨ rInD X.K x y H Q) := OpR.or op_in_sign (op_inD hu)
theorem op_notInA (hu : X.A.units + 65 < cLine) : OpR X (compareOp .NotIn) (fun x y H Q => (∃ (c : Nat) (z : Str), x = .str ⟨#[c]⟩ ∧ y = .str z ∧ Q (.bl (!decide (c ∈ z.cps.toList))) H) ∨ rNotInD X.K x y H Q) := OpR.or op_notIn_sign (op_notInD hu)

/-! ### a[i] -/
theorem Reps.get : ∀ {ds : List D} {vs : List V} {i : Nat} {d : D}, Reps K H ds vs → ds[i]? = some d → ∃ v, vs[i]? = some v ∧ Rep K H d v
  | [], _, _, _, _, e => by simp at e
  | d :: ds, _, 0, _, r, e => by
    simp only [Reps] at r
    obtain ⟨v, q, rfl, r1, _⟩ := r
    cases e
    exact ⟨v, rfl, r1⟩
  | d :: ds, _, i + 1, _, r, e => by
    simp only [Reps] at r
    obtain ⟨v, q, rfl, _, r2⟩ := r
    obtain ⟨w, h1, h2⟩ := Reps.get (i := i) r2 (by simpa using e)
    exact ⟨w, by simpa using h1, h2⟩
theorem Reps.at {ds : List D} {vs : List V} {i : Int} {d : D} (r : Reps K H ds vs) (e : atI ds i = some d) : ∃ v, atI vs i = some v ∧ Rep K H d v := by
  unfold atI at e ⊢
  rw [r.length]
  cases h : ixN ds.length i with
  | none => rw [h] at e; cases e
  | some j => rw [h] at e; exact r.get e
def bIx : R22 := fun x y M Q => match y with
  | .int i => (match x with
    | .tup xs => ∃ d, atI xs i = some d ∧ Q d M
    | .scr xs => ∃ d, atI xs i = some d ∧ Q d M
    | .ref a => ∃ xs d, M a = some (.lst xs) ∧ atI xs i = some d ∧ Q d M
    | .str z => ∃ c, z.length ≤ sizeLine ∧ atI z.cps.toList i = some c ∧ Q (.str ⟨#[c]⟩) M
    | _ => False)
  | _ => False
theorem ixRel : OpRel K (rIx K) bIx := by
  intro x y d e H M Q Q2 rx ry rm h vr
  match e, d, h with
  | .int i, .tup xs, ⟨g, hg, h⟩ =>
    cases ry
    simp only [Rep] at rx
    obtain ⟨a, vs, rfl, t, rs⟩ := rx
    obtain ⟨v, h1, h2⟩ := rs.at hg
    exact .inr (.inl ⟨a, vs, i, v, rfl, rfl, t, h1, vr v H g M .refl h2 rm h⟩)
  | .int i, .ref a, ⟨xs, g, hm, hg, h⟩ =>
    cases rx; cases ry
    obtain ⟨vs, e1, rs⟩ := rm _ _ hm
    obtain ⟨v, h1, h2⟩ := rs.at hg
    exact .inl ⟨a, vs, i, v, rfl, rfl, .of e1, h1, vr v H g M .refl h2 rm h⟩
  | .int i, .scr xs, ⟨g, hg, h⟩ =>
    cases ry
    simp only [Rep] at rx
    obtain ⟨a, vs, rfl, t, rs⟩ := rx
    obtain ⟨v, h1, h2⟩ := rs.at hg
    exact .inl ⟨a, vs, i, v, rfl, rfl, t.l, h1, vr v H g M .refl h2 rm h⟩
  | .int i, .str z, ⟨c, hz, hc, h⟩ =>
    cases rx; cases ry
    exact .inr (.inr ⟨z, i, c, rfl, rfl, hz, hc, vr _ H (.str _) M .refl rfl rm h⟩)

/-! ### slices -/
abbrev TO2 := XK2 → St2 → MP → (Option Int → MP → Prop) → Prop
def liftO (K : PySem.W.Frag) (W : WX) (t : TO2) : TO := fun σ H Q => ∃ ρ M Q2 E2, RelS K H ρ σ ∧ RelM K M H ∧ t E2 ρ M Q2 ∧ (∀ o H' M', Stp K H M H' M' → RelM K M' H' → Q2 o M' → Q o H') ∧ XRel K W H M E2
abbrev PO2 (X : Cx) (W : WX) (e : Option Expr) (t : TO2) : Prop := PO X e (liftO X.K W t)
theorem po_imp {e : Option Expr} {t t' : TO} (h : PO X e t) (hi : ∀ σ H Q, t' σ H Q → t σ H Q) : PO X e t' := ⟨fun pins s σ H Q I hw => h.run pins s σ H Q I (hi σ H Q hw)⟩
def onone2 : TO2 := fun _ _ M Q => Q none M
def kO (Q : Option Int → MP → Prop) : VK2 := fun x M1 => match x with | .int i => Q (some i) M1 | _ => False
def osome2 (t : TE2) : TO2 := fun E ρ M Q => t E ρ M (kO Q)
theorem ponone2 {W : WX} : PO2 X W none onone2 := po_imp po_none fun σ H Q ⟨ρ, M, Q2, E2, rs, rm, q, vr, xr⟩ => vr none H M .refl rm q
theorem posome2 {W : WX} {e : Expr} {te : TE2} (h : PE2 X W e te) : PO2 X W (some e) (osome2 te) := po_imp (po_some h) fun σ H Q ⟨ρ, M, Q2, E2, rs, rm, q, vr, xr⟩ =>
  ⟨ρ, M, _, E2, rs, rm, q, fun v H1 d M1 s1 r1 m1 q1 => by
    match d, q1 with
    | .int i, q1 => cases r1; exact ⟨i, rfl, vr (some i) H1 M1 s1 m1 q1⟩, xr⟩
def cutD (xs : List D) (lo hi : Option Int) : List D := (xs.drop (HT.sIx xs.length 0 lo)).take (HT.sIx xs.length xs.length hi - HT.sIx xs.length 0 lo)
theorem Reps.take : ∀ {ds : List D} {vs : List V} (n : Nat), Reps K H ds vs → Reps K H (ds.take n) (vs.take n)
  | _, _, 0, _ => by rw [List.take_zero, List.take_zero]; rfl
  | [], _, n + 1, r => by simp only [Reps] at r; subst r; rfl
  | d :: ds, _, n + 1, r => by
    simp only [Reps] at r
    obtain ⟨v, q, rfl, r1, r2⟩ := r
    exact ⟨v, q.take n, rfl, r1, Reps.take n r2⟩
theorem Reps.drop : ∀ {ds : List D} {vs : List V} (n : Nat), Reps K H ds vs → Reps K H (ds.drop n) (vs.drop n)
  | _, _, 0, r => r
  | [], _, n + 1, r => by simp only [Reps] at r; subst r; rfl
  | d :: ds, _, n + 1, r => by
    simp only [Reps] at r
    obtain ⟨v, q, rfl, r1, r2⟩ := r
    exact Reps.drop n r2
theorem Reps.cut {ds : List D} {vs : List V} (lo hi : Option Int) (r : Reps K H ds vs) : Reps K H (cutD ds lo hi) (cutV vs lo hi) := by
  unfold cutD cutV
  rw [r.length]
  exact (r.drop _).take _
theorem cutD_whole {xs : List D} {lo hi : Option Int} (h : HT.sIx xs.length 0 lo = 0 ∧ HT.sIx xs.length xs.length hi = xs.length) : cutD xs lo hi = xs := by
  unfold cutD
  rw [h.1, h.2, List.drop_zero, Nat.sub_zero, List.take_length]
abbrev RSl2 := D → Option Int → Option Int → MP → VK2 → Prop
def bSl : RSl2 := fun x lo hi M Q => match x with
  | .tup xs => Q (.tup (cutD xs lo hi)) M
  | .scr xs => ∀ p, M p = none → Q (.ref p) (updM M p (.lst (cutD xs lo hi)))
  | .ref a => ∃ xs, M a = some (.lst xs) ∧ ∀ p, M p = none → Q (.ref p) (updM M p (.lst (cutD xs lo hi)))
  | .str z => z.length ≤ sizeLine ∧ Q (.str (cutS z lo hi)) M
  | _ => False
def sl2 (r : RSl2) (te : TE2) (tl th : TO2) : TE2 := fun E ρ M Q => te E ρ M fun x M1 => tl E ρ M1 fun l M2 => th E ρ M2 fun u M3 => r x l u M3 Q
def rSlAll (K : PySem.W.Frag) : V → Option Int → Option Int → Hp → VK → Prop := fun x lo hi H Q => rSlA K x lo hi H Q ∨ rSlL K x lo hi H Q ∨ rSlS x lo hi H Q
theorem sl_all : SlR X (rSlAll X.K) := SlR.or sl_tupA (SlR.or sl_list sl_str)
theorem psl2 {W : WX} {e : Expr} {te : TE2} {lo hi : Option Expr} {tl th : TO2} {pos p2 : Pos} (he : PE2 X W e te) (hl : PO2 X W lo tl) (hu : PO2 X W hi th) : PE2 X W (.Subscript e (.Slice lo hi none p2) pos) (sl2 bSl te tl th) :=
  pe_imp (pe_slice sl_all he hl hu) fun σ H Q ⟨ρ, M, Q2, E2, rs, rm, q, vr, xr⟩ => ⟨ρ, M, _, E2, rs, rm, q, fun x H1 d M1 s1 r1 m1 q1 => ⟨ρ, M1, _, E2, s1.rels rs, m1, q1, fun l H2 M2 s2 m2 q2 =>
    ⟨ρ, M2, _, E2, (s1.trans s2).rels rs, m2, q2, fun u H3 M3 s3 m3 q3 => by
      have r3 := (s2.trans s3).rep r1
      have vr3 := vr.step ((s1.trans s2).trans s3)
      match d, q3, r3 with
      | .tup xs, q3, r3 =>
        simp only [Rep] at r3
        obtain ⟨a, vs, rfl, t, rv⟩ := r3
        refine .inl ⟨a, vs, rfl, t, fun hw => ?_, fun _ p hp => vr3.tup m3 (rv.cut l u) q3 hp⟩
        rw [rv.length] at hw
        exact vr3 _ H3 (.tup (cutD xs l u)) M3 .refl (by rw [cutD_whole hw]; exact ⟨a, vs, rfl, t, rv⟩) m3 q3
      | .ref a, ⟨xs, hm, q3⟩, r3 =>
        cases r3
        obtain ⟨vs, e1, rv⟩ := m3 _ _ hm
        exact .inr (.inl ⟨a, vs, rfl, .of e1, fun p hp => vr3.lst m3 (rv.cut l u) q3 hp⟩)
      | .scr xs, q3, r3 =>
        simp only [Rep] at r3
        obtain ⟨a, vs, rfl, t, rv⟩ := r3
        exact .inr (.inl ⟨a, vs, rfl, t.l, fun p hp => vr3.lst m3 (rv.cut l u) q3 hp⟩)
      | .str z, q3, r3 =>
        cases r3
        exact .inr (.inr ⟨z, rfl, q3.1, vr3 _ H3 (.str (cutS z l u)) M3 .refl rfl m3 q3.2⟩), (xr.step s1).step s2⟩, xr.step s1⟩, xr⟩
theorem Reps.reverse : ∀ {ds : List D} {vs : List V}, Reps K H ds vs → Reps K H ds.reverse vs.reverse
  | [], _, r => by simp only [Reps] at r; subst r; rfl
  | d :: ds, _, r => by
    simp only [Reps] at r
    obtain ⟨v, q, rfl, r1, r2⟩ := r
    rw [List.reverse_cons, List.reverse_cons]
    exact Reps.snoc r1 (Reps.reverse r2)
/-- xs[::-1] -/
def kRev (Q : VK2) : VK2 := fun x M1 => match x with
  | .ref a => ∃ xs, M1 a = some (.lst xs) ∧ ∀ p, M1 p = none → Q (.ref p) (updM M1 p (.lst xs.reverse))
  | _ => False
def rev2 (te : TE2) : TE2 := fun E ρ M Q => te E ρ M (kRev Q)
theorem prev2 {W : WX} {e : Expr} {te : TE2} {k : Nat} {p1 p2 p3 pos : Pos} (he : PE2 X W e te) : PE2 X W (.Subscript e (.Slice none none (some (.UnaryOp .USub (.Constant (.int 1) k p1) p2)) p3) pos) (rev2 te) :=
  pe_imp (pe_revL he) fun σ H Q ⟨ρ, M, Q2, E2, rs, rm, q, vr, xr⟩ => ⟨ρ, M, _, E2, rs, rm, q, fun x H1 d M1 s1 r1 m1 q1 => by
    match d, q1, r1 with
    | .ref a, ⟨xs, hm, q1⟩, r1 =>
      cases r1
      obtain ⟨vs, e1, rv⟩ := m1 _ _ hm
      exact ⟨a, vs, rfl, .of e1, fun p hp => (vr.step s1).lst m1 rv.reverse q1 hp⟩, xr⟩
end
end N2


namespace N2
open PySem PySem.Spec PyProof.Rows L2
section
variable {X : Cx} {K : PySem.W.Frag} {H : Hp} {M : MP} {W : WX}
theorem Reps.set {d : D} {v : V} (rd : Rep K H d v) : ∀ {ds : List D} {vs : List V} (i : Nat), Reps K H ds vs → Reps K H (ds.set i d) (vs.set i v)
  | [], _, i, r => by simp only [Reps] at r; subst r; rfl
  | e :: ds, _, 0, r => by
    simp only [Reps] at r
    obtain ⟨w, q, rfl, r1, r2⟩ := r
    exact ⟨v, q, rfl, rd, r2⟩
  | e :: ds, _, i + 1, r => by
    simp only [Reps] at r
    obtain ⟨w, q, rfl, r1, r2⟩ := r
    exact ⟨w, q.set i v, rfl, r1, Reps.set rd i r2⟩
theorem Reps.erase : ∀ {ds : List D} {vs : List V} (i : Nat), Reps K H ds vs → Reps K H (ds.eraseIdx i) (vs.eraseIdx i)
  | [], _, i, r => by simp only [Reps] at r; subst r; rfl
  | e :: ds, _, 0, r => by
    simp only [Reps] at r
    obtain ⟨w, q, rfl, r1, r2⟩ := r
    exact r2
  | e :: ds, _, i + 1, r => by
    simp only [Reps] at r
    obtain ⟨w, q, rfl, r1, r2⟩ := r
    exact ⟨w, q.eraseIdx i, rfl, r1, Reps.erase i r2⟩
theorem Reps.dropLast : ∀ {ds : List D} {vs : List V}, Reps K H ds vs → Reps K H ds.dropLast vs.dropLast
  | [], _, r => by simp only [Reps] at r; subst r; rfl
  | [d], _, r => by
    simp only [Reps] at r
    obtain ⟨v, q, rfl, r1, rfl⟩ := r
    rfl
  | d :: e :: ds, _, r => by
    obtain ⟨v, q, rfl, r1, r2⟩ := r
    obtain ⟨v', q', rfl, r3, r4⟩ := r2
    exact ⟨v, (v' :: q').dropLast, rfl, r1, Reps.dropLast (ds := e :: ds) (vs := v' :: q') ⟨v', q', rfl, r3, r4⟩⟩
/-- the list at a is another one -/
theorem MRel.lst {Q2 : MP → Prop} {Q : Hp → Prop} (mr : MRel K H M Q2 Q) (rm : RelM K M H) {a : Addr} {xs ys : List D} {ws vs : List V} (hm : M a = some (.lst xs)) (e : H a = some (.lst vs)) (r : Reps K H ys ws) (q : Q2 (updM M a (.lst ys))) : Q (upd H a (.lst ws)) := by
  have nt := lst_notTup e
  have s : Stp K H M (upd H a (.lst ws)) (updM M a (.lst ys)) := .put rm nt (.inl (by rw [hm]; exact fun z => by cases z))
  exact mr _ _ s (rm.put nt ⟨ws, upd_same, s.reps r⟩) q
theorem VRel.mrel {Q2 : VK2} {Q : VK} {v : V} {d : D} (vr : VRel K H M Q2 Q) (hr : ∀ H', Rep K H' d v) : MRel K H M (Q2 d) (Q v) := fun H' M' s m q => vr v H' d M' s (hr H') m q
/-! ### xs[i] = v -/
def bSet : TSet2 := fun o i v M Q => match o, i with
  | .ref a, .int k => ∃ xs j, M a = some (.lst xs) ∧ ixN xs.length k = some j ∧ Q (updM M a (.lst (xs.set j v)))
  | _, _ => False
theorem setRel : SetRel K rSetL bSet := by
  intro o i v do_ di dv H M Q Q2 ro ri rv rm h mr
  match do_, di, h with
  | .ref a, .int k, ⟨xs, j, hm, hj, h⟩ =>
    cases ro; cases ri
    obtain ⟨vs, e, r⟩ := rm _ _ hm
    exact ⟨a, vs, k, j, rfl, rfl, e, by rw [r.length]; exact hj, mr.lst rm hm e (Reps.set rv j r) h⟩
/-! ### methods of lists -/
abbrev RMt2 := D → List D → MP → VK2 → Prop
def MtRel (K : PySem.W.Frag) (T : String) (r : V → List V → Hp → VK → Prop) (r2 : RMt2) : Prop := ∀ x d xs ds H M Q Q2, Rep K H d x → Reps K H ds xs → RelM K M H → r2 d ds M Q2 → VRel K H M Q2 Q → r x xs H Q
/-- of which type the receiver is -/
def tyD (M : MP) : D → String → Prop
  | .str _, T => T = "str"
  | .ref a, T => (T = "list" ∧ ∃ xs, M a = some (.lst xs)) ∨ (T = "dict" ∧ ∃ kvs, M a = some (.dK kvs)) ∨ (T = "set" ∧ ∃ S n, M a = some (.iset S n))
  | _, _ => False
theorem tyV_of {T : String} {d : D} {x : V} (rm : RelM K M H) (r : Rep K H d x) (h : tyD M d T) : tyV K T x H := by
  match d, h with
  | .str z, h => cases r; exact h
  | .ref a, h =>
    cases r
    rcases h with ⟨rfl, xs, h⟩ | ⟨rfl, kvs, h⟩ | ⟨rfl, S, n, h⟩
    · obtain ⟨vs, e, _⟩ := rm _ _ h
      exact .inl ⟨rfl, vs, .of e⟩
    · obtain ⟨vs, e, _⟩ := rm _ _ h
      exact .inr (.inr (.inl ⟨rfl, .inl ⟨vs, e⟩⟩))
    · exact .inr (.inr (.inr ⟨rfl, S, n, rm _ _ h⟩))
def meth2 (T : String) (r : RMt2) (to : TE2) (t : TA2) : TE2 := fun E ρ M Q => to E ρ M fun x M1 => tyD M1 x T ∧ t E ρ M1 fun ds M2 => r x ds M2 Q
def meth02 (T : String) (r : RMt2) (to : TE2) : TE2 := fun E ρ M Q => to E ρ M fun x M1 => tyD M1 x T ∧ r x [] M1 Q
variable {o e : Expr} {es : List Expr} {to : TE2} {t : TA2} {name : Str} {apos cpos : Pos} {T id : String} {r : V → List V → Hp → VK → Prop} {r2 : RMt2}
theorem pmeth02 (pa : PlainAttrs T) (slot : Slot T name id) (hty : typeOf (.builtin id) = pure (.type "method_descriptor")) (hm : MtR X id r) (hr : MtRel X.K T r r2) (ho : PE2 X W o to)
    (hbase : attributeBase o name X.env (eval o X.env) = eval o X.env := by rfl) (hline : (apos.endLine == cpos.line) = true := by rfl) : PE2 X W (.Call (.Attribute o name apos) [] [] cpos) (meth02 T r2 to) :=
  pe_imp (pe_bm0 pa slot hty hm ho hbase hline) fun σ H Q ⟨ρ, M, Q2, E2, rs, rm, q, vr, xr⟩ => ⟨ρ, M, _, E2, rs, rm, q, fun x H1 d M1 s1 r1 m1 q1 => ⟨tyV_of m1 r1 q1.1, hr x d [] [] H1 M1 Q Q2 r1 rfl m1 q1.2 (vr.step s1)⟩, xr⟩
theorem pmeth2 (pa : PlainAttrs T) (slot : Slot T name id) (hty : typeOf (.builtin id) = pure (.type "method_descriptor")) (hm : MtR X id r) (hr : MtRel X.K T r r2) (ho : PE2 X W o to) (ha : PA2 X W (e :: es) t)
    (hbase : attributeBase o name X.env (eval o X.env) = eval o X.env := by rfl)
    (hfew : ((backTo cpos (starEach (e :: es) X.env)).all (fun x => !x.1) && (backToKw cpos (keywordEach [] X.env)).all (fun x => x.1.isSome)
      && decide ((e :: es).length + ([] : List Keyword).length + (if ([] : List Keyword).isEmpty then 0 else 1) < 30)) = true := by rfl)
    (hline : (apos.endLine == cpos.line) = true := by rfl) (hs : starEach (e :: es) X.env = (false, eval e X.env) :: starEach es X.env := by rfl) (hplain : (backTo cpos (starEach es X.env)).any (·.1) = false := by rfl) : PE2 X W (.Call (.Attribute o name apos) (e :: es) [] cpos) (meth2 T r2 to t) :=
  pe_imp (pe_bm pa slot hty hm ho ha hbase hfew hline hs hplain) fun σ H Q ⟨ρ, M, Q2, E2, rs, rm, q, vr, xr⟩ => ⟨ρ, M, _, E2, rs, rm, q, fun x H1 d M1 s1 r1 m1 q1 => ⟨tyV_of m1 r1 q1.1, ρ, M1, _, E2, s1.rels rs, m1, q1.2, fun xs H2 ds M2 s2 r2' m2 q2 =>
    hr x d xs ds H2 M2 Q Q2 (s2.rep r1) r2' m2 q2 ((vr.step s1).step s2), xr.step s1⟩, xr⟩
def mAppend : RMt2 := fun x ds M Q => match x, ds with
  | .ref a, [d] => ∃ xs, M a = some (.lst xs) ∧ xs.length < sizeLine ∧ Q .non (updM M a (.lst (xs ++ [d])))
  | _, _ => False
theorem appendRel : MtRel K "list" rAppend mAppend := by
  intro x d xs ds H M Q Q2 rx rs rm h vr
  match d, ds, h with
  | .ref a, [d], ⟨ys, hm, hz, h⟩ =>
    cases rx
    obtain ⟨v, q, rfl, r1, rfl⟩ := rs
    obtain ⟨vs, e, r⟩ := rm _ _ hm
    exact ⟨a, vs, v, rfl, rfl, e, by rw [r.length]; exact hz, (VRel.mrel (v := .non) (d := .non) vr (fun _ => rfl)).lst rm hm e (Reps.snoc r1 r) h⟩
def mPop : RMt2 := fun x ds M Q => match x, ds with
  | .ref a, [] => ∃ xs d, M a = some (.lst xs) ∧ xs[xs.length - 1]? = some d ∧ Q d (updM M a (.lst xs.dropLast))
  | _, _ => False
theorem popRel : MtRel K "list" rPop mPop := by
  intro x d xs ds H M Q Q2 rx rs rm h vr
  match d, ds, h with
  | .ref a, [], ⟨ys, y, hm, hy, h⟩ =>
    cases rx
    simp only [Reps] at rs
    subst rs
    obtain ⟨vs, e, r⟩ := rm _ _ hm
    obtain ⟨v, h1, h2⟩ := r.get hy
    have nt := lst_notTup e
    have s : Stp K H M (upd H a (.lst vs.dropLast)) (updM M a (.lst ys.dropLast)) := .put rm nt (.inl (by rw [hm]; exact fun z => by cases z))
    exact ⟨a, vs, v, rfl, rfl, e, by rw [r.length]; exact h1, vr v _ y _ s (s.rep h2) (rm.put nt ⟨_, upd_same, s.reps r.dropLast⟩) h⟩
def mPopAt : RMt2 := fun x ds M Q => match x, ds with
  | .ref a, [.int i] => ∃ xs k d, M a = some (.lst xs) ∧ ixN xs.length i = some k ∧ xs.length ≤ sizeLine ∧ xs[k]? = some d ∧ Q d (updM M a (.lst (xs.eraseIdx k)))
  | _, _ => False
theorem popAtRel : MtRel K "list" rPopAt mPopAt := by
  intro x d xs ds H M Q Q2 rx rs rm h vr
  match d, ds, h with
  | .ref a, [.int i], ⟨ys, k, y, hm, hk, hz, hy, h⟩ =>
    cases rx
    obtain ⟨v, q, rfl, r1, rfl⟩ := rs
    cases r1
    obtain ⟨vs, e, r⟩ := rm _ _ hm
    obtain ⟨v, h1, h2⟩ := r.get hy
    have nt := lst_notTup e
    have s : Stp K H M (upd H a (.lst (vs.eraseIdx k))) (updM M a (.lst (ys.eraseIdx k))) := .put rm nt (.inl (by rw [hm]; exact fun z => by cases z))
    obtain ⟨g1, g2, g3, g4⟩ := ixN_seq hk
    have hl := line63
    exact ⟨a, vs, i, k, v, rfl, rfl, e, by omega, by omega, by rw [r.length]; exact g1, h1, vr v _ y _ s (s.rep h2) (rm.put nt ⟨_, upd_same, s.reps (r.erase k)⟩) h⟩
def mPopA : RMt2 := fun x ds M Q => match ds with | [] => mPop x ds M Q | _ => mPopAt x ds M Q
def mReverse : RMt2 := fun x ds M Q => match x, ds with
  | .ref a, [] => ∃ xs, M a = some (.lst xs) ∧ Q .non (updM M a (.lst xs.reverse))
  | _, _ => False
theorem reverseRel : MtRel K "list" rReverse mReverse := by
  intro x d xs ds H M Q Q2 rx rs rm h vr
  match d, ds, h with
  | .ref a, [], ⟨ys, hm, h⟩ =>
    cases rx
    simp only [Reps] at rs
    subst rs
    obtain ⟨vs, e, r⟩ := rm _ _ hm
    exact ⟨a, vs, rfl, rfl, e, (VRel.mrel (v := .non) (d := .non) vr (fun _ => rfl)).lst rm hm e r.reverse h⟩
def mClear : RMt2 := fun x ds M Q => match x, ds with
  | .ref a, [] => ∃ xs, M a = some (.lst xs) ∧ Q .non (updM M a (.lst []))
  | _, _ => False
theorem clearRel : MtRel K "list" rClear mClear := by
  intro x d xs ds H M Q Q2 rx rs rm h vr
  match d, ds, h with
  | .ref a, [], ⟨ys, hm, h⟩ =>
    cases rx
    simp only [Reps] at rs
    subst rs
    obtain ⟨vs, e, r⟩ := rm _ _ hm
    exact ⟨a, vs, rfl, rfl, e, (VRel.mrel (v := .non) (d := .non) vr (fun _ => rfl)).lst rm hm e (show Reps K H [] [] from rfl) h⟩
def mExtend : RMt2 := fun x ds M Q => match x, ds with
  | .ref a, [.ref b] => ∃ xs ys, M a = some (.lst xs) ∧ M b = some (.lst ys) ∧ xs.length + ys.length ≤ sizeLine ∧ Q .non (updM M a (.lst (xs ++ ys)))
  | _, _ => False
theorem extendRel : MtRel K "list" rExtend mExtend := by
  intro x d xs ds H M Q Q2 rx rs rm h vr
  match d, ds, h with
  | .ref a, [.ref b], ⟨ys, zs, hm, hb, hz, h⟩ =>
    cases rx
    obtain ⟨v, q, rfl, r1, rfl⟩ := rs
    cases r1
    obtain ⟨vs, e, r⟩ := rm _ _ hm
    obtain ⟨ws, e2, r2⟩ := rm _ _ hb
    exact ⟨a, b, vs, ws, rfl, rfl, e, e2, by rw [r.length, r2.length]; exact hz, (VRel.mrel (v := .non) (d := .non) vr (fun _ => rfl)).lst rm hm e (Reps.append r2 r) h⟩
def mInsert : RMt2 := fun x ds M Q => match x, ds with
  | .ref a, [.int i, d] => ∃ xs, M a = some (.lst xs) ∧ xs.length < sizeLine ∧ 0 ≤ i ∧ i < 2 ^ 63 ∧ Q .non (updM M a (.lst (xs.take i.toNat ++ [d] ++ xs.drop i.toNat)))
  | _, _ => False
def rInsert : V → List V → Hp → VK → Prop := fun x vs H Q => ∃ (l : Addr) (xs : List V) (i : Int) (y : V), x = .ref l ∧ vs = [.int i, y] ∧ H l = some (.lst xs) ∧ xs.length < sizeLine ∧ 0 ≤ i ∧ i < 2 ^ 63 ∧
    Q .non (upd H l (.lst (xs.take i.toNat ++ [y] ++ xs.drop i.toNat)))
theorem insertRel : MtRel K "list" rInsert mInsert := by
  intro x d xs ds H M Q Q2 rx rs rm h vr
  match d, ds, h with
  | .ref a, [.int i, d], ⟨ys, hm, hz, h0, h1, h⟩ =>
    cases rx
    obtain ⟨v, q, rfl, r1, r2⟩ := rs
    obtain ⟨w, q', rfl, r3, rfl⟩ := r2
    cases r1
    obtain ⟨vs, e, r⟩ := rm _ _ hm
    exact ⟨a, vs, i, w, rfl, rfl, e, by rw [r.length]; exact hz, h0, h1, (VRel.mrel (v := .non) (d := .non) vr (fun _ => rfl)).lst rm hm e (Reps.append (r.drop _) (Reps.snoc r3 (r.take _))) h⟩

/-! ### built-ins -/
def typeD (M : MP) : D → Option String
  | .non => some "NoneType" | .bl _ => some "bool" | .int _ => some "int" | .str _ => some "str" | .tup _ => some "tuple"
  | .ref a => (match M a with
    | some (.lst _) => some "list" | some (.dK _) => some "dict" | some (.fz _ _) => some "dict" | some (.iset _ _) => some "set" | _ => none)
  | .ty _ => none
  | .scr _ => some "list"
def tysL : List String := ["NoneType", "bool", "int", "str", "tuple", "list", "dict", "set"]
def isiT (t c : String) : Option Bool := if t ∈ tysL ∧ c ∈ tysL.tail then some (t == c || (t == "bool" && c == "int")) else none
theorem isiT_ok : ∀ t ∈ tysL, ∀ c ∈ tysL.tail, kitB t c = some (t == c || (t == "bool" && c == "int")) := by decide +kernel
theorem isi_kit {t c : String} {b : Bool} (h : isiT t c = some b) : kitB t c = some b := by
  unfold isiT at h
  by_cases q : t ∈ tysL ∧ c ∈ tysL.tail
  · rw [if_pos q] at h
    rw [isiT_ok t q.1 c q.2]; exact h
  · rw [if_neg q] at h; cases h
theorem typ_of {d : D} {x : V} {t : String} (rm : RelM K M H) (r : Rep K H d x) (h : typeD M d = some t) : TyX K H x (.type t) := by
  match d, h with
  | .non, h => cases r; cases h; exact .base .non
  | .bl b, h => cases r; cases h; exact .base (.bl b)
  | .int b, h => cases r; cases h; exact .base (.int b)
  | .str b, h => cases r; cases h; exact .base (.str b)
  | .tup ds, h =>
    simp only [Rep] at r
    obtain ⟨a, vs, rfl, tt, _⟩ := r
    cases h
    rcases tt with (z | ⟨o, z⟩) | ⟨o, its, n, z, hc, _⟩
    · exact .base (.tup z)
    · exact .fTuple z
    · exact .kTuple z hc
  | .scr ds, h =>
    simp only [Rep] at r
    obtain ⟨a, vs, rfl, tt, _⟩ := r
    cases h
    rcases tt with ⟨o, z⟩ | ⟨o, its, n, z, hc, _⟩
    · exact .base (.frz z)
    · exact .kList z hc
  | .ref a, h =>
    cases r
    have h' : (match M a with
      | some (.lst _) => some "list" | some (.dK _) => some "dict" | some (.fz _ _) => some "dict" | some (.iset _ _) => some "set" | _ => none) = some t := h
    clear h
    split at h'
    · rename_i e; cases h'; obtain ⟨vs, z, _⟩ := rm _ _ e; exact .base (.lst z)
    · rename_i e; cases h'; obtain ⟨vs, z, _⟩ := rm _ _ e; exact .base (.dK z)
    · rename_i e; cases h'; obtain ⟨vs, z, _⟩ := rm _ _ e; exact .fDict z
    · rename_i e; cases h'; exact .set (rm _ _ e)
    · cases h'
/-- isinstance(x, T), isinstance(x, (T, U)) of built-in types -/
def bIsi : RC2 := fun ds M Q => match ds with
  | [x, .ty c] => ∃ t b, typeD M x = some t ∧ isiT t c = some b ∧ Q (.bl b) M
  | [x, .tup [.ty c, .ty c']] => ∃ t b b', typeD M x = some t ∧ isiT t c = some b ∧ isiT t c' = some b' ∧ Q (.bl (b || b')) M
  | _ => False
/-- isinstance(x, (c1, c2, ..)), the tuple wherever it stands -/
def rIsiS (K : PySem.W.Frag) : List V → Hp → VK → Prop := fun xs H Q => ∃ (x : V) (tp : Addr) (cs : List V) (t : Value) (us : List Value) (b : Bool), xs = [x, .ref tp] ∧ SqT K H tp cs ∧ Paired ClsV cs us ∧ TyX K H x t ∧ PySem.W.kitAny K t us = some b ∧ Q (.bl b) H
theorem call_isiS : CallR X (.builtin "isinstance") (rIsiS X.K) := by
  intro pins s σ H xs us Q I r h
  obtain ⟨x, tp, cs, t, ws, b, rfl, hT, k, ty, e, q⟩ := h
  obtain ⟨u1, u2, rfl, r1, r2⟩ := vals2 r
  cases (show u2 = Value.ref tp from r2)
  obtain ⟨P, Z, p, hx⟩ := kit_of I r1 ty
  obtain ⟨its, rv, ⟨o, h1, h2, n, h3⟩, _⟩ := I.tuple hT
  have e3 := ClsV.all k rv
  subst e3
  obtain ⟨oc, od, dt, sl⟩ := o
  simp only at h2 h3
  subst h2 h3
  exact PySem.W.kia_tup Z I.kIn p h1 e hx fun tk => ⟨.bl b, H, I.tok tk, rfl, q⟩
def rIsiAll (K : PySem.W.Frag) : List V → Hp → VK → Prop := fun xs H Q => rIsi K xs H Q ∨ rIsiS K xs H Q
theorem call_isiA : CallR X (.builtin "isinstance") (rIsiAll X.K) := CallR.or call_isi call_isiS
theorem isiRel : CallRel K (rIsiAll K) bIsi := by
  intro xs ds H M Q Q2 rs rm h vr
  match ds, h with
  | [d, .ty c], ⟨t, b, ht, hb, h⟩ =>
    obtain ⟨v, q, rfl, r1, r2⟩ := rs
    obtain ⟨w, q', rfl, r3, rfl⟩ := r2
    cases r3
    exact .inl ⟨v, .ty c, .type t, .type c, b, rfl, .ty c, typ_of rm r1 ht, kit_ty (isi_kit hb), vr _ H (.bl b) M .refl rfl rm h⟩
  | [d, .tup [.ty c, .ty c']], ⟨t, b, b', ht, hb, hb', h⟩ =>
    obtain ⟨v, q, rfl, r1, r2⟩ := rs
    obtain ⟨w, q', rfl, r3, rfl⟩ := r2
    simp only [Rep, Reps] at r3
    obtain ⟨a, vs, rfl, t3, w1, q1, rfl, rfl, w2, q2, rfl, rfl, rfl⟩ := r3
    refine .inr ⟨v, a, [.ty c, .ty c'], .type t, [.type c, .type c'], b || b', rfl, t3, .cons (.ty c) (.cons (.ty c') .nil), typ_of rm r1 ht, ?_, vr _ H (.bl _) M .refl rfl rm h⟩
    refine kitAny_cons (kit_ty (isi_kit hb)) (fun e => ?_) (fun e => by rw [e]; rfl)
    rw [e, Bool.false_or]
    exact kitAny_cons (kit_ty (isi_kit hb')) (fun e => by rw [e]; exact kitAny_nil) (fun e => e)
/-- len -/
def bLen : RC2 := fun ds M Q => match ds with
  | [.tup xs] => Q (.int xs.length) M
  | [.str z] => z.length ≤ sizeLine ∧ Q (.int z.length) M
  | [.scr xs] => Q (.int xs.length) M
  | [.ref a] => (∃ xs, M a = some (.lst xs) ∧ Q (.int xs.length) M) ∨ ∃ kvs, (M a = some (.dK kvs) ∨ ∃ o, M a = some (.fz o kvs)) ∧ Q (.int kvs.length) M
  | _ => False
def rLenA (K : PySem.W.Frag) : List V → Hp → VK → Prop := fun xs H Q => (∃ x n, xs = [x] ∧ LenV K x H n ∧ Q (.int n) H) ∨ ∃ a kvs, xs = [.ref a] ∧ Rd H a (.dK kvs) ∧ Q (.int kvs.length) H
theorem call_lenDK : CallR X (.builtin "len") (fun xs H Q => ∃ a kvs, xs = [.ref a] ∧ Rd H a (.dK kvs) ∧ Q (.int kvs.length) H) := by
  intro pins s σ H xs us Q I r h
  obtain ⟨a, kvs, rfl, hd, q⟩ := h
  obtain ⟨u, rfl, rx⟩ := vals1 r
  cases rx
  exact d_len I hd fun t s' I' => ⟨.int _, H, I', ⟨_, rfl⟩, q⟩
theorem call_lenA : CallR X (.builtin "len") (rLenA X.K) := CallR.or call_len call_lenDK
theorem lenRel : CallRel K (rLenA K) bLen := by
  intro xs ds H M Q Q2 rs rm h vr
  match ds, h with
  | [.tup xs], h =>
    simp only [Reps, Rep] at rs
    obtain ⟨v, q, rfl, ⟨a, vs, rfl, t, r⟩, rfl⟩ := rs
    exact .inl ⟨_, vs.length, rfl, .inr ⟨vs, t, rfl⟩, by rw [r.length]; exact vr _ H (.int _) M .refl rfl rm h⟩
  | [.scr xs], h =>
    simp only [Reps, Rep] at rs
    obtain ⟨v, q, rfl, ⟨a, vs, rfl, t, r⟩, rfl⟩ := rs
    exact .inl ⟨_, vs.length, rfl, .inl ⟨vs, t.l, rfl⟩, by rw [r.length]; exact vr _ H (.int _) M .refl rfl rm h⟩
  | [.str z], h =>
    simp only [Reps, Rep] at rs
    obtain ⟨v, q, rfl, rfl, rfl⟩ := rs
    exact .inl ⟨_, z.length, rfl, ⟨h.1, rfl⟩, vr _ H (.int _) M .refl rfl rm h.2⟩
  | [.ref a], h =>
    simp only [Reps, Rep] at rs
    obtain ⟨v, q, rfl, rfl, rfl⟩ := rs
    rcases h with ⟨xs, hm, h⟩ | ⟨kvs, hm | ⟨o, hm⟩, h⟩
    · obtain ⟨vs, e, r⟩ := rm _ _ hm
      exact .inl ⟨_, vs.length, rfl, .inl ⟨vs, .of e, rfl⟩, by rw [r.length]; exact vr _ H (.int _) M .refl rfl rm h⟩
    · obtain ⟨vs, e, r⟩ := rm _ _ hm
      exact .inr ⟨a, vs, rfl, .inl e, by rw [r.length]; exact vr _ H (.int _) M .refl rfl rm h⟩
    · obtain ⟨vs, e, r⟩ := rm _ _ hm
      exact .inr ⟨a, vs, rfl, .inr ⟨o, e⟩, by rw [r.length]; exact vr _ H (.int _) M .refl rfl rm h⟩
/-- max(i, j), min(i, j) -/
def bMax : RC2 := fun ds M Q => match ds with | [.int i, .int j] => Q (.int (max i j)) M | _ => False
def bMin : RC2 := fun ds M Q => match ds with | [.int i, .int j] => Q (.int (min i j)) M | _ => False
theorem maxRel : CallRel K (fun xs H Q => ∃ i j, xs = [.int i, .int j] ∧ Q (.int (if j > i then j else i)) H) bMax := by
  intro xs ds H M Q Q2 rs rm h vr
  match ds, h with
  | [.int i, .int j], h =>
    obtain ⟨v, q, rfl, r1, r2⟩ := rs
    obtain ⟨w, q', rfl, r3, rfl⟩ := r2
    cases r1; cases r3
    refine ⟨i, j, rfl, ?_⟩
    have e : (if j > i then j else i) = max i j := by rw [Int.max_def]; split <;> split <;> omega
    rw [e]; exact vr _ H (.int _) M .refl rfl rm h
theorem minRel : CallRel K (fun xs H Q => ∃ i j, xs = [.int i, .int j] ∧ Q (.int (if j < i then j else i)) H) bMin := by
  intro xs ds H M Q Q2 rs rm h vr
  match ds, h with
  | [.int i, .int j], h =>
    obtain ⟨v, q, rfl, r1, r2⟩ := rs
    obtain ⟨w, q', rfl, r3, rfl⟩ := r2
    cases r1; cases r3
    refine ⟨i, j, rfl, ?_⟩
    have e : (if j < i then j else i) = min i j := by rw [Int.min_def]; split <;> split <;> omega
    rw [e]; exact vr _ H (.int _) M .refl rfl rm h
/-- int(i), int(b) -/
def bInt : RC2 := fun ds M Q => match ds with | [.int i] => Q (.int i) M | [.bl b] => Q (.int (if b then 1 else 0)) M | _ => False
theorem intcRel : CallRel K (fun xs H Q => (∃ i, xs = [.int i] ∧ Q (.int i) H) ∨ ∃ k, xs = [.bl k] ∧ Q (.int (if k then 1 else 0)) H) bInt := by
  intro xs ds H M Q Q2 rs rm h vr
  match ds, h with
  | [.int i], h =>
    obtain ⟨v, q, rfl, r1, rfl⟩ := rs
    cases r1
    exact .inl ⟨i, rfl, vr _ H (.int i) M .refl rfl rm h⟩
  | [.bl i], h =>
    obtain ⟨v, q, rfl, r1, rfl⟩ := rs
    cases r1
    exact .inr ⟨i, rfl, vr _ H (.int _) M .refl rfl rm h⟩
/-- list(xs), list(t); tuple(xs), tuple(t) -/
def bList : RC2 := fun ds M Q => match ds with
  | [.tup xs] => ∀ p, M p = none → Q (.ref p) (updM M p (.lst xs))
  | [.scr xs] => ∀ p, M p = none → Q (.ref p) (updM M p (.lst xs))
  | [.ref a] => ∃ xs, M a = some (.lst xs) ∧ ∀ p, M p = none → Q (.ref p) (updM M p (.lst xs))
  | _ => False
theorem listRel : CallRel K (fun xs H Q => ∃ p ys, xs = [.ref p] ∧ (SqL K H p ys ∨ SqT K H p ys) ∧ ∀ l, H l = none → Q (.ref l) (upd H l (.lst ys))) bList := by
  intro xs ds H M Q Q2 rs rm h vr
  match ds, h with
  | [.tup xs], h =>
    simp only [Reps, Rep] at rs
    obtain ⟨v, q, rfl, ⟨a, vs, rfl, t, r⟩, rfl⟩ := rs
    exact ⟨a, vs, rfl, .inr t, fun p hp => vr.lst rm r h hp⟩
  | [.ref a], ⟨xs, hm, h⟩ =>
    simp only [Reps, Rep] at rs
    obtain ⟨v, q, rfl, rfl, rfl⟩ := rs
    obtain ⟨vs, e, r⟩ := rm _ _ hm
    exact ⟨a, vs, rfl, .inl (.of e), fun p hp => vr.lst rm r h hp⟩
  | [.scr xs], h =>
    simp only [Reps, Rep] at rs
    obtain ⟨v, q, rfl, ⟨a, vs, rfl, t, r⟩, rfl⟩ := rs
    exact ⟨a, vs, rfl, .inl t.l, fun p hp => vr.lst rm r h hp⟩
def bTuple : RC2 := fun ds M Q => match ds with
  | [.tup xs] => Q (.tup xs) M
  | [.scr xs] => Q (.tup xs) M
  | [.ref a] => ∃ xs, M a = some (.lst xs) ∧ Q (.tup xs) M
  | _ => False
theorem tupleRel : CallRel K (fun xs H Q => ∃ p ys, xs = [.ref p] ∧ ((SqL K H p ys ∧ ∀ l, H l = none → Q (.ref l) (upd H l (.tup ys))) ∨ (SqT K H p ys ∧ Q (.ref p) H))) bTuple := by
  intro xs ds H M Q Q2 rs rm h vr
  match ds, h with
  | [.tup xs], h =>
    simp only [Reps, Rep] at rs
    obtain ⟨v, q, rfl, ⟨a, vs, rfl, t, r⟩, rfl⟩ := rs
    exact ⟨a, vs, rfl, .inr ⟨t, vr _ H (.tup xs) M .refl ⟨a, vs, rfl, t, r⟩ rm h⟩⟩
  | [.ref a], ⟨xs, hm, h⟩ =>
    simp only [Reps, Rep] at rs
    obtain ⟨v, q, rfl, rfl, rfl⟩ := rs
    obtain ⟨vs, e, r⟩ := rm _ _ hm
    exact ⟨a, vs, rfl, .inl ⟨.of e, fun p hp => vr.tup rm r h hp⟩⟩
  | [.scr xs], h =>
    simp only [Reps, Rep] at rs
    obtain ⟨v, q, rfl, ⟨a, vs, rfl, t, r⟩, rfl⟩ := rs
    exact ⟨a, vs, rfl, .inl ⟨t.l, fun p hp => vr.tup rm r h hp⟩⟩
/-- all, any of a list of truths -/
def bAll (f : List Bool → Bool) : RC2 := fun ds M Q => match ds with
  | [.ref a] => ∃ bs, M a = some (.lst (bs.map D.bl)) ∧ Q (.bl (f bs)) M
  | _ => False
theorem reps_bls : ∀ {bs : List Bool} {vs : List V}, Reps K H (bs.map D.bl) vs → vs = bs.map V.bl
  | [], _, r => by simpa [Reps] using r
  | b :: bs, _, r => by
    simp only [List.map_cons, Reps, Rep] at r
    obtain ⟨v, q, rfl, rfl, r2⟩ := r
    rw [reps_bls r2]; rfl
theorem reps_ints : ∀ {bs : List Int} {vs : List V}, Reps K H (bs.map D.int) vs → vs = bs.map V.int
  | [], _, r => by simpa [Reps] using r
  | b :: bs, _, r => by
    simp only [List.map_cons, Reps, Rep] at r
    obtain ⟨v, q, rfl, rfl, r2⟩ := r
    rw [reps_ints r2]; rfl
theorem reps_strs : ∀ {bs : List Str} {vs : List V}, Reps K H (bs.map D.str) vs → vs = bs.map V.str
  | [], _, r => by simpa [Reps] using r
  | b :: bs, _, r => by
    simp only [List.map_cons, Reps, Rep] at r
    obtain ⟨v, q, rfl, rfl, r2⟩ := r
    rw [reps_strs r2]; rfl
theorem rm_sql {a : Addr} {xs : List D} (rm : RelM K M H) (h : M a = some (.lst xs)) : ∃ vs, SqL K H a vs ∧ Reps K H xs vs := by
  obtain ⟨vs, e, r⟩ := rm _ _ h
  exact ⟨vs, .of e, r⟩
theorem allRel : CallRel K (rAll K) (bAll fun bs => bs.all _root_.id) := by
  intro xs ds H M Q Q2 rs rm h vr
  match ds, h with
  | [.ref a], ⟨bs, hm, h⟩ =>
    simp only [Reps, Rep] at rs
    obtain ⟨v, q, rfl, rfl, rfl⟩ := rs
    obtain ⟨vs, s, r⟩ := rm_sql rm hm
    rw [reps_bls r] at s
    exact ⟨a, bs, rfl, s, vr _ H (.bl _) M .refl rfl rm h⟩
theorem anyRel : CallRel K (rAny K) (bAll fun bs => bs.any _root_.id) := by
  intro xs ds H M Q Q2 rs rm h vr
  match ds, h with
  | [.ref a], ⟨bs, hm, h⟩ =>
    simp only [Reps, Rep] at rs
    obtain ⟨v, q, rfl, rfl, rfl⟩ := rs
    obtain ⟨vs, s, r⟩ := rm_sql rm hm
    rw [reps_bls r] at s
    exact ⟨a, bs, rfl, s, vr _ H (.bl _) M .refl rfl rm h⟩
/-- len(set(xs)), xs unlike numbers -/
def kLens (Q : VK2) : VK2 := fun x M1 => match x with
  | .ref a => ∃ ns : List Int, M1 a = some (.lst (ns.map D.int)) ∧ ns.Nodup ∧ ns.length ≤ 4000 ∧ Q (.int ns.length) M1
  | _ => False
def lens2 (te : TE2) : TE2 := fun E ρ M Q => te E ρ M (kLens Q)
theorem plens2 {a : Expr} {ta : TE2} {p p2 q pos : Pos} (hg : Gl X "len") (hm : X.mg "len" = none) (hg2 : Gl X "set") (hm2 : X.mg "set" = none) (ha : PE2 X W a ta) (hc : X.calm = true := by rfl)
    (na : starEach [a] X.env = (false, eval a X.env) :: starEach [] X.env := by rfl) : PE2 X W (.Call (.Name "len" p) [.Call (.Name "set" p2) [a] [] q] [] pos) (lens2 ta) :=
  pe_imp (RZ.pe_lenSetI hg hm hg2 hm2 ha hc na) fun σ H Q ⟨ρ, M, Q2, E2, rs, rm, q, vr, xr⟩ => ⟨ρ, M, _, E2, rs, rm, q, fun x H1 d M1 s1 r1 m1 q1 => by
    match d, q1, r1 with
    | .ref a, ⟨ns, hm, nd, hl, q1⟩, r1 =>
      cases r1
      obtain ⟨vs, s, r⟩ := rm_sql m1 hm
      rw [reps_ints r] at s
      exact ⟨a, ns, rfl, s, nd, hl, vr _ H1 (.int _) M1 s1 rfl m1 q1⟩, xr⟩

/-! ### what is walked -/
def kIl (R : List D → (MP → Prop) → MP → Prop) : VK2 := fun x M1 => match x with
  | .scr ds => R ds (fun _ => True) M1
  | .ref a => ∃ ds, M1 a = some (.lst ds) ∧ R ds (fun M => M a = some (.lst ds)) M1
  | _ => False
def ilist2 (te : TE2) : TI2 := fun E ρ M R => te E ρ M (kIl R)
def kIt (R : List D → (MP → Prop) → MP → Prop) : VK2 := fun x M1 => match x with
  | .tup ds => R ds (fun _ => True) M1
  | _ => False
def itup2 (te : TE2) : TI2 := fun E ρ M R => te E ρ M (kIt R)
def kIr1 (R : List D → (MP → Prop) → MP → Prop) : List D → MP → Prop := fun ds M1 => match ds with
  | [.int j] => -(2 ^ 62) ≤ j ∧ j < 2 ^ 62 ∧ R ((List.range j.toNat).map fun k => D.int (k : Nat)) (fun _ => True) M1
  | _ => False
def irng12 (ta : TA2) : TI2 := fun E ρ M R => ta E ρ M (kIr1 R)
def kIr2 (R : List D → (MP → Prop) → MP → Prop) : List D → MP → Prop := fun ds M1 => match ds with
  | [.int i, .int j] => (-(2 ^ 62) ≤ i ∧ i < 2 ^ 62 ∧ -(2 ^ 62) ≤ j ∧ j < 2 ^ 62) ∧ R ((List.range (j - i).toNat).map fun k => D.int (i + (k : Nat))) (fun _ => True) M1
  | _ => False
def irng22 (ta : TA2) : TI2 := fun E ρ M R => ta E ρ M (kIr2 R)
theorem walkR_at {J : It} {H₀ : Hp} {ds : List D} {G : MP → Prop} {GH : Hp → List V → Prop}
    (hgo : ∀ i H vs, i < vs.length → GH H vs → J.go i H) (hst : ∀ H vs, GH H vs → J.stop vs.length H) (hy : ∀ i H x H' vs, GH H vs → J.yld i H x H' → H' = H ∧ vs[i]? = some x)
    (hG : ∀ H M, Tk K H₀ H → RelM K M H → G M → ∃ vs, GH H vs ∧ Reps K H ds vs) : WalkR K H₀ J ds G := by
  refine ⟨fun i H M hi tk rm g => ?_, fun H M tk rm g => ?_, fun i H M x H' hi tk rm g y => ?_⟩
  · obtain ⟨vs, gh, r⟩ := hG H M tk rm g
    exact hgo i H vs (by rw [r.length]; exact hi) gh
  · obtain ⟨vs, gh, r⟩ := hG H M tk rm g
    rw [← r.length]
    exact hst H vs gh
  · obtain ⟨vs, gh, r⟩ := hG H M tk rm g
    obtain ⟨rfl, e⟩ := hy i H x H' vs gh y
    refine ⟨ds[i], by simp [hi], ?_, .refl, rm⟩
    obtain ⟨v, e1, r1⟩ := r.get (i := i) (d := ds[i]) (by simp [hi])
    rw [e] at e1; cases e1
    exact r1
theorem pilist2 {tg l : Expr} {tl : TE2} (hl : PE2 X W l tl) : PI2 X W tg l (ilist2 tl) :=
  pi_imp (pi_list hl) fun σ H R ⟨ρ, M, R2, E2, rs, rm, q, xr, k⟩ => ⟨ρ, M, _, E2, rs, rm, q, fun x H1 d M1 s1 r1 m1 q1 => by
    match d, q1, r1 with
    | .ref a, ⟨ds, hm, q1⟩, r1 =>
      cases r1
      obtain ⟨vs, s, r⟩ := rm_sql m1 hm
      refine ⟨a, rfl, ⟨vs, s⟩, k _ H1 ds _ M1 s1 m1 ?_ q1⟩
      exact walkR_at (GH := fun H vs => SqL X.K H a vs) (fun i H vs hi g => walk_list.goes i H hi g) (fun H vs g => walk_list.stops H g) (fun i H x H' vs g y => ⟨y.1, y.2 vs g⟩) fun H M tk rm g => rm_sql rm g
    | .scr ds, q1, r1 =>
      simp only [Rep] at r1
      obtain ⟨a, vs, rfl, t, r⟩ := r1
      refine ⟨a, rfl, ⟨vs, t.l⟩, k _ H1 ds _ M1 s1 m1 ?_ q1⟩
      exact walkR_at (GH := fun H vs => SqL X.K H a vs) (fun i H vs hi g => walk_list.goes i H hi g) (fun H vs g => walk_list.stops H g) (fun i H x H' vs g y => ⟨y.1, y.2 vs g⟩) fun H M tk rm g => ⟨vs, (tk.2 a vs t).l, Reps.mono tk _ _ r⟩, xr⟩
theorem pitup2 {tg l : Expr} {tl : TE2} (hl : PE2 X W l tl) : PI2 X W tg l (itup2 tl) :=
  pi_imp (pi_tup hl) fun σ H R ⟨ρ, M, R2, E2, rs, rm, q, xr, k⟩ => ⟨ρ, M, _, E2, rs, rm, q, fun x H1 d M1 s1 r1 m1 q1 => by
    match d, q1, r1 with
    | .tup ds, q1, r1 =>
      simp only [Rep] at r1
      obtain ⟨a, vs, rfl, t, r⟩ := r1
      refine ⟨a, rfl, ⟨vs, t⟩, k _ H1 ds _ M1 s1 m1 ?_ q1⟩
      exact walkR_at (GH := fun H vs => SqT X.K H a vs) (fun i H vs hi g => walk_tup.goes i H hi g) (fun H vs g => walk_tup.stops H g) (fun i H x H' vs g y => ⟨y.1, y.2 vs g⟩) fun H M tk rm g => ⟨vs, tk.1 a vs t, Reps.mono tk _ _ r⟩, xr⟩
theorem walkR_rng {lo : Int} {n : Nat} {H₀ : Hp} {ds : List D} (e : ds = (List.range n).map fun (k : Nat) => D.int (lo + (k : Int))) : WalkR K H₀ (Itr lo n) ds (fun _ => True) := by
  have hl : ds.length = n := by rw [e]; simp
  refine ⟨fun i H M hi _ _ _ => ?_, fun H M _ _ _ => ?_, fun i H M x H' hi _ rm _ y => ?_⟩
  · rw [hl] at hi; exact hi
  · rw [hl]; exact Nat.le_refl _
  · obtain ⟨rfl, rfl⟩ := y
    refine ⟨.int (lo + i), ?_, rfl, .refl, rm⟩
    rw [hl] at hi
    rw [e]
    simp [hi]
theorem pirng12 {tg a : Expr} {ta : TA2} {p pos : Pos} (hg : Gl X "range") (hm : X.mg "range" = none) (ha : PA2 X W [a] ta) (hs : starEach [a] X.env = [(false, eval a X.env)] := by rfl) : PI2 X W tg (.Call (.Name "range" p) [a] [] pos) (irng12 ta) :=
  pi_imp (pi_range1 hg hm ha hs) fun σ H R ⟨ρ, M, R2, E2, rs, rm, q, xr, k⟩ => ⟨ρ, M, _, E2, rs, rm, q, fun xs H1 ds M1 s1 r1 m1 q1 => by
    match ds, q1, r1 with
    | [.int j], ⟨h1, h2, q1⟩, r1 =>
      obtain ⟨v, q, rfl, r2, rfl⟩ := r1
      cases r2
      exact ⟨j, rfl, h1, h2, k _ H1 _ _ M1 s1 m1 (walkR_rng (by simp)) q1⟩, xr⟩
theorem pirng22 {tg a b : Expr} {ta : TA2} {p pos : Pos} (hg : Gl X "range") (hm : X.mg "range" = none) (ha : PA2 X W [a, b] ta) (hs : starEach [a, b] X.env = [(false, eval a X.env), (false, eval b X.env)] := by rfl) (hs2 : starEach [b] X.env = [(false, eval b X.env)] := by rfl) : PI2 X W tg (.Call (.Name "range" p) [a, b] [] pos) (irng22 ta) :=
  pi_imp (pi_range2 hg hm ha hs hs2) fun σ H R ⟨ρ, M, R2, E2, rs, rm, q, xr, k⟩ => ⟨ρ, M, _, E2, rs, rm, q, fun xs H1 ds M1 s1 r1 m1 q1 => by
    match ds, q1, r1 with
    | [.int i, .int j], ⟨h, q1⟩, r1 =>
      obtain ⟨v, q, rfl, r2, r3⟩ := r1
      obtain ⟨w, q', rfl, r4, rfl⟩ := r3
      cases r2; cases r4
      exact ⟨i, j, rfl, h, k _ H1 _ _ M1 s1 m1 (walkR_rng rfl) q1⟩, xr⟩
/-- enumerate(xs), zip(xs, ys) of lists: pairs -/
def kIe (R : List D → (MP → Prop) → MP → Prop) : List D → MP → Prop := fun xs M1 => match xs with
  | [.ref a] => ∃ ds, M1 a = some (.lst ds) ∧ R (ds.zipIdx.map fun p => D.tup [.int (p.2 : Nat), p.1]) (fun M => M a = some (.lst ds)) M1
  | _ => False
def ienum2 (ta : TA2) : TI2 := fun E ρ M R => ta E ρ M (kIe R)
def kIz (R : List D → (MP → Prop) → MP → Prop) : List D → MP → Prop := fun xs M1 => match xs with
  | [.ref a, .ref b] => ∃ ds es, M1 a = some (.lst ds) ∧ M1 b = some (.lst es) ∧ R ((ds.zip es).map fun p => D.tup [p.1, p.2]) (fun M => M a = some (.lst ds) ∧ M b = some (.lst es)) M1
  | _ => False
def izip2 (ta : TA2) : TI2 := fun E ρ M R => ta E ρ M (kIz R)
theorem pair_new {T : Addr} {x y : V} {d e : D} (rm : RelM K M H) (hT : H T = none) (rx : Rep K H d x) (ry : Rep K H e y) : Rep K (upd H T (.tup [x, y])) (.tup [d, e]) (.ref T) ∧ Stp K H M (upd H T (.tup [x, y])) M ∧ RelM K M (upd H T (.tup [x, y])) := by
  have s : Stp K H M (upd H T (.tup [x, y])) M := .tupNew hT
  exact ⟨⟨T, _, rfl, .of upd_same, x, [y], rfl, s.rep rx, y, [], rfl, s.rep ry, rfl⟩, s, rm.tupNew hT⟩
theorem pienum2 {e : Expr} {ta : TA2} {p pos tpos : Pos} {elts : List Expr} {kk : Nat} (hg : Gl X "enumerate") (hm : X.mg "enumerate" = none) (ha : PA2 X W [e] ta) (hs : starEach [e] X.env = [(false, eval e X.env)] := by rfl) : PI2 X W (.Tuple elts kk tpos) (.Call (.Name "enumerate" p) [e] [] pos) (ienum2 ta) :=
  pi_imp (pi_enum hg hm ha hs) fun σ H R ⟨ρ, M, R2, E2, rs, rm, q, xr, k⟩ => ⟨ρ, M, _, E2, rs, rm, q, fun xs H1 ds M1 s1 r1 m1 q1 => by
    match ds, q1, r1 with
    | [.ref a], ⟨ds, hm, q1⟩, r1 =>
      obtain ⟨v, q, rfl, r2, rfl⟩ := r1
      cases r2
      obtain ⟨vs, s, r⟩ := rm_sql m1 hm
      refine ⟨a, vs, rfl, s, k _ H1 _ _ M1 s1 m1 ?_ q1⟩
      refine ⟨fun i H M hi _ rm g => ?_, fun H M _ rm g => ?_, fun i H M x H' hi _ rm g y => ?_⟩
      · obtain ⟨vs, s, r⟩ := rm_sql rm g
        exact walk_enum.goes i H (by rw [r.length]; simpa using hi) s
      · obtain ⟨vs, s, r⟩ := rm_sql rm g
        have := (walk_enum (K := X.K)).stops H s
        rw [r.length] at this
        simpa using this
      · obtain ⟨vs, s, r⟩ := rm_sql rm g
        obtain ⟨T, x1, y1, rfl, hT, rfl, e1, e2⟩ := walk_enum.yields i H x H' (by rw [r.length]; simpa using hi) s y
        cases e1
        have hi' : i < ds.length := by simpa using hi
        obtain ⟨w, e3, r3⟩ := r.get (i := i) (d := ds[i]) (by simp [hi'])
        have e2 : vs[i]? = some y1 := e2
        rw [e2] at e3; cases e3
        obtain ⟨p1, p2, p3⟩ := pair_new (M := M) rm hT (show Rep X.K H (.int (i : Nat)) (.int (i : Nat)) from rfl) r3
        exact ⟨_, by simp [hi'], p1, p2, p3⟩, xr⟩
theorem pizip2 {e e2 : Expr} {ta : TA2} {p pos tpos : Pos} {elts : List Expr} {kk : Nat} (hg : Gl X "zip") (hm : X.mg "zip" = none) (ha : PA2 X W [e, e2] ta)
    (hs : starEach [e, e2] X.env = (false, eval e X.env) :: starEach [e2] X.env := by rfl) (hpl : (backTo pos (starEach [e2] X.env)).any (·.1) = false := by rfl) : PI2 X W (.Tuple elts kk tpos) (.Call (.Name "zip" p) [e, e2] [] pos) (izip2 ta) :=
  pi_imp (pi_zip hg hm ha hs hpl) fun σ H R ⟨ρ, M, R2, E2, rs, rm, q, xr, k⟩ => ⟨ρ, M, _, E2, rs, rm, q, fun xs H1 ds M1 s1 r1 m1 q1 => by
    match ds, q1, r1 with
    | [.ref a, .ref b], ⟨ds, es, hm, hm2, q1⟩, r1 =>
      obtain ⟨v, q, rfl, r2, r4⟩ := r1
      obtain ⟨w, q', rfl, r5, rfl⟩ := r4
      cases r2; cases r5
      obtain ⟨vs, s, r⟩ := rm_sql m1 hm
      obtain ⟨ws, s', r'⟩ := rm_sql m1 hm2
      refine ⟨a, b, vs, ws, rfl, s, s', k _ H1 _ _ M1 s1 m1 ?_ q1⟩
      refine ⟨fun i H M hi _ rm g => ?_, fun H M _ rm g => ?_, fun i H M x H' hi _ rm g y => ?_⟩
      · obtain ⟨vs, s, r⟩ := rm_sql rm g.1
        obtain ⟨ws, s', r'⟩ := rm_sql rm g.2
        exact (walk_zip rfl).goes i H (by rw [r.length, r'.length]; simpa using hi) ⟨s, s'⟩
      · obtain ⟨vs, s, r⟩ := rm_sql rm g.1
        obtain ⟨ws, s', r'⟩ := rm_sql rm g.2
        have := (walk_zip (K := X.K) rfl).stops H ⟨s, s'⟩
        rw [r.length, r'.length] at this
        simpa using this
      · obtain ⟨vs, s, r⟩ := rm_sql rm g.1
        obtain ⟨ws, s', r'⟩ := rm_sql rm g.2
        obtain ⟨T, x1, y1, rfl, hT, rfl, e1, e2⟩ := (walk_zip rfl).yields i H x H' (by rw [r.length, r'.length]; simpa using hi) ⟨s, s'⟩ y
        have hi1 : i < ds.length := by simp at hi; omega
        have hi2 : i < es.length := by simp at hi; omega
        obtain ⟨w, e3, r3⟩ := r.get (i := i) (d := ds[i]) (by simp [hi1])
        obtain ⟨w', e4, r4⟩ := r'.get (i := i) (d := es[i]) (by simp [hi2])
        have e1 : vs[i]? = some x1 := e1
        have e2 : ws[i]? = some y1 := e2
        rw [e1] at e3; cases e3
        rw [e2] at e4; cases e4
        obtain ⟨p1, p2, p3⟩ := pair_new (M := M) rm hT r3 r4
        exact ⟨_, by simp [List.getElem?_zip_eq_some, hi1, hi2], p1, p2, p3⟩, xr⟩
end
end N2


namespace N2
open PySem PySem.Spec PyProof.Rows L2
section
variable {X : Cx} {K : PySem.W.Frag} {H : Hp} {M : MP} {W : WX}
theorem hu1 {k : Nat} {A : Around} (r : Room k A) : A.units + 1 < cLine := by have := r.un; omega
theorem hu64 {k : Nat} {A : Around} (r : Room k A) : A.units + 64 < cLine := by have := r.un; omega
theorem hu65 {k : Nat} {A : Around} (r : Room k A) : A.units + 65 < cLine := by have := r.un; omega
def uNeg : D → MP → VK2 → Prop := fun x M Q => match x with | .int i => Q (.int (-i)) M | _ => False
theorem negRel : UnRel K (rU fun i => .int (-i)) uNeg := by
  intro x d H M Q Q2 r rm h vr
  match d, h with
  | .int i, h => cases r; exact ⟨i, rfl, vr _ H (.int _) M .refl rfl rm h⟩
/-- a module's number, a module's text -/
theorem pgi2 {x : Str} {n : Int} {pos : Pos} (hg : Gl X x) (h : ∃ t, X.mg x = some (.int n t)) (hd : (x == ("__debug__" : Str)) = false := by decide) : PE2 X W (.Name x pos) (c2 (.int n)) := by
  obtain ⟨t, e⟩ := h
  exact pglob2 (v := .int n) hg e ⟨t, rfl⟩ (fun _ => rfl) hd
theorem pgs2 {x : Str} {n : Str} {pos : Pos} (hg : Gl X x) (h : ∃ t, X.mg x = some (.str n t)) (hd : (x == ("__debug__" : Str)) = false := by decide) : PE2 X W (.Name x pos) (c2 (.str n)) := by
  obtain ⟨t, e⟩ := h
  exact pglob2 (v := .str n) hg e ⟨t, rfl⟩ (fun _ => rfl) hd
/-! ### raise X('..'), X an own class under NewsError, ValueError -/
structure ExC (K : PySem.W.Frag) (mg : Str → Option Value) (x : Str) (C : Addr) : Prop where
  g : mg x = some (.ref C)
  x : PySem.W.excIn K C [.type "ValueError", .type "Exception", .type "BaseException", .type "object"] "ValueError.__new__" = true
  k : PySem.W.keepIn K (.ref C) = true
  b : PySem.W.subIn K (.ref C) (.type "BaseException") = some true
  t : PySem.W.typeIn K (.ref C) = some (.type "type")
def raise2 (C : Addr) : TS2 := fun D ρ M => D.ex (.ref C) ρ M
theorem psraise2 {x m : Str} {C : Addr} {j : Nat} {p p2 pos pos' : Pos} (hc : X.calm = true) (tk : Takes X W) (c : ExC X.K X.mg x C) (hg : Gl X x) (hdb : (x == ("__debug__" : Str)) = false := by decide) :
    PS2 X W (.Raise (some (.Call (.Name x p) [.Constant (.str m) j p2] [] pos)) none pos') (raise2 C) :=
  ps_imp (ps_raise hc tk (pmk_own PySem.F.excBase_ValueError c.x c.g c.k (raises_own c.b c.t) hg hdb)) fun D σ H ⟨ρ, M, D2, rs, rm, q, er⟩ => er.ex (.ref C) ρ σ H M .refl rs rm q
/-- a def of the top: where it stands -/
structure FD (K : PySem.W.Frag) (mg : Str → Option Value) (x : Str) (st : Stmt) (ps : List Str) (f : Addr) (fd : FuncData) : Prop where
  fn : Fun K x x st f fd
  mgf : mg x = some (.ref f)
  bd : Binds K fd ps []
theorem FD.fn2 {P : Program} {w : World} {K : PySem.W.Frag} {mg : Str → Option Value} {base : Heap} {x : Str} {st : Stmt} {N ps : List Str} {k : Nat} {sp : Sp2} {t : TS2} {f : Addr} {fd : FuncData} (F : FD K mg x st ps f fd) (S : FnScope N ps (defScope st))
    (hb : ∀ (cdv : Value) (A : Around) (outer : List Env) (s : Shared) (H : Hp) (E : XK), Room k (A.deeper (envOfC x (defScope st) s.heap.objs.size f cdv)) → PSs2 (cxOf (L2.CX P w) P w K mg base N x (defScope st) f cdv A outer s H E) (WD E) (defBody st) t)
    (len : ∀ ds M Q E, sp ds M Q E → ds.length = ps.length)
    (hv : ∀ ds M Q E, sp ds M Q E → t (endsOf Q E) (start2 N ds) M) : Fn2 P w K mg base (k + 1) x sp [] :=
  ⟨f, fd, ps, [], [], fnok2 F.fn S len hb hv, F.mgf, F.fn.kp, F.bd, .nil, fun _ => rfl⟩
end
/-! ### the law's end -/
/-- the law's promise: of each script it tells True -/
def lawSp : Sp2 := fun ds M Q _ => ∃ ns : List Int, ds = [.scr (ns.map D.int)] ∧ ns.length ≤ 63 ∧ ∀ M', Q (.bl true) M'
theorem walk2 {l : PySem.W.OpenLaw} {k : Nat} {q : Program} {loose : List Str} {XP : (Str → Option Value) → Heap → Prop} {YP : World → Heap → Prop} {d : DefRec} {K : Params → PySem.W.Frag} {sp : Sp2}
    (hn : l.most = some 63) (hdf : d.params.defaults = []) (hr : Room k callerA)
    (hY : ∀ (w : World) (h : Heap), YP w h → (K w.params).In h)
    (F : ∀ (w : World) (mg : Str → Option Value) (fa : Addr) (h : Heap), (K w.params).In h → h.Ns mainGlobals mg → mg d.name = some (.ref fa) →
      ∃ fd : FuncData, (∀ (s : Shared) (u : Value), BindsTo s fd ⟨[u], []⟩ [("script", u)]) ∧
        ∀ base : Heap, (K w.params).In base → base.Ns mainGlobals mg → FnOk l.prog w (K w.params) mg base (L2.CX l.prog w) k fa fd ["script"] (spOf (K w.params) sp))
    (hsp : ∀ ns : List Int, ns.length ≤ 63 → sp [.scr (ns.map D.int)] (fun _ => none) (fun d _ => d = .bl true) fun _ _ => False) :
    PySem.W.WalkO q loose XP YP l.row.toRowW d [] (fun f vs => PySem.call f vs) :=
  L2.walk_of (n := 63) (k := k) (x := "script") (CX := fun w => L2.CX l.prog w) (sp := fun w => spOf (K w.params) sp) hn (by decide) hdf hr hY F
    (fun w H a ns hl hO hS => by
      have hI : SqI (K w.params) H a (ns.map V.int) := by
        rcases hS with (h | ⟨o, h⟩) | h
        · rcases hO a with z | ⟨ob, xs, z⟩ <;> (rw [h] at z; cases z)
        · exact .inl ⟨o, h⟩
        · exact .inr h
      have rep : ∀ ns : List Int, Reps (K w.params) H (ns.map D.int) (ns.map V.int) := by
        intro ns
        induction ns with
        | nil => rfl
        | cons n ns ih => exact ⟨_, _, rfl, rfl, ih⟩
      refine ⟨[.scr (ns.map D.int)], fun _ => none, _, _, ⟨_, [], rfl, ⟨a, _, rfl, hI, rep ns⟩, rfl⟩, fun _ _ z => (by cases z), hsp ns hl, ?_, fun c H1 M1 _ _ z => False.elim z⟩
      intro v H' d M' _ r _ e
      subst e
      exact r)
    fun w H s e s1 z => by
      obtain ⟨_, _, _, _, _, _, _, _, _, _, _, _, z⟩ := z
      exact False.elim z
end N2


namespace N2
open PySem PySem.Spec PyProof.Rows L2
section
variable {E : XK2} {ρ : St2} {M : MP} {D0 : Ends2} {ta tb te to : TE2} {t u : TS2} {tt tu : TT2} {al : TA2} {Q : VK2} {QB : Bool → MP → Prop} {QA : List D → MP → Prop} {QS : St2 → MP → Prop} {QO : Option Int → MP → Prop} {d x y : D} {b : Bool} {a : Addr} {xs ys : List D} {i j : Int} {R : MP → Prop}
/-! ### one step each: what the reading of a construct comes to -/
theorem w_seq (h : t { D0 with nx := u D0 } ρ M) : seq2 t u D0 ρ M := h
theorem w_next (h : D0.nx ρ M) : next2 D0 ρ M := h
theorem w_brk (h : D0.bk ρ M) : brk2 D0 ρ M := h
theorem w_cont (h : D0.ct ρ M) : cont2 D0 ρ M := h
theorem w_drop (h : te D0.ex ρ M fun _ M1 => D0.nx ρ M1) : drop2 te D0 ρ M := h
theorem w_ret (h : te D0.ex ρ M D0.rt) : ret2 te D0 ρ M := h
theorem w_retn (h : D0.rt .non M) : retn2 D0 ρ M := h
theorem w_if (h : tt D0.ex ρ M fun b M1 => if b = true then t D0 ρ M1 else u D0 ρ M1) : if2 tt t u D0 ρ M := h
theorem w_asg {g : TG2} (h : te D0.ex ρ M fun x M1 => g x ρ M1 D0.nx) : asg2 te g D0 ρ M := h
theorem w_gn {k : Nat} (h : QS (ρ.set k (some d)) M) : gn2 k d ρ M QS := h
theorem w_gtup {k : Nat} {g : TGs2} (hl : xs.length = k) (h : g xs ρ M QS) : gtup2 k g (.tup xs) ρ M QS := ⟨hl, h⟩
theorem w_gtupL {k : Nat} {g : TGs2} (e : M a = some (.lst xs)) (hl : xs.length = k) (h : g xs ρ M QS) : gtup2 k g (.ref a) ρ M QS := ⟨xs, e, hl, h⟩
theorem w_gcons {g : TG2} {gs : TGs2} (h : g d ρ M fun ρ' M' => gs xs ρ' M' QS) : gcons2 g gs (d :: xs) ρ M QS := h
theorem w_gnil (h : QS ρ M) : gnil2 [] ρ M QS := ⟨rfl, h⟩
theorem w_par {k l : Nat} (h : al D0.ex ρ M (kPar k l ρ D0.nx)) : par2 k l al D0 ρ M := h
theorem w_kPar {k l : Nat} (h : QS ((ρ.set k (some x)).set l (some y)) M) : kPar k l ρ QS [x, y] M := h
theorem w_par3 {k l m : Nat} (h : al D0.ex ρ M (kPar3 k l m ρ D0.nx)) : par32 k l m al D0 ρ M := h
theorem w_kPar3 {k l m : Nat} (h : QS (((ρ.set k (some x)).set l (some y)).set m (some d)) M) : kPar3 k l m ρ QS [x, y, d] M := h
theorem w_sub {ti : TE2} {r : TSet2} (h : te D0.ex ρ M fun v M1 => to D0.ex ρ M1 fun o M2 => ti D0.ex ρ M2 fun i M3 => r o i v M3 fun M4 => D0.nx ρ M4) : sub2 te to ti r D0 ρ M := h
theorem w_raise {C : Addr} (h : D0.ex (.ref C) ρ M) : raise2 C D0 ρ M := h
theorem w_v {k : Nat} (e : ρ[k]? = some (some d)) (h : Q d M) : v2 k E ρ M Q := ⟨d, e, h⟩
theorem w_c (h : Q d M) : c2 d E ρ M Q := h
theorem w_op {r : R22} (h : ta E ρ M fun x M1 => tb E ρ M1 fun y M2 => r x y M2 Q) : op2 r ta tb E ρ M Q := h
theorem w_un {r : D → MP → VK2 → Prop} (h : ta E ρ M fun x M1 => r x M1 Q) : un2 r ta E ρ M Q := h
theorem w_neg (h : Q (.int (-i)) M) : uNeg (.int i) M Q := h
theorem w_bt (h : te E ρ M (kB QB)) : bt2 te E ρ M QB := h
theorem w_kB (h : QB b M) : kB QB (.bl b) M := h
theorem w_tr (h : te E ρ M (kTr QB)) : tr2 te E ρ M QB := h
theorem w_kTr (e : truD M d = some b) (h : QB b M) : kTr QB d M := by unfold kTr; rw [e]; exact h
theorem w_kTrB (h : QB b M) : kTr QB (.bl b) M := h
theorem w_kTrN (h : QB false M) : kTr QB .non M := h
theorem w_kTrI (h : QB (i != 0) M) : kTr QB (.int i) M := h
theorem w_kTrT (h : QB (!xs.isEmpty) M) : kTr QB (.tup xs) M := h
theorem w_kTrL (e : M a = some (.lst xs)) (h : QB (!xs.isEmpty) M) : kTr QB (.ref a) M := w_kTr (by simp only [truD, e]) h
theorem w_and (h : tt E ρ M fun c M1 => if c = true then tu E ρ M1 QB else QB false M1) : and2 tt tu E ρ M QB := h
theorem w_or (h : tt E ρ M fun c M1 => if c = true then QB true M1 else tu E ρ M1 QB) : or2 tt tu E ρ M QB := h
theorem w_not (h : tt E ρ M fun c M1 => QB (!c) M1) : not2 tt E ρ M QB := h
theorem w_andv (h : ta E ρ M (kAnd (fun M1 => tb E ρ M1 Q) Q)) : andv2 ta tb E ρ M Q := h
theorem w_orv (h : ta E ρ M (kOr (fun M1 => tb E ρ M1 Q) Q)) : orv2 ta tb E ρ M Q := h
theorem w_notv (h : ta E ρ M (kNot Q)) : notv2 ta E ρ M Q := h
theorem w_kAndB (h1 : b = true → R M) (h2 : b = false → Q (.bl false) M) : kAnd R Q (.bl b) M := by cases b; exact h2 rfl; exact h1 rfl
theorem w_kOrB (h1 : b = true → Q (.bl true) M) (h2 : b = false → R M) : kOr R Q (.bl b) M := by cases b; exact h2 rfl; exact h1 rfl
theorem w_kNotB (h : Q (.bl (!b)) M) : kNot Q (.bl b) M := h
theorem w_kAndT (h : R M) : kAnd R Q (.bl true) M := h
theorem w_kAndF (h : Q (.bl false) M) : kAnd R Q (.bl false) M := h
theorem w_kOrT (h : Q (.bl true) M) : kOr R Q (.bl true) M := h
theorem w_kOrF (h : R M) : kOr R Q (.bl false) M := h
theorem w_ife (h : tt E ρ M fun c M1 => if c = true then ta E ρ M1 Q else tb E ρ M1 Q) : ife2 tt ta tb E ρ M Q := h
theorem w_nil (h : QA [] M) : nil2 E ρ M QA := h
theorem w_cons (h : te E ρ M fun x M1 => al E ρ M1 fun xs M2 => QA (x :: xs) M2) : cons2 te al E ρ M QA := h
theorem w_tup (h : al E ρ M fun xs M1 => xs.length ≤ sizeLine ∧ Q (.tup xs) M1) : tup2 al E ρ M Q := h
theorem w_lst (h : al E ρ M fun xs M1 => xs.length ≤ sizeLine ∧ ∀ p, M1 p = none → Q (.ref p) (updM M1 p (.lst xs))) : lst2 al E ρ M Q := h
theorem sz0 : ([] : List D).length ≤ sizeLine := Nat.zero_le _
theorem sz_of {xs : List D} {n : Nat} (h : xs.length ≤ n) (hn : n ≤ 16777216 := by decide) : xs.length ≤ sizeLine := by rw [sizeLine_eq]; omega
theorem szl {n : Nat} (h : n ≤ 16777216) : n ≤ sizeLine := by rw [sizeLine_eq]; omega
theorem szlt {n : Nat} (h : n < 16777216) : n < sizeLine := by rw [sizeLine_eq]; omega
theorem w_call {r : RC2} (h : al E ρ M fun ds M1 => r ds M1 Q) : call2 r al E ρ M Q := h
theorem w_fn {sp : Sp2} {dvs : List D} (h : al E ρ M fun ds M1 => sp (ds ++ dvs) M1 Q fun c M' => E c ρ M') : fn2 sp dvs al E ρ M Q := h
theorem w_meth {T : String} {r : RMt2} (h : to E ρ M fun x M1 => tyD M1 x T ∧ al E ρ M1 fun ds M2 => r x ds M2 Q) : meth2 T r to al E ρ M Q := h
theorem w_meth0 {T : String} {r : RMt2} (h : to E ρ M fun x M1 => tyD M1 x T ∧ r x [] M1 Q) : meth02 T r to E ρ M Q := h
theorem ty_l (h : M a = some (.lst xs)) : tyD M (.ref a) "list" := .inl ⟨rfl, xs, h⟩
theorem w_sl {r : RSl2} {tl th : TO2} (h : te E ρ M fun x M1 => tl E ρ M1 fun l M2 => th E ρ M2 fun u M3 => r x l u M3 Q) : sl2 r te tl th E ρ M Q := h
theorem w_onone (h : QO none M) : onone2 E ρ M QO := h
theorem w_osome (h : te E ρ M (kO QO)) : osome2 te E ρ M QO := h
theorem w_kO (h : QO (some i) M) : kO QO (.int i) M := h
theorem w_rev (h : te E ρ M (kRev Q)) : rev2 te E ρ M Q := h
theorem w_kRev (e : M a = some (.lst xs)) (h : ∀ p, M p = none → Q (.ref p) (updM M p (.lst xs.reverse))) : kRev Q (.ref a) M := ⟨xs, e, h⟩
theorem w_yes (h : QB true M) : yes2 E ρ M QB := h
/-! operators on data -/
theorem w_addI (h : Q (.int (i + j)) M) : bAdd (.int i) (.int j) M Q := h
theorem w_addS {z w : Str} (hz : z.length + w.length ≤ sizeLine) (h : Q (.str (z ++ w)) M) : bAdd (.str z) (.str w) M Q := ⟨hz, h⟩
theorem w_addT (hz : xs.length + ys.length ≤ sizeLine) (h : Q (.tup (xs ++ ys)) M) : bAdd (.tup xs) (.tup ys) M Q := ⟨hz, h⟩
theorem w_addL {c : Addr} (e1 : M a = some (.lst xs)) (e2 : M c = some (.lst ys)) (hz : xs.length + ys.length ≤ sizeLine) (h : ∀ p, M p = none → Q (.ref p) (updM M p (.lst (xs ++ ys)))) : bAdd (.ref a) (.ref c) M Q := ⟨xs, ys, e1, e2, hz, h⟩
theorem w_subI (h : Q (.int (i - j)) M) : bSub (.int i) (.int j) M Q := ⟨trivial, h⟩
theorem w_modI (hj : 0 < j) (h : Q (.int (i % j)) M) : bMod (.int i) (.int j) M Q := ⟨hj, h⟩
theorem w_divI (hj : CDivW i j) (h : Q (.int (i / j)) M) : bFdiv (.int i) (.int j) M Q := ⟨hj, h⟩
theorem divw {i j : Int} (h0 : 0 < j) (h1 : j < 2 ^ 600) : CDivW i j := wide_div (b := 600) h0 (by omega) (by decide) (by decide)
theorem w_mulI (hj : CMulA i j) (h : Q (.int (i * j)) M) : bMul (.int i) (.int j) M Q := ⟨hj, h⟩
theorem mul_l {i j : Int} (h1 : -(2 ^ 64) < i) (h2 : i < 2 ^ 64) : CMulA i j := .inl (.inl ⟨h1, h2⟩)
theorem mul_r {i j : Int} (h1 : -(2 ^ 64) < j) (h2 : j < 2 ^ 64) : CMulA i j := .inl (.inr ⟨h1, h2⟩)
theorem mul_w {i j : Int} (n m : Nat) (h1 : i.natAbs < 2 ^ n) (h2 : j.natAbs < 2 ^ m) (hn : 0 < n) (hm : 0 < m) (h : n + m ≤ 1000000) : CMulA i j := .inr (wide_mul h1 h2 hn hm h)
theorem w_mulL {k : Int} (e : M a = some (.lst xs)) (h0 : 0 ≤ k) (h1 : k < 2 ^ 63) (hz : xs.length * k.toNat ≤ sizeLine) (h : ∀ p, M p = none → Q (.ref p) (updM M p (.lst (List.replicate k.toNat xs).flatten))) : bMul (.ref a) (.int k) M Q := ⟨xs, e, h0, h1, hz, h⟩
theorem w_pow (hj : CPowW i j) (h : Q (.int (i ^ j.toNat)) M) : bPow (.int i) (.int j) M Q := ⟨hj, h⟩
theorem w_eqS (e : scalD x y = some b) (h : Q (.bl b) M) : bEq x y M Q := by unfold bEq; rw [e]; exact h
theorem w_neS (e : scalD x y = some b) (h : Q (.bl (!b)) M) : bNe x y M Q := w_eqS e h
theorem w_eqI (h : Q (.bl (i == j)) M) : bEq (.int i) (.int j) M Q := h
theorem w_neI (h : Q (.bl (!(i == j))) M) : bNe (.int i) (.int j) M Q := h
theorem w_eqB {c : Bool} (h : Q (.bl (b == c)) M) : bEq (.bl b) (.bl c) M Q := h
theorem w_neB {c : Bool} (h : Q (.bl (!(b == c))) M) : bNe (.bl b) (.bl c) M Q := h
theorem w_eqZ {z w : Str} (h : Q (.bl (z == w)) M) : bEq (.str z) (.str w) M Q := h
theorem w_neZ {z w : Str} (h : Q (.bl (!(z == w))) M) : bNe (.str z) (.str w) M Q := h
/-- two lists of data -/
theorem w_eqL {c : Addr} {n m : Nat} (e1 : M a = some (.lst xs)) (e2 : M c = some (.lst ys)) (p1 : pureDs n xs = true) (p2 : pureDs m ys = true) (hn : n + 1 ≤ 64) (hm : m + 1 ≤ 64) (h : Q (.bl (PyData.eqvAll (pyDs xs) (pyDs ys))) M) : bEq (.ref a) (.ref c) M Q :=
  ⟨.list (pyDs xs), .list (pyDs ys), by simp only [IsP]; exact ⟨a, xs, rfl, e1, pure_isPs n xs p1⟩, by simp only [IsP]; exact ⟨c, ys, rfl, e2, pure_isPs m ys p2⟩, pures_shaped hn p1, pures_shaped hm p2, by simp only [PyData.eqv]; exact h⟩
theorem w_neL {c : Addr} {n m : Nat} (e1 : M a = some (.lst xs)) (e2 : M c = some (.lst ys)) (p1 : pureDs n xs = true) (p2 : pureDs m ys = true) (hn : n + 1 ≤ 64) (hm : m + 1 ≤ 64) (h : Q (.bl (!PyData.eqvAll (pyDs xs) (pyDs ys))) M) : bNe (.ref a) (.ref c) M Q :=
  w_eqL e1 e2 p1 p2 hn hm h
theorem w_eqP {n m : Nat} (hs : scalD x y = none) (p1 : pureD n x = true) (p2 : pureD m y = true) (hn : n ≤ 64) (hm : m ≤ 64) (h : Q (.bl (PyData.eqv (pyD x) (pyD y))) M) : bEq x y M Q := by
  unfold bEq
  rw [hs]
  exact ⟨pyD x, pyD y, pure_isP n x p1, pure_isP m y p2, pure_shaped hn p1, pure_shaped hm p2, h⟩
theorem w_neP {n m : Nat} (hs : scalD x y = none) (p1 : pureD n x = true) (p2 : pureD m y = true) (hn : n ≤ 64) (hm : m ≤ 64) (h : Q (.bl (!PyData.eqv (pyD x) (pyD y))) M) : bNe x y M Q := w_eqP hs p1 p2 hn hm h
theorem pure_ints : ∀ ns : List Int, pureDs 0 (ns.map D.int) = true
  | [] => rfl
  | n :: ns => by simp only [List.map_cons, pureDs, pureD, Bool.true_and]; exact pure_ints ns
theorem eqv_ints : ∀ ns ms : List Int, PyData.eqvAll (pyDs (ns.map D.int)) (pyDs (ms.map D.int)) = decide (ns = ms)
  | [], [] => by simp [pyDs, PyData.eqvAll]
  | [], m :: ms => by simp [pyDs, PyData.eqvAll]
  | n :: ns, [] => by simp [pyDs, PyData.eqvAll]
  | n :: ns, m :: ms => by
    simp only [List.map_cons, pyDs, pyD, PyData.eqvAll, PyData.eqv, eqv_ints ns ms]
    by_cases h : n = m <;> by_cases h2 : ns = ms <;> simp [h, h2]
theorem w_eqLI {c : Addr} {ns ms : List Int} (e1 : M a = some (.lst (ns.map D.int))) (e2 : M c = some (.lst (ms.map D.int))) (h : Q (.bl (decide (ns = ms))) M) : bEq (.ref a) (.ref c) M Q :=
  w_eqL e1 e2 (pure_ints ns) (pure_ints ms) (by decide) (by decide) (by rw [eqv_ints]; exact h)
theorem w_neLI {c : Addr} {ns ms : List Int} (e1 : M a = some (.lst (ns.map D.int))) (e2 : M c = some (.lst (ms.map D.int))) (h : Q (.bl (!decide (ns = ms))) M) : bNe (.ref a) (.ref c) M Q :=
  w_neL e1 e2 (pure_ints ns) (pure_ints ms) (by decide) (by decide) (by rw [eqv_ints]; exact h)
theorem w_ordI {p : Int → Int → Bool} {q : List Nat → List Nat → Bool} (h : Q (.bl (p i j)) M) : bOrd p q (.int i) (.int j) M Q := h
theorem w_ordS {p : Int → Int → Bool} {q : List Nat → List Nat → Bool} {z w : Str} (h : Q (.bl (q z.cps.toList w.cps.toList)) M) : bOrd p q (.str z) (.str w) M Q := h
theorem w_is (h : Q (.bl (isNonD x)) M) : bIs x .non M Q := h
theorem w_isNot (h : Q (.bl (!isNonD x)) M) : bIsNot x .non M Q := h
theorem w_inS {neg : Bool} {c : Nat} {z : Str} (h : Q (.bl (if neg then !decide (c ∈ z.cps.toList) else decide (c ∈ z.cps.toList))) M) : bIn neg (.str ⟨#[c]⟩) (.str z) M Q := ⟨c, rfl, h⟩
theorem w_inL {neg : Bool} {n m : Nat} (p1 : pureD n x = true) (e : M a = some (.lst xs)) (p2 : pureDs m xs = true) (hn : n ≤ 64) (hm : m + 1 ≤ 64) (h : Q (.bl (if neg then !((pyDs xs).any fun z => PyData.eqv z (pyD x)) else (pyDs xs).any fun z => PyData.eqv z (pyD x))) M) : bIn neg x (.ref a) M Q :=
  ⟨pyD x, pyDs xs, pure_isP n x p1, by simp only [IsP]; exact ⟨a, xs, rfl, e, pure_isPs m xs p2⟩, pure_shaped hn p1, pures_shaped hm p2, h⟩
theorem any_ints (k : Int) : ∀ ns : List Int, ((pyDs (ns.map D.int)).any fun z => PyData.eqv z (pyD (.int k))) = decide (k ∈ ns)
  | [] => by simp [pyDs]
  | n :: ns => by
    have ih := any_ints k ns
    simp only [List.map_cons, pyDs, List.any_cons, ih, pyD, PyData.eqv]
    simp only [pyD] at ih
    rw [ih]
    by_cases h : n = k
    · subst h; simp
    · have h' : ¬ k = n := fun z => h z.symm
      by_cases h2 : k ∈ ns <;> simp [h, h', h2]
theorem w_inLI {neg : Bool} {k : Int} {ns : List Int} (e : M a = some (.lst (ns.map D.int))) (h : Q (.bl (if neg then !decide (k ∈ ns) else decide (k ∈ ns))) M) : bIn neg (.int k) (.ref a) M Q :=
  w_inL (n := 0) (m := 0) rfl e (pure_ints ns) (by decide) (by decide) (by rw [any_ints]; exact h)
theorem w_ixT (e : atI xs i = some d) (h : Q d M) : bIx (.tup xs) (.int i) M Q := ⟨d, e, h⟩
theorem w_ixR (e : atI xs i = some d) (h : Q d M) : bIx (.scr xs) (.int i) M Q := ⟨d, e, h⟩
theorem w_ixL (e : M a = some (.lst xs)) (e2 : atI xs i = some d) (h : Q d M) : bIx (.ref a) (.int i) M Q := ⟨xs, d, e, e2, h⟩
theorem w_ixS {z : Str} {c : Nat} (hz : z.length ≤ sizeLine) (e : atI z.cps.toList i = some c) (h : Q (.str ⟨#[c]⟩) M) : bIx (.str z) (.int i) M Q := ⟨c, hz, e, h⟩
theorem w_slT {lo hi : Option Int} (h : Q (.tup (cutD xs lo hi)) M) : bSl (.tup xs) lo hi M Q := h
theorem w_slL {lo hi : Option Int} (e : M a = some (.lst xs)) (h : ∀ p, M p = none → Q (.ref p) (updM M p (.lst (cutD xs lo hi)))) : bSl (.ref a) lo hi M Q := ⟨xs, e, h⟩
theorem w_slR {lo hi : Option Int} (h : ∀ p, M p = none → Q (.ref p) (updM M p (.lst (cutD xs lo hi)))) : bSl (.scr xs) lo hi M Q := h
theorem w_slS {z : Str} {lo hi : Option Int} (hz : z.length ≤ sizeLine) (h : Q (.str (cutS z lo hi)) M) : bSl (.str z) lo hi M Q := ⟨hz, h⟩
theorem w_setL {k : Nat} (e : M a = some (.lst xs)) (e2 : ixN xs.length i = some k) (h : R (updM M a (.lst (xs.set k d)))) : bSet (.ref a) (.int i) d M R := ⟨xs, k, e, e2, h⟩
theorem w_append (e : M a = some (.lst xs)) (hz : xs.length < sizeLine) (h : Q .non (updM M a (.lst (xs ++ [d])))) : mAppend (.ref a) [d] M Q := ⟨xs, e, hz, h⟩
theorem w_pop (e : M a = some (.lst (xs ++ [d]))) (h : Q d (updM M a (.lst xs))) : mPop (.ref a) [] M Q := ⟨xs ++ [d], d, e, by simp, by rw [List.dropLast_concat]; exact h⟩
theorem w_popAt {k : Nat} (e : M a = some (.lst xs)) (e2 : ixN xs.length i = some k) (hz : xs.length ≤ sizeLine) (e3 : xs[k]? = some d) (h : Q d (updM M a (.lst (xs.eraseIdx k)))) : mPopAt (.ref a) [.int i] M Q := ⟨xs, k, d, e, e2, hz, e3, h⟩
theorem w_reverse (e : M a = some (.lst xs)) (h : Q .non (updM M a (.lst xs.reverse))) : mReverse (.ref a) [] M Q := ⟨xs, e, h⟩
theorem w_clear (e : M a = some (.lst xs)) (h : Q .non (updM M a (.lst []))) : mClear (.ref a) [] M Q := ⟨xs, e, h⟩
theorem w_extend {c : Addr} (e : M a = some (.lst xs)) (e2 : M c = some (.lst ys)) (hz : xs.length + ys.length ≤ sizeLine) (h : Q .non (updM M a (.lst (xs ++ ys)))) : mExtend (.ref a) [.ref c] M Q := ⟨xs, ys, e, e2, hz, h⟩
theorem w_insert (e : M a = some (.lst xs)) (hz : xs.length < sizeLine) (h0 : 0 ≤ i) (h1 : i < 2 ^ 63) (h : Q .non (updM M a (.lst (xs.take i.toNat ++ [d] ++ xs.drop i.toNat)))) : mInsert (.ref a) [.int i, d] M Q := ⟨xs, e, hz, h0, h1, h⟩
theorem w_isi {c : String} {t : String} (e1 : typeD M x = some t) (e2 : isiT t c = some b) (h : Q (.bl b) M) : bIsi [x, .ty c] M Q := ⟨t, b, e1, e2, h⟩
theorem w_isi2 {c c' : String} {t : String} {b' : Bool} (e1 : typeD M x = some t) (e2 : isiT t c = some b) (e3 : isiT t c' = some b') (h : Q (.bl (b || b')) M) : bIsi [x, .tup [.ty c, .ty c']] M Q := ⟨t, b, b', e1, e2, e3, h⟩
theorem ty_lst (e : M a = some (.lst xs)) : typeD M (.ref a) = some "list" := by simp only [typeD, e]
theorem w_lenT (h : Q (.int xs.length) M) : bLen [.tup xs] M Q := h
theorem w_lenR (h : Q (.int xs.length) M) : bLen [.scr xs] M Q := h
theorem w_lenS {z : Str} (hz : z.length ≤ sizeLine) (h : Q (.int z.length) M) : bLen [.str z] M Q := ⟨hz, h⟩
theorem w_lenL (e : M a = some (.lst xs)) (h : Q (.int xs.length) M) : bLen [.ref a] M Q := .inl ⟨xs, e, h⟩
theorem w_max (h : Q (.int (max i j)) M) : bMax [.int i, .int j] M Q := h
theorem w_min (h : Q (.int (min i j)) M) : bMin [.int i, .int j] M Q := h
theorem w_intI (h : Q (.int i) M) : bInt [.int i] M Q := h
theorem w_intB (h : Q (.int (if b then 1 else 0)) M) : bInt [.bl b] M Q := h
theorem w_listT (h : ∀ p, M p = none → Q (.ref p) (updM M p (.lst xs))) : bList [.tup xs] M Q := h
theorem w_listR (h : ∀ p, M p = none → Q (.ref p) (updM M p (.lst xs))) : bList [.scr xs] M Q := h
theorem w_listL (e : M a = some (.lst xs)) (h : ∀ p, M p = none → Q (.ref p) (updM M p (.lst xs))) : bList [.ref a] M Q := ⟨xs, e, h⟩
theorem w_tupleT (h : Q (.tup xs) M) : bTuple [.tup xs] M Q := h
theorem w_tupleL (e : M a = some (.lst xs)) (h : Q (.tup xs) M) : bTuple [.ref a] M Q := ⟨xs, e, h⟩
theorem w_all {f : List Bool → Bool} {bs : List Bool} (e : M a = some (.lst (bs.map D.bl))) (h : Q (.bl (f bs)) M) : bAll f [.ref a] M Q := ⟨bs, e, h⟩
theorem w_lens (h : te E ρ M (kLens Q)) : lens2 te E ρ M Q := h
theorem w_kLens {ns : List Int} (e : M a = some (.lst (ns.map D.int))) (nd : ns.Nodup) (hl : ns.length ≤ 4000) (h : Q (.int ns.length) M) : kLens Q (.ref a) M := ⟨ns, e, nd, hl, h⟩
theorem updM_lk {M : MP} {a p : Addr} {o u : MO} (h : M a = some o) (hp : M p = none) : updM M p u a = some o := by
  rw [updM_ne (fun z => by rw [z, hp] at h; cases h)]; exact h
theorem typeD_mem {M : MP} {d : D} {t : String} (h : typeD M d = some t) : t ∈ tysL := by
  cases d with
  | ref a =>
    have h' : (match M a with
      | some (.lst _) => some "list" | some (.dK _) => some "dict" | some (.fz _ _) => some "dict" | some (.iset _ _) => some "set" | _ => none) = some t := h
    split at h' <;> first | (cases h'; decide) | cases h'
  | _ => first | (cases h; decide) | cases h
theorem w_isiT {M : MP} {x : D} {Q : VK2} {t c : String} (e : typeD M x = some t) (h : Q (.bl (t == c || (t == "bool" && c == "int"))) M) (hc : c ∈ tysL.tail := by decide) : bIsi [x, .ty c] M Q :=
  ⟨t, _, e, by unfold isiT; rw [if_pos ⟨typeD_mem e, hc⟩], h⟩
theorem w_isiT2 {M : MP} {x : D} {Q : VK2} {t c c' : String} (e : typeD M x = some t) (h : Q (.bl ((t == c || (t == "bool" && c == "int")) || (t == c' || (t == "bool" && c' == "int")))) M) (hc : c ∈ tysL.tail := by decide) (hc' : c' ∈ tysL.tail := by decide) : bIsi [x, .tup [.ty c, .ty c']] M Q :=
  ⟨t, _, _, e, by unfold isiT; rw [if_pos ⟨typeD_mem e, hc⟩], by unfold isiT; rw [if_pos ⟨typeD_mem e, hc'⟩], h⟩
theorem iteTb {c : Bool} {A B : Prop} (e : c = true) (h : A) : if c = true then A else B := by rw [if_pos e]; exact h
theorem iteFb {c : Bool} {A B : Prop} (e : c = false) (h : B) : if c = true then A else B := by rw [e]; exact iteF h
theorem iteBb {c : Bool} {A B : Prop} (h1 : c = true → A) (h2 : c = false → B) : if c = true then A else B := by cases c; exact iteF (h2 rfl); exact iteT (h1 rfl)
/-! loops -/
theorem w_for {wi : TI2} {g : TG2} (h : wi D0.ex ρ M fun ds G M1 => ∃ I : Nat → St2 → MP → Prop, I 0 ρ M1 ∧ (∀ i ρ M, i ≤ ds.length → I i ρ M → G M) ∧
  (∀ i d ρ M, ds[i]? = some d → I i ρ M → g d ρ M fun ρ' M' => t { D0 with nx := I (i + 1), ct := I (i + 1), bk := D0.nx } ρ' M') ∧ ∀ ρ M, I ds.length ρ M → D0.nx ρ M) : for2 wi g t D0 ρ M := h
theorem w_while {c : TT2} (I : Nat → St2 → MP → Prop) (m : Nat) (h0 : I m ρ M) (h : ∀ m ρ M, I m ρ M → c D0.ex ρ M fun b M1 => if b = true then t { D0 with nx := fun ρ' M' => ∃ m', m' < m ∧ I m' ρ' M', ct := fun ρ' M' => ∃ m', m' < m ∧ I m' ρ' M', bk := D0.nx } ρ M1 else D0.nx ρ M1) : while2 c t D0 ρ M := ⟨I, ⟨m, h0⟩, h⟩
abbrev LC (ρ : St2) (vs : List Nat) (g : TG2) (tt : TT2) (te : TE2) (Q : VK2) : List D → (MP → Prop) → MP → Prop := fun ds G M1 => ds.length ≤ sizeLine ∧ ∃ I : Nat → List D → MP → Prop, I 0 [] M1 ∧ (∀ i acc M, i ≤ ds.length → I i acc M → G M) ∧
  (∀ i d acc M, ds[i]? = some d → I i acc M → g d (wipe2 ρ vs) M fun ρ' M' => tt E00 ρ' M' fun b M'' => if b = true then te E00 ρ' M'' fun y M3 => I (i + 1) (acc ++ [y]) M3 else I (i + 1) acc M'') ∧
  ∀ acc M, acc.length ≤ ds.length → I ds.length acc M → ∀ p, M p = none → Q (.ref p) (updM M p (.lst acc))
theorem w_lc {wi : TI2} {g : TG2} {vs : List Nat} (h : wi E ρ M (LC ρ vs g tt te Q)) : lc2 wi g tt te vs E ρ M Q := h
variable {RI : List D → (MP → Prop) → MP → Prop}
theorem w_il (h : te E ρ M (kIl RI)) : ilist2 te E ρ M RI := h
theorem w_kIl (e : M a = some (.lst xs)) (h : RI xs (fun M => M a = some (.lst xs)) M) : kIl RI (.ref a) M := ⟨xs, e, h⟩
theorem w_kIlR (h : RI xs (fun _ => True) M) : kIl RI (.scr xs) M := h
theorem w_it (h : te E ρ M (kIt RI)) : itup2 te E ρ M RI := h
theorem w_kIt (h : RI xs (fun _ => True) M) : kIt RI (.tup xs) M := h
theorem w_ir1 (h : al E ρ M (kIr1 RI)) : irng12 al E ρ M RI := h
theorem w_kIr1 (h1 : -(2 ^ 62) ≤ i) (h2 : i < 2 ^ 62) (h : RI ((List.range i.toNat).map fun k => D.int (k : Nat)) (fun _ => True) M) : kIr1 RI [.int i] M := ⟨h1, h2, h⟩
theorem w_ir2 (h : al E ρ M (kIr2 RI)) : irng22 al E ρ M RI := h
theorem w_kIr2 (h1 : -(2 ^ 62) ≤ i ∧ i < 2 ^ 62 ∧ -(2 ^ 62) ≤ j ∧ j < 2 ^ 62) (h : RI ((List.range (j - i).toNat).map fun k => D.int (i + (k : Nat))) (fun _ => True) M) : kIr2 RI [.int i, .int j] M := ⟨h1, h⟩
theorem w_ie (h : al E ρ M (kIe RI)) : ienum2 al E ρ M RI := h
theorem w_kIe (e : M a = some (.lst xs)) (h : RI (xs.zipIdx.map fun p => D.tup [.int (p.2 : Nat), p.1]) (fun M => M a = some (.lst xs)) M) : kIe RI [.ref a] M := ⟨xs, e, h⟩
theorem w_iz (h : al E ρ M (kIz RI)) : izip2 al E ρ M RI := h
theorem w_kIz {c : Addr} (e : M a = some (.lst xs)) (e2 : M c = some (.lst ys)) (h : RI ((xs.zip ys).map fun p => D.tup [p.1, p.2]) (fun M => M a = some (.lst xs) ∧ M c = some (.lst ys)) M) : kIz RI [.ref a, .ref c] M := ⟨xs, ys, e, e2, h⟩
/-- a comprehension whose turns leave the store as it is -/
theorem w_lcp {g : TG2} {vs : List Nat} {ds : List D} {G : MP → Prop} (f : D → Option D) (hz : ds.length ≤ sizeLine) (hG : G M)
    (ht : ∀ d ∈ ds, ∀ (QR : Option D → Prop), QR (f d) → g d (wipe2 ρ vs) M fun ρ' M' => tt E00 ρ' M' fun b M'' => if b = true then te E00 ρ' M'' fun y M3 => M3 = M ∧ QR (some y) else M'' = M ∧ QR none)
    (h : ∀ p, M p = none → Q (.ref p) (updM M p (.lst (ds.filterMap f)))) : LC ρ vs g tt te Q ds G M := by
  refine ⟨hz, fun i acc M' => M' = M ∧ acc = (ds.take i).filterMap f, ⟨rfl, by simp⟩, fun i acc M' _ h => by rw [h.1]; exact hG, ?_, fun acc M' _ h1 => ?_⟩
  · rintro i d acc M' hd ⟨rfl, rfl⟩
    have hi : i < ds.length := (List.getElem?_eq_some_iff.mp hd).1
    have e1 : ds.take (i + 1) = ds.take i ++ [d] := by rw [List.take_add_one, hd]; rfl
    refine ht d (List.mem_of_getElem? hd) (fun o => match o with | some y => (ds.take i).filterMap f ++ [y] = (ds.take (i + 1)).filterMap f | none => (ds.take i).filterMap f = (ds.take (i + 1)).filterMap f) ?_
    rw [e1, List.filterMap_append]
    cases e : f d with
    | none => show (ds.take i).filterMap f = _; simp [e]
    | some y => show (ds.take i).filterMap f ++ [y] = _; simp [e]
  · obtain ⟨rfl, rfl⟩ := h1
    rw [List.take_length]
    exact h
end

theorem at0 {x : D} {xs : List D} : atI (x :: xs) 0 = some x := atI_nat (j := 0) rfl
theorem ix0 {x : D} {xs : List D} : ixN (x :: xs).length 0 = some 0 := by unfold ixN; rw [if_pos (by simp), if_pos (by simp)]; rfl
/-! closed ones -/
section
variable {E : XK2} {ρ : St2} {M : MP} {Q : VK2} {d x y : D} {b : Bool} {a : Addr} {xs ys : List D} {i j : Int} {R : MP → Prop}
theorem w_kAndTb (e : b = true) (h : R M) : kAnd R Q (.bl b) M := by subst e; exact h
theorem w_kAndFb (e : b = false) (h : Q (.bl false) M) : kAnd R Q (.bl b) M := by subst e; exact h
theorem w_kOrTb (e : b = true) (h : Q (.bl true) M) : kOr R Q (.bl b) M := by subst e; exact h
theorem w_kOrFb (e : b = false) (h : R M) : kOr R Q (.bl b) M := by subst e; exact h
theorem w_isiL {M : MP} {x : D} {Q : VK2} {t c : String} {xs : List D} {a : Addr} (e : M a = some (.lst xs)) (hc : c ∈ tysL.tail) (h : Q (.bl ("list" == c || ("list" == "bool" && c == "int"))) M) : bIsi [.ref a, .ty c] M Q := w_isiT (ty_lst e) h hc
theorem w_isiC {M : MP} {x : D} {Q : VK2} {t c : String} (e : typeD (fun _ => none) x = some t) (e2 : typeD M x = typeD (fun _ => none) x) (hc : c ∈ tysL.tail) (h : Q (.bl (t == c || (t == "bool" && c == "int"))) M) : bIsi [x, .ty c] M Q := w_isiT (e2.trans e) h hc
theorem w_ixTl (e : atI xs i = some d) (h : Q d M) : bIx (.tup xs) (.int i) M Q := w_ixT e h
theorem cpowc {i j : Int} (k : Nat) (h : i.natAbs < 2 ^ k) (h0 : 0 ≤ j) (h2 : (k : Int) * j ≤ 2 ^ 27) : CPowW i j := cpow k h0 h h2
theorem w_p10_4 (h : Q (.int 10000) M) : bPow (.int 10) (.int 4) M Q := w_pow (cpowc 4 (by decide) (by decide) (by decide)) (by exact h)
theorem w_p10_5 (h : Q (.int 100000) M) : bPow (.int 10) (.int 5) M Q := w_pow (cpowc 4 (by decide) (by decide) (by decide)) (by exact h)
theorem w_p10_10 (h : Q (.int 10000000000) M) : bPow (.int 10) (.int 10) M Q := w_pow (cpowc 4 (by decide) (by decide) (by decide)) (by exact h)
theorem w_p10_13 (h : Q (.int 10000000000000) M) : bPow (.int 10) (.int 13) M Q := w_pow (cpowc 4 (by decide) (by decide) (by decide)) (by exact h)
theorem w_p10_14 (h : Q (.int 100000000000000) M) : bPow (.int 10) (.int 14) M Q := w_pow (cpowc 4 (by decide) (by decide) (by decide)) (by exact h)
theorem w_p10_15 (h : Q (.int 1000000000000000) M) : bPow (.int 10) (.int 15) M Q := w_pow (cpowc 4 (by decide) (by decide) (by decide)) (by exact h)
theorem w_p10_17 (h : Q (.int 100000000000000000) M) : bPow (.int 10) (.int 17) M Q := w_pow (cpowc 4 (by decide) (by decide) (by decide)) (by exact h)
theorem w_p10_18 (h : Q (.int 1000000000000000000) M) : bPow (.int 10) (.int 18) M Q := w_pow (cpowc 4 (by decide) (by decide) (by decide)) (by exact h)
theorem w_p10_20 (h : Q (.int 100000000000000000000) M) : bPow (.int 10) (.int 20) M Q := w_pow (cpowc 4 (by decide) (by decide) (by decide)) (by exact h)
theorem w_p10_38 (h : Q (.int 100000000000000000000000000000000000000) M) : bPow (.int 10) (.int 38) M Q := w_pow (cpowc 4 (by decide) (by decide) (by decide)) (by exact h)
theorem w_p10_40 (h : Q (.int 10000000000000000000000000000000000000000) M) : bPow (.int 10) (.int 40) M Q := w_pow (cpowc 4 (by decide) (by decide) (by decide)) (by exact h)
theorem w_p10_41 (h : Q (.int 100000000000000000000000000000000000000000) M) : bPow (.int 10) (.int 41) M Q := w_pow (cpowc 4 (by decide) (by decide) (by decide)) (by exact h)
theorem w_p10_60 (h : Q (.int 1000000000000000000000000000000000000000000000000000000000000) M) : bPow (.int 10) (.int 60) M Q := w_pow (cpowc 4 (by decide) (by decide) (by decide)) (by exact h)
end
end N2


/-! A bag of draws: [great, lesser, how many were stirred, what is stirred]. -/
namespace Bg
open PySem L2 N2
abbrev iL (ns : List Int) : MO := .lst (ns.map D.int)
def Bag (M : MP) (b g l : Addr) (n : Nat) : Prop := ∃ (gs ls : List Int) (c s : Int), M b = some (.lst [.ref g, .ref l, .int c, .int s]) ∧ M g = some (iL gs) ∧ M l = some (iL ls) ∧ b ≠ g ∧ b ≠ l ∧ g ≠ l ∧ (∀ x ∈ gs, 0 ≤ x) ∧ gs.length ≤ 63 ∧ (∀ x ∈ ls, 0 ≤ x ∧ x < 2 ^ 60) ∧ 0 < ls.length ∧ ls.length ≤ 64 ∧ 0 ≤ c ∧ c ≤ n ∧ 0 ≤ s ∧ s < 2 ^ 90
/-- all but what a draw writes is as it was -/
def Kept (b g : Addr) (M M' : MP) : Prop := ∀ a o, a ≠ b → a ≠ g → M a = some o → M' a = some o
theorem Kept.refl {b g : Addr} (M : MP) : Kept b g M M := fun _ _ _ _ h => h
theorem Kept.trans {b g : Addr} {A B C : MP} (h : Kept b g A B) (k : Kept b g B C) : Kept b g A C := fun a o h1 h2 e => k a o h1 h2 (h a o h1 h2 e)
theorem Kept.upd {b g p : Addr} {A B : MP} {o : MO} (h : Kept b g A B) (hp : A p = none) : Kept b g A (updM B p o) := fun a u h1 h2 e => by
  rw [updM_ne (fun z => by rw [z, hp] at e; cases e)]; exact h a u h1 h2 e
theorem Kept.sub {b g : Addr} {A B : MP} (h : SubM A B) : Kept b g A B := fun a o _ _ e => h a o e
theorem Bag.mono {M : MP} {b g l : Addr} {n m : Nat} (h : Bag M b g l n) (hm : n ≤ m) : Bag M b g l m := by
  obtain ⟨gs, ls, c, s, h1, h2, h3, h4, h5, h6, h7, h8, h9, ha, hb, hc, hd, he⟩ := h
  exact ⟨gs, ls, c, s, h1, h2, h3, h4, h5, h6, h7, h8, h9, ha, hb, hc, by omega, he⟩
/-- what stands elsewhere may change -/
theorem Bag.keep {M M' : MP} {b g l : Addr} {n : Nat} (h : Bag M b g l n) (e : ∀ a o, (a = b ∨ a = g ∨ a = l) → M a = some o → M' a = some o) : Bag M' b g l n := by
  obtain ⟨gs, ls, c, s, h1, h2, h3, hr⟩ := h
  exact ⟨gs, ls, c, s, e _ _ (.inl rfl) h1, e _ _ (.inr (.inl rfl)) h2, e _ _ (.inr (.inr rfl)) h3, hr⟩
theorem Bag.sub {M M' : MP} {b g l : Addr} {n : Nat} (h : Bag M b g l n) (e : SubM M M') : Bag M' b g l n := h.keep fun a o _ x => e a o x
theorem Bag.upd {M : MP} {b g l p : Addr} {n : Nat} {o : MO} (h : Bag M b g l n) (h1 : p ≠ b) (h2 : p ≠ g) (h3 : p ≠ l) : Bag (updM M p o) b g l n := h.keep fun a u z e => by
  rw [updM_ne (by rcases z with rfl | rfl | rfl <;> (first | exact h1.symm | exact h2.symm | exact h3.symm))]; exact e
theorem Bag.new {M : MP} {b g l p : Addr} {n : Nat} {o : MO} (h : Bag M b g l n) (hp : M p = none) : Bag (updM M p o) b g l n := h.keep fun a u z e => by
  rw [updM_ne (fun z => by rw [z, hp] at e; cases e)]; exact e
theorem Bag.ne {M : MP} {b g l p : Addr} {n : Nat} (h : Bag M b g l n) (hp : M p = none) : p ≠ b ∧ p ≠ g ∧ p ≠ l := by
  obtain ⟨gs, ls, c, s, h1, h2, h3, _⟩ := h
  exact ⟨fun z => (by rw [z, h1] at hp; cases hp), fun z => (by rw [z, h2] at hp; cases hp), fun z => (by rw [z, h3] at hp; cases hp)⟩
theorem nat_lt {i : Int} {n : Nat} (h0 : 0 ≤ i) (h : i < 2 ^ n) : i.natAbs < 2 ^ n := by
  have e : ((i.natAbs : Nat) : Int) = i := by omega
  have : ((i.natAbs : Nat) : Int) < ((2 ^ n : Nat) : Int) := by rw [e]; simpa using h
  exact Int.ofNat_lt.mp this
theorem mul_lt {i j : Int} {n m : Nat} (h0 : 0 ≤ i) (h1 : i < 2 ^ n) (h2 : 0 ≤ j) (h3 : j < 2 ^ m) : i * j < 2 ^ (n + m) := by
  have := wide_lt (nat_lt h0 h1) (nat_lt h2 h3)
  have h4 : 0 ≤ i * j := Int.mul_nonneg h0 h2
  have e : (((i * j).natAbs : Nat) : Int) = i * j := by omega
  have : (((i * j).natAbs : Nat) : Int) < ((2 ^ (n + m) : Nat) : Int) := Int.ofNat_lt.mpr this
  rw [e] at this
  simpa using this
def optI (g : Int → Option Int) : D → Option D
  | .int c => (g c).map D.int
  | _ => none
theorem fm_ints (g : Int → Option Int) : ∀ ns : List Int, (ns.map D.int).filterMap (optI g) = (ns.filterMap g).map D.int
  | [] => rfl
  | n :: ns => by
    have ih := fm_ints g ns
    cases e : g n with
    | none => simp [List.filterMap_cons, optI, e, ih]
    | some k => simp [List.filterMap_cons, optI, e, ih]
theorem cut63 {ns : List Int} (h : ns.length ≤ 63) : N2.cutD (ns.map D.int) none (some 63) = ns.map D.int := by
  have e : (ns.map D.int).length = ns.length := by simp
  unfold N2.cutD HT.sIx
  rw [e]
  simp only [List.drop_zero]
  rw [if_neg (by decide)]
  rw [List.take_of_length_le]
  rw [e]
  show ns.length ≤ min (Int.toNat 63) ns.length - 0
  have : Int.toNat 63 = 63 := rfl
  omega
end Bg


/-! Spans, plainly: two ends, each a number or none. -/
namespace Sn
abbrev En := Option Int
def okB : En → En → Bool
  | some a, some b => decide (a ≤ b)
  | _, _ => true
def inB (lo hi : En) (k : Int) : Bool := (match lo with | some a => decide (a ≤ k) | none => true) && (match hi with | some b => decide (k ≤ b) | none => true)
def lowB (lo le : En) : Bool := match lo with
  | none => true
  | some a => match le with
    | none => false
    | some e => decide (a ≤ e)
def highB (hi mo : En) : Bool := match hi with
  | none => true
  | some b => match mo with
    | none => false
    | some m => decide (m ≤ b)
def coversB (lo hi le mo : En) : Bool := lowB lo le && highB hi mo
def glow : En → En → En
  | none, b => b
  | a, none => a
  | some a, some b => some (max a b)
def lhigh : En → En → En
  | none, b => b
  | a, none => a
  | some a, some b => some (min a b)
def Bd (e : En) : Prop := ∀ a, e = some a → -(10 ^ 15) < a ∧ a < 10 ^ 15
def endPts : En → List Int
  | some e => [e - 1, e, e + 1]
  | none => []
def pts (ss : List (En × En)) : List Int := [0, 10 ^ 17, 0 - 10 ^ 17] ++ ss.flatMap fun s => endPts s.1 ++ endPts s.2
theorem mem_pts {ss : List (En × En)} {k : Int} : k ∈ pts ss ↔ k = 0 ∨ k = 10 ^ 17 ∨ k = 0 - 10 ^ 17 ∨ ∃ s ∈ ss, k ∈ endPts s.1 ∨ k ∈ endPts s.2 := by
  simp [pts]
/-- covers just where no point of the other is outside -/
theorem covers_pts {lo hi le mo : En} (h1 : okB lo hi = true) (h2 : okB le mo = true) (b1 : Bd lo) (b2 : Bd hi) (b3 : Bd le) (b4 : Bd mo) :
    coversB lo hi le mo = ((pts [(lo, hi), (le, mo)]).filter fun k => inB le mo k && !inB lo hi k).isEmpty := by
  have key : (coversB lo hi le mo = true) ↔ ∀ k ∈ pts [(lo, hi), (le, mo)], (inB le mo k && !inB lo hi k) = false := by
    constructor
    · intro h k _
      cases lo <;> cases hi <;> cases le <;> cases mo <;> simp [coversB, lowB, highB, inB] at h ⊢ <;> omega
    · intro h
      have hk : ∀ k, (k = 0 ∨ k = 10 ^ 17 ∨ k = 0 - 10 ^ 17 ∨ k ∈ endPts le ∨ k ∈ endPts mo) → (inB le mo k && !inB lo hi k) = false := fun k hk => by
        refine h k (mem_pts.mpr ?_)
        rcases hk with e | e | e | e | e
        · exact .inl e
        · exact .inr (.inl e)
        · exact .inr (.inr (.inl e))
        · exact .inr (.inr (.inr ⟨(le, mo), by simp, .inl e⟩))
        · exact .inr (.inr (.inr ⟨(le, mo), by simp, .inr e⟩))
      have f1 := hk (10 ^ 17) (.inr (.inl rfl))
      have f2 := hk (0 - 10 ^ 17) (.inr (.inr (.inl rfl)))
      have f3 : ∀ a, le = some a → (inB le mo a && !inB lo hi a) = false := fun a e => hk a (.inr (.inr (.inr (.inl (by rw [e]; simp [endPts])))))
      have f4 : ∀ a, mo = some a → (inB le mo a && !inB lo hi a) = false := fun a e => hk a (.inr (.inr (.inr (.inr (by rw [e]; simp [endPts])))))
      have c1 : ∀ a, lo = some a → -(10 ^ 15) < a ∧ a < 10 ^ 15 := b1
      have c2 : ∀ a, hi = some a → -(10 ^ 15) < a ∧ a < 10 ^ 15 := b2
      have c3 : ∀ a, le = some a → -(10 ^ 15) < a ∧ a < 10 ^ 15 := b3
      have c4 : ∀ a, mo = some a → -(10 ^ 15) < a ∧ a < 10 ^ 15 := b4
      cases lo <;> cases hi <;> cases le <;> cases mo <;> simp [coversB, lowB, highB, inB, okB] at h1 h2 f1 f2 f3 f4 c1 c2 c3 c4 ⊢ <;> omega
  cases hc : coversB lo hi le mo with
  | true =>
    rw [List.filter_eq_nil_iff.mpr fun k hk => by rw [key.mp hc k hk]; exact Bool.false_ne_true]; rfl
  | false =>
    cases hf : (pts [(lo, hi), (le, mo)]).filter fun k => inB le mo k && !inB lo hi k with
    | cons a l => rfl
    | nil =>
      have := key.mpr fun k hk => by
        have := List.filter_eq_nil_iff.mp hf k hk
        simpa using this
      rw [hc] at this; cases this
theorem in_met (lo hi le mo : En) (k : Int) : inB (glow lo le) (lhigh hi mo) k = (inB lo hi k && inB le mo k) := by
  cases lo <;> cases hi <;> cases le <;> cases mo <;> simp [glow, lhigh, inB] <;> (rw [Bool.eq_iff_iff]; simp; try omega)
/-- where nothing is met no point is in both; else one is -/
theorem met_pts {lo hi le mo : En} (h1 : okB lo hi = true) (h2 : okB le mo = true) :
    okB (glow lo le) (lhigh hi mo) = !((pts [(lo, hi), (le, mo)]).filter fun k => inB lo hi k && inB le mo k).isEmpty := by
  have key : (okB (glow lo le) (lhigh hi mo) = true) ↔ ∃ k ∈ pts [(lo, hi), (le, mo)], (inB lo hi k && inB le mo k) = true := by
    constructor
    · intro h
      have pick : ∀ k, (k = 0 ∨ lo = some k ∨ hi = some k ∨ le = some k ∨ mo = some k) → (inB lo hi k && inB le mo k) = true → ∃ k ∈ pts [(lo, hi), (le, mo)], (inB lo hi k && inB le mo k) = true := fun k hk hb => by
        refine ⟨k, mem_pts.mpr ?_, hb⟩
        rcases hk with e | e | e | e | e
        · exact .inl e
        · exact .inr (.inr (.inr ⟨(lo, hi), by simp, .inl (by simp [e, endPts])⟩))
        · exact .inr (.inr (.inr ⟨(lo, hi), by simp, .inr (by simp [e, endPts])⟩))
        · exact .inr (.inr (.inr ⟨(le, mo), by simp, .inl (by simp [e, endPts])⟩))
        · exact .inr (.inr (.inr ⟨(le, mo), by simp, .inr (by simp [e, endPts])⟩))
      cases hl : glow lo le with
      | some a =>
        refine pick a ?_ ?_
        · cases lo <;> cases le <;> simp [glow] at hl ⊢ <;> omega
        · rw [← in_met, hl]
          cases hh : lhigh hi mo with
          | none => simp [inB]
          | some b => rw [hl, hh] at h; simp [okB] at h; simp [inB]; exact h
      | none =>
        cases hh : lhigh hi mo with
        | some b =>
          refine pick b ?_ (by rw [← in_met, hl, hh]; simp [inB])
          cases hi <;> cases mo <;> simp [lhigh] at hh ⊢ <;> omega
        | none => exact pick 0 (.inl rfl) (by rw [← in_met, hl, hh]; simp [inB])
    · rintro ⟨k, _, hk⟩
      rw [← in_met] at hk
      cases hl : glow lo le <;> cases hh : lhigh hi mo <;> rw [hl, hh] at hk <;> simp [okB, inB] at hk ⊢ <;> omega
  cases hf : (pts [(lo, hi), (le, mo)]).filter fun k => inB lo hi k && inB le mo k with
  | nil =>
    cases hc : okB (glow lo le) (lhigh hi mo) with
    | false => rfl
    | true =>
      obtain ⟨k, hk, hb⟩ := key.mp hc
      have := List.filter_eq_nil_iff.mp hf k hk
      exact absurd hb this
  | cons a l =>
    have ha : a ∈ (pts [(lo, hi), (le, mo)]).filter fun k => inB lo hi k && inB le mo k := by rw [hf]; simp
    rw [List.mem_filter] at ha
    rw [key.mpr ⟨a, ha.1, ha.2⟩]; rfl
theorem glow_comm (a b : En) : glow a b = glow b a := by cases a <;> cases b <;> simp [glow]; omega
theorem lhigh_comm (a b : En) : lhigh a b = lhigh b a := by cases a <;> cases b <;> simp [lhigh]; omega
theorem glow_self (a : En) : glow a a = a := by cases a <;> simp [glow]
theorem lhigh_self (a : En) : lhigh a a = a := by cases a <;> simp [lhigh]
theorem covers_self (a b : En) : coversB a b a b = true := by cases a <;> cases b <;> simp [coversB, lowB, highB]
end Sn




namespace K03
open PySem PySem.Spec PyProof.Rows L2 N2
def top (i : Nat) : Stmt := PySem.Challenge.pw_newsways_k03_spans_that_cover_and_meet.main.body.getD i (.Pass ⟨0, 0, 0, 0⟩)
structure GC where
  cNoSpan : Addr
structure Tx (K : PySem.W.Frag) (mg : Str → Option Value) (G : GC) : Prop where
  b_bool : mg "bool" = none
  b_int : mg "int" = none
  b_isinstance : mg "isinstance" = none
  b_len : mg "len" = none
  b_max : mg "max" = none
  b_min : mg "min" = none
  b_range : mg "range" = none
  b_tuple : mg "tuple" = none
  e_NoSpan : ExC K mg "NoSpan" G.cNoSpan
theorem bb_bool : bootBuiltins "bool" = some (.type "bool") := by decide +kernel
theorem bb_int : bootBuiltins "int" = some (.type "int") := by decide +kernel
theorem bb_isinstance : bootBuiltins "isinstance" = some (.builtin "isinstance") := by decide +kernel
theorem bb_len : bootBuiltins "len" = some (.builtin "len") := by decide +kernel
theorem bb_max : bootBuiltins "max" = some (.builtin "max") := by decide +kernel
theorem bb_min : bootBuiltins "min" = some (.builtin "min") := by decide +kernel
theorem bb_range : bootBuiltins "range" = some (.type "range") := by decide +kernel
theorem bb_tuple : bootBuiltins "tuple" = some (.type "tuple") := by decide +kernel
abbrev s_is_whole : Stmt := top 4
abbrev N_is_whole : List Str := ["thing"]
theorem sc_is_whole : FnScope N_is_whole ["thing"] (defScope s_is_whole) := ⟨rfl, rfl, rfl, by decide +kernel, rfl, by decide +kernel, by decide +kernel⟩
abbrev s_is_span : Stmt := top 5
abbrev N_is_span : List Str := ["thing", "end", "low", "high"]
theorem sc_is_span : FnScope N_is_span ["thing"] (defScope s_is_span) := ⟨rfl, rfl, rfl, by decide +kernel, rfl, by decide +kernel, by decide +kernel⟩
abbrev s_looked : Stmt := top 6
abbrev N_looked : List Str := ["span"]
theorem sc_looked : FnScope N_looked ["span"] (defScope s_looked) := ⟨rfl, rfl, rfl, by decide +kernel, rfl, by decide +kernel, by decide +kernel⟩
abbrev s_span_covers : Stmt := top 7
abbrev N_span_covers : List Str := ["one", "other", "low", "high", "least", "most"]
theorem sc_span_covers : FnScope N_span_covers ["one", "other"] (defScope s_span_covers) := ⟨rfl, rfl, rfl, by decide +kernel, rfl, by decide +kernel, by decide +kernel⟩
abbrev s_greater_low : Stmt := top 8
abbrev N_greater_low : List Str := ["one", "other"]
theorem sc_greater_low : FnScope N_greater_low ["one", "other"] (defScope s_greater_low) := ⟨rfl, rfl, rfl, by decide +kernel, rfl, by decide +kernel, by decide +kernel⟩
abbrev s_lesser_high : Stmt := top 9
abbrev N_lesser_high : List Str := ["one", "other"]
theorem sc_lesser_high : FnScope N_lesser_high ["one", "other"] (defScope s_lesser_high) := ⟨rfl, rfl, rfl, by decide +kernel, rfl, by decide +kernel, by decide +kernel⟩
abbrev s_span_met : Stmt := top 10
abbrev N_span_met : List Str := ["one", "other", "low", "high", "least", "most", "met"]
theorem sc_span_met : FnScope N_span_met ["one", "other"] (defScope s_span_met) := ⟨rfl, rfl, rfl, by decide +kernel, rfl, by decide +kernel, by decide +kernel⟩
abbrev s__law_bag : Stmt := top 12
abbrev N__law_bag : List Str := ["script", "cell", "great", "lesser", "stir"]
theorem sc__law_bag : FnScope N__law_bag ["script"] (defScope s__law_bag) := ⟨rfl, rfl, rfl, by decide +kernel, rfl, by decide +kernel, by decide +kernel⟩
abbrev s__law_draw : Stmt := top 13
abbrev N__law_draw : List Str := ["bag", "many", "found", "cell"]
theorem sc__law_draw : FnScope N__law_draw ["bag", "many"] (defScope s__law_draw) := ⟨rfl, rfl, rfl, by decide +kernel, rfl, by decide +kernel, by decide +kernel⟩
abbrev s__law_number : Stmt := top 14
abbrev N__law_number : List Str := ["bag", "choice", "number"]
theorem sc__law_number : FnScope N__law_number ["bag"] (defScope s__law_number) := ⟨rfl, rfl, rfl, by decide +kernel, rfl, by decide +kernel, by decide +kernel⟩
abbrev s__law_held : Stmt := top 15
abbrev N__law_held : List Str := ["number"]
theorem sc__law_held : FnScope N__law_held ["number"] (defScope s__law_held) := ⟨rfl, rfl, rfl, by decide +kernel, rfl, by decide +kernel, by decide +kernel⟩
abbrev s__law_span : Stmt := top 16
abbrev N__law_span : List Str := ["bag", "choice", "low", "high"]
theorem sc__law_span : FnScope N__law_span ["bag"] (defScope s__law_span) := ⟨rfl, rfl, rfl, by decide +kernel, rfl, by decide +kernel, by decide +kernel⟩
abbrev s__law_whole : Stmt := top 17
abbrev N__law_whole : List Str := ["found"]
theorem sc__law_whole : FnScope N__law_whole ["found"] (defScope s__law_whole) := ⟨rfl, rfl, rfl, by decide +kernel, rfl, by decide +kernel, by decide +kernel⟩
abbrev s__law_in : Stmt := top 18
abbrev N__law_in : List Str := ["span", "number"]
theorem sc__law_in : FnScope N__law_in ["span", "number"] (defScope s__law_in) := ⟨rfl, rfl, rfl, by decide +kernel, rfl, by decide +kernel, by decide +kernel⟩
abbrev s__law_moved : Stmt := top 19
abbrev N__law_moved : List Str := ["bag", "span", "ends", "end", "step", "low", "high"]
theorem sc__law_moved : FnScope N__law_moved ["bag", "span"] (defScope s__law_moved) := ⟨rfl, rfl, rfl, by decide +kernel, rfl, by decide +kernel, by decide +kernel⟩
abbrev s__law_two : Stmt := top 20
abbrev N__law_two : List Str := ["bag", "choice", "one", "low"]
theorem sc__law_two : FnScope N__law_two ["bag"] (defScope s__law_two) := ⟨rfl, rfl, rfl, by decide +kernel, rfl, by decide +kernel, by decide +kernel⟩
abbrev s__law_points : Stmt := top 21
abbrev N__law_points : List Str := ["spans", "points", "span", "end"]
theorem sc__law_points : FnScope N__law_points ["spans"] (defScope s__law_points) := ⟨rfl, rfl, rfl, by decide +kernel, rfl, by decide +kernel, by decide +kernel⟩
abbrev s__law_met_right : Stmt := top 22
abbrev N__law_met_right : List Str := ["met", "one", "other", "points", "k", "both", "end"]
theorem sc__law_met_right : FnScope N__law_met_right ["met", "one", "other"] (defScope s__law_met_right) := ⟨rfl, rfl, rfl, by decide +kernel, rfl, by decide +kernel, by decide +kernel⟩
abbrev s__law_covers_right : Stmt := top 23
abbrev N__law_covers_right : List Str := ["one", "other", "found", "outside", "k"]
theorem sc__law_covers_right : FnScope N__law_covers_right ["one", "other"] (defScope s__law_covers_right) := ⟨rfl, rfl, rfl, by decide +kernel, rfl, by decide +kernel, by decide +kernel⟩
abbrev s_law : Stmt := top 24
abbrev N_law : List Str := ["script", "bag", "turn", "one", "other", "first", "second"]
theorem sc_law : FnScope N_law ["script"] (defScope s_law) := ⟨rfl, rfl, rfl, by decide +kernel, rfl, by decide +kernel, by decide +kernel⟩
end K03


namespace K03
open PySem PySem.Spec PyProof.Rows L2 N2 Bg Sn
@[reducible] def eD : En → D | none => .non | some i => .int i
def spD (lo hi : En) : D := .tup [eD lo, eD hi]
def metD (lo hi : En) : D := if okB lo hi = true then spD lo hi else .non
def sp_is_whole (G : GC) : Sp2 := fun ds M Q _ => ∃ d t, ds = [d] ∧ typeD M d = some t ∧ Q (.bl (t == "int")) M
def sp_is_span (G : GC) : Sp2 := fun ds M Q _ => ∃ lo hi, ds = [spD lo hi] ∧ Q (.bl (okB lo hi)) M
def sp_looked (G : GC) : Sp2 := fun ds M Q _ => ∃ lo hi, ds = [spD lo hi] ∧ okB lo hi = true ∧ Q (spD lo hi) M
def sp_span_covers (G : GC) : Sp2 := fun ds M Q _ => ∃ lo hi le mo, ds = [spD lo hi, spD le mo] ∧ okB lo hi = true ∧ okB le mo = true ∧ Q (.bl (coversB lo hi le mo)) M
def sp_greater_low (G : GC) : Sp2 := fun ds M Q _ => ∃ a b, ds = [eD a, eD b] ∧ Q (eD (glow a b)) M
def sp_lesser_high (G : GC) : Sp2 := fun ds M Q _ => ∃ a b, ds = [eD a, eD b] ∧ Q (eD (lhigh a b)) M
def sp_span_met (G : GC) : Sp2 := fun ds M Q _ => ∃ lo hi le mo, ds = [spD lo hi, spD le mo] ∧ okB lo hi = true ∧ okB le mo = true ∧ Q (metD (glow lo le) (lhigh hi mo)) M
def sp__law_bag (G : GC) : Sp2 := fun ds M Q _ => ∃ ns : List Int, ds = [.scr (ns.map D.int)] ∧ ns.length ≤ 63 ∧ ∀ b g l M', M b = none → M g = none → M l = none → SubM M M' → Bag M' b g l 0 → Q (.ref b) M'
def sp__law_draw (G : GC) : Sp2 := fun ds M Q _ => ∃ b g l n, ∃ many : Int, ds = [.ref b, .int many] ∧ Bag M b g l n ∧ n ≤ 2 ^ 50 ∧ 0 < many ∧ many < 2 ^ 200 ∧ ∀ r M', 0 ≤ r → r < many → Kept b g M M' → Bag M' b g l (n + 1) → Q (.int r) M'
def sp__law_number (G : GC) : Sp2 := fun ds M Q _ => ∃ b g l n, ds = [.ref b] ∧ Bag M b g l n ∧ n ≤ 2 ^ 49 ∧ ∀ (r : Int) M', -(10 ^ 15) < r → r < 10 ^ 15 → Kept b g M M' → Bag M' b g l (n + 3) → Q (.int r) M'
def held (x : Int) : Int := max (1 - 10 ^ 15) (min (10 ^ 15 - 1) x)
def sp__law_held (G : GC) : Sp2 := fun ds M Q _ => ∃ x, ds = [.int x] ∧ Q (.int (held x)) M
def sp__law_span (G : GC) : Sp2 := fun ds M Q _ => ∃ b g l n, ds = [.ref b] ∧ Bag M b g l n ∧ n ≤ 2 ^ 48 ∧ ∀ lo hi M', okB lo hi = true → Bd lo → Bd hi → Kept b g M M' → Bag M' b g l (n + 10) → Q (spD lo hi) M'
def sp__law_whole (G : GC) : Sp2 := fun ds M Q _ => ∃ d t, ds = [d] ∧ typeD M d = some t ∧ Q (.bl (t == "int")) M
def sp__law_in (G : GC) : Sp2 := fun ds M Q _ => ∃ lo hi, ∃ k : Int, ds = [spD lo hi, .int k] ∧ Q (.bl (inB lo hi k)) M
def sp__law_moved (G : GC) : Sp2 := fun ds M Q _ => ∃ b g l n lo hi, ds = [.ref b, spD lo hi] ∧ Bag M b g l n ∧ n ≤ 2 ^ 48 ∧ Bd lo ∧ Bd hi ∧ ∀ le mo M', okB le mo = true → Bd le → Bd mo → Kept b g M M' → Bag M' b g l (n + 20) → Q (spD le mo) M'
def sp__law_two (G : GC) : Sp2 := fun ds M Q _ => ∃ b g l n, ds = [.ref b] ∧ Bag M b g l n ∧ n ≤ 2 ^ 47 ∧ ∀ lo hi le mo M', okB lo hi = true → okB le mo = true → Bd lo → Bd hi → Bd le → Bd mo → Kept b g M M' → Bag M' b g l (n + 50) → Q (.tup [spD lo hi, spD le mo]) M'
def sp__law_points (G : GC) : Sp2 := fun ds M Q _ => ∃ p, ∃ ss : List (En × En), ds = [.ref p] ∧ M p = some (.lst (ss.map fun s => spD s.1 s.2)) ∧ ss.length ≤ 10 ∧ ∀ q, M q = none → Q (.ref q) (updM M q (iL (pts ss)))
def sp__law_met_right (G : GC) : Sp2 := fun ds M Q _ => ∃ lo hi le mo, ds = [metD (glow lo le) (lhigh hi mo), spD lo hi, spD le mo] ∧ okB lo hi = true ∧ okB le mo = true ∧ Q (.bl true) M
def sp__law_covers_right (G : GC) : Sp2 := fun ds M Q _ => ∃ lo hi le mo, ds = [spD lo hi, spD le mo] ∧ okB lo hi = true ∧ okB le mo = true ∧ Bd lo ∧ Bd hi ∧ Bd le ∧ Bd mo ∧ Q (.bl true) M
abbrev sp_law (G : GC) : Sp2 := lawSp
end K03




namespace K03
open PySem PySem.Spec PyProof.Rows L2 N2
def t_is_whole (G : GC) : TS2 := (seq2 (ret2 (andv2 (call2 bIsi (cons2 (v2 0) (cons2 (c2 (.ty "int")) nil2))) (notv2 (call2 bIsi (cons2 (v2 0) (cons2 (c2 (.ty "bool")) nil2)))))) next2)
theorem d_is_whole {P : Program} {w : World} {K : PySem.W.Frag} {mg : Str → Option Value} {base : Heap} {G : GC} {f : Addr} (T : Tx K mg G)  : ∀ (cdv : Value) (A : Around) (outer : List Env) (s : Shared) (H : Hp) (E : XK), Room 0 (A.deeper (envOfC "is_whole" (defScope s_is_whole) s.heap.objs.size f cdv)) → PSs2 (cxOf (L2.CX P w) P w K mg base N_is_whole "is_whole" (defScope s_is_whole) f cdv A outer s H E) (WD E) (defBody s_is_whole) (t_is_whole G) :=
  fun cdv A outer s H E hr => (psscons2 (psret2 (pandv2 (pcallB2 call_isiA isiRel rfl T.b_isinstance bb_isinstance (pcons2 (pv2 0) (pcons2 (pty2 rfl T.b_int bb_int) pnil2))) (pone2 (pnotv2 (pcallB2 call_isiA isiRel rfl T.b_isinstance bb_isinstance (pcons2 (pv2 0) (pcons2 (pty2 rfl T.b_bool bb_bool) pnil2))))))) pssnil2)
def t_is_span (G : GC) : TS2 := (seq2 (if2 (or2 (not2 (tr2 (call2 bIsi (cons2 (v2 0) (cons2 (c2 (.ty "tuple")) nil2))))) (bt2 (op2 bNe (call2 bLen (cons2 (v2 0) nil2)) (c2 (.int 2))))) (seq2 (ret2 (c2 (.bl false))) next2) next2) (seq2 (for2 (itup2 (v2 0)) (gn2 1) (seq2 (if2 (and2 (bt2 (op2 bIsNot (v2 1) (c2 .non))) (not2 (tr2 (fn2 (sp_is_whole G) [] (cons2 (v2 1) nil2))))) (seq2 (ret2 (c2 (.bl false))) next2) next2) next2)) (seq2 (asg2 (v2 0) (gtup2 2 (gcons2 (gn2 2) (gcons2 (gn2 3) gnil2)))) (seq2 (ret2 (orv2 (op2 bIs (v2 2) (c2 .non)) (orv2 (op2 bIs (v2 3) (c2 .non)) (op2 bLe (v2 2) (v2 3))))) next2))))
theorem d_is_span {P : Program} {w : World} {K : PySem.W.Frag} {mg : Str → Option Value} {base : Heap} {G : GC} {f : Addr} (T : Tx K mg G) (c_is_whole : Fn2 P w K mg base 1 "is_whole" (sp_is_whole G) []) : ∀ (cdv : Value) (A : Around) (outer : List Env) (s : Shared) (H : Hp) (E : XK), Room 1 (A.deeper (envOfC "is_span" (defScope s_is_span) s.heap.objs.size f cdv)) → PSs2 (cxOf (L2.CX P w) P w K mg base N_is_span "is_span" (defScope s_is_span) f cdv A outer s H E) (WD E) (defBody s_is_span) (t_is_span G) :=
  fun cdv A outer s H E hr => (psscons2 (psif2 (PW.pt (por2 (pnot2 (ptr2 (pcallB2 call_isiA isiRel rfl T.b_isinstance bb_isinstance (pcons2 (pv2 0) (pcons2 (pty2 rfl T.b_tuple bb_tuple) pnil2))) (fun _ => rfl))) (por1 (ptcmp2 (op_neA (hu64 hr)) neRel (pcallB2 call_lenA lenRel rfl T.b_len bb_len (pcons2 (pv2 0) pnil2)) pint2 (nomark _))))) (psscons2 (psret2 pbl2) pssnil2) pssnil2) (psscons2 (psfor2 (passes_of rfl) rfl (pitup2 (pv2 0)) (pgn2 1 sc_is_span.nd) (psscons2 (psif2 (PW.pt (pand2 (ptcmp2 op_notN isNotRel (pv2 1) pnon2 (nomark _)) (pand1 (pnot2 (ptr2 (pfn2 (takes_of rfl rfl rfl rfl) c_is_whole hr (by decide) rfl (pcons2 (pv2 1) pnil2)) (fun _ => rfl)))))) (psscons2 (psret2 pbl2) pssnil2) pssnil2) pssnil2)) (psscons2 (psasg2 (pv2 0) (pgtup2 rfl (pgcons2 (pgn2 2 sc_is_span.nd) (pgcons2 (pgn2 3 sc_is_span.nd) pgnil2)))) (psscons2 (psret2 (porv2 (pcmp2 op_isN isRel (pv2 2) pnon2 (nomark _)) (porv2 (pcmp2 op_isN isRel (pv2 3) pnon2 (nomark _)) (pone2 (pcmp2 op_leA ordRel (pv2 2) (pv2 3) (nomark _)))))) pssnil2))))
def t_looked (G : GC) : TS2 := (seq2 (if2 (not2 (tr2 (fn2 (sp_is_span G) [] (cons2 (v2 0) nil2)))) (seq2 (raise2 G.cNoSpan) next2) next2) (seq2 (ret2 (v2 0)) next2))
theorem d_looked {P : Program} {w : World} {K : PySem.W.Frag} {mg : Str → Option Value} {base : Heap} {G : GC} {f : Addr} (T : Tx K mg G) (c_is_span : Fn2 P w K mg base 2 "is_span" (sp_is_span G) []) : ∀ (cdv : Value) (A : Around) (outer : List Env) (s : Shared) (H : Hp) (E : XK), Room 2 (A.deeper (envOfC "looked" (defScope s_looked) s.heap.objs.size f cdv)) → PSs2 (cxOf (L2.CX P w) P w K mg base N_looked "looked" (defScope s_looked) f cdv A outer s H E) (WD E) (defBody s_looked) (t_looked G) :=
  fun cdv A outer s H E hr => (psscons2 (psif2 (pnot2 (ptr2 (pfn2 (takes_of rfl rfl rfl rfl) c_is_span hr (by decide) rfl (pcons2 (pv2 0) pnil2)) (fun _ => rfl))) (psscons2 (psraise2 rfl (takes_of rfl rfl rfl rfl) T.e_NoSpan rfl) pssnil2) pssnil2) (psscons2 (psret2 (pv2 0)) pssnil2))
def t_span_covers (G : GC) : TS2 := (seq2 (asg2 (fn2 (sp_looked G) [] (cons2 (v2 0) nil2)) (gtup2 2 (gcons2 (gn2 2) (gcons2 (gn2 3) gnil2)))) (seq2 (asg2 (fn2 (sp_looked G) [] (cons2 (v2 1) nil2)) (gtup2 2 (gcons2 (gn2 4) (gcons2 (gn2 5) gnil2)))) (seq2 (if2 (and2 (bt2 (op2 bIsNot (v2 2) (c2 .non))) (or2 (bt2 (op2 bIs (v2 4) (c2 .non))) (bt2 (op2 bLt (v2 4) (v2 2))))) (seq2 (ret2 (c2 (.bl false))) next2) next2) (seq2 (ret2 (orv2 (op2 bIs (v2 3) (c2 .non)) (andv2 (op2 bIsNot (v2 5) (c2 .non)) (op2 bLe (v2 5) (v2 3))))) next2))))
theorem d_span_covers {P : Program} {w : World} {K : PySem.W.Frag} {mg : Str → Option Value} {base : Heap} {G : GC} {f : Addr} (T : Tx K mg G) (c_looked : Fn2 P w K mg base 3 "looked" (sp_looked G) []) : ∀ (cdv : Value) (A : Around) (outer : List Env) (s : Shared) (H : Hp) (E : XK), Room 3 (A.deeper (envOfC "span_covers" (defScope s_span_covers) s.heap.objs.size f cdv)) → PSs2 (cxOf (L2.CX P w) P w K mg base N_span_covers "span_covers" (defScope s_span_covers) f cdv A outer s H E) (WD E) (defBody s_span_covers) (t_span_covers G) :=
  fun cdv A outer s H E hr => (psscons2 (psasg2 (pfn2 (takes_of rfl rfl rfl rfl) c_looked hr (by decide) rfl (pcons2 (pv2 0) pnil2)) (pgtup2 rfl (pgcons2 (pgn2 2 sc_span_covers.nd) (pgcons2 (pgn2 3 sc_span_covers.nd) pgnil2)))) (psscons2 (psasg2 (pfn2 (takes_of rfl rfl rfl rfl) c_looked hr (by decide) rfl (pcons2 (pv2 1) pnil2)) (pgtup2 rfl (pgcons2 (pgn2 4 sc_span_covers.nd) (pgcons2 (pgn2 5 sc_span_covers.nd) pgnil2)))) (psscons2 (psif2 (PW.pt (pand2 (ptcmp2 op_notN isNotRel (pv2 2) pnon2 (nomark _)) (pand1 (PW.pt (por2 (ptcmp2 op_isN isRel (pv2 4) pnon2 (nomark _)) (por1 (ptcmp2 op_ltA ordRel (pv2 4) (pv2 2) (nomark _)))))))) (psscons2 (psret2 pbl2) pssnil2) pssnil2) (psscons2 (psret2 (porv2 (pcmp2 op_isN isRel (pv2 3) pnon2 (nomark _)) (pone2 (pandv2 (pcmp2 op_notN isNotRel (pv2 5) pnon2 (nomark _)) (pone2 (pcmp2 op_leA ordRel (pv2 5) (pv2 3) (nomark _))))))) pssnil2))))
def t_greater_low (G : GC) : TS2 := (seq2 (if2 (or2 (bt2 (op2 bIs (v2 0) (c2 .non))) (bt2 (op2 bIs (v2 1) (c2 .non)))) (seq2 (ret2 (ife2 (bt2 (op2 bIs (v2 0) (c2 .non))) (v2 1) (v2 0))) next2) next2) (seq2 (ret2 (call2 bMax (cons2 (v2 0) (cons2 (v2 1) nil2)))) next2))
theorem d_greater_low {P : Program} {w : World} {K : PySem.W.Frag} {mg : Str → Option Value} {base : Heap} {G : GC} {f : Addr} (T : Tx K mg G)  : ∀ (cdv : Value) (A : Around) (outer : List Env) (s : Shared) (H : Hp) (E : XK), Room 0 (A.deeper (envOfC "greater_low" (defScope s_greater_low) s.heap.objs.size f cdv)) → PSs2 (cxOf (L2.CX P w) P w K mg base N_greater_low "greater_low" (defScope s_greater_low) f cdv A outer s H E) (WD E) (defBody s_greater_low) (t_greater_low G) :=
  fun cdv A outer s H E hr => (psscons2 (psif2 (PW.pt (por2 (ptcmp2 op_isN isRel (pv2 0) pnon2 (nomark _)) (por1 (ptcmp2 op_isN isRel (pv2 1) pnon2 (nomark _))))) (psscons2 (psret2 (pife2 (ptcmp2 op_isN isRel (pv2 0) pnon2 (nomark _)) (pv2 1) (pv2 0))) pssnil2) pssnil2) (psscons2 (psret2 (pcallB2 (call_max2 rfl) maxRel rfl T.b_max bb_max (pcons2 (pv2 0) (pcons2 (pv2 1) pnil2)))) pssnil2))
def t_lesser_high (G : GC) : TS2 := (seq2 (if2 (or2 (bt2 (op2 bIs (v2 0) (c2 .non))) (bt2 (op2 bIs (v2 1) (c2 .non)))) (seq2 (ret2 (ife2 (bt2 (op2 bIs (v2 0) (c2 .non))) (v2 1) (v2 0))) next2) next2) (seq2 (ret2 (call2 bMin (cons2 (v2 0) (cons2 (v2 1) nil2)))) next2))
theorem d_lesser_high {P : Program} {w : World} {K : PySem.W.Frag} {mg : Str → Option Value} {base : Heap} {G : GC} {f : Addr} (T : Tx K mg G)  : ∀ (cdv : Value) (A : Around) (outer : List Env) (s : Shared) (H : Hp) (E : XK), Room 0 (A.deeper (envOfC "lesser_high" (defScope s_lesser_high) s.heap.objs.size f cdv)) → PSs2 (cxOf (L2.CX P w) P w K mg base N_lesser_high "lesser_high" (defScope s_lesser_high) f cdv A outer s H E) (WD E) (defBody s_lesser_high) (t_lesser_high G) :=
  fun cdv A outer s H E hr => (psscons2 (psif2 (PW.pt (por2 (ptcmp2 op_isN isRel (pv2 0) pnon2 (nomark _)) (por1 (ptcmp2 op_isN isRel (pv2 1) pnon2 (nomark _))))) (psscons2 (psret2 (pife2 (ptcmp2 op_isN isRel (pv2 0) pnon2 (nomark _)) (pv2 1) (pv2 0))) pssnil2) pssnil2) (psscons2 (psret2 (pcallB2 (call_min2 rfl) minRel rfl T.b_min bb_min (pcons2 (pv2 0) (pcons2 (pv2 1) pnil2)))) pssnil2))
def t_span_met (G : GC) : TS2 := (seq2 (asg2 (fn2 (sp_looked G) [] (cons2 (v2 0) nil2)) (gtup2 2 (gcons2 (gn2 2) (gcons2 (gn2 3) gnil2)))) (seq2 (asg2 (fn2 (sp_looked G) [] (cons2 (v2 1) nil2)) (gtup2 2 (gcons2 (gn2 4) (gcons2 (gn2 5) gnil2)))) (seq2 (asg2 (tup2 (cons2 (fn2 (sp_greater_low G) [] (cons2 (v2 2) (cons2 (v2 4) nil2))) (cons2 (fn2 (sp_lesser_high G) [] (cons2 (v2 3) (cons2 (v2 5) nil2))) nil2))) (gn2 6)) (seq2 (ret2 (ife2 (tr2 (fn2 (sp_is_span G) [] (cons2 (v2 6) nil2))) (v2 6) (c2 .non))) next2))))
theorem d_span_met {P : Program} {w : World} {K : PySem.W.Frag} {mg : Str → Option Value} {base : Heap} {G : GC} {f : Addr} (T : Tx K mg G) (c_is_span : Fn2 P w K mg base 2 "is_span" (sp_is_span G) []) (c_lesser_high : Fn2 P w K mg base 1 "lesser_high" (sp_lesser_high G) []) (c_greater_low : Fn2 P w K mg base 1 "greater_low" (sp_greater_low G) []) (c_looked : Fn2 P w K mg base 3 "looked" (sp_looked G) []) : ∀ (cdv : Value) (A : Around) (outer : List Env) (s : Shared) (H : Hp) (E : XK), Room 3 (A.deeper (envOfC "span_met" (defScope s_span_met) s.heap.objs.size f cdv)) → PSs2 (cxOf (L2.CX P w) P w K mg base N_span_met "span_met" (defScope s_span_met) f cdv A outer s H E) (WD E) (defBody s_span_met) (t_span_met G) :=
  fun cdv A outer s H E hr => (psscons2 (psasg2 (pfn2 (takes_of rfl rfl rfl rfl) c_looked hr (by decide) rfl (pcons2 (pv2 0) pnil2)) (pgtup2 rfl (pgcons2 (pgn2 2 sc_span_met.nd) (pgcons2 (pgn2 3 sc_span_met.nd) pgnil2)))) (psscons2 (psasg2 (pfn2 (takes_of rfl rfl rfl rfl) c_looked hr (by decide) rfl (pcons2 (pv2 1) pnil2)) (pgtup2 rfl (pgcons2 (pgn2 4 sc_span_met.nd) (pgcons2 (pgn2 5 sc_span_met.nd) pgnil2)))) (psscons2 (psset2 6 sc_span_met.nd (ptup2 (pcons2 (pfn2 (takes_of rfl rfl rfl rfl) c_greater_low hr (by decide) rfl (pcons2 (pv2 2) (pcons2 (pv2 4) pnil2))) (pcons2 (pfn2 (takes_of rfl rfl rfl rfl) c_lesser_high hr (by decide) rfl (pcons2 (pv2 3) (pcons2 (pv2 5) pnil2))) pnil2)))) (psscons2 (psret2 (pife2 (ptr2 (pfn2 (takes_of rfl rfl rfl rfl) c_is_span hr (by decide) rfl (pcons2 (pv2 6) pnil2)) (fun _ => rfl)) (pv2 6) pnon2)) pssnil2))))
def t__law_bag (G : GC) : TS2 := (seq2 (asg2 (lc2 (ilist2 (sl2 bSl (v2 0) onone2 (osome2 (c2 (.int 63))))) (gn2 1) (bt2 (op2 bGe (v2 1) (op2 bPow (c2 (.int 10)) (c2 (.int 18))))) (op2 bSub (v2 1) (op2 bPow (c2 (.int 10)) (c2 (.int 18)))) [1]) (gn2 2)) (seq2 (asg2 (lc2 (ilist2 (sl2 bSl (v2 0) onone2 (osome2 (c2 (.int 63))))) (gn2 1) (bt2 (op2 bLt (v2 1) (op2 bPow (c2 (.int 10)) (c2 (.int 18))))) (op2 bMod (v2 1) (op2 bPow (c2 (.int 10)) (c2 (.int 18)))) [1]) (gn2 3)) (seq2 (asg2 (c2 (.int 5)) (gn2 4)) (seq2 (for2 (ilist2 (v2 3)) (gn2 1) (seq2 (asg2 (op2 bMod (op2 bPow (op2 bAdd (op2 bAdd (v2 4) (v2 1)) (c2 (.int 1))) (c2 (.int 7))) (c2 (.int 618970019642690137449562111))) (gn2 4)) next2)) (seq2 (ret2 (lst2 (cons2 (v2 2) (cons2 (op2 bAdd (v2 3) (lst2 (cons2 (c2 (.int 0)) nil2))) (cons2 (c2 (.int 0)) (cons2 (v2 4) nil2)))))) next2)))))
theorem d__law_bag {P : Program} {w : World} {K : PySem.W.Frag} {mg : Str → Option Value} {base : Heap} {G : GC} {f : Addr} (T : Tx K mg G)  : ∀ (cdv : Value) (A : Around) (outer : List Env) (s : Shared) (H : Hp) (E : XK), Room 0 (A.deeper (envOfC "_law_bag" (defScope s__law_bag) s.heap.objs.size f cdv)) → PSs2 (cxOf (L2.CX P w) P w K mg base N__law_bag "_law_bag" (defScope s__law_bag) f cdv A outer s H E) (WD E) (defBody s__law_bag) (t__law_bag G) :=
  fun cdv A outer s H E hr => (psscons2 (pssetlc2 2 rfl sc__law_bag.nd (pilist2 (psl2 (pv2 0) ponone2 (posome2 pint2))) (blkOk_by (own := [("cell", 1)]) (N := N__law_bag) (sc := defScope s__law_bag) (by decide +kernel)) (fun _ _ _ _ _ => (pgn2 1 sc__law_bag.nd)) (fun _ _ _ _ _ => (ptsone2 (ptcmp2 op_geA ordRel (pv2 1) (pop2 op_powW intRel pint2 pint2) (nomark _)))) (fun _ _ _ _ _ => (pop2 op_subC intRel (pv2 1) (pop2 op_powW intRel pint2 pint2))) (by decide) (sw_true rfl rfl rfl (by decide +kernel))) (psscons2 (pssetlc2 3 rfl sc__law_bag.nd (pilist2 (psl2 (pv2 0) ponone2 (posome2 pint2))) (blkOk_by (own := [("cell", 1)]) (N := N__law_bag) (sc := defScope s__law_bag) (by decide +kernel)) (fun _ _ _ _ _ => (pgn2 1 sc__law_bag.nd)) (fun _ _ _ _ _ => (ptsone2 (ptcmp2 op_ltA ordRel (pv2 1) (pop2 op_powW intRel pint2 pint2) (nomark _)))) (fun _ _ _ _ _ => (pop2 op_mod intRel (pv2 1) (pop2 op_powW intRel pint2 pint2))) (by decide) (sw_true rfl rfl rfl (by decide +kernel))) (psscons2 (psset2 4 sc__law_bag.nd pint2) (psscons2 (psfor2 (passes_of rfl) rfl (pilist2 (pv2 3)) (pgn2 1 sc__law_bag.nd) (psscons2 (psset2 4 sc__law_bag.nd (pop2 op_mod intRel (pop2 op_powW intRel (pop2 op_addA addRel (pop2 op_addA addRel (pv2 4) (pv2 1)) pint2) pint2) pint2)) pssnil2)) (psscons2 (psret2 (plst2 (pcons2 (pv2 2) (pcons2 (pop2 op_addA addRel (pv2 3) (plst2 (pcons2 pint2 pnil2))) (pcons2 pint2 (pcons2 (pv2 4) pnil2)))))) pssnil2)))))
def t__law_draw (G : GC) : TS2 := (seq2 (while2 (and2 (bt2 (op2 bNe (op2 bIx (v2 0) (c2 (.int 0))) (lst2 nil2))) (bt2 (op2 bEq (op2 bIx (op2 bIx (v2 0) (c2 (.int 0))) (c2 (.int 0))) (c2 (.int 0))))) (seq2 (drop2 (meth2 "list" mPopAt (op2 bIx (v2 0) (c2 (.int 0))) (cons2 (c2 (.int 0)) nil2))) next2)) (seq2 (if2 (bt2 (op2 bNe (op2 bIx (v2 0) (c2 (.int 0))) (lst2 nil2))) (seq2 (asg2 (op2 bMod (op2 bIx (op2 bIx (v2 0) (c2 (.int 0))) (c2 (.int 0))) (v2 1)) (gn2 2)) (seq2 (sub2 (op2 bFdiv (op2 bIx (op2 bIx (v2 0) (c2 (.int 0))) (c2 (.int 0))) (v2 1)) (op2 bIx (v2 0) (c2 (.int 0))) (c2 (.int 0)) bSet) (seq2 (ret2 (v2 2)) next2))) next2) (seq2 (sub2 (op2 bAdd (op2 bIx (v2 0) (c2 (.int 2))) (c2 (.int 1))) (v2 0) (c2 (.int 2)) bSet) (seq2 (asg2 (op2 bIx (op2 bIx (v2 0) (c2 (.int 1))) (op2 bMod (op2 bIx (v2 0) (c2 (.int 2))) (call2 bLen (cons2 (op2 bIx (v2 0) (c2 (.int 1))) nil2)))) (gn2 3)) (seq2 (sub2 (op2 bMod (op2 bPow (op2 bAdd (op2 bIx (v2 0) (c2 (.int 3))) (op2 bMul (op2 bAdd (v2 3) (op2 bMul (c2 (.int 3)) (op2 bIx (v2 0) (c2 (.int 2))))) (op2 bAdd (op2 bMul (c2 (.int 2)) (op2 bIx (v2 0) (c2 (.int 2)))) (c2 (.int 1))))) (c2 (.int 7))) (c2 (.int 618970019642690137449562111))) (v2 0) (c2 (.int 3)) bSet) (seq2 (ret2 (op2 bMod (op2 bFdiv (op2 bIx (v2 0) (c2 (.int 3))) (c2 (.int 65536))) (v2 1))) next2))))))
theorem d__law_draw {P : Program} {w : World} {K : PySem.W.Frag} {mg : Str → Option Value} {base : Heap} {G : GC} {f : Addr} (T : Tx K mg G)  : ∀ (cdv : Value) (A : Around) (outer : List Env) (s : Shared) (H : Hp) (E : XK), Room 0 (A.deeper (envOfC "_law_draw" (defScope s__law_draw) s.heap.objs.size f cdv)) → PSs2 (cxOf (L2.CX P w) P w K mg base N__law_draw "_law_draw" (defScope s__law_draw) f cdv A outer s H E) (WD E) (defBody s__law_draw) (t__law_draw G) :=
  fun cdv A outer s H E hr => (psscons2 (pswhile2 (passes_of rfl) (PW.pt (pand2 (ptcmp2 (op_neA (hu64 hr)) neRel (pix2 ix_seq ixRel (pv2 0) pint2 (fun _ _ => rfl)) (plst2 pnil2) (nomark _)) (pand1 (ptcmp2 (op_eqA (hu64 hr)) eqRel (pix2 ix_seq ixRel (pix2 ix_seq ixRel (pv2 0) pint2 (fun _ _ => rfl)) pint2 (fun _ _ => rfl)) pint2 (nomark _))))) (psscons2 (psexpr2 (pmeth2 PySem.F.plainAttrs_list PySem.F.slot_list_pop PySem.F.type_list_pop mt_popAt popAtRel (pix2 ix_seq ixRel (pv2 0) pint2 (fun _ _ => rfl)) (pcons2 pint2 pnil2))) pssnil2)) (psscons2 (psif2 (ptcmp2 (op_neA (hu64 hr)) neRel (pix2 ix_seq ixRel (pv2 0) pint2 (fun _ _ => rfl)) (plst2 pnil2) (nomark _)) (psscons2 (psset2 2 sc__law_draw.nd (pop2 op_mod intRel (pix2 ix_seq ixRel (pix2 ix_seq ixRel (pv2 0) pint2 (fun _ _ => rfl)) pint2 (fun _ _ => rfl)) (pv2 1))) (psscons2 (pssub2 (pop2 op_fdivW intRel (pix2 ix_seq ixRel (pix2 ix_seq ixRel (pv2 0) pint2 (fun _ _ => rfl)) pint2 (fun _ _ => rfl)) (pv2 1)) (pix2 ix_seq ixRel (pv2 0) pint2 (fun _ _ => rfl)) pint2 set_list setRel) (psscons2 (psret2 (pv2 2)) pssnil2))) pssnil2) (psscons2 (pssub2 (pop2 op_addA addRel (pix2 ix_seq ixRel (pv2 0) pint2 (fun _ _ => rfl)) pint2) (pv2 0) pint2 set_list setRel) (psscons2 (psset2 3 sc__law_draw.nd (pix2 ix_seq ixRel (pix2 ix_seq ixRel (pv2 0) pint2 (fun _ _ => rfl)) (pop2 op_mod intRel (pix2 ix_seq ixRel (pv2 0) pint2 (fun _ _ => rfl)) (pcallB2 call_lenA lenRel rfl T.b_len bb_len (pcons2 (pix2 ix_seq ixRel (pv2 0) pint2 (fun _ _ => rfl)) pnil2))) (fun _ _ => rfl))) (psscons2 (pssub2 (pop2 op_mod intRel (pop2 op_powW intRel (pop2 op_addA addRel (pix2 ix_seq ixRel (pv2 0) pint2 (fun _ _ => rfl)) (pop2 op_mulA mulRel (pop2 op_addA addRel (pv2 3) (pop2 op_mulA mulRel pint2 (pix2 ix_seq ixRel (pv2 0) pint2 (fun _ _ => rfl)))) (pop2 op_addA addRel (pop2 op_mulA mulRel pint2 (pix2 ix_seq ixRel (pv2 0) pint2 (fun _ _ => rfl))) pint2))) pint2) pint2) (pv2 0) pint2 set_list setRel) (psscons2 (psret2 (pop2 op_mod intRel (pop2 op_fdivW intRel (pix2 ix_seq ixRel (pv2 0) pint2 (fun _ _ => rfl)) pint2) (pv2 1))) pssnil2))))))
def t__law_number (G : GC) : TS2 := (seq2 (asg2 (fn2 (sp__law_draw G) [] (cons2 (v2 0) (cons2 (c2 (.int 5)) nil2))) (gn2 1)) (seq2 (if2 (bt2 (op2 bEq (v2 1) (c2 (.int 0)))) (seq2 (ret2 (op2 bSub (fn2 (sp__law_draw G) [] (cons2 (v2 0) (cons2 (c2 (.int 9)) nil2))) (c2 (.int 4)))) next2) next2) (seq2 (if2 (bt2 (op2 bEq (v2 1) (c2 (.int 1)))) (seq2 (ret2 (op2 bSub (fn2 (sp__law_draw G) [] (cons2 (v2 0) (cons2 (c2 (.int 2000)) nil2))) (c2 (.int 1000)))) next2) next2) (seq2 (if2 (bt2 (op2 bEq (v2 1) (c2 (.int 2)))) (seq2 (ret2 (op2 bMul (op2 bIx (lst2 (cons2 (c2 (.int 1)) (cons2 (un2 uNeg (c2 (.int 1))) nil2))) (fn2 (sp__law_draw G) [] (cons2 (v2 0) (cons2 (c2 (.int 2)) nil2)))) (op2 bSub (op2 bSub (op2 bPow (c2 (.int 10)) (c2 (.int 15))) (c2 (.int 1))) (fn2 (sp__law_draw G) [] (cons2 (v2 0) (cons2 (c2 (.int 3)) nil2)))))) next2) next2) (seq2 (asg2 (fn2 (sp__law_draw G) [] (cons2 (v2 0) (cons2 (op2 bPow (c2 (.int 10)) (c2 (.int 15))) nil2))) (gn2 2)) (seq2 (ret2 (ife2 (bt2 (op2 bEq (v2 1) (c2 (.int 3)))) (v2 2) (op2 bSub (c2 (.int 0)) (v2 2)))) next2))))))
theorem d__law_number {P : Program} {w : World} {K : PySem.W.Frag} {mg : Str → Option Value} {base : Heap} {G : GC} {f : Addr} (T : Tx K mg G) (c__law_draw : Fn2 P w K mg base 1 "_law_draw" (sp__law_draw G) []) : ∀ (cdv : Value) (A : Around) (outer : List Env) (s : Shared) (H : Hp) (E : XK), Room 1 (A.deeper (envOfC "_law_number" (defScope s__law_number) s.heap.objs.size f cdv)) → PSs2 (cxOf (L2.CX P w) P w K mg base N__law_number "_law_number" (defScope s__law_number) f cdv A outer s H E) (WD E) (defBody s__law_number) (t__law_number G) :=
  fun cdv A outer s H E hr => (psscons2 (psset2 1 sc__law_number.nd (pfn2 (takes_of rfl rfl rfl rfl) c__law_draw hr (by decide) rfl (pcons2 (pv2 0) (pcons2 pint2 pnil2)))) (psscons2 (psif2 (ptcmp2 (op_eqA (hu64 hr)) eqRel (pv2 1) pint2 (nomark _)) (psscons2 (psret2 (pop2 op_subC intRel (pfn2 (takes_of rfl rfl rfl rfl) c__law_draw hr (by decide) rfl (pcons2 (pv2 0) (pcons2 pint2 pnil2))) pint2)) pssnil2) pssnil2) (psscons2 (psif2 (ptcmp2 (op_eqA (hu64 hr)) eqRel (pv2 1) pint2 (nomark _)) (psscons2 (psret2 (pop2 op_subC intRel (pfn2 (takes_of rfl rfl rfl rfl) c__law_draw hr (by decide) rfl (pcons2 (pv2 0) (pcons2 pint2 pnil2))) pint2)) pssnil2) pssnil2) (psscons2 (psif2 (ptcmp2 (op_eqA (hu64 hr)) eqRel (pv2 1) pint2 (nomark _)) (psscons2 (psret2 (pop2 op_mulA mulRel (pix2 ix_seq ixRel (plst2 (pcons2 pint2 (pcons2 (pun2 un_neg negRel pint2) pnil2))) (pfn2 (takes_of rfl rfl rfl rfl) c__law_draw hr (by decide) rfl (pcons2 (pv2 0) (pcons2 pint2 pnil2))) (fun _ _ => rfl)) (pop2 op_subC intRel (pop2 op_subC intRel (pop2 op_powW intRel pint2 pint2) pint2) (pfn2 (takes_of rfl rfl rfl rfl) c__law_draw hr (by decide) rfl (pcons2 (pv2 0) (pcons2 pint2 pnil2)))))) pssnil2) pssnil2) (psscons2 (psset2 2 sc__law_number.nd (pfn2 (takes_of rfl rfl rfl rfl) c__law_draw hr (by decide) rfl (pcons2 (pv2 0) (pcons2 (pop2 op_powW intRel pint2 pint2) pnil2)))) (psscons2 (psret2 (pife2 (ptcmp2 (op_eqA (hu64 hr)) eqRel (pv2 1) pint2 (nomark _)) (pv2 2) (pop2 op_subC intRel pint2 (pv2 2)))) pssnil2))))))
def t__law_held (G : GC) : TS2 := (seq2 (ret2 (call2 bMax (cons2 (op2 bSub (c2 (.int 1)) (op2 bPow (c2 (.int 10)) (c2 (.int 15)))) (cons2 (call2 bMin (cons2 (op2 bSub (op2 bPow (c2 (.int 10)) (c2 (.int 15))) (c2 (.int 1))) (cons2 (v2 0) nil2))) nil2)))) next2)
theorem d__law_held {P : Program} {w : World} {K : PySem.W.Frag} {mg : Str → Option Value} {base : Heap} {G : GC} {f : Addr} (T : Tx K mg G)  : ∀ (cdv : Value) (A : Around) (outer : List Env) (s : Shared) (H : Hp) (E : XK), Room 0 (A.deeper (envOfC "_law_held" (defScope s__law_held) s.heap.objs.size f cdv)) → PSs2 (cxOf (L2.CX P w) P w K mg base N__law_held "_law_held" (defScope s__law_held) f cdv A outer s H E) (WD E) (defBody s__law_held) (t__law_held G) :=
  fun cdv A outer s H E hr => (psscons2 (psret2 (pcallB2 (call_max2 rfl) maxRel rfl T.b_max bb_max (pcons2 (pop2 op_subC intRel pint2 (pop2 op_powW intRel pint2 pint2)) (pcons2 (pcallB2 (call_min2 rfl) minRel rfl T.b_min bb_min (pcons2 (pop2 op_subC intRel (pop2 op_powW intRel pint2 pint2) pint2) (pcons2 (pv2 0) pnil2))) pnil2)))) pssnil2)
def t__law_span (G : GC) : TS2 := (seq2 (asg2 (fn2 (sp__law_draw G) [] (cons2 (v2 0) (cons2 (c2 (.int 7)) nil2))) (gn2 1)) (seq2 (asg2 (fn2 (sp__law_number G) [] (cons2 (v2 0) nil2)) (gn2 2)) (seq2 (if2 (bt2 (op2 bEq (v2 1) (c2 (.int 0)))) (seq2 (ret2 (tup2 (cons2 (c2 .non) (cons2 (c2 .non) nil2)))) next2) next2) (seq2 (if2 (bt2 (op2 bEq (v2 1) (c2 (.int 1)))) (seq2 (ret2 (tup2 (cons2 (c2 .non) (cons2 (v2 2) nil2)))) next2) next2) (seq2 (if2 (bt2 (op2 bEq (v2 1) (c2 (.int 2)))) (seq2 (ret2 (tup2 (cons2 (v2 2) (cons2 (c2 .non) nil2)))) next2) next2) (seq2 (if2 (bt2 (op2 bEq (v2 1) (c2 (.int 3)))) (seq2 (ret2 (tup2 (cons2 (v2 2) (cons2 (v2 2) nil2)))) next2) next2) (seq2 (if2 (bt2 (op2 bLt (v2 1) (c2 (.int 6)))) (seq2 (ret2 (tup2 (cons2 (v2 2) (cons2 (fn2 (sp__law_held G) [] (cons2 (op2 bAdd (op2 bAdd (v2 2) (c2 (.int 1))) (fn2 (sp__law_draw G) [] (cons2 (v2 0) (cons2 (c2 (.int 12)) nil2)))) nil2)) nil2)))) next2) next2) (seq2 (asg2 (fn2 (sp__law_number G) [] (cons2 (v2 0) nil2)) (gn2 3)) (seq2 (ret2 (tup2 (cons2 (call2 bMin (cons2 (v2 2) (cons2 (v2 3) nil2))) (cons2 (call2 bMax (cons2 (v2 2) (cons2 (v2 3) nil2))) nil2)))) next2)))))))))
theorem d__law_span {P : Program} {w : World} {K : PySem.W.Frag} {mg : Str → Option Value} {base : Heap} {G : GC} {f : Addr} (T : Tx K mg G) (c__law_number : Fn2 P w K mg base 2 "_law_number" (sp__law_number G) []) (c__law_draw : Fn2 P w K mg base 1 "_law_draw" (sp__law_draw G) []) (c__law_held : Fn2 P w K mg base 1 "_law_held" (sp__law_held G) []) : ∀ (cdv : Value) (A : Around) (outer : List Env) (s : Shared) (H : Hp) (E : XK), Room 2 (A.deeper (envOfC "_law_span" (defScope s__law_span) s.heap.objs.size f cdv)) → PSs2 (cxOf (L2.CX P w) P w K mg base N__law_span "_law_span" (defScope s__law_span) f cdv A outer s H E) (WD E) (defBody s__law_span) (t__law_span G) :=
  fun cdv A outer s H E hr => (psscons2 (psset2 1 sc__law_span.nd (pfn2 (takes_of rfl rfl rfl rfl) c__law_draw hr (by decide) rfl (pcons2 (pv2 0) (pcons2 pint2 pnil2)))) (psscons2 (psset2 2 sc__law_span.nd (pfn2 (takes_of rfl rfl rfl rfl) c__law_number hr (by decide) rfl (pcons2 (pv2 0) pnil2))) (psscons2 (psif2 (ptcmp2 (op_eqA (hu64 hr)) eqRel (pv2 1) pint2 (nomark _)) (psscons2 (psret2 (ptup2 (pcons2 pnon2 (pcons2 pnon2 pnil2)))) pssnil2) pssnil2) (psscons2 (psif2 (ptcmp2 (op_eqA (hu64 hr)) eqRel (pv2 1) pint2 (nomark _)) (psscons2 (psret2 (ptup2 (pcons2 pnon2 (pcons2 (pv2 2) pnil2)))) pssnil2) pssnil2) (psscons2 (psif2 (ptcmp2 (op_eqA (hu64 hr)) eqRel (pv2 1) pint2 (nomark _)) (psscons2 (psret2 (ptup2 (pcons2 (pv2 2) (pcons2 pnon2 pnil2)))) pssnil2) pssnil2) (psscons2 (psif2 (ptcmp2 (op_eqA (hu64 hr)) eqRel (pv2 1) pint2 (nomark _)) (psscons2 (psret2 (ptup2 (pcons2 (pv2 2) (pcons2 (pv2 2) pnil2)))) pssnil2) pssnil2) (psscons2 (psif2 (ptcmp2 op_ltA ordRel (pv2 1) pint2 (nomark _)) (psscons2 (psret2 (ptup2 (pcons2 (pv2 2) (pcons2 (pfn2 (takes_of rfl rfl rfl rfl) c__law_held hr (by decide) rfl (pcons2 (pop2 op_addA addRel (pop2 op_addA addRel (pv2 2) pint2) (pfn2 (takes_of rfl rfl rfl rfl) c__law_draw hr (by decide) rfl (pcons2 (pv2 0) (pcons2 pint2 pnil2)))) pnil2)) pnil2)))) pssnil2) pssnil2) (psscons2 (psset2 3 sc__law_span.nd (pfn2 (takes_of rfl rfl rfl rfl) c__law_number hr (by decide) rfl (pcons2 (pv2 0) pnil2))) (psscons2 (psret2 (ptup2 (pcons2 (pcallB2 (call_min2 rfl) minRel rfl T.b_min bb_min (pcons2 (pv2 2) (pcons2 (pv2 3) pnil2))) (pcons2 (pcallB2 (call_max2 rfl) maxRel rfl T.b_max bb_max (pcons2 (pv2 2) (pcons2 (pv2 3) pnil2))) pnil2)))) pssnil2)))))))))
def t__law_whole (G : GC) : TS2 := (seq2 (ret2 (andv2 (call2 bIsi (cons2 (v2 0) (cons2 (c2 (.ty "int")) nil2))) (notv2 (call2 bIsi (cons2 (v2 0) (cons2 (c2 (.ty "bool")) nil2)))))) next2)
theorem d__law_whole {P : Program} {w : World} {K : PySem.W.Frag} {mg : Str → Option Value} {base : Heap} {G : GC} {f : Addr} (T : Tx K mg G)  : ∀ (cdv : Value) (A : Around) (outer : List Env) (s : Shared) (H : Hp) (E : XK), Room 0 (A.deeper (envOfC "_law_whole" (defScope s__law_whole) s.heap.objs.size f cdv)) → PSs2 (cxOf (L2.CX P w) P w K mg base N__law_whole "_law_whole" (defScope s__law_whole) f cdv A outer s H E) (WD E) (defBody s__law_whole) (t__law_whole G) :=
  fun cdv A outer s H E hr => (psscons2 (psret2 (pandv2 (pcallB2 call_isiA isiRel rfl T.b_isinstance bb_isinstance (pcons2 (pv2 0) (pcons2 (pty2 rfl T.b_int bb_int) pnil2))) (pone2 (pnotv2 (pcallB2 call_isiA isiRel rfl T.b_isinstance bb_isinstance (pcons2 (pv2 0) (pcons2 (pty2 rfl T.b_bool bb_bool) pnil2))))))) pssnil2)
def t__law_in (G : GC) : TS2 := (seq2 (if2 (and2 (bt2 (op2 bIsNot (op2 bIx (v2 0) (c2 (.int 0))) (c2 .non))) (bt2 (op2 bLt (v2 1) (op2 bIx (v2 0) (c2 (.int 0)))))) (seq2 (ret2 (c2 (.bl false))) next2) next2) (seq2 (ret2 (orv2 (op2 bIs (op2 bIx (v2 0) (c2 (.int 1))) (c2 .non)) (op2 bLe (v2 1) (op2 bIx (v2 0) (c2 (.int 1)))))) next2))
theorem d__law_in {P : Program} {w : World} {K : PySem.W.Frag} {mg : Str → Option Value} {base : Heap} {G : GC} {f : Addr} (T : Tx K mg G)  : ∀ (cdv : Value) (A : Around) (outer : List Env) (s : Shared) (H : Hp) (E : XK), Room 0 (A.deeper (envOfC "_law_in" (defScope s__law_in) s.heap.objs.size f cdv)) → PSs2 (cxOf (L2.CX P w) P w K mg base N__law_in "_law_in" (defScope s__law_in) f cdv A outer s H E) (WD E) (defBody s__law_in) (t__law_in G) :=
  fun cdv A outer s H E hr => (psscons2 (psif2 (PW.pt (pand2 (ptcmp2 op_notN isNotRel (pix2 ix_seq ixRel (pv2 0) pint2 (fun _ _ => rfl)) pnon2 (nomark _)) (pand1 (ptcmp2 op_ltA ordRel (pv2 1) (pix2 ix_seq ixRel (pv2 0) pint2 (fun _ _ => rfl)) (nomark _))))) (psscons2 (psret2 pbl2) pssnil2) pssnil2) (psscons2 (psret2 (porv2 (pcmp2 op_isN isRel (pix2 ix_seq ixRel (pv2 0) pint2 (fun _ _ => rfl)) pnon2 (nomark _)) (pone2 (pcmp2 op_leA ordRel (pv2 1) (pix2 ix_seq ixRel (pv2 0) pint2 (fun _ _ => rfl)) (nomark _))))) pssnil2))
def t__law_moved (G : GC) : TS2 := (seq2 (asg2 (lst2 nil2) (gn2 2)) (seq2 (for2 (itup2 (v2 1)) (gn2 3) (seq2 (asg2 (fn2 (sp__law_draw G) [] (cons2 (v2 0) (cons2 (c2 (.int 5)) nil2))) (gn2 4)) (seq2 (if2 (or2 (bt2 (op2 bEq (v2 4) (c2 (.int 3)))) (and2 (bt2 (op2 bIs (v2 3) (c2 .non))) (bt2 (op2 bGt (v2 4) (c2 (.int 0)))))) (seq2 (drop2 (meth2 "list" mAppend (v2 2) (cons2 (c2 .non) nil2))) next2) (seq2 (if2 (or2 (bt2 (op2 bIs (v2 3) (c2 .non))) (bt2 (op2 bEq (v2 4) (c2 (.int 4))))) (seq2 (drop2 (meth2 "list" mAppend (v2 2) (cons2 (fn2 (sp__law_number G) [] (cons2 (v2 0) nil2)) nil2))) next2) (seq2 (drop2 (meth2 "list" mAppend (v2 2) (cons2 (fn2 (sp__law_held G) [] (cons2 (op2 bSub (op2 bAdd (v2 3) (v2 4)) (c2 (.int 1))) nil2)) nil2))) next2)) next2)) next2))) (seq2 (asg2 (v2 2) (gtup2 2 (gcons2 (gn2 5) (gcons2 (gn2 6) gnil2)))) (seq2 (if2 (and2 (bt2 (op2 bIsNot (v2 5) (c2 .non))) (and2 (bt2 (op2 bIsNot (v2 6) (c2 .non))) (bt2 (op2 bGt (v2 5) (v2 6))))) (seq2 (ret2 (tup2 (cons2 (v2 6) (cons2 (v2 5) nil2)))) next2) next2) (seq2 (ret2 (tup2 (cons2 (v2 5) (cons2 (v2 6) nil2)))) next2)))))
theorem d__law_moved {P : Program} {w : World} {K : PySem.W.Frag} {mg : Str → Option Value} {base : Heap} {G : GC} {f : Addr} (T : Tx K mg G) (c__law_number : Fn2 P w K mg base 2 "_law_number" (sp__law_number G) []) (c__law_held : Fn2 P w K mg base 1 "_law_held" (sp__law_held G) []) (c__law_draw : Fn2 P w K mg base 1 "_law_draw" (sp__law_draw G) []) : ∀ (cdv : Value) (A : Around) (outer : List Env) (s : Shared) (H : Hp) (E : XK), Room 2 (A.deeper (envOfC "_law_moved" (defScope s__law_moved) s.heap.objs.size f cdv)) → PSs2 (cxOf (L2.CX P w) P w K mg base N__law_moved "_law_moved" (defScope s__law_moved) f cdv A outer s H E) (WD E) (defBody s__law_moved) (t__law_moved G) :=
  fun cdv A outer s H E hr => (psscons2 (psset2 2 sc__law_moved.nd (plst2 pnil2)) (psscons2 (psfor2 (passes_of rfl) rfl (pitup2 (pv2 1)) (pgn2 3 sc__law_moved.nd) (psscons2 (psset2 4 sc__law_moved.nd (pfn2 (takes_of rfl rfl rfl rfl) c__law_draw hr (by decide) rfl (pcons2 (pv2 0) (pcons2 pint2 pnil2)))) (psscons2 (psif2 (PW.pt (por2 (ptcmp2 (op_eqA (hu64 hr)) eqRel (pv2 4) pint2 (nomark _)) (por1 (PW.pt (pand2 (ptcmp2 op_isN isRel (pv2 3) pnon2 (nomark _)) (pand1 (ptcmp2 op_gtA ordRel (pv2 4) pint2 (nomark _)))))))) (psscons2 (psexpr2 (pmeth2 PySem.F.plainAttrs_list PySem.F.slot_list_append PySem.F.type_list_append mt_append appendRel (pv2 2) (pcons2 pnon2 pnil2))) pssnil2) (psscons2 (psif2 (PW.pt (por2 (ptcmp2 op_isN isRel (pv2 3) pnon2 (nomark _)) (por1 (ptcmp2 (op_eqA (hu64 hr)) eqRel (pv2 4) pint2 (nomark _))))) (psscons2 (psexpr2 (pmeth2 PySem.F.plainAttrs_list PySem.F.slot_list_append PySem.F.type_list_append mt_append appendRel (pv2 2) (pcons2 (pfn2 (takes_of rfl rfl rfl rfl) c__law_number hr (by decide) rfl (pcons2 (pv2 0) pnil2)) pnil2))) pssnil2) (psscons2 (psexpr2 (pmeth2 PySem.F.plainAttrs_list PySem.F.slot_list_append PySem.F.type_list_append mt_append appendRel (pv2 2) (pcons2 (pfn2 (takes_of rfl rfl rfl rfl) c__law_held hr (by decide) rfl (pcons2 (pop2 op_subC intRel (pop2 op_addA addRel (pv2 3) (pv2 4)) pint2) pnil2)) pnil2))) pssnil2)) pssnil2)) pssnil2))) (psscons2 (psasg2 (pv2 2) (pgtup2 rfl (pgcons2 (pgn2 5 sc__law_moved.nd) (pgcons2 (pgn2 6 sc__law_moved.nd) pgnil2)))) (psscons2 (psif2 (PW.pt (pand2 (ptcmp2 op_notN isNotRel (pv2 5) pnon2 (nomark _)) (pand2 (ptcmp2 op_notN isNotRel (pv2 6) pnon2 (nomark _)) (pand1 (ptcmp2 op_gtA ordRel (pv2 5) (pv2 6) (nomark _)))))) (psscons2 (psret2 (ptup2 (pcons2 (pv2 6) (pcons2 (pv2 5) pnil2)))) pssnil2) pssnil2) (psscons2 (psret2 (ptup2 (pcons2 (pv2 5) (pcons2 (pv2 6) pnil2)))) pssnil2)))))
def t__law_two (G : GC) : TS2 := (seq2 (asg2 (fn2 (sp__law_draw G) [] (cons2 (v2 0) (cons2 (c2 (.int 5)) nil2))) (gn2 1)) (seq2 (asg2 (fn2 (sp__law_span G) [] (cons2 (v2 0) nil2)) (gn2 2)) (seq2 (if2 (bt2 (op2 bEq (v2 1) (c2 (.int 0)))) (seq2 (ret2 (tup2 (cons2 (v2 2) (cons2 (fn2 (sp__law_span G) [] (cons2 (v2 0) nil2)) nil2)))) next2) next2) (seq2 (if2 (or2 (bt2 (op2 bLt (v2 1) (c2 (.int 4)))) (bt2 (op2 bIs (op2 bIx (v2 2) (c2 (.int 1))) (c2 .non)))) (seq2 (ret2 (tup2 (cons2 (v2 2) (cons2 (fn2 (sp__law_moved G) [] (cons2 (v2 0) (cons2 (v2 2) nil2))) nil2)))) next2) next2) (seq2 (asg2 (fn2 (sp__law_held G) [] (cons2 (op2 bAdd (op2 bIx (v2 2) (c2 (.int 1))) (fn2 (sp__law_draw G) [] (cons2 (v2 0) (cons2 (c2 (.int 2)) nil2)))) nil2)) (gn2 3)) (seq2 (ret2 (tup2 (cons2 (v2 2) (cons2 (tup2 (cons2 (v2 3) (cons2 (op2 bIx (lst2 (cons2 (c2 .non) (cons2 (fn2 (sp__law_held G) [] (cons2 (op2 bAdd (v2 3) (fn2 (sp__law_draw G) [] (cons2 (v2 0) (cons2 (c2 (.int 3)) nil2)))) nil2)) nil2))) (fn2 (sp__law_draw G) [] (cons2 (v2 0) (cons2 (c2 (.int 2)) nil2)))) nil2))) nil2)))) next2))))))
theorem d__law_two {P : Program} {w : World} {K : PySem.W.Frag} {mg : Str → Option Value} {base : Heap} {G : GC} {f : Addr} (T : Tx K mg G) (c__law_draw : Fn2 P w K mg base 1 "_law_draw" (sp__law_draw G) []) (c__law_held : Fn2 P w K mg base 1 "_law_held" (sp__law_held G) []) (c__law_moved : Fn2 P w K mg base 3 "_law_moved" (sp__law_moved G) []) (c__law_span : Fn2 P w K mg base 3 "_law_span" (sp__law_span G) []) : ∀ (cdv : Value) (A : Around) (outer : List Env) (s : Shared) (H : Hp) (E : XK), Room 3 (A.deeper (envOfC "_law_two" (defScope s__law_two) s.heap.objs.size f cdv)) → PSs2 (cxOf (L2.CX P w) P w K mg base N__law_two "_law_two" (defScope s__law_two) f cdv A outer s H E) (WD E) (defBody s__law_two) (t__law_two G) :=
  fun cdv A outer s H E hr => (psscons2 (psset2 1 sc__law_two.nd (pfn2 (takes_of rfl rfl rfl rfl) c__law_draw hr (by decide) rfl (pcons2 (pv2 0) (pcons2 pint2 pnil2)))) (psscons2 (psset2 2 sc__law_two.nd (pfn2 (takes_of rfl rfl rfl rfl) c__law_span hr (by decide) rfl (pcons2 (pv2 0) pnil2))) (psscons2 (psif2 (ptcmp2 (op_eqA (hu64 hr)) eqRel (pv2 1) pint2 (nomark _)) (psscons2 (psret2 (ptup2 (pcons2 (pv2 2) (pcons2 (pfn2 (takes_of rfl rfl rfl rfl) c__law_span hr (by decide) rfl (pcons2 (pv2 0) pnil2)) pnil2)))) pssnil2) pssnil2) (psscons2 (psif2 (PW.pt (por2 (ptcmp2 op_ltA ordRel (pv2 1) pint2 (nomark _)) (por1 (ptcmp2 op_isN isRel (pix2 ix_seq ixRel (pv2 2) pint2 (fun _ _ => rfl)) pnon2 (nomark _))))) (psscons2 (psret2 (ptup2 (pcons2 (pv2 2) (pcons2 (pfn2 (takes_of rfl rfl rfl rfl) c__law_moved hr (by decide) rfl (pcons2 (pv2 0) (pcons2 (pv2 2) pnil2))) pnil2)))) pssnil2) pssnil2) (psscons2 (psset2 3 sc__law_two.nd (pfn2 (takes_of rfl rfl rfl rfl) c__law_held hr (by decide) rfl (pcons2 (pop2 op_addA addRel (pix2 ix_seq ixRel (pv2 2) pint2 (fun _ _ => rfl)) (pfn2 (takes_of rfl rfl rfl rfl) c__law_draw hr (by decide) rfl (pcons2 (pv2 0) (pcons2 pint2 pnil2)))) pnil2))) (psscons2 (psret2 (ptup2 (pcons2 (pv2 2) (pcons2 (ptup2 (pcons2 (pv2 3) (pcons2 (pix2 ix_seq ixRel (plst2 (pcons2 pnon2 (pcons2 (pfn2 (takes_of rfl rfl rfl rfl) c__law_held hr (by decide) rfl (pcons2 (pop2 op_addA addRel (pv2 3) (pfn2 (takes_of rfl rfl rfl rfl) c__law_draw hr (by decide) rfl (pcons2 (pv2 0) (pcons2 pint2 pnil2)))) pnil2)) pnil2))) (pfn2 (takes_of rfl rfl rfl rfl) c__law_draw hr (by decide) rfl (pcons2 (pv2 0) (pcons2 pint2 pnil2))) (fun _ _ => rfl)) pnil2))) pnil2)))) pssnil2))))))
def t__law_points (G : GC) : TS2 := (seq2 (asg2 (lst2 (cons2 (c2 (.int 0)) (cons2 (op2 bPow (c2 (.int 10)) (c2 (.int 17))) (cons2 (op2 bSub (c2 (.int 0)) (op2 bPow (c2 (.int 10)) (c2 (.int 17)))) nil2)))) (gn2 1)) (seq2 (for2 (ilist2 (v2 0)) (gn2 2) (seq2 (for2 (itup2 (v2 2)) (gn2 3) (seq2 (if2 (bt2 (op2 bIsNot (v2 3) (c2 .non))) (seq2 (asg2 (op2 bAdd (v2 1) (lst2 (cons2 (op2 bSub (v2 3) (c2 (.int 1))) (cons2 (v2 3) (cons2 (op2 bAdd (v2 3) (c2 (.int 1))) nil2))))) (gn2 1)) next2) next2) next2)) next2)) (seq2 (ret2 (v2 1)) next2)))
theorem d__law_points {P : Program} {w : World} {K : PySem.W.Frag} {mg : Str → Option Value} {base : Heap} {G : GC} {f : Addr} (T : Tx K mg G)  : ∀ (cdv : Value) (A : Around) (outer : List Env) (s : Shared) (H : Hp) (E : XK), Room 0 (A.deeper (envOfC "_law_points" (defScope s__law_points) s.heap.objs.size f cdv)) → PSs2 (cxOf (L2.CX P w) P w K mg base N__law_points "_law_points" (defScope s__law_points) f cdv A outer s H E) (WD E) (defBody s__law_points) (t__law_points G) :=
  fun cdv A outer s H E hr => (psscons2 (psset2 1 sc__law_points.nd (plst2 (pcons2 pint2 (pcons2 (pop2 op_powW intRel pint2 pint2) (pcons2 (pop2 op_subC intRel pint2 (pop2 op_powW intRel pint2 pint2)) pnil2))))) (psscons2 (psfor2 (passes_of rfl) rfl (pilist2 (pv2 0)) (pgn2 2 sc__law_points.nd) (psscons2 (psfor2 (passes_of rfl) rfl (pitup2 (pv2 2)) (pgn2 3 sc__law_points.nd) (psscons2 (psif2 (ptcmp2 op_notN isNotRel (pv2 3) pnon2 (nomark _)) (psscons2 (psset2 1 sc__law_points.nd (pop2 op_addA addRel (pv2 1) (plst2 (pcons2 (pop2 op_subC intRel (pv2 3) pint2) (pcons2 (pv2 3) (pcons2 (pop2 op_addA addRel (pv2 3) pint2) pnil2)))))) pssnil2) pssnil2) pssnil2)) pssnil2)) (psscons2 (psret2 (pv2 1)) pssnil2)))
def t__law_met_right (G : GC) : TS2 := (seq2 (asg2 (fn2 (sp__law_points G) [] (cons2 (lst2 (cons2 (v2 1) (cons2 (v2 2) nil2))) nil2)) (gn2 3)) (seq2 (asg2 (lc2 (ilist2 (v2 3)) (gn2 4) (and2 (tr2 (fn2 (sp__law_in G) [] (cons2 (v2 1) (cons2 (v2 4) nil2)))) (tr2 (fn2 (sp__law_in G) [] (cons2 (v2 2) (cons2 (v2 4) nil2))))) (v2 4) [4]) (gn2 5)) (seq2 (if2 (bt2 (op2 bIs (v2 0) (c2 .non))) (seq2 (ret2 (op2 bEq (v2 5) (lst2 nil2))) next2) next2) (seq2 (if2 (or2 (not2 (tr2 (call2 bIsi (cons2 (v2 0) (cons2 (c2 (.ty "tuple")) nil2))))) (bt2 (op2 bNe (call2 bLen (cons2 (v2 0) nil2)) (c2 (.int 2))))) (seq2 (ret2 (c2 (.bl false))) next2) next2) (seq2 (if2 (bt2 (op2 bNe (lc2 (itup2 (v2 0)) (gn2 6) (and2 (bt2 (op2 bIsNot (v2 6) (c2 .non))) (not2 (tr2 (fn2 (sp__law_whole G) [] (cons2 (v2 6) nil2))))) (v2 6) [6]) (lst2 nil2))) (seq2 (ret2 (c2 (.bl false))) next2) next2) (seq2 (for2 (ilist2 (op2 bAdd (v2 3) (fn2 (sp__law_points G) [] (cons2 (lst2 (cons2 (v2 0) nil2)) nil2)))) (gn2 4) (seq2 (if2 (bt2 (op2 bNe (fn2 (sp__law_in G) [] (cons2 (v2 0) (cons2 (v2 4) nil2))) (andv2 (fn2 (sp__law_in G) [] (cons2 (v2 1) (cons2 (v2 4) nil2))) (fn2 (sp__law_in G) [] (cons2 (v2 2) (cons2 (v2 4) nil2)))))) (seq2 (ret2 (c2 (.bl false))) next2) next2) next2)) (seq2 (ret2 (op2 bNe (v2 5) (lst2 nil2))) next2)))))))
theorem d__law_met_right {P : Program} {w : World} {K : PySem.W.Frag} {mg : Str → Option Value} {base : Heap} {G : GC} {f : Addr} (T : Tx K mg G) (c__law_points : Fn2 P w K mg base 1 "_law_points" (sp__law_points G) []) (c__law_in : Fn2 P w K mg base 1 "_law_in" (sp__law_in G) []) (c__law_whole : Fn2 P w K mg base 1 "_law_whole" (sp__law_whole G) []) : ∀ (cdv : Value) (A : Around) (outer : List Env) (s : Shared) (H : Hp) (E : XK), Room 1 (A.deeper (envOfC "_law_met_right" (defScope s__law_met_right) s.heap.objs.size f cdv)) → PSs2 (cxOf (L2.CX P w) P w K mg base N__law_met_right "_law_met_right" (defScope s__law_met_right) f cdv A outer s H E) (WD E) (defBody s__law_met_right) (t__law_met_right G) :=
  fun cdv A outer s H E hr => (psscons2 (psset2 3 sc__law_met_right.nd (pfn2 (takes_of rfl rfl rfl rfl) c__law_points hr (by decide) rfl (pcons2 (plst2 (pcons2 (pv2 1) (pcons2 (pv2 2) pnil2))) pnil2))) (psscons2 (pssetlc2 5 rfl sc__law_met_right.nd (pilist2 (pv2 3)) (blkOk_by (own := [("k", 4)]) (N := N__law_met_right) (sc := defScope s__law_met_right) (by decide +kernel)) (fun _ _ _ _ _ => (pgn2 4 sc__law_met_right.nd)) (fun _ _ _ _ _ => (ptsone2 (PW.pt (pand2 (ptr2 (pfn2 takes0 c__law_in hr (by decide) rfl (pcons2 (pv2 1) (pcons2 (pv2 4) pnil2))) (fun _ => rfl)) (pand1 (ptr2 (pfn2 takes0 c__law_in hr (by decide) rfl (pcons2 (pv2 2) (pcons2 (pv2 4) pnil2))) (fun _ => rfl))))))) (fun _ _ _ _ _ => (pv2 4)) (by decide) (sw_true rfl rfl rfl (by decide +kernel))) (psscons2 (psif2 (ptcmp2 op_isN isRel (pv2 0) pnon2 (nomark _)) (psscons2 (psret2 (pcmp2 (op_eqA (hu64 hr)) eqRel (pv2 5) (plst2 pnil2) (nomark _))) pssnil2) pssnil2) (psscons2 (psif2 (PW.pt (por2 (pnot2 (ptr2 (pcallB2 call_isiA isiRel rfl T.b_isinstance bb_isinstance (pcons2 (pv2 0) (pcons2 (pty2 rfl T.b_tuple bb_tuple) pnil2))) (fun _ => rfl))) (por1 (ptcmp2 (op_neA (hu64 hr)) neRel (pcallB2 call_lenA lenRel rfl T.b_len bb_len (pcons2 (pv2 0) pnil2)) pint2 (nomark _))))) (psscons2 (psret2 pbl2) pssnil2) pssnil2) (psscons2 (psif2 (ptcmp2 (op_neA (hu64 hr)) neRel (plc2 rfl sc__law_met_right.nd (pitup2 (pv2 0)) (blkOk_by (own := [("end", 6)]) (N := N__law_met_right) (sc := defScope s__law_met_right) (by decide +kernel)) (fun _ _ _ _ _ => (pgn2 6 sc__law_met_right.nd)) (fun _ _ _ _ _ => (ptsone2 (PW.pt (pand2 (ptcmp2 op_notN isNotRel (pv2 6) pnon2 (nomark _)) (pand1 (pnot2 (ptr2 (pfn2 takes0 c__law_whole hr (by decide) rfl (pcons2 (pv2 6) pnil2)) (fun _ => rfl)))))))) (fun _ _ _ _ _ => (pv2 6)) (by decide)) (plst2 pnil2) (nomark _)) (psscons2 (psret2 pbl2) pssnil2) pssnil2) (psscons2 (psfor2 (passes_of rfl) rfl (pilist2 (pop2 op_addA addRel (pv2 3) (pfn2 (takes_of rfl rfl rfl rfl) c__law_points hr (by decide) rfl (pcons2 (plst2 (pcons2 (pv2 0) pnil2)) pnil2)))) (pgn2 4 sc__law_met_right.nd) (psscons2 (psif2 (ptcmp2 (op_neA (hu64 hr)) neRel (pfn2 (takes_of rfl rfl rfl rfl) c__law_in hr (by decide) rfl (pcons2 (pv2 0) (pcons2 (pv2 4) pnil2))) (pandv2 (pfn2 (takes_of rfl rfl rfl rfl) c__law_in hr (by decide) rfl (pcons2 (pv2 1) (pcons2 (pv2 4) pnil2))) (pone2 (pfn2 (takes_of rfl rfl rfl rfl) c__law_in hr (by decide) rfl (pcons2 (pv2 2) (pcons2 (pv2 4) pnil2))))) (nomark _)) (psscons2 (psret2 pbl2) pssnil2) pssnil2) pssnil2)) (psscons2 (psret2 (pcmp2 (op_neA (hu64 hr)) neRel (pv2 5) (plst2 pnil2) (nomark _))) pssnil2)))))))
def t__law_covers_right (G : GC) : TS2 := (seq2 (asg2 (fn2 (sp_span_covers G) [] (cons2 (v2 0) (cons2 (v2 1) nil2))) (gn2 2)) (seq2 (asg2 (lc2 (ilist2 (fn2 (sp__law_points G) [] (cons2 (lst2 (cons2 (v2 0) (cons2 (v2 1) nil2))) nil2))) (gn2 4) (and2 (tr2 (fn2 (sp__law_in G) [] (cons2 (v2 1) (cons2 (v2 4) nil2)))) (not2 (tr2 (fn2 (sp__law_in G) [] (cons2 (v2 0) (cons2 (v2 4) nil2)))))) (v2 4) [4]) (gn2 3)) (seq2 (ret2 (andv2 (call2 bIsi (cons2 (v2 2) (cons2 (c2 (.ty "bool")) nil2))) (op2 bEq (v2 2) (op2 bEq (v2 3) (lst2 nil2))))) next2)))
theorem d__law_covers_right {P : Program} {w : World} {K : PySem.W.Frag} {mg : Str → Option Value} {base : Heap} {G : GC} {f : Addr} (T : Tx K mg G) (c__law_points : Fn2 P w K mg base 1 "_law_points" (sp__law_points G) []) (c__law_in : Fn2 P w K mg base 1 "_law_in" (sp__law_in G) []) (c_span_covers : Fn2 P w K mg base 4 "span_covers" (sp_span_covers G) []) : ∀ (cdv : Value) (A : Around) (outer : List Env) (s : Shared) (H : Hp) (E : XK), Room 4 (A.deeper (envOfC "_law_covers_right" (defScope s__law_covers_right) s.heap.objs.size f cdv)) → PSs2 (cxOf (L2.CX P w) P w K mg base N__law_covers_right "_law_covers_right" (defScope s__law_covers_right) f cdv A outer s H E) (WD E) (defBody s__law_covers_right) (t__law_covers_right G) :=
  fun cdv A outer s H E hr => (psscons2 (psset2 2 sc__law_covers_right.nd (pfn2 (takes_of rfl rfl rfl rfl) c_span_covers hr (by decide) rfl (pcons2 (pv2 0) (pcons2 (pv2 1) pnil2)))) (psscons2 (pssetlc2 3 rfl sc__law_covers_right.nd (pilist2 (pfn2 (takes_of rfl rfl rfl rfl) c__law_points hr (by decide) rfl (pcons2 (plst2 (pcons2 (pv2 0) (pcons2 (pv2 1) pnil2))) pnil2))) (blkOk_by (own := [("k", 4)]) (N := N__law_covers_right) (sc := defScope s__law_covers_right) (by decide +kernel)) (fun _ _ _ _ _ => (pgn2 4 sc__law_covers_right.nd)) (fun _ _ _ _ _ => (ptsone2 (PW.pt (pand2 (ptr2 (pfn2 takes0 c__law_in hr (by decide) rfl (pcons2 (pv2 1) (pcons2 (pv2 4) pnil2))) (fun _ => rfl)) (pand1 (pnot2 (ptr2 (pfn2 takes0 c__law_in hr (by decide) rfl (pcons2 (pv2 0) (pcons2 (pv2 4) pnil2))) (fun _ => rfl)))))))) (fun _ _ _ _ _ => (pv2 4)) (by decide) (sw_true rfl rfl rfl (by decide +kernel))) (psscons2 (psret2 (pandv2 (pcallB2 call_isiA isiRel rfl T.b_isinstance bb_isinstance (pcons2 (pv2 2) (pcons2 (pty2 rfl T.b_bool bb_bool) pnil2))) (pone2 (pcmp2 (op_eqA (hu64 hr)) eqRel (pv2 2) (pcmp2 (op_eqA (hu64 hr)) eqRel (pv2 3) (plst2 pnil2) (nomark _)) (nomark _))))) pssnil2)))
def t_law (G : GC) : TS2 := (seq2 (asg2 (fn2 (sp__law_bag G) [] (cons2 (v2 0) nil2)) (gn2 1)) (seq2 (for2 (irng12 (cons2 (c2 (.int 8)) nil2)) (gn2 2) (seq2 (asg2 (fn2 (sp__law_two G) [] (cons2 (v2 1) nil2)) (gtup2 2 (gcons2 (gn2 3) (gcons2 (gn2 4) gnil2)))) (seq2 (for2 (ilist2 (lst2 (cons2 (tup2 (cons2 (v2 3) (cons2 (v2 4) nil2))) (cons2 (tup2 (cons2 (v2 4) (cons2 (v2 3) nil2))) (cons2 (tup2 (cons2 (v2 3) (cons2 (v2 3) nil2))) nil2))))) (gtup2 2 (gcons2 (gn2 5) (gcons2 (gn2 6) gnil2))) (seq2 (if2 (or2 (not2 (tr2 (fn2 (sp__law_covers_right G) [] (cons2 (v2 5) (cons2 (v2 6) nil2))))) (not2 (tr2 (fn2 (sp__law_met_right G) [] (cons2 (fn2 (sp_span_met G) [] (cons2 (v2 5) (cons2 (v2 6) nil2))) (cons2 (v2 5) (cons2 (v2 6) nil2))))))) (seq2 (ret2 (c2 (.bl false))) next2) next2) next2)) (seq2 (if2 (or2 (bt2 (op2 bNe (fn2 (sp_span_met G) [] (cons2 (v2 3) (cons2 (v2 4) nil2))) (fn2 (sp_span_met G) [] (cons2 (v2 4) (cons2 (v2 3) nil2))))) (bt2 (op2 bNe (fn2 (sp_span_met G) [] (cons2 (v2 4) (cons2 (v2 4) nil2))) (v2 4)))) (seq2 (ret2 (c2 (.bl false))) next2) next2) (seq2 (if2 (not2 (tr2 (fn2 (sp_span_covers G) [] (cons2 (v2 4) (cons2 (v2 4) nil2))))) (seq2 (ret2 (c2 (.bl false))) next2) next2) next2))))) (seq2 (ret2 (c2 (.bl true))) next2)))
theorem d_law {P : Program} {w : World} {K : PySem.W.Frag} {mg : Str → Option Value} {base : Heap} {G : GC} {f : Addr} (T : Tx K mg G) (c_span_covers : Fn2 P w K mg base 4 "span_covers" (sp_span_covers G) []) (c_span_met : Fn2 P w K mg base 4 "span_met" (sp_span_met G) []) (c__law_covers_right : Fn2 P w K mg base 5 "_law_covers_right" (sp__law_covers_right G) []) (c__law_met_right : Fn2 P w K mg base 2 "_law_met_right" (sp__law_met_right G) []) (c__law_two : Fn2 P w K mg base 4 "_law_two" (sp__law_two G) []) (c__law_bag : Fn2 P w K mg base 1 "_law_bag" (sp__law_bag G) []) : ∀ (cdv : Value) (A : Around) (outer : List Env) (s : Shared) (H : Hp) (E : XK), Room 5 (A.deeper (envOfC "law" (defScope s_law) s.heap.objs.size f cdv)) → PSs2 (cxOf (L2.CX P w) P w K mg base N_law "law" (defScope s_law) f cdv A outer s H E) (WD E) (defBody s_law) (t_law G) :=
  fun cdv A outer s H E hr => (psscons2 (psset2 1 sc_law.nd (pfn2 (takes_of rfl rfl rfl rfl) c__law_bag hr (by decide) rfl (pcons2 (pv2 0) pnil2))) (psscons2 (psfor2 (passes_of rfl) rfl (pirng12 rfl T.b_range (pcons2 pint2 pnil2)) (pgn2 2 sc_law.nd) (psscons2 (psasg2 (pfn2 (takes_of rfl rfl rfl rfl) c__law_two hr (by decide) rfl (pcons2 (pv2 1) pnil2)) (pgtup2 rfl (pgcons2 (pgn2 3 sc_law.nd) (pgcons2 (pgn2 4 sc_law.nd) pgnil2)))) (psscons2 (psfor2 (passes_of rfl) rfl (pilist2 (plst2 (pcons2 (ptup2 (pcons2 (pv2 3) (pcons2 (pv2 4) pnil2))) (pcons2 (ptup2 (pcons2 (pv2 4) (pcons2 (pv2 3) pnil2))) (pcons2 (ptup2 (pcons2 (pv2 3) (pcons2 (pv2 3) pnil2))) pnil2))))) (pgtup2 rfl (pgcons2 (pgn2 5 sc_law.nd) (pgcons2 (pgn2 6 sc_law.nd) pgnil2))) (psscons2 (psif2 (PW.pt (por2 (pnot2 (ptr2 (pfn2 (takes_of rfl rfl rfl rfl) c__law_covers_right hr (by decide) rfl (pcons2 (pv2 5) (pcons2 (pv2 6) pnil2))) (fun _ => rfl))) (por1 (pnot2 (ptr2 (pfn2 (takes_of rfl rfl rfl rfl) c__law_met_right hr (by decide) rfl (pcons2 (pfn2 (takes_of rfl rfl rfl rfl) c_span_met hr (by decide) rfl (pcons2 (pv2 5) (pcons2 (pv2 6) pnil2))) (pcons2 (pv2 5) (pcons2 (pv2 6) pnil2)))) (fun _ => rfl)))))) (psscons2 (psret2 pbl2) pssnil2) pssnil2) pssnil2)) (psscons2 (psif2 (PW.pt (por2 (ptcmp2 (op_neA (hu64 hr)) neRel (pfn2 (takes_of rfl rfl rfl rfl) c_span_met hr (by decide) rfl (pcons2 (pv2 3) (pcons2 (pv2 4) pnil2))) (pfn2 (takes_of rfl rfl rfl rfl) c_span_met hr (by decide) rfl (pcons2 (pv2 4) (pcons2 (pv2 3) pnil2))) (nomark _)) (por1 (ptcmp2 (op_neA (hu64 hr)) neRel (pfn2 (takes_of rfl rfl rfl rfl) c_span_met hr (by decide) rfl (pcons2 (pv2 4) (pcons2 (pv2 4) pnil2))) (pv2 4) (nomark _))))) (psscons2 (psret2 pbl2) pssnil2) pssnil2) (psscons2 (psif2 (pnot2 (ptr2 (pfn2 (takes_of rfl rfl rfl rfl) c_span_covers hr (by decide) rfl (pcons2 (pv2 4) (pcons2 (pv2 4) pnil2))) (fun _ => rfl))) (psscons2 (psret2 pbl2) pssnil2) pssnil2) pssnil2))))) (psscons2 (psret2 pbl2) pssnil2)))
end K03


namespace K03
open PySem PySem.Spec PyProof.Rows L2 N2 Bg Sn
/-! one step of a reading -/
local macro_rules | `(tactic| walk_at "lk") => `(tactic| first
  | assumption
  | exact updM_same
  | exact updM_lk (by walk_at "lk") (by assumption)
  | exact (updM_ne (by first | assumption | exact Ne.symm (by assumption))).trans (by walk_at "lk"))
local macro_rules | `(tactic| walk_at "n") => `(tactic| first
  | ((with_reducible apply w_v); focus exact rfl)
  | with_reducible refine w_c ?_
  | with_reducible refine w_op ?_
  | with_reducible refine w_cons ?_
  | with_reducible refine w_nil ?_
  | with_reducible refine w_asg ?_
  | with_reducible refine w_gn ?_
  | with_reducible refine w_bt ?_
  | with_reducible refine w_kB ?_
  | with_reducible refine w_if ?_
  | with_reducible refine iteT ?_
  | with_reducible refine iteF ?_
  | with_reducible refine w_call ?_
  | with_reducible refine w_fn ?_
  | with_reducible refine w_ret ?_
  | with_reducible refine w_retn ?_
  | with_reducible refine w_next ?_
  | with_reducible refine w_drop ?_
  | with_reducible refine w_tr ?_
  | with_reducible refine w_kTrB ?_
  | with_reducible refine w_kTrN ?_
  | with_reducible refine w_kTrI ?_
  | with_reducible refine w_and ?_
  | with_reducible refine w_or ?_
  | with_reducible refine w_not ?_
  | with_reducible refine w_andv ?_
  | with_reducible refine w_orv ?_
  | with_reducible refine w_notv ?_
  | with_reducible refine w_kAndT ?_
  | with_reducible refine w_kAndF ?_
  | with_reducible refine w_kOrT ?_
  | with_reducible refine w_kOrF ?_
  | with_reducible refine w_kNotB ?_
  | with_reducible refine w_ife ?_
  | with_reducible refine w_tup ?_
  | with_reducible refine w_lst ?_
  | with_reducible refine w_addI ?_
  | with_reducible refine w_subI ?_
  | with_reducible refine w_ordI ?_
  | with_reducible refine w_eqI ?_
  | with_reducible refine w_neI ?_
  | with_reducible refine w_eqB ?_
  | with_reducible refine w_neB ?_
  | with_reducible refine w_is ?_
  | with_reducible refine w_isNot ?_
  | with_reducible refine w_un ?_
  | with_reducible refine w_neg ?_
  | with_reducible refine w_sub ?_
  | with_reducible refine w_par ?_
  | with_reducible refine w_kPar ?_
  | with_reducible refine w_par3 ?_
  | with_reducible refine w_kPar3 ?_
  | with_reducible refine w_raise ?_
  | with_reducible refine w_sl ?_
  | with_reducible refine w_onone ?_
  | with_reducible refine w_osome ?_
  | with_reducible refine w_kO ?_
  | with_reducible refine w_rev ?_
  | with_reducible refine w_yes ?_
  | with_reducible refine w_lens ?_
  | with_reducible refine w_max ?_
  | with_reducible refine w_min ?_
  | with_reducible refine w_intI ?_
  | with_reducible refine w_intB ?_
  | with_reducible refine w_meth ?_
  | with_reducible refine w_meth0 ?_
  | with_reducible refine w_for ?_
  | with_reducible refine w_lc ?_
  | with_reducible refine w_il ?_
  | with_reducible refine w_it ?_
  | with_reducible refine w_ir1 ?_
  | with_reducible refine w_ir2 ?_
  | with_reducible refine w_ie ?_
  | with_reducible refine w_iz ?_
  | with_reducible refine w_lenT ?_
  | with_reducible refine w_lenR ?_
  | with_reducible refine w_kIt ?_
  | with_reducible refine w_kIlR ?_
  | with_reducible refine w_gcons ?_
  | with_reducible refine w_gnil ?_
  | ((with_reducible apply w_gtup); focus exact rfl)
  | ((with_reducible apply w_lenL); focus walk_at "lk")
  | ((with_reducible apply w_kTrL); focus walk_at "lk")
  | ((with_reducible apply iteTb); focus exact rfl)
  | ((with_reducible apply iteFb); focus exact rfl)
  | ((with_reducible apply w_kAndTb); focus exact rfl)
  | ((with_reducible apply w_kAndFb); focus exact rfl)
  | ((with_reducible apply w_kOrTb); focus exact rfl)
  | ((with_reducible apply w_kOrFb); focus exact rfl)
  | ((with_reducible apply w_isiC); (focus exact rfl); (focus exact rfl); (focus decide))
  | ((with_reducible apply w_ixT); focus exact rfl)
  | ((with_reducible apply w_ixL); (focus walk_at "lk"); (focus exact rfl))
  | with_reducible refine w_p10_4 ?_
  | with_reducible refine w_p10_5 ?_
  | with_reducible refine w_p10_10 ?_
  | with_reducible refine w_p10_13 ?_
  | with_reducible refine w_p10_14 ?_
  | with_reducible refine w_p10_15 ?_
  | with_reducible refine w_p10_17 ?_
  | with_reducible refine w_p10_18 ?_
  | with_reducible refine w_p10_20 ?_
  | with_reducible refine w_p10_38 ?_
  | with_reducible refine w_p10_40 ?_
  | with_reducible refine w_p10_41 ?_
  | with_reducible refine w_p10_60 ?_
  | ((with_reducible apply w_slL); focus walk_at "lk")
  | ((with_reducible apply w_listL); focus walk_at "lk")
  | ((with_reducible apply w_kIl); focus walk_at "lk")
  | ((with_reducible apply w_kIe); focus walk_at "lk")
  | ((with_reducible apply w_kIz); (focus walk_at "lk"); (focus walk_at "lk"))
  | ((with_reducible apply w_kRev); focus walk_at "lk"))
local macro_rules | `(tactic| walk_at "h") => `(tactic| repeat walk_at "n")
local macro_rules | `(tactic| walk_at "s") => `(tactic| with_reducible refine w_seq ?_)
local macro_rules | `(tactic| walk_at "g") => `(tactic| repeat first | walk_at "n" | walk_at "s")
local macro_rules | `(tactic| walk_at "i") => `(tactic| (walk_at "s"; walk_at "h"))
local macro_rules | `(tactic| walk_at "bb") => `(tactic| first | rfl | assumption | (simp <;> omega) | omega)
local macro_rules | `(tactic| walk_at "T") => `(tactic| refine iteTb (by walk_at "bb") ?_)
local macro_rules | `(tactic| walk_at "F") => `(tactic| refine iteFb (by walk_at "bb") ?_)
theorem v_is_whole (G : GC) : ∀ ds M Q E, sp_is_whole G ds M Q E → t_is_whole G (endsOf Q E) (start2 N_is_whole ds) M := by
  rintro ds M Q E ⟨d, t, rfl, ht, h⟩
  unfold t_is_whole
  walk_at "g"
  refine w_isiT ht ?_
  refine w_kAndB (fun e => ?_) (fun e => ?_)
  · walk_at "g"
    refine w_isiT ht ?_
    walk_at "g"
    by_cases h1 : t = "int"
    · subst h1; exact ⟨_, SubM.refl _, h⟩
    · by_cases h2 : t = "bool"
      · subst h2; exact ⟨_, SubM.refl _, h⟩
      · simp [h1, h2] at e
  · have e2 : (t == "int") = false := by
      by_cases h1 : t = "int"
      · subst h1; simp at e
      · simp [h1]
    rw [e2] at h
    exact ⟨_, SubM.refl _, h⟩
theorem v__law_whole (G : GC) : ∀ ds M Q E, sp__law_whole G ds M Q E → t__law_whole G (endsOf Q E) (start2 N__law_whole ds) M := v_is_whole G
theorem isNon_eD (a : En) : isNonD (eD a) = a.isNone := by cases a <;> rfl
theorem ty_eD (M : MP) (a : En) : typeD M (eD a) = some (if a.isNone then "NoneType" else "int") := by cases a <;> rfl
theorem v_is_span (G : GC) : ∀ ds M Q E, sp_is_span G ds M Q E → t_is_span G (endsOf Q E) (start2 N_is_span ds) M := by
  rintro ds M Q E ⟨lo, hi, rfl, h⟩
  unfold t_is_span spD
  walk_at "g"
  refine ⟨fun i ρ M' => M' = M ∧ ∃ o, ρ = [some (.tup [eD lo, eD hi]), o, none, none], ⟨rfl, _, rfl⟩, ?_, ?_, ?_⟩
  · rintro i ρ M' _ ⟨rfl, _⟩
    trivial
  · rintro i d ρ M' hd ⟨rfl, o, rfl⟩
    obtain ⟨a, rfl⟩ : ∃ a, d = eD a := by
      have := List.mem_of_getElem? hd
      simp at this
      rcases this with e | e
      · exact ⟨lo, e⟩
      · exact ⟨hi, e⟩
    walk_at "g"
    rw [isNon_eD]
    cases a with
    | none => walk_at "g"; exact ⟨rfl, _, rfl⟩
    | some a =>
      walk_at "g"
      refine ⟨_, _, rfl, ty_eD _ _, ?_⟩
      walk_at "g"
      exact ⟨rfl, _, rfl⟩
  · rintro ρ M' ⟨rfl, o, rfl⟩
    walk_at "g"
    rw [isNon_eD]
    cases lo with
    | none => walk_at "g"; exact ⟨_, SubM.refl _, h⟩
    | some a =>
      walk_at "g"
      rw [isNon_eD]
      cases hi with
      | none => walk_at "g"; exact ⟨_, SubM.refl _, h⟩
      | some b => walk_at "g"; exact ⟨_, SubM.refl _, h⟩
theorem v_looked (G : GC) : ∀ ds M Q E, sp_looked G ds M Q E → t_looked G (endsOf Q E) (start2 N_looked ds) M := by
  rintro ds M Q E ⟨lo, hi, rfl, ho, h⟩
  unfold t_looked
  walk_at "g"
  refine ⟨lo, hi, rfl, ?_⟩
  rw [ho]
  walk_at "g"
  exact ⟨_, SubM.refl _, h⟩
theorem v_span_covers (G : GC) : ∀ ds M Q E, sp_span_covers G ds M Q E → t_span_covers G (endsOf Q E) (start2 N_span_covers ds) M := by
  rintro ds M Q E ⟨lo, hi, le, mo, rfl, h1, h2, h⟩
  unfold t_span_covers
  walk_at "g"
  refine ⟨lo, hi, rfl, h1, ?_⟩
  unfold spD
  walk_at "g"
  refine ⟨le, mo, rfl, h2, ?_⟩
  unfold spD
  walk_at "g"
  have fin : ∀ ρ, ρ = [some (.tup [eD lo, eD hi]), some (.tup [eD le, eD mo]), some (eD lo), some (eD hi), some (eD le), some (eD mo)] → lowB lo le = true → (seq2 (ret2 (orv2 (op2 bIs (v2 3) (c2 .non)) (andv2 (op2 bIsNot (v2 5) (c2 .non)) (op2 bLe (v2 5) (v2 3))))) next2) (endsOf Q E) ρ M := by
    rintro ρ rfl hl
    unfold coversB at h
    rw [hl] at h
    walk_at "g"
    rw [isNon_eD]
    cases hi with
    | none => walk_at "g"; exact ⟨_, SubM.refl _, h⟩
    | some b =>
      walk_at "g"
      rw [isNon_eD]
      cases mo with
      | none => walk_at "g"; exact ⟨_, SubM.refl _, h⟩
      | some m => walk_at "g"; exact ⟨_, SubM.refl _, h⟩
  have out : lowB lo le = false → ∃ M', SubM M' M ∧ Q (.bl false) M' := fun hl => by
    unfold coversB at h
    rw [hl] at h
    exact ⟨_, SubM.refl _, h⟩
  rw [isNon_eD]
  cases lo with
  | none => walk_at "n"; walk_at "n"; exact fin _ rfl rfl
  | some a =>
    walk_at "g"
    rw [isNon_eD]
    cases le with
    | none => walk_at "g"; exact out rfl
    | some e =>
      walk_at "h"
      by_cases c : e < a
      · walk_at "T"
        walk_at "g"
        exact out (by simp [lowB]; omega)
      · walk_at "F"
        exact fin _ rfl (by simp [lowB]; omega)
theorem v_greater_low (G : GC) : ∀ ds M Q E, sp_greater_low G ds M Q E → t_greater_low G (endsOf Q E) (start2 N_greater_low ds) M := by
  rintro ds M Q E ⟨a, b, rfl, h⟩
  unfold t_greater_low
  walk_at "g"
  rw [isNon_eD]
  cases a with
  | none => walk_at "g"; exact ⟨_, SubM.refl _, h⟩
  | some a =>
    walk_at "g"
    rw [isNon_eD]
    cases b with
    | none => walk_at "g"; exact ⟨_, SubM.refl _, h⟩
    | some b => walk_at "g"; exact ⟨_, SubM.refl _, h⟩
theorem v_lesser_high (G : GC) : ∀ ds M Q E, sp_lesser_high G ds M Q E → t_lesser_high G (endsOf Q E) (start2 N_lesser_high ds) M := by
  rintro ds M Q E ⟨a, b, rfl, h⟩
  unfold t_lesser_high
  walk_at "g"
  rw [isNon_eD]
  cases a with
  | none => walk_at "g"; exact ⟨_, SubM.refl _, h⟩
  | some a =>
    walk_at "g"
    rw [isNon_eD]
    cases b with
    | none => walk_at "g"; exact ⟨_, SubM.refl _, h⟩
    | some b => walk_at "g"; exact ⟨_, SubM.refl _, h⟩
theorem v_span_met (G : GC) : ∀ ds M Q E, sp_span_met G ds M Q E → t_span_met G (endsOf Q E) (start2 N_span_met ds) M := by
  rintro ds M Q E ⟨lo, hi, le, mo, rfl, h1, h2, h⟩
  unfold t_span_met
  walk_at "g"
  refine ⟨lo, hi, rfl, h1, ?_⟩
  unfold spD
  walk_at "g"
  refine ⟨le, mo, rfl, h2, ?_⟩
  unfold spD
  walk_at "g"
  refine ⟨lo, le, rfl, ?_⟩
  walk_at "g"
  refine ⟨hi, mo, rfl, ?_⟩
  walk_at "g"
  refine ⟨szl (by simp), ?_⟩
  walk_at "g"
  refine ⟨glow lo le, lhigh hi mo, rfl, ?_⟩
  walk_at "g"
  cases c : okB (glow lo le) (lhigh hi mo)
  · walk_at "g"
    unfold metD at h; rw [c] at h
    exact ⟨_, SubM.refl _, h⟩
  · walk_at "g"
    unfold metD at h; rw [c] at h
    exact ⟨_, SubM.refl _, h⟩
theorem v__law_bag (G : GC) : ∀ ds M Q E, sp__law_bag G ds M Q E → t__law_bag G (endsOf Q E) (start2 N__law_bag ds) M := by
  rintro ds M Q E ⟨ns, rfl, hn, h⟩
  unfold t__law_bag
  walk_at "g"
  refine w_slR fun p hp => ?_
  rw [cut63 hn]
  walk_at "g"
  apply w_lcp (optI fun c => if 1000000000000000000 ≤ c then some (c - 1000000000000000000) else none) 
  · exact szl (by simp; omega)
  · exact updM_same
  · intro d hd QR hq
    obtain ⟨c, hc, rfl⟩ := List.mem_map.mp hd
    walk_at "g"
    by_cases k : 1000000000000000000 ≤ c
    · walk_at "T"
      walk_at "g"
      simp only [optI, k, if_true, Option.map_some] at hq
      exact ⟨rfl, hq⟩
    · walk_at "F"
      simp only [optI, k, if_false, Option.map_none] at hq
      exact ⟨rfl, hq⟩
  intro g hg
  rw [fm_ints]
  walk_at "g"
  refine w_slR fun p2 hp2 => ?_
  rw [cut63 hn]
  walk_at "g"
  apply w_lcp (optI fun c => if c < 1000000000000000000 then some (c % 1000000000000000000) else none) 
  · exact szl (by simp; omega)
  · exact updM_same
  · intro d hd QR hq
    obtain ⟨c, hc, rfl⟩ := List.mem_map.mp hd
    walk_at "g"
    by_cases k : c < 1000000000000000000
    · walk_at "T"
      walk_at "g"
      refine w_modI (by decide) ?_
      simp only [optI, k, if_true, Option.map_some] at hq
      exact ⟨rfl, hq⟩
    · walk_at "F"
      simp only [optI, k, if_false, Option.map_none] at hq
      exact ⟨rfl, hq⟩
  intro l hl
  rw [fm_ints]
  generalize hgs : ns.filterMap (fun c => if 1000000000000000000 ≤ c then some (c - 1000000000000000000) else none) = gs at *
  generalize hls : ns.filterMap (fun c => if c < 1000000000000000000 then some (c % 1000000000000000000) else none) = ls at *
  have g0 : ∀ x ∈ gs, 0 ≤ x := by
    intro x hx
    rw [← hgs, List.mem_filterMap] at hx
    obtain ⟨c, _, e⟩ := hx
    split at e <;> cases e
    omega
  have l0 : ∀ x ∈ ls, 0 ≤ x ∧ x < 2 ^ 60 := by
    intro x hx
    rw [← hls, List.mem_filterMap] at hx
    obtain ⟨c, _, e⟩ := hx
    split at e <;> cases e
    omega
  have g1 : gs.length ≤ 63 := by rw [← hgs]; exact Nat.le_trans (List.length_filterMap_le _ _) hn
  have l1 : ls.length ≤ 63 := by rw [← hls]; exact Nat.le_trans (List.length_filterMap_le _ _) hn
  have sub : SubM M (updM (updM (updM (updM M p (.lst (ns.map D.int))) g (.lst (gs.map D.int))) p2 (.lst (ns.map D.int))) l (.lst (ls.map D.int))) := by
    have s1 := (SubM.refl M).upd (o := .lst (ns.map D.int)) hp
    have s2 := s1.upd (o := .lst (gs.map D.int)) (SubM.none s1 hg)
    have s3 := s2.upd (o := .lst (ns.map D.int)) (SubM.none s2 hp2)
    exact s3.upd (SubM.none s3 hl)
  have ng : M g = none := SubM.none ((SubM.refl M).upd hp) hg
  have nl : M l = none := by
    have s1 := (SubM.refl M).upd (o := .lst (ns.map D.int)) hp
    have s2 := s1.upd (o := .lst (gs.map D.int)) ng
    have s3 := s2.upd (o := .lst (ns.map D.int)) (SubM.none s2 hp2)
    exact SubM.none s3 hl
  have eg : (updM (updM (updM (updM M p (.lst (ns.map D.int))) g (.lst (gs.map D.int))) p2 (.lst (ns.map D.int))) l (.lst (ls.map D.int))) g = some (iL gs) := by walk_at "lk"
  have el : (updM (updM (updM (updM M p (.lst (ns.map D.int))) g (.lst (gs.map D.int))) p2 (.lst (ns.map D.int))) l (.lst (ls.map D.int))) l = some (iL ls) := by walk_at "lk"
  revert sub eg el
  generalize (updM (updM (updM (updM M p (.lst (ns.map D.int))) g (.lst (gs.map D.int))) p2 (.lst (ns.map D.int))) l (.lst (ls.map D.int))) = M1
  intro sub eg el
  walk_at "g"
  refine ⟨fun i ρ M' => M' = M1 ∧ ∃ o, ∃ s : Int, 0 ≤ s ∧ s < 2 ^ 90 ∧ ρ = [some (.scr (ns.map D.int)), o, some (.ref g), some (.ref l), some (.int s)], ⟨rfl, _, 5, by decide, by decide, rfl⟩, ?_, ?_, ?_⟩
  · rintro i ρ M' _ ⟨rfl, _⟩
    exact el
  · rintro i d ρ M' hd ⟨rfl, o, s, h0, h1, rfl⟩
    obtain ⟨c, hc, rfl⟩ := List.mem_map.mp (List.mem_of_getElem? hd)
    have := l0 c hc
    walk_at "g"
    refine w_pow (cpow 92 (by decide) (nat_lt (by omega) (by omega)) (by decide)) ?_
    walk_at "g"
    refine w_modI (by decide) ?_
    walk_at "g"
    exact ⟨rfl, _, _, Int.emod_nonneg _ (by decide), Int.lt_trans (Int.emod_lt_of_pos _ (by decide)) (by decide), rfl⟩
  · rintro ρ M' ⟨rfl, o, s, h0, h1, rfl⟩
    walk_at "g"
    refine ⟨szl (by simp), fun q hq => ?_⟩
    walk_at "g"
    refine w_addL (updM_lk el hq) updM_same (szl (by simp; omega)) fun q2 hq2 => ?_
    walk_at "g"
    refine ⟨szl (by simp), fun b hb => ?_⟩
    have s4 := sub.upd (o := .lst [.int 0]) (SubM.none sub hq)
    have s5 := s4.upd (o := .lst (ls.map D.int ++ [.int 0])) (SubM.none s4 hq2)
    have nb := SubM.none s5 hb
    have nq2 := SubM.none s4 hq2
    have gq2 : g ≠ q2 := fun z => by rw [← z, updM_lk eg hq] at hq2; cases hq2
    refine ⟨_, SubM.refl _, h b g q2 _ nb ng nq2 (s5.upd nb) ?_⟩
    refine ⟨gs, ls ++ [0], 0, s, updM_same, ?_, ?_, ?_, ?_, gq2, g0, g1, ?_, ?_, ?_, ?_, ?_, h0, h1⟩
    · walk_at "lk"
    · rw [updM_lk updM_same hb]; simp
    · exact fun z => by rw [z, updM_lk (updM_lk eg hq) hq2] at hb; cases hb
    · exact fun z => by rw [z, updM_same] at hb; cases hb
    · intro x hx
      rw [List.mem_append] at hx
      rcases hx with hx | hx
      · exact l0 x hx
      · simp at hx; subst hx; decide
    · simp
    · simp; omega
    · decide
    · decide
theorem v__law_draw (G : GC) : ∀ ds M Q E, sp__law_draw G ds M Q E → t__law_draw G (endsOf Q E) (start2 N__law_draw ds) M := by
  rintro ds M Q E ⟨b, g, l, n, many, rfl, ⟨gs, ls, c, s, hb, hg, hl, hbg, hbl, hgl, g0, g1, l0, l1, l2, c0, c1, s0, s1⟩, hn, m0, m1, h⟩
  unfold t__law_draw
  walk_at "s"
  refine w_while (fun m ρ M' => ∃ gs : List Int, gs.length = m ∧ ρ = [some (.ref b), some (.int many), none, none] ∧ (∀ x ∈ gs, 0 ≤ x) ∧ gs.length ≤ 63 ∧
    M' b = some (.lst [.ref g, .ref l, .int c, .int s]) ∧ M' g = some (iL gs) ∧ M' l = some (iL ls) ∧ Kept b g M M') gs.length ⟨gs, rfl, rfl, g0, g1, hb, hg, hl, Kept.refl M⟩ ?_
  clear hb hg hl g0 g1
  rintro m ρ M' ⟨gs, rfl, rfl, g0, g1, hb, hg, hl, hk⟩
  walk_at "g"
  refine ⟨szl (by simp), fun q hq => ?_⟩
  refine w_neLI (updM_lk hg hq) (ms := []) updM_same ?_
  replace hb := updM_lk (u := .lst []) hb hq
  replace hg := updM_lk (u := .lst []) hg hq
  replace hl := updM_lk (u := .lst []) hl hq
  replace hk : Kept b g M (updM M' q (.lst [])) := fun a o h1 h2 e => updM_lk (hk a o h1 h2 e) hq
  revert hb hg hl hk
  clear hq
  generalize updM M' q (.lst []) = M'
  intro hb hg hl hk
  cases gs with
  | nil =>
    walk_at "g"
    refine ⟨szl (by simp), fun q hq => ?_⟩
    refine w_neLI (updM_lk hg hq) (ms := []) updM_same ?_
    walk_at "g"
    refine w_setL (k := 2) (updM_lk hb hq) rfl ?_
    have hq1 : q ≠ b := fun z => by rw [← z, hq] at hb; cases hb
    have hq2 : q ≠ g := fun z => by rw [← z, hq] at hg; cases hg
    have hq3 : q ≠ l := fun z => by rw [← z, hq] at hl; cases hl
    generalize hM1 : updM (updM M' q (.lst [])) b _ = M1
    have eb : M1 b = some (.lst [.ref g, .ref l, .int (c + 1), .int s]) := by rw [← hM1]; exact updM_same
    have eg : M1 g = some (iL []) := by rw [← hM1, updM_ne hbg.symm]; exact updM_lk hg hq
    have el : M1 l = some (iL ls) := by rw [← hM1, updM_ne hbl.symm]; exact updM_lk hl hq
    have ek : Kept b g M M1 := fun a o h1 h2 e => by rw [← hM1, updM_ne h1]; exact updM_lk (hk a o h1 h2 e) hq
    clear hM1
    walk_at "g"
    have e9 : ((ls.map D.int).length : Int) = ls.length := by simp
    refine w_modI (by rw [e9]; omega) ?_
    rw [e9]
    have k0 := Int.emod_nonneg (c + 1) (b := (ls.length : Int)) (by omega)
    have k1 := Int.emod_lt_of_pos (c + 1) (b := (ls.length : Int)) (by omega)
    have k2 : (((c + 1) % (ls.length : Int)).toNat : Int) = (c + 1) % (ls.length : Int) := Int.toNat_of_nonneg k0
    have k3 : ((c + 1) % (ls.length : Int)).toNat < ls.length := by omega
    obtain ⟨x, hx⟩ : ∃ x, ls[((c + 1) % (ls.length : Int)).toNat]? = some x := ⟨_, List.getElem?_eq_getElem k3⟩
    have x0 := l0 x (List.mem_of_getElem? hx)
    refine w_ixL (d := .int x) el (by rw [← k2]; exact atI_nat (by rw [List.getElem?_map, hx]; rfl)) ?_
    walk_at "g"
    refine w_mulI (mul_l (by decide) (by decide)) ?_
    walk_at "g"
    refine w_mulI (mul_l (by decide) (by decide)) ?_
    walk_at "g"
    have b1 := mul_lt (i := x + 3 * (c + 1)) (j := 2 * (c + 1) + 1) (n := 61) (m := 52) (by omega) (by omega) (by omega) (by omega)
    have b0 : 0 ≤ (x + 3 * (c + 1)) * (2 * (c + 1) + 1) := Int.mul_nonneg (by omega) (by omega)
    refine w_mulI (mul_l (by omega) (by omega)) ?_
    walk_at "g"
    refine w_pow (cpow 114 (by decide) (nat_lt (by omega) (by omega)) (by decide)) ?_
    walk_at "g"
    refine w_modI (by decide) ?_
    generalize hv : ((s + (x + 3 * (c + 1)) * (2 * (c + 1) + 1)) ^ Int.toNat 7 % 618970019642690137449562111) = v
    have v0 : 0 ≤ v := by rw [← hv]; exact Int.emod_nonneg _ (by decide)
    have v1 : v < 2 ^ 90 := by rw [← hv]; exact Int.lt_trans (Int.emod_lt_of_pos _ (by decide)) (by decide)
    walk_at "g"
    refine w_setL (k := 3) eb rfl ?_
    walk_at "g"
    refine w_divI (divw (by decide) (by decide)) ?_
    walk_at "g"
    refine w_modI m0 ?_
    refine ⟨_, SubM.refl _, h _ _ (Int.emod_nonneg _ (by omega)) (Int.emod_lt_of_pos _ m0) ?_ ?_⟩
    · exact fun a o h1 h2 e => by rw [updM_ne h1]; exact ek a o h1 h2 e
    · exact ⟨[], ls, c + 1, v, updM_same, by rw [updM_ne hbg.symm]; exact eg, by rw [updM_ne hbl.symm]; exact el, hbg, hbl, hgl, g0, g1, l0, l1, l2, by omega, by omega, v0, v1⟩
  | cons x t =>
    have x0 := g0 x (by simp)
    walk_at "h"
    refine w_ixL (d := .int x) hg at0 ?_
    walk_at "h"
    by_cases hx : x = 0
    · walk_at "T"
      walk_at "g"
      refine ⟨ty_l hg, ?_⟩
      walk_at "g"
      refine w_popAt (k := 0) (d := .int x) hg ix0 (szl (by simp at g1 ⊢; omega)) rfl ?_
      walk_at "g"
      refine ⟨t.length, by simp, t, rfl, rfl, fun y hy => g0 y (by simp [hy]), by simp at g1; omega, ?_, ?_, ?_, ?_⟩
      · rw [updM_ne hbg]; exact hb
      · exact updM_same
      · rw [updM_ne hgl.symm]; exact hl
      · exact fun a o h1 h2 e => by rw [updM_ne h2]; exact hk a o h1 h2 e
    walk_at "F"
    walk_at "g"
    refine ⟨szl (by simp), fun q hq => ?_⟩
    refine w_neLI (updM_lk hg hq) (ms := []) updM_same ?_
    walk_at "g"
    refine w_ixL (d := .int x) (updM_lk hg hq) at0 ?_
    walk_at "g"
    refine w_modI m0 ?_
    walk_at "g"
    refine w_ixL (d := .int x) (updM_lk hg hq) at0 ?_
    walk_at "g"
    refine w_divI (divw m0 (Int.lt_trans m1 (by decide))) ?_
    walk_at "g"
    refine w_setL (k := 0) (updM_lk hg hq) ix0 ?_
    walk_at "g"
    have hd : 0 ≤ x / many := Int.ediv_nonneg x0 (by omega)
    have hq1 : q ≠ b := fun z => by rw [← z, hq] at hb; cases hb
    refine ⟨_, SubM.refl _, h _ _ (Int.emod_nonneg _ (by omega)) (Int.emod_lt_of_pos _ m0) ?_ ?_⟩
    · exact fun a o h1 h2 e => by rw [updM_ne h2]; exact updM_lk (hk a o h1 h2 e) hq
    · refine ⟨x / many :: t, ls, c, s, by rw [updM_ne hbg]; exact updM_lk hb hq, updM_same, by rw [updM_ne hgl.symm]; exact updM_lk hl hq, hbg, hbl, hgl, ?_, by simpa using g1, l0, l1, l2, c0, by omega, s0, s1⟩
      intro y hy
      simp at hy
      rcases hy with rfl | hy
      · exact hd
      · exact g0 y (by simp [hy])
theorem v__law_number (G : GC) : ∀ ds M Q E, sp__law_number G ds M Q E → t__law_number G (endsOf Q E) (start2 N__law_number ds) M := by
  rintro ds M Q E ⟨b, g, l, n, rfl, hb, hn, h⟩
  unfold t__law_number
  walk_at "g"
  refine ⟨b, g, l, n, _, rfl, hb, by omega, by decide, by decide, fun c M1 c0 c1 k1 hb1 => ?_⟩
  walk_at "g"
  by_cases h1 : c = 0
  · walk_at "T"
    walk_at "g"
    refine ⟨b, g, l, _, _, rfl, hb1, by omega, by decide, by decide, fun r M2 r0 r1 k2 hb2 => ?_⟩
    walk_at "g"
    exact ⟨_, SubM.refl _, h _ _ (by omega) (by omega) (k1.trans k2) (hb2.mono (by omega))⟩
  walk_at "F"
  walk_at "g"
  by_cases h2 : c = 1
  · walk_at "T"
    walk_at "g"
    refine ⟨b, g, l, _, _, rfl, hb1, by omega, by decide, by decide, fun r M2 r0 r1 k2 hb2 => ?_⟩
    walk_at "g"
    exact ⟨_, SubM.refl _, h _ _ (by omega) (by omega) (k1.trans k2) (hb2.mono (by omega))⟩
  walk_at "F"
  walk_at "g"
  by_cases h3 : c = 2
  · walk_at "T"
    walk_at "g"
    refine ⟨szl (by simp), fun q hq => ?_⟩
    walk_at "g"
    refine ⟨b, g, l, _, _, rfl, hb1.new hq, by omega, by decide, by decide, fun r M2 r0 r1 k2 hb2 => ?_⟩
    have nq := hb1.ne hq
    have e2 := k2 q _ nq.1 nq.2.1 updM_same
    refine w_ixL e2 (d := .int (1 - 2 * r)) ?_ ?_
    · rcases (by omega : r = 0 ∨ r = 1) with rfl | rfl <;> rfl
    walk_at "g"
    refine ⟨b, g, l, _, _, rfl, hb2, by omega, by decide, by decide, fun r3 M3 s0 s1 k3 hb3 => ?_⟩
    walk_at "g"
    refine w_mulI (mul_l (by omega) (by omega)) ?_
    have kk : Kept b g M M3 := (k1.trans ((Kept.refl M1).upd hq)).trans (k2.trans k3)
    rcases (by omega : r = 0 ∨ r = 1) with rfl | rfl
    · exact ⟨_, SubM.refl _, h _ _ (by omega) (by omega) kk (hb3.mono (by omega))⟩
    · exact ⟨_, SubM.refl _, h _ _ (by omega) (by omega) kk (hb3.mono (by omega))⟩
  walk_at "F"
  walk_at "g"
  refine ⟨b, g, l, _, _, rfl, hb1, by omega, by decide, by decide, fun r M2 r0 r1 k2 hb2 => ?_⟩
  walk_at "g"
  by_cases h4 : c = 3
  · walk_at "T"
    walk_at "g"
    exact ⟨_, SubM.refl _, h _ _ (by omega) (by omega) (k1.trans k2) (hb2.mono (by omega))⟩
  · walk_at "F"
    walk_at "g"
    exact ⟨_, SubM.refl _, h _ _ (by omega) (by omega) (k1.trans k2) (hb2.mono (by omega))⟩
theorem v__law_held (G : GC) : ∀ ds M Q E, sp__law_held G ds M Q E → t__law_held G (endsOf Q E) (start2 N__law_held ds) M := by
  rintro ds M Q E ⟨x, rfl, h⟩
  unfold t__law_held
  walk_at "g"
  exact ⟨_, SubM.refl _, h⟩
theorem held_bd (x : Int) : Bd (some (held x)) := by
  rintro a e
  cases e
  unfold held
  omega
theorem Bd_none : Bd none := by rintro a e; cases e
theorem Bd_of {x : Int} (h0 : -(10 ^ 15) < x) (h1 : x < 10 ^ 15) : Bd (some x) := by rintro a e; cases e; exact ⟨h0, h1⟩
theorem v__law_span (G : GC) : ∀ ds M Q E, sp__law_span G ds M Q E → t__law_span G (endsOf Q E) (start2 N__law_span ds) M := by
  rintro ds M Q E ⟨b, g, l, n, rfl, hb, hn, h⟩
  unfold t__law_span
  walk_at "g"
  refine ⟨b, g, l, n, _, rfl, hb, by omega, by decide, by decide, fun c M1 c0 c1 k1 hb1 => ?_⟩
  walk_at "g"
  refine ⟨b, g, l, _, rfl, hb1, by omega, fun x M2 x0 x1 k2 hb2 => ?_⟩
  have k3 := k1.trans k2
  walk_at "g"
  by_cases h1 : c = 0
  · walk_at "T"
    walk_at "g"
    refine ⟨szl (by simp), _, SubM.refl _, h none none _ rfl Bd_none Bd_none k3 (hb2.mono (by omega))⟩
  walk_at "F"
  walk_at "g"
  by_cases h2 : c = 1
  · walk_at "T"
    walk_at "g"
    refine ⟨szl (by simp), _, SubM.refl _, h none (some x) _ rfl Bd_none (Bd_of x0 x1) k3 (hb2.mono (by omega))⟩
  walk_at "F"
  walk_at "g"
  by_cases h3 : c = 2
  · walk_at "T"
    walk_at "g"
    refine ⟨szl (by simp), _, SubM.refl _, h (some x) none _ rfl (Bd_of x0 x1) Bd_none k3 (hb2.mono (by omega))⟩
  walk_at "F"
  walk_at "g"
  by_cases h4 : c = 3
  · walk_at "T"
    walk_at "g"
    refine ⟨szl (by simp), _, SubM.refl _, h (some x) (some x) _ (by simp [okB]) (Bd_of x0 x1) (Bd_of x0 x1) k3 (hb2.mono (by omega))⟩
  walk_at "F"
  walk_at "g"
  by_cases h5 : c < 6
  · walk_at "T"
    walk_at "g"
    refine ⟨b, g, l, _, _, rfl, hb2, by omega, by decide, by decide, fun r M3 r0 r1 k4 hb3 => ?_⟩
    walk_at "g"
    refine ⟨_, rfl, ?_⟩
    walk_at "g"
    refine ⟨szl (by simp), _, SubM.refl _, h (some x) (some (held (x + 1 + r))) _ ?_ (Bd_of x0 x1) (held_bd _) (k3.trans k4) (hb3.mono (by omega))⟩
    show decide _ = true; rw [decide_eq_true_eq]; unfold held; omega
  walk_at "F"
  walk_at "g"
  refine ⟨b, g, l, _, rfl, hb2, by omega, fun y M3 y0 y1 k4 hb3 => ?_⟩
  walk_at "g"
  refine ⟨szl (by simp), _, SubM.refl _, h (some (min x y)) (some (max x y)) _ ?_ (Bd_of (by omega) (by omega)) (Bd_of (by omega) (by omega)) (k3.trans k4) (hb3.mono (by omega))⟩
  simp only [okB, decide_eq_true_eq]; omega
theorem v__law_in (G : GC) : ∀ ds M Q E, sp__law_in G ds M Q E → t__law_in G (endsOf Q E) (start2 N__law_in ds) M := by
  rintro ds M Q E ⟨lo, hi, k, rfl, h⟩
  unfold t__law_in spD
  cases lo with
  | none =>
    walk_at "g"
    cases hi with
    | none => walk_at "g"; exact ⟨_, SubM.refl _, h⟩
    | some b => walk_at "g"; exact ⟨_, SubM.refl _, h⟩
  | some a =>
    walk_at "g"
    by_cases c : k < a
    · walk_at "T"
      walk_at "g"
      have e : inB (some a) hi k = false := by simp [inB]; omega
      rw [e] at h
      exact ⟨_, SubM.refl _, h⟩
    · walk_at "F"
      walk_at "g"
      have e : ∀ hi : En, inB (some a) hi k = (match hi with | some b => decide (k ≤ b) | none => true) := by intro hi; simp only [inB]; rw [decide_eq_true (by omega : a ≤ k)]; cases hi <;> simp
      rw [e] at h
      cases hi with
      | none => walk_at "g"; exact ⟨_, SubM.refl _, h⟩
      | some b => walk_at "g"; exact ⟨_, SubM.refl _, h⟩
theorem v__law_moved (G : GC) : ∀ ds M Q E, sp__law_moved G ds M Q E → t__law_moved G (endsOf Q E) (start2 N__law_moved ds) M := by
  rintro ds M Q E ⟨b, g, l, n, lo, hi, rfl, hb, hn, b1, b2, h⟩
  unfold t__law_moved spD
  walk_at "g"
  refine ⟨szl (by simp), fun q hq => ?_⟩
  walk_at "g"
  have nq := hb.ne hq
  refine ⟨fun i ρ M' => ∃ es : List En, es.length = i ∧ (∀ e ∈ es, Bd e) ∧ (∃ o1 o2, ρ = [some (.ref b), some (.tup [eD lo, eD hi]), some (.ref q), o1, o2, none, none]) ∧
    M' q = some (.lst (es.map eD)) ∧ Bag M' b g l (n + 4 * i) ∧ ∀ a o, a ≠ b → a ≠ g → M a = some o → M' a = some o, ⟨[], rfl, by simp, ⟨_, _, rfl⟩, updM_same, hb.new hq, ?_⟩, ?_, ?_, ?_⟩
  · exact (Kept.refl M).upd hq
  · intros; trivial
  · rintro i d ρ M' hd ⟨es, rfl, he, ⟨o1, o2, rfl⟩, hq', hb', hk⟩
    have hi2 : es.length < 2 := by simpa using (List.getElem?_eq_some_iff.mp hd).1
    obtain ⟨a, ba, rfl⟩ : ∃ a, Bd a ∧ d = eD a := by
      have := List.mem_of_getElem? hd
      simp at this
      rcases this with e | e
      · exact ⟨lo, b1, e⟩
      · exact ⟨hi, b2, e⟩
    have fin : ∀ x M2, Bd x → M2 q = some (.lst (es.map eD)) → Bag M2 b g l (n + 4 * es.length + 4) → (∀ a o, a ≠ b → a ≠ g → M a = some o → M2 a = some o) → ∀ o1 o2,
        ∃ fs : List En, fs.length = es.length + 1 ∧ (∀ e ∈ fs, Bd e) ∧ (∃ p1 p2, ([some (.ref b), some (.tup [eD lo, eD hi]), some (.ref q), o1, o2, none, none] : St2) = [some (.ref b), some (.tup [eD lo, eD hi]), some (.ref q), p1, p2, none, none]) ∧
          updM M2 q (.lst (es.map eD ++ [eD x])) q = some (.lst (fs.map eD)) ∧ Bag (updM M2 q (.lst (es.map eD ++ [eD x]))) b g l (n + 4 * (es.length + 1)) ∧ ∀ a o, a ≠ b → a ≠ g → M a = some o → updM M2 q (.lst (es.map eD ++ [eD x])) a = some o := by
      intro x M2 bx q2 hb2 hk2 o1 o2
      refine ⟨es ++ [x], by simp, ?_, ⟨_, _, rfl⟩, by rw [updM_same]; simp, (hb2.upd nq.1 nq.2.1 nq.2.2).mono (by omega), ?_⟩
      · intro e h
        simp at h
        rcases h with h | rfl
        · exact he e h
        · exact bx
      · intro a o h1 h2 e
        rw [updM_ne (fun z => by rw [z, hq] at e; cases e)]
        exact hk2 a o h1 h2 e
    walk_at "g"
    refine ⟨b, g, l, _, _, rfl, hb', by omega, by decide, by decide, fun c M1 c0 c1 k1 hb1 => ?_⟩
    have q1 := k1 q _ nq.1 nq.2.1 hq'
    have hk1 : ∀ a o, a ≠ b → a ≠ g → M a = some o → M1 a = some o := fun a o h1 h2 e => k1 a o h1 h2 (hk a o h1 h2 e)
    walk_at "g"
    have num : ∀ ρ : St2, ∀ o1 o2, ρ = [some (.ref b), some (.tup [eD lo, eD hi]), some (.ref q), o1, o2, none, none] → ∀ (D0 : Ends2), (∀ ρ M2, (∃ fs : List En, fs.length = es.length + 1 ∧ (∀ e ∈ fs, Bd e) ∧ (∃ p1 p2, ρ = [some (.ref b), some (.tup [eD lo, eD hi]), some (.ref q), p1, p2, none, none]) ∧
          M2 q = some (.lst (fs.map eD)) ∧ Bag M2 b g l (n + 4 * (es.length + 1)) ∧ ∀ a o, a ≠ b → a ≠ g → M a = some o → M2 a = some o) → D0.nx ρ M2) → (drop2 (meth2 "list" mAppend (v2 2) (cons2 (fn2 (sp__law_number G) [] (cons2 (v2 0) nil2)) nil2))) D0 ρ M1 := by
      rintro ρ o1 o2 rfl D0 hD
      walk_at "g"
      refine ⟨ty_l q1, ?_⟩
      walk_at "g"
      refine ⟨b, g, l, _, rfl, hb1, by omega, fun x M2 x0 x1 k2 hb2 => ?_⟩
      walk_at "g"
      have q2 := k2 q _ nq.1 nq.2.1 q1
      refine w_append q2 (szlt (by simp; omega)) ?_
      walk_at "g"
      apply hD
      exact fin (some x) M2 (Bd_of x0 x1) q2 (hb2.mono (by omega)) (fun a o h1 h2 e => k2 a o h1 h2 (hk1 a o h1 h2 e)) _ _
    by_cases h3 : c = 3
    · walk_at "T"
      walk_at "g"
      refine ⟨ty_l q1, ?_⟩
      walk_at "g"
      refine w_append q1 (szlt (by simp; omega)) ?_
      walk_at "g"
      exact fin none M1 Bd_none q1 (hb1.mono (by omega)) hk1 _ _
    walk_at "F"
    walk_at "g"
    cases a with
    | none =>
      walk_at "g"
      by_cases h4 : 0 < c
      · walk_at "T"
        walk_at "g"
        refine ⟨ty_l q1, ?_⟩
        walk_at "g"
        refine w_append q1 (szlt (by simp; omega)) ?_
        walk_at "g"
        exact fin none M1 Bd_none q1 (hb1.mono (by omega)) hk1 _ _
      · walk_at "F"
        walk_at "s"
        walk_at "h"
        walk_at "s"
        refine num _ _ _ rfl _ fun ρ M2 h => ?_
        walk_at "g"
        exact h
    | some x =>
      walk_at "g"
      by_cases h4 : c = 4
      · walk_at "T"
        walk_at "s"
        refine num _ _ _ rfl _ fun ρ M2 h => ?_
        walk_at "g"
        exact h
      · walk_at "F"
        walk_at "g"
        refine ⟨ty_l q1, ?_⟩
        walk_at "g"
        refine ⟨_, rfl, ?_⟩
        walk_at "g"
        refine w_append q1 (szlt (by simp; omega)) ?_
        walk_at "g"
        exact fin (some (held (x + c - 1))) M1 (held_bd _) q1 (hb1.mono (by omega)) hk1 _ _
  · rintro ρ M' ⟨es, hl, he, ⟨o1, o2, rfl⟩, hq', hb', hk⟩
    obtain ⟨a, c, rfl⟩ : ∃ a c, es = [a, c] := by
      match es, hl with
      | [a, c], _ => exact ⟨a, c, rfl⟩
    have ba := he a (by simp)
    have bc := he c (by simp)
    replace hb' : Bag M' b g l (n + 20) := hb'.mono (by simp)
    walk_at "g"
    refine w_gtupL (xs := [eD a, eD c]) hq' rfl ?_
    walk_at "g"
    have same : ∀ a c : En, okB a c = true → Bd a → Bd c → Q (.tup [eD a, eD c]) M' := fun a c ho ba bc => h a c M' ho ba bc hk hb'
    cases a with
    | none =>
      walk_at "g"
      exact ⟨szl (by simp), _, SubM.refl _, same _ _ rfl ba bc⟩
    | some a =>
      walk_at "g"
      cases c with
      | none =>
        walk_at "g"
        exact ⟨szl (by simp), _, SubM.refl _, same _ _ rfl ba bc⟩
      | some c =>
        walk_at "g"
        by_cases hc : c < a
        · walk_at "T"
          walk_at "g"
          exact ⟨szl (by simp), _, SubM.refl _, same _ _ (by simp [okB]; omega) bc ba⟩
        · walk_at "F"
          walk_at "g"
          exact ⟨szl (by simp), _, SubM.refl _, same _ _ (by simp [okB]; omega) ba bc⟩
theorem v__law_two (G : GC) : ∀ ds M Q E, sp__law_two G ds M Q E → t__law_two G (endsOf Q E) (start2 N__law_two ds) M := by
  rintro ds M Q E ⟨b, g, l, n, rfl, hb, hn, h⟩
  unfold t__law_two
  walk_at "g"
  refine ⟨b, g, l, n, _, rfl, hb, by omega, by decide, by decide, fun c M1 c0 c1 k1 hb1 => ?_⟩
  walk_at "g"
  refine ⟨b, g, l, _, rfl, hb1, by omega, fun lo hi M2 o1 d1 d2 k2 hb2 => ?_⟩
  replace k2 := k1.trans k2
  unfold spD
  walk_at "g"
  by_cases h1 : c = 0
  · walk_at "T"
    walk_at "g"
    refine ⟨b, g, l, _, rfl, hb2, by omega, fun le mo M3 o2 d3 d4 k3 hb3 => ?_⟩
    walk_at "g"
    exact ⟨szl (by simp), _, SubM.refl _, h _ _ _ _ _ o1 o2 d1 d2 d3 d4 (k2.trans k3) (hb3.mono (by omega))⟩
  walk_at "F"
  have moved : ∀ ρ : St2, ∀ o, ρ = [some (.ref b), some (.int c), some (.tup [eD lo, eD hi]), o] → ∀ D0 : Ends2, (∀ le mo M3, okB le mo = true → Bd le → Bd mo → Kept b g M M3 → Bag M3 b g l (n + 50) → D0.rt (.tup [spD lo hi, spD le mo]) M3) →
      seq2 (ret2 (tup2 (cons2 (v2 2) (cons2 (fn2 (sp__law_moved G) [] (cons2 (v2 0) (cons2 (v2 2) nil2))) nil2)))) next2 D0 ρ M2 := by
    rintro ρ o rfl D0 hD
    walk_at "g"
    refine ⟨b, g, l, _, lo, hi, rfl, hb2, by omega, d1, d2, fun le mo M3 o2 d3 d4 k3 hb3 => ?_⟩
    walk_at "g"
    exact ⟨szl (by simp), hD _ _ _ o2 d3 d4 (k2.trans k3) (hb3.mono (by omega))⟩
  walk_at "g"
  by_cases h2 : c < 4
  · walk_at "T"
    walk_at "n"
    refine moved _ _ rfl _ fun le mo M3 o2 d3 d4 k3 hb3 => ?_
    exact ⟨_, SubM.refl _, h _ _ _ _ _ o1 o2 d1 d2 d3 d4 k3 hb3⟩
  walk_at "F"
  walk_at "h"
  cases hi with
  | none =>
    walk_at "h"
    refine moved _ _ rfl _ fun le mo M3 o2 d3 d4 k3 hb3 => ?_
    exact ⟨_, SubM.refl _, h _ _ _ _ _ o1 o2 d1 d2 d3 d4 k3 hb3⟩
  | some x =>
    clear moved
    walk_at "g"
    refine ⟨b, g, l, _, _, rfl, hb2, by omega, by decide, by decide, fun r M3 r0 r1 k3 hb3 => ?_⟩
    walk_at "g"
    refine ⟨_, rfl, ?_⟩
    walk_at "g"
    refine ⟨b, g, l, _, _, rfl, hb3, by omega, by decide, by decide, fun s M4 s0 s1 k4 hb4 => ?_⟩
    walk_at "g"
    refine ⟨_, rfl, ?_⟩
    walk_at "g"
    refine ⟨szl (by simp), fun q hq => ?_⟩
    walk_at "g"
    refine ⟨b, g, l, _, _, rfl, hb4.new hq, by omega, by decide, by decide, fun t M5 t0 t1 k5 hb5 => ?_⟩
    have nq := hb4.ne hq
    have e2 := k5 q _ nq.1 nq.2.1 updM_same
    have kk : Kept b g M M5 := (k2.trans (k3.trans k4)).trans (((Kept.refl M4).upd hq).trans k5)
    have hx := d2 x rfl
    rcases (by omega : t = 0 ∨ t = 1) with rfl | rfl
    · walk_at "g"
      refine ⟨szl (by simp), ?_⟩
      walk_at "g"
      exact ⟨szl (by simp), _, SubM.refl _, h _ _ (some (held (x + r))) none _ o1 rfl d1 d2 (held_bd _) Bd_none kk (hb5.mono (by omega))⟩
    · walk_at "g"
      refine ⟨szl (by simp), ?_⟩
      walk_at "g"
      refine ⟨szl (by simp), _, SubM.refl _, h _ _ (some (held (x + r))) (some (held (held (x + r) + s))) _ o1 ?_ d1 d2 (held_bd _) (held_bd _) kk (hb5.mono (by omega))⟩
      show decide _ = true; rw [decide_eq_true_eq]; unfold held; omega
theorem pts_snoc (l : List (En × En)) (s : En × En) : pts (l ++ [s]) = pts l ++ (endPts s.1 ++ endPts s.2) := by
  unfold pts; rw [List.flatMap_append]; simp
theorem endPts_len (e : En) : (endPts e).length ≤ 3 := by cases e <;> simp [endPts]
theorem pts_len (l : List (En × En)) : (pts l).length ≤ 3 + 6 * l.length := by
  induction l with
  | nil => simp [pts]
  | cons s l ih =>
    have := endPts_len s.1
    have := endPts_len s.2
    simp [pts] at ih ⊢
    omega
theorem v__law_points (G : GC) : ∀ ds M Q E, sp__law_points G ds M Q E → t__law_points G (endsOf Q E) (start2 N__law_points ds) M := by
  rintro ds M Q E ⟨p, ss, rfl, hp, hl, h⟩
  unfold t__law_points
  walk_at "g"
  refine ⟨szl (by simp), fun q hq => ?_⟩
  walk_at "g"
  refine ⟨fun i ρ M' => ∃ q o1 o2, ρ = [some (.ref p), some (.ref q), o1, o2] ∧ SubM M M' ∧ M q = none ∧ M' q = some (iL (pts (ss.take i))), ⟨q, _, _, rfl, (SubM.refl M).upd hq, hq, ?_⟩, ?_, ?_, ?_⟩
  · exact updM_same
  · rintro i ρ M' _ ⟨_, _, _, _, sb, _⟩
    exact sb p _ hp
  · rintro i d ρ M' hd ⟨q, o1, o2, rfl, sb, hq, eq⟩
    rw [List.getElem?_map] at hd
    obtain ⟨s, hs, rfl⟩ := Option.map_eq_some_iff.mp hd
    have hi : i < ss.length := (List.getElem?_eq_some_iff.mp hs).1
    have e1 : ss.take (i + 1) = ss.take i ++ [s] := by rw [List.take_add_one, hs]; rfl
    have lb := pts_len (ss.take i)
    have lt : (ss.take i).length ≤ 10 := by simp; omega
    unfold spD
    walk_at "g"
    refine ⟨fun j ρ M' => ∃ q o2, ρ = [some (.ref p), some (.ref q), some (.tup [eD s.1, eD s.2]), o2] ∧ SubM M M' ∧ M q = none ∧ M' q = some (iL (pts (ss.take i) ++ ([s.1, s.2].take j).flatMap endPts)), ⟨q, _, rfl, sb, hq, by simpa using eq⟩, ?_, ?_, ?_⟩
    · intros; trivial
    · rintro j d ρ M' hd ⟨q, o2, rfl, sb, hq, eq⟩
      obtain ⟨a, ha, rfl⟩ : ∃ a, [s.1, s.2][j]? = some a ∧ d = eD a := by
        match j, hd with
        | 0, hd => exact ⟨s.1, rfl, by simpa using hd.symm⟩
        | 1, hd => exact ⟨s.2, rfl, by simpa using hd.symm⟩
      have e3 : ([s.1, s.2].take (j + 1)).flatMap endPts = ([s.1, s.2].take j).flatMap endPts ++ endPts a := by
        rw [List.take_add_one, ha, List.flatMap_append]; simp
      have lj : (([s.1, s.2].take j).flatMap endPts).length ≤ 6 := by
        have := endPts_len s.1
        have := endPts_len s.2
        match j with
        | 0 => simp
        | 1 => simp; omega
        | j + 2 => simp; omega
      cases a with
      | none =>
        walk_at "g"
        exact ⟨q, _, rfl, sb, hq, by rw [e3]; simpa [endPts] using eq⟩
      | some x =>
        walk_at "g"
        refine ⟨szl (by simp), fun t ht => ?_⟩
        refine w_addL (updM_lk eq ht) updM_same (szl (by simp at lj ⊢; omega)) fun r hr => ?_
        walk_at "g"
        have s1 := sb.upd (o := .lst [.int (x - 1), .int x, .int (x + 1)]) (SubM.none sb ht)
        refine ⟨r, _, rfl, s1.upd (SubM.none s1 hr), SubM.none s1 hr, ?_⟩
        rw [updM_same, e3]
        simp [iL, endPts]
    · rintro ρ M' ⟨q, o2, rfl, sb, hq, eq⟩
      walk_at "g"
      refine ⟨q, _, _, rfl, sb, hq, ?_⟩
      rw [e1, pts_snoc]
      simpa using eq
  · rintro ρ M' ⟨q, o1, o2, rfl, sb, hq, eq⟩
    walk_at "g"
    rw [List.length_map, List.take_length] at eq
    refine ⟨updM M q (iL (pts ss)), ?_, h q hq⟩
    intro a o e
    by_cases ha : a = q
    · subst ha; rw [updM_same] at e; rw [eq]; exact e
    · rw [updM_ne ha] at e; exact sb a o e
theorem fm_filter (p : Int → Bool) (ns : List Int) : (ns.map D.int).filterMap (optI fun k => if p k = true then some k else none) = (ns.filter p).map D.int := by
  rw [fm_ints, ← List.filterMap_eq_filter]
  congr 1
theorem v__law_covers_right (G : GC) : ∀ ds M Q E, sp__law_covers_right G ds M Q E → t__law_covers_right G (endsOf Q E) (start2 N__law_covers_right ds) M := by
  rintro ds M Q E ⟨lo, hi, le, mo, rfl, o1, o2, d1, d2, d3, d4, h⟩
  unfold t__law_covers_right
  have lp := pts_len [(lo, hi), (le, mo)]
  simp at lp
  walk_at "g"
  refine ⟨lo, hi, le, mo, rfl, o1, o2, ?_⟩
  walk_at "g"
  refine ⟨szl (by simp), fun q hq => ?_⟩
  walk_at "g"
  refine ⟨q, [(lo, hi), (le, mo)], rfl, updM_same, by simp, fun r hr => ?_⟩
  walk_at "g"
  apply w_lcp (optI fun k => if (inB le mo k && !inB lo hi k) = true then some k else none)
  · exact szl (by simp; omega)
  · exact updM_same
  · intro d hd QR hq
    obtain ⟨k, hk, rfl⟩ := List.mem_map.mp hd
    walk_at "g"
    refine ⟨le, mo, k, rfl, ?_⟩
    cases c1 : inB le mo k
    · walk_at "g"
      refine ⟨rfl, ?_⟩
      simpa [optI, c1] using hq
    · walk_at "g"
      refine ⟨lo, hi, k, rfl, ?_⟩
      cases c2 : inB lo hi k
      · walk_at "g"
        refine ⟨rfl, ?_⟩
        simpa [optI, c1, c2] using hq
      · walk_at "g"
        refine ⟨rfl, ?_⟩
        simpa [optI, c1, c2] using hq
  intro t ht
  rw [fm_filter]
  walk_at "g"
  refine ⟨szl (by simp), fun z hz => ?_⟩
  refine w_eqLI (updM_lk updM_same hz) (ms := []) updM_same ?_
  rw [covers_pts o1 o2 d1 d2 d3 d4]
  walk_at "g"
  have hs : SubM M (updM (updM (updM (updM M q (.lst [spD lo hi, spD le mo])) r (iL (pts [(lo, hi), (le, mo)]))) t (.lst (((pts [(lo, hi), (le, mo)]).filter fun k => inB le mo k && !inB lo hi k).map D.int))) z (.lst [])) := by
    have s1 := (SubM.refl M).upd (o := .lst [spD lo hi, spD le mo]) hq
    have s2 := s1.upd (o := iL (pts [(lo, hi), (le, mo)])) (SubM.none s1 hr)
    have s3 := s2.upd (o := .lst (((pts [(lo, hi), (le, mo)]).filter fun k => inB le mo k && !inB lo hi k).map D.int)) (SubM.none s2 ht)
    exact s3.upd (SubM.none s3 hz)
  have e : ∀ l : List Int, (l.isEmpty == decide (l = [])) = true := by intro l; cases l <;> simp
  rw [e]
  exact ⟨M, hs, h⟩
theorem v__law_met_right (G : GC) : ∀ ds M Q E, sp__law_met_right G ds M Q E → t__law_met_right G (endsOf Q E) (start2 N__law_met_right ds) M := by
  rintro ds M Q E ⟨lo, hi, le, mo, rfl, o1, o2, h⟩
  unfold t__law_met_right
  have lp := pts_len [(lo, hi), (le, mo)]
  simp at lp
  have mp := met_pts o1 o2
  walk_at "g"
  refine ⟨szl (by simp), fun q hq => ?_⟩
  walk_at "g"
  refine ⟨q, [(lo, hi), (le, mo)], rfl, updM_same, by simp, fun r hr => ?_⟩
  walk_at "g"
  apply w_lcp (optI fun k => if (inB lo hi k && inB le mo k) = true then some k else none)
  · exact szl (by simp; omega)
  · exact updM_same
  · intro d hd QR hq
    obtain ⟨k, hk, rfl⟩ := List.mem_map.mp hd
    walk_at "g"
    refine ⟨lo, hi, k, rfl, ?_⟩
    cases c1 : inB lo hi k
    · walk_at "g"
      refine ⟨rfl, ?_⟩
      simpa [optI, c1] using hq
    · walk_at "g"
      refine ⟨le, mo, k, rfl, ?_⟩
      cases c2 : inB le mo k
      · walk_at "g"
        refine ⟨rfl, ?_⟩
        simpa [optI, c1, c2] using hq
      · walk_at "g"
        refine ⟨rfl, ?_⟩
        simpa [optI, c1, c2] using hq
  intro t ht
  rw [fm_filter]
  have s1 := (SubM.refl M).upd (o := .lst [spD lo hi, spD le mo]) hq
  have s2 := s1.upd (o := iL (pts [(lo, hi), (le, mo)])) (SubM.none s1 hr)
  have s3 := s2.upd (o := .lst (((pts [(lo, hi), (le, mo)]).filter fun k => inB lo hi k && inB le mo k).map D.int)) (SubM.none s2 ht)
  have er := updM_lk (u := .lst (((pts [(lo, hi), (le, mo)]).filter fun k => inB lo hi k && inB le mo k).map D.int)) (updM_same (M := updM M q (.lst [spD lo hi, spD le mo])) (a := r) (o := iL (pts [(lo, hi), (le, mo)]))) ht
  have et := updM_same (M := updM (updM M q (.lst [spD lo hi, spD le mo])) r (iL (pts [(lo, hi), (le, mo)]))) (a := t) (o := .lst (((pts [(lo, hi), (le, mo)]).filter fun k => inB lo hi k && inB le mo k).map D.int))
  revert s3 er et
  generalize updM (updM (updM M q (.lst [spD lo hi, spD le mo])) r (iL (pts [(lo, hi), (le, mo)]))) t (.lst (((pts [(lo, hi), (le, mo)]).filter fun k => inB lo hi k && inB le mo k).map D.int)) = M1
  intro sb er et
  generalize hF : ((pts [(lo, hi), (le, mo)]).filter fun k => inB lo hi k && inB le mo k) = F at *
  walk_at "g"
  unfold metD
  cases hc : okB (glow lo le) (lhigh hi mo)
  · walk_at "g"
    refine ⟨szl (by simp), fun z hz => ?_⟩
    refine w_eqLI (updM_lk et hz) (ms := []) updM_same ?_
    rw [hc] at mp
    have e : decide (F = []) = true := by cases F <;> simp at mp ⊢
    rw [e]
    exact ⟨M, sb.upd (SubM.none sb hz), h⟩
  · rw [hc] at mp
    rw [if_pos rfl]
    unfold spD
    walk_at "g"
    apply w_lcp (fun _ => none)
    · exact szl (by simp)
    · trivial
    · intro d hd QR hq
      obtain ⟨a, rfl⟩ : ∃ a, d = eD a := by
        simp at hd
        rcases hd with e | e
        · exact ⟨_, e⟩
        · exact ⟨_, e⟩
      cases a with
      | none =>
        walk_at "g"
        exact ⟨rfl, hq⟩
      | some a =>
        walk_at "g"
        refine ⟨_, _, rfl, rfl, ?_⟩
        walk_at "g"
        exact ⟨rfl, hq⟩
    intro u hu
    walk_at "g"
    refine ⟨szl (by simp), fun z hz => ?_⟩
    refine w_neLI (ns := []) (ms := []) ?_ updM_same ?_
    · rw [updM_lk updM_same hz]; rfl
    walk_at "g"
    refine ⟨szl (by simp), fun y hy => ?_⟩
    walk_at "g"
    refine ⟨y, [(glow lo le, lhigh hi mo)], rfl, updM_same, by simp, fun w hw => ?_⟩
    have lq := pts_len [(glow lo le, lhigh hi mo)]
    simp at lq
    refine w_addL (updM_lk (updM_lk (updM_lk (updM_lk er hu) hz) hy) hw) updM_same (szl (by simp; omega)) fun v hv => ?_
    have s4 := sb.upd (o := .lst (List.filterMap (fun _ => none) [eD (glow lo le), eD (lhigh hi mo)])) (SubM.none sb hu)
    have s5 := s4.upd (o := .lst []) (SubM.none s4 hz)
    have s6 := s5.upd (o := .lst [.tup [eD (glow lo le), eD (lhigh hi mo)]]) (SubM.none s5 hy)
    have s7 := s6.upd (o := iL (pts [(glow lo le, lhigh hi mo)])) (SubM.none s6 hw)
    have s8 := s7.upd (o := .lst ((pts [(lo, hi), (le, mo)]).map D.int ++ (pts [(glow lo le, lhigh hi mo)]).map D.int)) (SubM.none s7 hv)
    have et2 := updM_lk (u := .lst ((pts [(lo, hi), (le, mo)]).map D.int ++ (pts [(glow lo le, lhigh hi mo)]).map D.int)) (updM_lk (u := iL (pts [(glow lo le, lhigh hi mo)])) (updM_lk (u := .lst [.tup [eD (glow lo le), eD (lhigh hi mo)]]) (updM_lk (u := .lst []) (updM_lk (u := .lst (List.filterMap (fun _ => none) [eD (glow lo le), eD (lhigh hi mo)])) et hu) hz) hy) hw) hv
    walk_at "g"
    generalize hM9 : updM _ v _ = M9
    rw [hM9] at s8 et2
    refine ⟨fun i ρ M' => M' = M9 ∧ ∃ o1, ρ = [some (.tup [eD (glow lo le), eD (lhigh hi mo)]), some (spD lo hi), some (spD le mo), some (.ref r), o1, some (.ref t), none], ⟨rfl, _, rfl⟩, ?_, ?_, ?_⟩
    · rintro i ρ M' _ ⟨rfl, _⟩
      rw [← hM9]; exact updM_same
    · rintro i d ρ M' hd ⟨rfl, o1, rfl⟩
      obtain ⟨k, rfl⟩ : ∃ k, d = .int k := by
        have := List.mem_of_getElem? hd
        simp at this
        rcases this with ⟨k, _, e⟩ | ⟨k, _, e⟩
        · exact ⟨k, e.symm⟩
        · exact ⟨k, e.symm⟩
      walk_at "g"
      refine ⟨_, _, k, rfl, ?_⟩
      walk_at "g"
      refine ⟨lo, hi, k, rfl, ?_⟩
      rw [in_met]
      cases c1 : inB lo hi k
      · walk_at "g"
        exact ⟨rfl, _, rfl⟩
      · walk_at "g"
        refine ⟨le, mo, k, rfl, ?_⟩
        cases c2 : inB le mo k
        · walk_at "g"
          exact ⟨rfl, _, rfl⟩
        · walk_at "g"
          exact ⟨rfl, _, rfl⟩
    · rintro ρ M' ⟨rfl, o1, rfl⟩
      walk_at "g"
      refine ⟨szl (by simp), fun z2 hz2 => ?_⟩
      refine w_neLI (updM_lk et2 hz2) (ms := []) updM_same ?_
      have e : (!decide (F = [])) = true := by cases F <;> simp at mp ⊢
      rw [e]
      exact ⟨M, s8.upd (SubM.none s8 hz2), h⟩
theorem pure_sp (a c : En) : pureD 1 (spD a c) = true := by cases a <;> cases c <;> rfl
theorem eqv_sp (a c : En) : PyData.eqv (pyD (spD a c)) (pyD (spD a c)) = true := by
  cases a <;> cases c <;> simp [spD, eD, pyD, pyDs, PyData.eqv, PyData.eqvAll]
theorem ne_sp {a c : En} {M : MP} {Q : VK2} (h : Q (.bl false) M) : bNe (spD a c) (spD a c) M Q :=
  w_neP rfl (pure_sp a c) (pure_sp a c) (by decide) (by decide) (by rw [eqv_sp]; exact h)
theorem ne_met {a c : En} {M : MP} {Q : VK2} (h : Q (.bl false) M) : bNe (metD a c) (metD a c) M Q := by
  unfold metD
  split
  · exact ne_sp h
  · exact w_neS rfl h
theorem v_law (G : GC) : ∀ ds M Q E, sp_law G ds M Q E → t_law G (endsOf Q E) (start2 N_law ds) M := by
  rintro ds M Q E ⟨ns, rfl, hn, h⟩
  unfold t_law
  walk_at "g"
  refine ⟨ns, rfl, hn, fun b g l M1 _ _ _ _ hb => ?_⟩
  walk_at "g"
  refine w_kIr1 (i := 8) (by decide) (by decide) ?_
  refine ⟨fun i ρ M' => Bag M' b g l (50 * i) ∧ ∃ o1 o2 o3 o4 o5, ρ = [some (.scr (ns.map D.int)), some (.ref b), o1, o2, o3, o4, o5], ⟨hb, _, _, _, _, _, rfl⟩, ?_, ?_, ?_⟩
  · intros; trivial
  · rintro i d ρ M' hd ⟨hb, o1, o2, o3, o4, o5, rfl⟩
    have hi : i < 8 := by simpa using (List.getElem?_eq_some_iff.mp hd).1
    walk_at "g"
    refine ⟨b, g, l, _, rfl, hb, by omega, fun lo hi le mo M2 c1 c2 d1 d2 d3 d4 _ hb2 => ?_⟩
    walk_at "g"
    refine ⟨szl (by simp), ?_⟩
    walk_at "g"
    refine ⟨szl (by simp), ?_⟩
    walk_at "g"
    refine ⟨szl (by simp), ?_⟩
    walk_at "g"
    refine ⟨szl (by simp), fun q hq => ?_⟩
    have hb3 := hb2.new (o := .lst [.tup [spD lo hi, spD le mo], .tup [spD le mo, spD lo hi], .tup [spD lo hi, spD lo hi]]) hq
    walk_at "g"
    generalize hM3 : updM M2 q _ = M3
    rw [hM3] at hb3
    refine ⟨fun j ρ M' => M' = M3 ∧ ∃ o4 o5, ρ = [some (.scr (ns.map D.int)), some (.ref b), some d, some (spD lo hi), some (spD le mo), o4, o5], ⟨rfl, _, _, rfl⟩, ?_, ?_, ?_⟩
    · rintro j ρ M' _ ⟨rfl, _⟩
      rw [← hM3]; exact updM_same
    · rintro j e ρ M' he ⟨rfl, o4, o5, rfl⟩
      obtain ⟨a, c, u, v, rfl, p1, p2, b1, b2, b3, b4⟩ : ∃ a c u v, e = .tup [spD a c, spD u v] ∧ okB a c = true ∧ okB u v = true ∧ Bd a ∧ Bd c ∧ Bd u ∧ Bd v := by
        match j, he with
        | 0, he => exact ⟨lo, hi, le, mo, by simpa using he.symm, c1, c2, d1, d2, d3, d4⟩
        | 1, he => exact ⟨le, mo, lo, hi, by simpa using he.symm, c2, c1, d3, d4, d1, d2⟩
        | 2, he => exact ⟨lo, hi, lo, hi, by simpa using he.symm, c1, c1, d1, d2, d1, d2⟩
      walk_at "g"
      refine ⟨a, c, u, v, rfl, p1, p2, b1, b2, b3, b4, ?_⟩
      walk_at "g"
      refine ⟨a, c, u, v, rfl, p1, p2, ?_⟩
      walk_at "g"
      refine ⟨a, c, u, v, rfl, p1, p2, ?_⟩
      walk_at "g"
      exact ⟨rfl, _, _, rfl⟩
    · rintro ρ M' ⟨rfl, o4, o5, rfl⟩
      walk_at "g"
      refine ⟨lo, hi, le, mo, rfl, c1, c2, ?_⟩
      walk_at "g"
      refine ⟨le, mo, lo, hi, rfl, c2, c1, ?_⟩
      rw [glow_comm le lo, lhigh_comm mo hi]
      refine ne_met ?_
      walk_at "g"
      refine ⟨le, mo, le, mo, rfl, c2, c2, ?_⟩
      rw [glow_self, lhigh_self]
      unfold metD
      rw [if_pos c2]
      walk_at "g"
      refine ne_sp ?_
      walk_at "g"
      refine ⟨le, mo, le, mo, rfl, c2, c2, ?_⟩
      rw [covers_self]
      walk_at "g"
      exact ⟨hb3.mono (by omega), _, _, _, _, _, rfl⟩
  · rintro ρ M' ⟨hb, o1, o2, o3, o4, o5, rfl⟩
    walk_at "g"
    exact ⟨_, SubM.refl _, h _⟩

end K03




namespace K03
open PySem PySem.Spec PyProof.Rows L2 N2
local macro_rules | `(tactic| walk_at "len") => `(tactic| (intro ds M Q E h; repeat' (first | (obtain ⟨hh, _⟩ := h; subst hh; rfl) | (obtain ⟨_, h⟩ := h))))
theorem law_ok {P : Program} {w : World} {K : PySem.W.Frag} {mg : Str → Option Value} {base : Heap} {G : GC} (T : Tx K mg G) {f_is_whole : Addr} {fd_is_whole : FuncData} {f_is_span : Addr} {fd_is_span : FuncData} {f_looked : Addr} {fd_looked : FuncData} {f_span_covers : Addr} {fd_span_covers : FuncData} {f_greater_low : Addr} {fd_greater_low : FuncData} {f_lesser_high : Addr} {fd_lesser_high : FuncData} {f_span_met : Addr} {fd_span_met : FuncData} {f__law_bag : Addr} {fd__law_bag : FuncData} {f__law_draw : Addr} {fd__law_draw : FuncData} {f__law_number : Addr} {fd__law_number : FuncData} {f__law_held : Addr} {fd__law_held : FuncData} {f__law_span : Addr} {fd__law_span : FuncData} {f__law_whole : Addr} {fd__law_whole : FuncData} {f__law_in : Addr} {fd__law_in : FuncData} {f__law_moved : Addr} {fd__law_moved : FuncData} {f__law_two : Addr} {fd__law_two : FuncData} {f__law_points : Addr} {fd__law_points : FuncData} {f__law_met_right : Addr} {fd__law_met_right : FuncData} {f__law_covers_right : Addr} {fd__law_covers_right : FuncData} {f_law : Addr} {fd_law : FuncData}
    (F_is_whole : FD K mg "is_whole" s_is_whole ["thing"] f_is_whole fd_is_whole)
    (F_is_span : FD K mg "is_span" s_is_span ["thing"] f_is_span fd_is_span)
    (F_looked : FD K mg "looked" s_looked ["span"] f_looked fd_looked)
    (F_span_covers : FD K mg "span_covers" s_span_covers ["one", "other"] f_span_covers fd_span_covers)
    (F_greater_low : FD K mg "greater_low" s_greater_low ["one", "other"] f_greater_low fd_greater_low)
    (F_lesser_high : FD K mg "lesser_high" s_lesser_high ["one", "other"] f_lesser_high fd_lesser_high)
    (F_span_met : FD K mg "span_met" s_span_met ["one", "other"] f_span_met fd_span_met)
    (F__law_bag : FD K mg "_law_bag" s__law_bag ["script"] f__law_bag fd__law_bag)
    (F__law_draw : FD K mg "_law_draw" s__law_draw ["bag", "many"] f__law_draw fd__law_draw)
    (F__law_number : FD K mg "_law_number" s__law_number ["bag"] f__law_number fd__law_number)
    (F__law_held : FD K mg "_law_held" s__law_held ["number"] f__law_held fd__law_held)
    (F__law_span : FD K mg "_law_span" s__law_span ["bag"] f__law_span fd__law_span)
    (F__law_whole : FD K mg "_law_whole" s__law_whole ["found"] f__law_whole fd__law_whole)
    (F__law_in : FD K mg "_law_in" s__law_in ["span", "number"] f__law_in fd__law_in)
    (F__law_moved : FD K mg "_law_moved" s__law_moved ["bag", "span"] f__law_moved fd__law_moved)
    (F__law_two : FD K mg "_law_two" s__law_two ["bag"] f__law_two fd__law_two)
    (F__law_points : FD K mg "_law_points" s__law_points ["spans"] f__law_points fd__law_points)
    (F__law_met_right : FD K mg "_law_met_right" s__law_met_right ["met", "one", "other"] f__law_met_right fd__law_met_right)
    (F__law_covers_right : FD K mg "_law_covers_right" s__law_covers_right ["one", "other"] f__law_covers_right fd__law_covers_right)
    (F_law : FD K mg "law" s_law ["script"] f_law fd_law)
    : FnOk P w K mg base (L2.CX P w) 6 f_law fd_law ["script"] (spOf K lawSp) := by
  have c_is_whole : Fn2 P w K mg base 1 "is_whole" (sp_is_whole G) [] := F_is_whole.fn2 sc_is_whole (d_is_whole T ) (by unfold sp_is_whole; walk_at "len") (v_is_whole G)
  have c_greater_low : Fn2 P w K mg base 1 "greater_low" (sp_greater_low G) [] := F_greater_low.fn2 sc_greater_low (d_greater_low T ) (by unfold sp_greater_low; walk_at "len") (v_greater_low G)
  have c_lesser_high : Fn2 P w K mg base 1 "lesser_high" (sp_lesser_high G) [] := F_lesser_high.fn2 sc_lesser_high (d_lesser_high T ) (by unfold sp_lesser_high; walk_at "len") (v_lesser_high G)
  have c__law_bag : Fn2 P w K mg base 1 "_law_bag" (sp__law_bag G) [] := F__law_bag.fn2 sc__law_bag (d__law_bag T ) (by unfold sp__law_bag; walk_at "len") (v__law_bag G)
  have c__law_draw : Fn2 P w K mg base 1 "_law_draw" (sp__law_draw G) [] := F__law_draw.fn2 sc__law_draw (d__law_draw T ) (by unfold sp__law_draw; walk_at "len") (v__law_draw G)
  have c__law_held : Fn2 P w K mg base 1 "_law_held" (sp__law_held G) [] := F__law_held.fn2 sc__law_held (d__law_held T ) (by unfold sp__law_held; walk_at "len") (v__law_held G)
  have c__law_whole : Fn2 P w K mg base 1 "_law_whole" (sp__law_whole G) [] := F__law_whole.fn2 sc__law_whole (d__law_whole T ) (by unfold sp__law_whole; walk_at "len") (v__law_whole G)
  have c__law_in : Fn2 P w K mg base 1 "_law_in" (sp__law_in G) [] := F__law_in.fn2 sc__law_in (d__law_in T ) (by unfold sp__law_in; walk_at "len") (v__law_in G)
  have c__law_points : Fn2 P w K mg base 1 "_law_points" (sp__law_points G) [] := F__law_points.fn2 sc__law_points (d__law_points T ) (by unfold sp__law_points; walk_at "len") (v__law_points G)
  have c_is_span : Fn2 P w K mg base 2 "is_span" (sp_is_span G) [] := F_is_span.fn2 sc_is_span (d_is_span T c_is_whole) (by unfold sp_is_span; walk_at "len") (v_is_span G)
  have c__law_number : Fn2 P w K mg base 2 "_law_number" (sp__law_number G) [] := F__law_number.fn2 sc__law_number (d__law_number T c__law_draw) (by unfold sp__law_number; walk_at "len") (v__law_number G)
  have c__law_met_right : Fn2 P w K mg base 2 "_law_met_right" (sp__law_met_right G) [] := F__law_met_right.fn2 sc__law_met_right (d__law_met_right T c__law_points c__law_in c__law_whole) (by unfold sp__law_met_right; walk_at "len") (v__law_met_right G)
  have c_looked : Fn2 P w K mg base 3 "looked" (sp_looked G) [] := F_looked.fn2 sc_looked (d_looked T c_is_span) (by unfold sp_looked; walk_at "len") (v_looked G)
  have c__law_span : Fn2 P w K mg base 3 "_law_span" (sp__law_span G) [] := F__law_span.fn2 sc__law_span (d__law_span T c__law_number c__law_draw c__law_held) (by unfold sp__law_span; walk_at "len") (v__law_span G)
  have c__law_moved : Fn2 P w K mg base 3 "_law_moved" (sp__law_moved G) [] := F__law_moved.fn2 sc__law_moved (d__law_moved T c__law_number c__law_held c__law_draw) (by unfold sp__law_moved; walk_at "len") (v__law_moved G)
  have c_span_covers : Fn2 P w K mg base 4 "span_covers" (sp_span_covers G) [] := F_span_covers.fn2 sc_span_covers (d_span_covers T c_looked) (by unfold sp_span_covers; walk_at "len") (v_span_covers G)
  have c_span_met : Fn2 P w K mg base 4 "span_met" (sp_span_met G) [] := F_span_met.fn2 sc_span_met (d_span_met T c_is_span c_lesser_high c_greater_low c_looked) (by unfold sp_span_met; walk_at "len") (v_span_met G)
  have c__law_two : Fn2 P w K mg base 4 "_law_two" (sp__law_two G) [] := F__law_two.fn2 sc__law_two (d__law_two T c__law_draw c__law_held c__law_moved c__law_span) (by unfold sp__law_two; walk_at "len") (v__law_two G)
  have c__law_covers_right : Fn2 P w K mg base 5 "_law_covers_right" (sp__law_covers_right G) [] := F__law_covers_right.fn2 sc__law_covers_right (d__law_covers_right T c__law_points c__law_in c_span_covers) (by unfold sp__law_covers_right; walk_at "len") (v__law_covers_right G)
  exact fnok2 F_law.fn sc_law (by unfold lawSp; walk_at "len") (d_law T c_span_covers c_span_met c__law_covers_right c__law_met_right c__law_two c__law_bag) (v_law G)
theorem all_mk {P : Program} {w : World} {K : PySem.W.Frag} {h : Heap} {mg : Str → Option Value} {fa : Addr} (X : K.In h) (Gn : h.Ns mainGlobals mg) (hfa : mg "law" = some (.ref fa))
    {f_is_whole : Addr} {od_is_whole an_is_whole : Option Addr} {sl_is_whole : Array (Option Value)} {oc_is_whole kV_is_whole dc_is_whole pm_is_whole cd_is_whole ct_is_whole : Value} {f_is_span : Addr} {od_is_span an_is_span : Option Addr} {sl_is_span : Array (Option Value)} {oc_is_span kV_is_span dc_is_span pm_is_span cd_is_span ct_is_span : Value} {f_looked : Addr} {od_looked an_looked : Option Addr} {sl_looked : Array (Option Value)} {oc_looked kV_looked dc_looked pm_looked cd_looked ct_looked : Value} {f_span_covers : Addr} {od_span_covers an_span_covers : Option Addr} {sl_span_covers : Array (Option Value)} {oc_span_covers kV_span_covers dc_span_covers pm_span_covers cd_span_covers ct_span_covers : Value} {f_greater_low : Addr} {od_greater_low an_greater_low : Option Addr} {sl_greater_low : Array (Option Value)} {oc_greater_low kV_greater_low dc_greater_low pm_greater_low cd_greater_low ct_greater_low : Value} {f_lesser_high : Addr} {od_lesser_high an_lesser_high : Option Addr} {sl_lesser_high : Array (Option Value)} {oc_lesser_high kV_lesser_high dc_lesser_high pm_lesser_high cd_lesser_high ct_lesser_high : Value} {f_span_met : Addr} {od_span_met an_span_met : Option Addr} {sl_span_met : Array (Option Value)} {oc_span_met kV_span_met dc_span_met pm_span_met cd_span_met ct_span_met : Value} {f__law_bag : Addr} {od__law_bag an__law_bag : Option Addr} {sl__law_bag : Array (Option Value)} {oc__law_bag kV__law_bag dc__law_bag pm__law_bag cd__law_bag ct__law_bag : Value} {f__law_draw : Addr} {od__law_draw an__law_draw : Option Addr} {sl__law_draw : Array (Option Value)} {oc__law_draw kV__law_draw dc__law_draw pm__law_draw cd__law_draw ct__law_draw : Value} {f__law_number : Addr} {od__law_number an__law_number : Option Addr} {sl__law_number : Array (Option Value)} {oc__law_number kV__law_number dc__law_number pm__law_number cd__law_number ct__law_number : Value} {f__law_held : Addr} {od__law_held an__law_held : Option Addr} {sl__law_held : Array (Option Value)} {oc__law_held kV__law_held dc__law_held pm__law_held cd__law_held ct__law_held : Value} {f__law_span : Addr} {od__law_span an__law_span : Option Addr} {sl__law_span : Array (Option Value)} {oc__law_span kV__law_span dc__law_span pm__law_span cd__law_span ct__law_span : Value} {f__law_whole : Addr} {od__law_whole an__law_whole : Option Addr} {sl__law_whole : Array (Option Value)} {oc__law_whole kV__law_whole dc__law_whole pm__law_whole cd__law_whole ct__law_whole : Value} {f__law_in : Addr} {od__law_in an__law_in : Option Addr} {sl__law_in : Array (Option Value)} {oc__law_in kV__law_in dc__law_in pm__law_in cd__law_in ct__law_in : Value} {f__law_moved : Addr} {od__law_moved an__law_moved : Option Addr} {sl__law_moved : Array (Option Value)} {oc__law_moved kV__law_moved dc__law_moved pm__law_moved cd__law_moved ct__law_moved : Value} {f__law_two : Addr} {od__law_two an__law_two : Option Addr} {sl__law_two : Array (Option Value)} {oc__law_two kV__law_two dc__law_two pm__law_two cd__law_two ct__law_two : Value} {f__law_points : Addr} {od__law_points an__law_points : Option Addr} {sl__law_points : Array (Option Value)} {oc__law_points kV__law_points dc__law_points pm__law_points cd__law_points ct__law_points : Value} {f__law_met_right : Addr} {od__law_met_right an__law_met_right : Option Addr} {sl__law_met_right : Array (Option Value)} {oc__law_met_right kV__law_met_right dc__law_met_right pm__law_met_right cd__law_met_right ct__law_met_right : Value} {f__law_covers_right : Addr} {od__law_covers_right an__law_covers_right : Option Addr} {sl__law_covers_right : Array (Option Value)} {oc__law_covers_right kV__law_covers_right dc__law_covers_right pm__law_covers_right cd__law_covers_right ct__law_covers_right : Value} {f_law : Addr} {od_law an_law : Option Addr} {sl_law : Array (Option Value)} {oc_law kV_law dc_law pm_law cd_law ct_law : Value}
    (a_is_whole : PySem.W.nsIn K mainGlobals "is_whole" = some (some (.ref f_is_whole))) (l_is_whole : K.lookup f_is_whole = some ⟨oc_is_whole, od_is_whole, .func (PySem.W.fnOf "is_whole" "is_whole" (defArgs s_is_whole) (defBody s_is_whole) (defScope s_is_whole) .none kV_is_whole dc_is_whole pm_is_whole an_is_whole cd_is_whole ct_is_whole), sl_is_whole⟩) (q_is_whole : PySem.W.codeIn K cd_is_whole "is_whole" = true) (k_is_whole : PySem.W.keepIn K (.ref f_is_whole) = true)
    (a_is_span : PySem.W.nsIn K mainGlobals "is_span" = some (some (.ref f_is_span))) (l_is_span : K.lookup f_is_span = some ⟨oc_is_span, od_is_span, .func (PySem.W.fnOf "is_span" "is_span" (defArgs s_is_span) (defBody s_is_span) (defScope s_is_span) .none kV_is_span dc_is_span pm_is_span an_is_span cd_is_span ct_is_span), sl_is_span⟩) (q_is_span : PySem.W.codeIn K cd_is_span "is_span" = true) (k_is_span : PySem.W.keepIn K (.ref f_is_span) = true)
    (a_looked : PySem.W.nsIn K mainGlobals "looked" = some (some (.ref f_looked))) (l_looked : K.lookup f_looked = some ⟨oc_looked, od_looked, .func (PySem.W.fnOf "looked" "looked" (defArgs s_looked) (defBody s_looked) (defScope s_looked) .none kV_looked dc_looked pm_looked an_looked cd_looked ct_looked), sl_looked⟩) (q_looked : PySem.W.codeIn K cd_looked "looked" = true) (k_looked : PySem.W.keepIn K (.ref f_looked) = true)
    (a_span_covers : PySem.W.nsIn K mainGlobals "span_covers" = some (some (.ref f_span_covers))) (l_span_covers : K.lookup f_span_covers = some ⟨oc_span_covers, od_span_covers, .func (PySem.W.fnOf "span_covers" "span_covers" (defArgs s_span_covers) (defBody s_span_covers) (defScope s_span_covers) .none kV_span_covers dc_span_covers pm_span_covers an_span_covers cd_span_covers ct_span_covers), sl_span_covers⟩) (q_span_covers : PySem.W.codeIn K cd_span_covers "span_covers" = true) (k_span_covers : PySem.W.keepIn K (.ref f_span_covers) = true)
    (a_greater_low : PySem.W.nsIn K mainGlobals "greater_low" = some (some (.ref f_greater_low))) (l_greater_low : K.lookup f_greater_low = some ⟨oc_greater_low, od_greater_low, .func (PySem.W.fnOf "greater_low" "greater_low" (defArgs s_greater_low) (defBody s_greater_low) (defScope s_greater_low) .none kV_greater_low dc_greater_low pm_greater_low an_greater_low cd_greater_low ct_greater_low), sl_greater_low⟩) (q_greater_low : PySem.W.codeIn K cd_greater_low "greater_low" = true) (k_greater_low : PySem.W.keepIn K (.ref f_greater_low) = true)
    (a_lesser_high : PySem.W.nsIn K mainGlobals "lesser_high" = some (some (.ref f_lesser_high))) (l_lesser_high : K.lookup f_lesser_high = some ⟨oc_lesser_high, od_lesser_high, .func (PySem.W.fnOf "lesser_high" "lesser_high" (defArgs s_lesser_high) (defBody s_lesser_high) (defScope s_lesser_high) .none kV_lesser_high dc_lesser_high pm_lesser_high an_lesser_high cd_lesser_high ct_lesser_high), sl_lesser_high⟩) (q_lesser_high : PySem.W.codeIn K cd_lesser_high "lesser_high" = true) (k_lesser_high : PySem.W.keepIn K (.ref f_lesser_high) = true)
    (a_span_met : PySem.W.nsIn K mainGlobals "span_met" = some (some (.ref f_span_met))) (l_span_met : K.lookup f_span_met = some ⟨oc_span_met, od_span_met, .func (PySem.W.fnOf "span_met" "span_met" (defArgs s_span_met) (defBody s_span_met) (defScope s_span_met) .none kV_span_met dc_span_met pm_span_met an_span_met cd_span_met ct_span_met), sl_span_met⟩) (q_span_met : PySem.W.codeIn K cd_span_met "span_met" = true) (k_span_met : PySem.W.keepIn K (.ref f_span_met) = true)
    (a__law_bag : PySem.W.nsIn K mainGlobals "_law_bag" = some (some (.ref f__law_bag))) (l__law_bag : K.lookup f__law_bag = some ⟨oc__law_bag, od__law_bag, .func (PySem.W.fnOf "_law_bag" "_law_bag" (defArgs s__law_bag) (defBody s__law_bag) (defScope s__law_bag) .none kV__law_bag dc__law_bag pm__law_bag an__law_bag cd__law_bag ct__law_bag), sl__law_bag⟩) (q__law_bag : PySem.W.codeIn K cd__law_bag "_law_bag" = true) (k__law_bag : PySem.W.keepIn K (.ref f__law_bag) = true)
    (a__law_draw : PySem.W.nsIn K mainGlobals "_law_draw" = some (some (.ref f__law_draw))) (l__law_draw : K.lookup f__law_draw = some ⟨oc__law_draw, od__law_draw, .func (PySem.W.fnOf "_law_draw" "_law_draw" (defArgs s__law_draw) (defBody s__law_draw) (defScope s__law_draw) .none kV__law_draw dc__law_draw pm__law_draw an__law_draw cd__law_draw ct__law_draw), sl__law_draw⟩) (q__law_draw : PySem.W.codeIn K cd__law_draw "_law_draw" = true) (k__law_draw : PySem.W.keepIn K (.ref f__law_draw) = true)
    (a__law_number : PySem.W.nsIn K mainGlobals "_law_number" = some (some (.ref f__law_number))) (l__law_number : K.lookup f__law_number = some ⟨oc__law_number, od__law_number, .func (PySem.W.fnOf "_law_number" "_law_number" (defArgs s__law_number) (defBody s__law_number) (defScope s__law_number) .none kV__law_number dc__law_number pm__law_number an__law_number cd__law_number ct__law_number), sl__law_number⟩) (q__law_number : PySem.W.codeIn K cd__law_number "_law_number" = true) (k__law_number : PySem.W.keepIn K (.ref f__law_number) = true)
    (a__law_held : PySem.W.nsIn K mainGlobals "_law_held" = some (some (.ref f__law_held))) (l__law_held : K.lookup f__law_held = some ⟨oc__law_held, od__law_held, .func (PySem.W.fnOf "_law_held" "_law_held" (defArgs s__law_held) (defBody s__law_held) (defScope s__law_held) .none kV__law_held dc__law_held pm__law_held an__law_held cd__law_held ct__law_held), sl__law_held⟩) (q__law_held : PySem.W.codeIn K cd__law_held "_law_held" = true) (k__law_held : PySem.W.keepIn K (.ref f__law_held) = true)
    (a__law_span : PySem.W.nsIn K mainGlobals "_law_span" = some (some (.ref f__law_span))) (l__law_span : K.lookup f__law_span = some ⟨oc__law_span, od__law_span, .func (PySem.W.fnOf "_law_span" "_law_span" (defArgs s__law_span) (defBody s__law_span) (defScope s__law_span) .none kV__law_span dc__law_span pm__law_span an__law_span cd__law_span ct__law_span), sl__law_span⟩) (q__law_span : PySem.W.codeIn K cd__law_span "_law_span" = true) (k__law_span : PySem.W.keepIn K (.ref f__law_span) = true)
    (a__law_whole : PySem.W.nsIn K mainGlobals "_law_whole" = some (some (.ref f__law_whole))) (l__law_whole : K.lookup f__law_whole = some ⟨oc__law_whole, od__law_whole, .func (PySem.W.fnOf "_law_whole" "_law_whole" (defArgs s__law_whole) (defBody s__law_whole) (defScope s__law_whole) .none kV__law_whole dc__law_whole pm__law_whole an__law_whole cd__law_whole ct__law_whole), sl__law_whole⟩) (q__law_whole : PySem.W.codeIn K cd__law_whole "_law_whole" = true) (k__law_whole : PySem.W.keepIn K (.ref f__law_whole) = true)
    (a__law_in : PySem.W.nsIn K mainGlobals "_law_in" = some (some (.ref f__law_in))) (l__law_in : K.lookup f__law_in = some ⟨oc__law_in, od__law_in, .func (PySem.W.fnOf "_law_in" "_law_in" (defArgs s__law_in) (defBody s__law_in) (defScope s__law_in) .none kV__law_in dc__law_in pm__law_in an__law_in cd__law_in ct__law_in), sl__law_in⟩) (q__law_in : PySem.W.codeIn K cd__law_in "_law_in" = true) (k__law_in : PySem.W.keepIn K (.ref f__law_in) = true)
    (a__law_moved : PySem.W.nsIn K mainGlobals "_law_moved" = some (some (.ref f__law_moved))) (l__law_moved : K.lookup f__law_moved = some ⟨oc__law_moved, od__law_moved, .func (PySem.W.fnOf "_law_moved" "_law_moved" (defArgs s__law_moved) (defBody s__law_moved) (defScope s__law_moved) .none kV__law_moved dc__law_moved pm__law_moved an__law_moved cd__law_moved ct__law_moved), sl__law_moved⟩) (q__law_moved : PySem.W.codeIn K cd__law_moved "_law_moved" = true) (k__law_moved : PySem.W.keepIn K (.ref f__law_moved) = true)
    (a__law_two : PySem.W.nsIn K mainGlobals "_law_two" = some (some (.ref f__law_two))) (l__law_two : K.lookup f__law_two = some ⟨oc__law_two, od__law_two, .func (PySem.W.fnOf "_law_two" "_law_two" (defArgs s__law_two) (defBody s__law_two) (defScope s__law_two) .none kV__law_two dc__law_two pm__law_two an__law_two cd__law_two ct__law_two), sl__law_two⟩) (q__law_two : PySem.W.codeIn K cd__law_two "_law_two" = true) (k__law_two : PySem.W.keepIn K (.ref f__law_two) = true)
    (a__law_points : PySem.W.nsIn K mainGlobals "_law_points" = some (some (.ref f__law_points))) (l__law_points : K.lookup f__law_points = some ⟨oc__law_points, od__law_points, .func (PySem.W.fnOf "_law_points" "_law_points" (defArgs s__law_points) (defBody s__law_points) (defScope s__law_points) .none kV__law_points dc__law_points pm__law_points an__law_points cd__law_points ct__law_points), sl__law_points⟩) (q__law_points : PySem.W.codeIn K cd__law_points "_law_points" = true) (k__law_points : PySem.W.keepIn K (.ref f__law_points) = true)
    (a__law_met_right : PySem.W.nsIn K mainGlobals "_law_met_right" = some (some (.ref f__law_met_right))) (l__law_met_right : K.lookup f__law_met_right = some ⟨oc__law_met_right, od__law_met_right, .func (PySem.W.fnOf "_law_met_right" "_law_met_right" (defArgs s__law_met_right) (defBody s__law_met_right) (defScope s__law_met_right) .none kV__law_met_right dc__law_met_right pm__law_met_right an__law_met_right cd__law_met_right ct__law_met_right), sl__law_met_right⟩) (q__law_met_right : PySem.W.codeIn K cd__law_met_right "_law_met_right" = true) (k__law_met_right : PySem.W.keepIn K (.ref f__law_met_right) = true)
    (a__law_covers_right : PySem.W.nsIn K mainGlobals "_law_covers_right" = some (some (.ref f__law_covers_right))) (l__law_covers_right : K.lookup f__law_covers_right = some ⟨oc__law_covers_right, od__law_covers_right, .func (PySem.W.fnOf "_law_covers_right" "_law_covers_right" (defArgs s__law_covers_right) (defBody s__law_covers_right) (defScope s__law_covers_right) .none kV__law_covers_right dc__law_covers_right pm__law_covers_right an__law_covers_right cd__law_covers_right ct__law_covers_right), sl__law_covers_right⟩) (q__law_covers_right : PySem.W.codeIn K cd__law_covers_right "_law_covers_right" = true) (k__law_covers_right : PySem.W.keepIn K (.ref f__law_covers_right) = true)
    (a_law : PySem.W.nsIn K mainGlobals "law" = some (some (.ref f_law))) (l_law : K.lookup f_law = some ⟨oc_law, od_law, .func (PySem.W.fnOf "law" "law" (defArgs s_law) (defBody s_law) (defScope s_law) .none kV_law dc_law pm_law an_law cd_law ct_law), sl_law⟩) (q_law : PySem.W.codeIn K cd_law "law" = true) (k_law : PySem.W.keepIn K (.ref f_law) = true)
    (z_bool : PySem.W.nsIn K mainGlobals "bool" = some none)
    (z_int : PySem.W.nsIn K mainGlobals "int" = some none)
    (z_isinstance : PySem.W.nsIn K mainGlobals "isinstance" = some none)
    (z_len : PySem.W.nsIn K mainGlobals "len" = some none)
    (z_max : PySem.W.nsIn K mainGlobals "max" = some none)
    (z_min : PySem.W.nsIn K mainGlobals "min" = some none)
    (z_range : PySem.W.nsIn K mainGlobals "range" = some none)
    (z_tuple : PySem.W.nsIn K mainGlobals "tuple" = some none)
    {C_NoSpan : Addr} (e1_NoSpan : PySem.W.nsIn K mainGlobals "NoSpan" = some (some (.ref C_NoSpan))) (e2_NoSpan : PySem.W.excIn K C_NoSpan [.type "ValueError", .type "Exception", .type "BaseException", .type "object"] "ValueError.__new__" = true) (e3_NoSpan : PySem.W.keepIn K (.ref C_NoSpan) = true) (e4_NoSpan : PySem.W.subIn K (.ref C_NoSpan) (.type "BaseException") = some true) (e5_NoSpan : PySem.W.typeIn K (.ref C_NoSpan) = some (.type "type"))
    : ∃ fd : FuncData, (∀ (s : Shared) (v : Value), BindsTo s fd ⟨[v], []⟩ [("script", v)]) ∧ ∀ base : Heap, K.In base → base.Ns mainGlobals mg → FnOk P w K mg base (L2.CX P w) 6 fa fd ["script"] (spOf K lawSp) := by
  have e := hfa.symm.trans (PySem.W.mg_of X Gn a_law)
  cases e
  have T : Tx K mg ⟨C_NoSpan⟩ := ⟨PySem.W.mg_none_of X Gn z_bool, PySem.W.mg_none_of X Gn z_int, PySem.W.mg_none_of X Gn z_isinstance, PySem.W.mg_none_of X Gn z_len, PySem.W.mg_none_of X Gn z_max, PySem.W.mg_none_of X Gn z_min, PySem.W.mg_none_of X Gn z_range, PySem.W.mg_none_of X Gn z_tuple, ⟨PySem.W.mg_of X Gn e1_NoSpan, e2_NoSpan, e3_NoSpan, e4_NoSpan, e5_NoSpan⟩⟩
  have F_is_whole := fun_mk (st := s_is_whole) l_is_whole q_is_whole k_is_whole
  have D_is_whole : FD K mg "is_whole" s_is_whole ["thing"] f_is_whole _ := ⟨F_is_whole, PySem.W.mg_of X Gn a_is_whole, F_is_whole.binds fun _ _ _ _ _ _ us hl => match us, hl with | [_], _ => rfl⟩
  have F_is_span := fun_mk (st := s_is_span) l_is_span q_is_span k_is_span
  have D_is_span : FD K mg "is_span" s_is_span ["thing"] f_is_span _ := ⟨F_is_span, PySem.W.mg_of X Gn a_is_span, F_is_span.binds fun _ _ _ _ _ _ us hl => match us, hl with | [_], _ => rfl⟩
  have F_looked := fun_mk (st := s_looked) l_looked q_looked k_looked
  have D_looked : FD K mg "looked" s_looked ["span"] f_looked _ := ⟨F_looked, PySem.W.mg_of X Gn a_looked, F_looked.binds fun _ _ _ _ _ _ us hl => match us, hl with | [_], _ => rfl⟩
  have F_span_covers := fun_mk (st := s_span_covers) l_span_covers q_span_covers k_span_covers
  have D_span_covers : FD K mg "span_covers" s_span_covers ["one", "other"] f_span_covers _ := ⟨F_span_covers, PySem.W.mg_of X Gn a_span_covers, F_span_covers.binds fun _ _ _ _ _ _ us hl => match us, hl with | [_, _], _ => rfl⟩
  have F_greater_low := fun_mk (st := s_greater_low) l_greater_low q_greater_low k_greater_low
  have D_greater_low : FD K mg "greater_low" s_greater_low ["one", "other"] f_greater_low _ := ⟨F_greater_low, PySem.W.mg_of X Gn a_greater_low, F_greater_low.binds fun _ _ _ _ _ _ us hl => match us, hl with | [_, _], _ => rfl⟩
  have F_lesser_high := fun_mk (st := s_lesser_high) l_lesser_high q_lesser_high k_lesser_high
  have D_lesser_high : FD K mg "lesser_high" s_lesser_high ["one", "other"] f_lesser_high _ := ⟨F_lesser_high, PySem.W.mg_of X Gn a_lesser_high, F_lesser_high.binds fun _ _ _ _ _ _ us hl => match us, hl with | [_, _], _ => rfl⟩
  have F_span_met := fun_mk (st := s_span_met) l_span_met q_span_met k_span_met
  have D_span_met : FD K mg "span_met" s_span_met ["one", "other"] f_span_met _ := ⟨F_span_met, PySem.W.mg_of X Gn a_span_met, F_span_met.binds fun _ _ _ _ _ _ us hl => match us, hl with | [_, _], _ => rfl⟩
  have F__law_bag := fun_mk (st := s__law_bag) l__law_bag q__law_bag k__law_bag
  have D__law_bag : FD K mg "_law_bag" s__law_bag ["script"] f__law_bag _ := ⟨F__law_bag, PySem.W.mg_of X Gn a__law_bag, F__law_bag.binds fun _ _ _ _ _ _ us hl => match us, hl with | [_], _ => rfl⟩
  have F__law_draw := fun_mk (st := s__law_draw) l__law_draw q__law_draw k__law_draw
  have D__law_draw : FD K mg "_law_draw" s__law_draw ["bag", "many"] f__law_draw _ := ⟨F__law_draw, PySem.W.mg_of X Gn a__law_draw, F__law_draw.binds fun _ _ _ _ _ _ us hl => match us, hl with | [_, _], _ => rfl⟩
  have F__law_number := fun_mk (st := s__law_number) l__law_number q__law_number k__law_number
  have D__law_number : FD K mg "_law_number" s__law_number ["bag"] f__law_number _ := ⟨F__law_number, PySem.W.mg_of X Gn a__law_number, F__law_number.binds fun _ _ _ _ _ _ us hl => match us, hl with | [_], _ => rfl⟩
  have F__law_held := fun_mk (st := s__law_held) l__law_held q__law_held k__law_held
  have D__law_held : FD K mg "_law_held" s__law_held ["number"] f__law_held _ := ⟨F__law_held, PySem.W.mg_of X Gn a__law_held, F__law_held.binds fun _ _ _ _ _ _ us hl => match us, hl with | [_], _ => rfl⟩
  have F__law_span := fun_mk (st := s__law_span) l__law_span q__law_span k__law_span
  have D__law_span : FD K mg "_law_span" s__law_span ["bag"] f__law_span _ := ⟨F__law_span, PySem.W.mg_of X Gn a__law_span, F__law_span.binds fun _ _ _ _ _ _ us hl => match us, hl with | [_], _ => rfl⟩
  have F__law_whole := fun_mk (st := s__law_whole) l__law_whole q__law_whole k__law_whole
  have D__law_whole : FD K mg "_law_whole" s__law_whole ["found"] f__law_whole _ := ⟨F__law_whole, PySem.W.mg_of X Gn a__law_whole, F__law_whole.binds fun _ _ _ _ _ _ us hl => match us, hl with | [_], _ => rfl⟩
  have F__law_in := fun_mk (st := s__law_in) l__law_in q__law_in k__law_in
  have D__law_in : FD K mg "_law_in" s__law_in ["span", "number"] f__law_in _ := ⟨F__law_in, PySem.W.mg_of X Gn a__law_in, F__law_in.binds fun _ _ _ _ _ _ us hl => match us, hl with | [_, _], _ => rfl⟩
  have F__law_moved := fun_mk (st := s__law_moved) l__law_moved q__law_moved k__law_moved
  have D__law_moved : FD K mg "_law_moved" s__law_moved ["bag", "span"] f__law_moved _ := ⟨F__law_moved, PySem.W.mg_of X Gn a__law_moved, F__law_moved.binds fun _ _ _ _ _ _ us hl => match us, hl with | [_, _], _ => rfl⟩
  have F__law_two := fun_mk (st := s__law_two) l__law_two q__law_two k__law_two
  have D__law_two : FD K mg "_law_two" s__law_two ["bag"] f__law_two _ := ⟨F__law_two, PySem.W.mg_of X Gn a__law_two, F__law_two.binds fun _ _ _ _ _ _ us hl => match us, hl with | [_], _ => rfl⟩
  have F__law_points := fun_mk (st := s__law_points) l__law_points q__law_points k__law_points
  have D__law_points : FD K mg "_law_points" s__law_points ["spans"] f__law_points _ := ⟨F__law_points, PySem.W.mg_of X Gn a__law_points, F__law_points.binds fun _ _ _ _ _ _ us hl => match us, hl with | [_], _ => rfl⟩
  have F__law_met_right := fun_mk (st := s__law_met_right) l__law_met_right q__law_met_right k__law_met_right
  have D__law_met_right : FD K mg "_law_met_right" s__law_met_right ["met", "one", "other"] f__law_met_right _ := ⟨F__law_met_right, PySem.W.mg_of X Gn a__law_met_right, F__law_met_right.binds fun _ _ _ _ _ _ us hl => match us, hl with | [_, _, _], _ => rfl⟩
  have F__law_covers_right := fun_mk (st := s__law_covers_right) l__law_covers_right q__law_covers_right k__law_covers_right
  have D__law_covers_right : FD K mg "_law_covers_right" s__law_covers_right ["one", "other"] f__law_covers_right _ := ⟨F__law_covers_right, PySem.W.mg_of X Gn a__law_covers_right, F__law_covers_right.binds fun _ _ _ _ _ _ us hl => match us, hl with | [_, _], _ => rfl⟩
  have F_law := fun_mk (st := s_law) l_law q_law k_law
  have D_law : FD K mg "law" s_law ["script"] fa _ := ⟨F_law, PySem.W.mg_of X Gn a_law, F_law.binds fun _ _ _ _ _ _ us hl => match us, hl with | [_], _ => rfl⟩
  refine ⟨_, ?_, fun base _ _ => law_ok T D_is_whole D_is_span D_looked D_span_covers D_greater_low D_lesser_high D_span_met D__law_bag D__law_draw D__law_number D__law_held D__law_span D__law_whole D__law_in D__law_moved D__law_two D__law_points D__law_met_right D__law_covers_right D_law⟩
  exact fun s v => .of_eq rfl
end K03
open PySem PySem.W PyProof.Rows in
set_option maxRecDepth 100000 in
set_option maxHeartbeats 0 in
theorem PySem.Challenge.cw_newsways_k03_spans_that_cover_and_meet_holds : PySem.Challenge.rw_newsways_k03_spans_that_cover_and_meet.Holds := by
  w_on; o_law; k_head; (case hw => w_witness2)
  k_fill
  refine N2.walk2 (l := PySem.Challenge.rw_newsways_k03_spans_that_cover_and_meet) (sp := N2.lawSp) (k := 6) rfl rfl ⟨rfl, by decide, by decide⟩ (fun w h Y => PySem.W.kIn_of Y) ?F ?S
  case F =>
    intro w mg fa h KX G hmg
    refine' K03.all_mk KX G hmg ?a_is_whole ?l_is_whole ?q_is_whole ?k_is_whole ?a_is_span ?l_is_span ?q_is_span ?k_is_span ?a_looked ?l_looked ?q_looked ?k_looked ?a_span_covers ?l_span_covers ?q_span_covers ?k_span_covers ?a_greater_low ?l_greater_low ?q_greater_low ?k_greater_low ?a_lesser_high ?l_lesser_high ?q_lesser_high ?k_lesser_high ?a_span_met ?l_span_met ?q_span_met ?k_span_met ?a__law_bag ?l__law_bag ?q__law_bag ?k__law_bag ?a__law_draw ?l__law_draw ?q__law_draw ?k__law_draw ?a__law_number ?l__law_number ?q__law_number ?k__law_number ?a__law_held ?l__law_held ?q__law_held ?k__law_held ?a__law_span ?l__law_span ?q__law_span ?k__law_span ?a__law_whole ?l__law_whole ?q__law_whole ?k__law_whole ?a__law_in ?l__law_in ?q__law_in ?k__law_in ?a__law_moved ?l__law_moved ?q__law_moved ?k__law_moved ?a__law_two ?l__law_two ?q__law_two ?k__law_two ?a__law_points ?l__law_points ?q__law_points ?k__law_points ?a__law_met_right ?l__law_met_right ?q__law_met_right ?k__law_met_right ?a__law_covers_right ?l__law_covers_right ?q__law_covers_right ?k__law_covers_right ?a_law ?l_law ?q_law ?k_law ?z_bool ?z_int ?z_isinstance ?z_len ?z_max ?z_min ?z_range ?z_tuple ?e1_NoSpan ?e2_NoSpan ?e3_NoSpan ?e4_NoSpan ?e5_NoSpan
    (case a_is_whole => k_is)
    (case l_is_whole => k_is)
    (case q_is_whole => k_is)
    (case k_is_whole => k_is)
    (case a_is_span => k_is)
    (case l_is_span => k_is)
    (case q_is_span => k_is)
    (case k_is_span => k_is)
    (case a_looked => k_is)
    (case l_looked => k_is)
    (case q_looked => k_is)
    (case k_looked => k_is)
    (case a_span_covers => k_is)
    (case l_span_covers => k_is)
    (case q_span_covers => k_is)
    (case k_span_covers => k_is)
    (case a_greater_low => k_is)
    (case l_greater_low => k_is)
    (case q_greater_low => k_is)
    (case k_greater_low => k_is)
    (case a_lesser_high => k_is)
    (case l_lesser_high => k_is)
    (case q_lesser_high => k_is)
    (case k_lesser_high => k_is)
    (case a_span_met => k_is)
    (case l_span_met => k_is)
    (case q_span_met => k_is)
    (case k_span_met => k_is)
    (case a__law_bag => k_is)
    (case l__law_bag => k_is)
    (case q__law_bag => k_is)
    (case k__law_bag => k_is)
    (case a__law_draw => k_is)
    (case l__law_draw => k_is)
    (case q__law_draw => k_is)
    (case k__law_draw => k_is)
    (case a__law_number => k_is)
    (case l__law_number => k_is)
    (case q__law_number => k_is)
    (case k__law_number => k_is)
    (case a__law_held => k_is)
    (case l__law_held => k_is)
    (case q__law_held => k_is)
    (case k__law_held => k_is)
    (case a__law_span => k_is)
    (case l__law_span => k_is)
    (case q__law_span => k_is)
    (case k__law_span => k_is)
    (case a__law_whole => k_is)
    (case l__law_whole => k_is)
    (case q__law_whole => k_is)
    (case k__law_whole => k_is)
    (case a__law_in => k_is)
    (case l__law_in => k_is)
    (case q__law_in => k_is)
    (case k__law_in => k_is)
    (case a__law_moved => k_is)
    (case l__law_moved => k_is)
    (case q__law_moved => k_is)
    (case k__law_moved => k_is)
    (case a__law_two => k_is)
    (case l__law_two => k_is)
    (case q__law_two => k_is)
    (case k__law_two => k_is)
    (case a__law_points => k_is)
    (case l__law_points => k_is)
    (case q__law_points => k_is)
    (case k__law_points => k_is)
    (case a__law_met_right => k_is)
    (case l__law_met_right => k_is)
    (case q__law_met_right => k_is)
    (case k__law_met_right => k_is)
    (case a__law_covers_right => k_is)
    (case l__law_covers_right => k_is)
    (case q__law_covers_right => k_is)
    (case k__law_covers_right => k_is)
    (case a_law => k_is)
    (case l_law => k_is)
    (case q_law => k_is)
    (case k_law => k_is)
    (case z_bool => k_is)
    (case z_int => k_is)
    (case z_isinstance => k_is)
    (case z_len => k_is)
    (case z_max => k_is)
    (case z_min => k_is)
    (case z_range => k_is)
    (case z_tuple => k_is)
    (case e1_NoSpan => k_is)
    (case e2_NoSpan => k_exc)
    (case e3_NoSpan => k_is)
    (case e4_NoSpan => k_is)
    (case e5_NoSpan => k_is)
  case S => exact fun ns h => ⟨ns, rfl, h, fun _ => rfl⟩


